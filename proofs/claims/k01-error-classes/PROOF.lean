import PyProof.Rows.All
import Wide.All
import OpenK.AllK
import Wide.FinOn
import HandS.ForMost
import HandS.ForExc
import HandS.Lambda
import HandS.IsInst
import HandS.Defaults
import HandS.ExcInit
import HandS.TryMany
import HandS.StrMore
import PyProof.ReprRoads
import PyProof.Draws
import KE.KExcIs
import HandS.EndTab
import HandS.Walk
import HandS.BoundDict
import HandS.Small
import KE.GoesMore
import HandS.HeadHook2
import PySem.Challenge.RW_markstream_k01_error_classes
set_option Elab.async false
set_option linter.all false
set_option maxRecDepth 100000
set_option maxHeartbeats 4000000
namespace Mx
open PySem PySem.Spec PyProof.Rows L2

/-! ### promises that may lean on an empty list of guards (repr) -/
structure RmG (k : Nat) (A : Around) : Prop where
  r : Room k A
  g : A.guards = some []
theorem RmG.mono {j k : Nat} {A : Around} (h : RmG k A) (l : j ≤ k) : RmG j A := ⟨h.r.mono l, h.g⟩
theorem RmG.deeper {k : Nat} {A : Around} (h : RmG (k + 1) A) (env : Env) : RmG k (A.deeper env) := ⟨h.r.deeper env, h.g⟩

structure FnG (P : Program) (w : World) (K : PySem.W.Frag) (mg : Str → Option Value) (base : Heap) (CX : CXT) (k : Nat) (f : Addr) (fd : FuncData) (ps : List Str) (sp : Sp) : Prop where
  len : ∀ vs H Q E, sp vs H Q E → vs.length = ps.length
  run : ∀ (A : Around) (outer : List Env) (s : Shared) (H : Hp) (args : Args) (us : List Value) (vs : List V) (Q : VK) (E : XK),
    RmG k A → Env0 P w K mg base A outer s H → BindsTo s fd args (ps.zip us) → Vals vs us → sp vs H Q E →
    codeAny (model P w) A (.call (.ref f) args) (CR CX outer P w H s Q E) s
theorem FnG.of {P : Program} {w : World} {K : PySem.W.Frag} {mg : Str → Option Value} {base : Heap} {CX : CXT} {j k : Nat} {f : Addr} {fd : FuncData} {ps : List Str} {sp : Sp}
    (F : FnOk P w K mg base CX j f fd ps sp) (h : j ≤ k) : FnG P w K mg base CX k f fd ps sp :=
  ⟨F.len, fun A o s H as us vs Q E hr => F.run A o s H as us vs Q E (hr.r.mono h)⟩
theorem FnG.mono {P : Program} {w : World} {K : PySem.W.Frag} {mg : Str → Option Value} {base : Heap} {CX : CXT} {j k : Nat} {f : Addr} {fd : FuncData} {ps : List Str} {sp : Sp}
    (F : FnG P w K mg base CX j f fd ps sp) (h : j ≤ k) : FnG P w K mg base CX k f fd ps sp :=
  ⟨F.len, fun A o s H as us vs Q E hr => F.run A o s H as us vs Q E (hr.mono h)⟩

section
variable {X : Cx} {CX : CXT} {k : Nat} {f C : Addr} {fd : FuncData} {ps ks : List Str} {sp : Sp} {dvs : List V} {ds : List Value} {E : XK} {x m : Str} {p pos apos : Pos} {e o : Expr} {es : List Expr} {kws : List Keyword} {ta : TE} {t tk : TA}
  {g : List Value → List Value → List Value} {gV : List V → List V → List V}
/-- the answer of a callee's run, for the caller -/
theorem back {pins : List (Addr × Obj)} {σ : L2.St} {H : Hp} {s : Shared} {Q : VK} (hx : Passes CX X E) (I : Inv X pins σ H s) :
    ∀ (r : Result) (s' : Shared), CR CX X.stack X.prog X.w H s Q E r s' → (match r with | .ok (.ret u) => EP X pins σ Q u s' | .ok _ => False | .error e => X.xe e s')
  | .error _, _, h => hx _ _ _ _ _ _ I h
  | .ok (.ret _), _, h => I.after h
  | .ok .next, _, h => h
  | .ok .brk, _, h => h
  | .ok .cont, _, h => h
theorem runKW {pins : List (Addr × Obj)} {σ : L2.St} {H : Hp} {s : Shared} {Q : VK} {us ws : List Value} {vs zs : List V} (F : FnG X.prog X.w X.K X.mg X.base CX k f fd ps sp)
    (hr : RmG k X.A) (hb : KBinds X.K fd ps ks g gV) (hx : Passes CX X E) (I : Inv X pins σ H s) (r : Vals vs us) (rz : Vals zs ws) (h : sp (gV vs zs) H Q E) :
    wpAny (model X.prog X.w) X.A (call (.ref f) us (ks.zip ws)) (EP X pins σ Q) X.xe s := by
  have r2 := hb.rel r rz
  have hl : (g us ws).length = ps.length := r2.length.symm.trans (F.len _ _ _ _ h)
  refine wpAny_call (codeAny_mono (F.run _ _ _ _ _ _ _ _ _ hr I.env0 (hb.to s us ws I.kIn hl) r2 h) fun q s' hq => ?_)
  exact back hx I q s' hq
theorem runPos {pins : List (Addr × Obj)} {σ : L2.St} {H : Hp} {s : Shared} {Q : VK} {us : List Value} {vs : List V} (F : FnG X.prog X.w X.K X.mg X.base CX k f fd ps sp)
    (hr : RmG k X.A) (hb : Binds X.K fd ps ds) (hd : Vals dvs ds) (hx : Passes CX X E) (I : Inv X pins σ H s) (r : Vals vs us) (h : sp (vs ++ dvs) H Q E) :
    wpAny (model X.prog X.w) X.A (call (.ref f) us) (EP X pins σ Q) X.xe s := by
  have r2 : Vals (vs ++ dvs) (us ++ ds) := r.append hd
  have hl : (us ++ ds).length = ps.length := r2.length.symm.trans (F.len _ _ _ _ h)
  refine wpAny_call (codeAny_mono (F.run _ _ _ _ _ _ _ _ _ hr I.env0 (hb s us I.kIn hl) r2 h) fun q s' hq => ?_)
  exact back hx I q s' hq
/-- f(e, ..) of such a def -/
theorem pg_call (F : FnG X.prog X.w X.K X.mg X.base CX k f fd ps sp) (hr : RmG k X.A) (hg : Gl X x) (hm : X.mg x = some (.ref f)) (hk : PySem.W.keepIn X.K (.ref f) = true)
    (hb : Binds X.K fd ps ds) (hd : Vals dvs ds) (hx : Passes CX X E) (ha : PA X (e :: es) t) (hdb : (x == ("__debug__" : Str)) = false := by decide)
    (he : starEach (e :: es) X.env = (false, eval e X.env) :: starEach es X.env := by rfl) (hpl : (backTo pos (starEach es X.env)).any (·.1) = false := by rfl) :
    PE X (.Call (.Name x p) (e :: es) [] pos) (tCall sp dvs E t) :=
  ⟨fun pins s σ H Q I h => wpAny_Call_Name_kw (ld_glob I hg hm (PySem.W.callWith_K (h₀ := X.base) I.ok.mod.kin hk
    (thn (ha.run pos pins s σ H _ I h) fun us s1 ⟨vs, H1, I1, r, q⟩ => ⟨I1.kIn, runPos F hr hb hd hx I1 r q⟩) he hpl) hdb)⟩
theorem pg_call0 (F : FnG X.prog X.w X.K X.mg X.base CX k f fd ps sp) (hr : RmG k X.A) (hg : Gl X x) (hm : X.mg x = some (.ref f)) (hk : PySem.W.keepIn X.K (.ref f) = true)
    (hb : Binds X.K fd ps ds) (hd : Vals dvs ds) (hx : Passes CX X E) (hdb : (x == ("__debug__" : Str)) = false := by decide) : PE X (.Call (.Name x p) [] [] pos) (tCall sp dvs E tNil) :=
  ⟨fun pins s σ H Q I h => wpAny_Call_Name_kw (ld_glob I hg hm (PySem.W.callWith_K0 I.kIn hk (runPos (us := []) F hr hb hd hx I .nil h)) hdb)⟩
/-- f(k = v, ..), no positional argument -/
theorem pe_kw0 (F : FnOk X.prog X.w X.K X.mg X.base CX k f fd ps sp) (hr : Room k X.A) (hg : Gl X x) (hm : X.mg x = some (.ref f)) (hk : PySem.W.keepIn X.K (.ref f) = true)
    (hb : KBinds X.K fd ps ks g gV) (hx : Passes CX X E) (hkw : PK X kws tk) (hall : (backToKw pos (keywordEach kws X.env)).all (·.1.isSome) = true := by rfl)
    (hks : (backToKw pos (keywordEach kws X.env)).filterMap (·.1) = ks := by rfl) (hdb : (x == ("__debug__" : Str)) = false := by decide)
    (hpl : ((backTo pos (starEach [] X.env)).any (·.1) || (backToKw pos (keywordEach kws X.env)).any (·.1.isNone)) = false := by rfl) :
    PE X (.Call (.Name x p) [] kws pos) (tCallK sp gV E tNil tk) :=
  ⟨fun pins s σ H Q I h => wpAny_Call_Name_kw (ld_glob I hg hm (PySem.W.callWith_KW0 (h₀ := X.base) I.ok.mod.kin hk hall
    (thn (hkw.run pos pins s σ H _ I h) fun ws s1 ⟨zs, H1, I1, rz, q⟩ => ⟨I1.kIn, by rw [hks]; exact run_fnk F hr hb hx I1 .nil rz q⟩) hpl) hdb)⟩
end

section
variable {P : Program} {w : World} {K : PySem.W.Frag} {mg : Str → Option Value} {base : Heap}
/-- a def by its body, with the guards told -/
theorem okG {CX : CXT} {x qual : Str} {st : Stmt} {f : Addr} {fd : FuncData} {N ps : List Str} {k : Nat} {sp : Sp} (F : Fun K x qual st f fd) (S : FnScope N ps (defScope st)) (len : ∀ vs H Q E, sp vs H Q E → vs.length = ps.length)
    (hbody : ∀ (cdv : Value) (A : Around) (outer : List Env) (s : Shared) (H : Hp) (vs : List V) (Q : VK) (E : XK), RmG k (A.deeper (envOfC qual (defScope st) s.heap.objs.size f cdv)) → sp vs H Q E →
      ∃ t, PSs (cxOf CX P w K mg base N qual (defScope st) f cdv A outer s H E) (defBody st) t ∧ t { nx := fun _ H' => Q .non H', rt := Q } (start N vs) H) : FnG P w K mg base CX (k + 1) f fd ps sp := by
  obtain ⟨oc, od, kV, doc, pm, an, cdv, ct, osl, rfl, lk, hcd⟩ := F.ex
  refine ⟨len, fun A outer s H args us vs Q E hr e0 hb r hsp => ?_⟩
  have KX : K.In s.heap := e0.mod.kin.keeps fun b o e => (e0.bs b o e).1
  have hk : ((ps.zip us).all fun y => (defScope st).names.lookup y.1 == some .local || (defScope st).names.lookup y.1 == some .cell) = true := List.all_eq_true.mpr fun y hy => by
    rcases S.par y.1 (List.of_mem_zip (a := y.1) (b := y.2) hy).1 with q | q <;> rw [q] <;> rfl
  refine Att.call_fn KX (e0.mod.nolimit.keeps fun b o e => (e0.bs b o e).1) lk hcd hr.r.depth hb hk (fun s1 x => ?_) S.co S.gen S.kind
  obtain ⟨t, ht, hq⟩ := hbody cdv A outer s H vs Q E (hr.deeper _) hsp
  have I := inv_start (CX := CX) (E := E) (f := f) (cd := cdv) (qual := qual) (outer := outer) S hr.r.hd e0 (len _ _ _ _ hsp) r x
  refine wpAny_mono (ht.run [] s1 _ H _ I hq) (fun fl s' hs => ?_) fun _ _ hs => hs
  cases fl with
  | ret u =>
    obtain ⟨v, _, H', J, rv, q⟩ := hs
    exact ⟨v, H', J.os, J.bare, J.base, J.hok, rv, q⟩
  | next =>
    obtain ⟨_, H', J, q⟩ := hs
    exact ⟨.non, H', J.os, J.bare, J.base, J.hok, rfl, q⟩
  | brk => exact hs.elim fun _ h => h.elim fun _ h => False.elim h.2
  | cont => exact hs.elim fun _ h => h.elim fun _ h => False.elim h.2
end
end Mx

namespace Mx
open PySem PySem.Spec PyProof.Rows L2

/-! ### operators -/
/-- a list that may be read, its object told whole -/
def LsX (K : PySem.W.Frag) (H : Hp) (a : Addr) (xs : List V) : Prop := Rd H a (.lst xs) ∨
  ∃ (its : List Value) (n : Nat), K.lookup a = some { cls := .type "list", data := .seq its.toArray n } ∧ xs.length ≤ sizeLine ∧ Vals xs its
theorem LsX.of {K : PySem.W.Frag} {H : Hp} {a : Addr} {xs : List V} (h : H a = some (.lst xs)) : LsX K H a xs := .inl (.inl h)
theorem LsX.sq {K : PySem.W.Frag} {H : Hp} {a : Addr} {xs : List V} (h : LsX K H a xs) : SqL K H a xs := by
  rcases h with h | ⟨its, n, h, z, r⟩
  · exact .inl h
  · exact .inr ⟨_, its.toArray, n, h, rfl, rfl, rfl, by rw [List.size_toArray, ← r.length]; exact z, by simpa using r⟩
theorem LsX.at {X : Cx} {pins : List (Addr × Obj)} {σ : L2.St} {H : Hp} {s : Shared} {a : Addr} {xs : List V} (I : Inv X pins σ H s) (h : LsX X.K H a xs) :
    ∃ (its : List Value) (n : Nat), Vals xs its ∧ xs.length ≤ sizeLine ∧ s.heap.get? a = some { cls := .type "list", data := .seq its.toArray n } := by
  rcases h with h | ⟨its, n, h, z, r⟩
  · obtain ⟨z, its, n, r, e⟩ := h.ok I.hok
    exact ⟨its, n, r, z, e⟩
  · exact ⟨its, n, r, z, I.kIn _ _ h⟩
theorem LsX.keep {K : PySem.W.Frag} {H H' : Hp} {a : Addr} {xs : List V} (h : LsX K H a xs) (e : ∀ o, H a = some o → H' a = some o) : LsX K H' a xs := by
  rcases h with (h | ⟨o, h⟩) | h
  · exact .inl (.inl (e _ h))
  · exact .inl (.inr ⟨o, e _ h⟩)
  · exact .inr h
/-- two lists, read alone, one behind the other -/
def rCatR (K : PySem.W.Frag) : R2 := fun x y H Q => ∃ a b xs ys, x = .ref a ∧ y = .ref b ∧ LsX K H a xs ∧ LsX K H b ys ∧ xs.length + ys.length ≤ sizeLine ∧
  ∀ p, H p = none → Q (.ref p) (upd H p (.lst (xs ++ ys)))
theorem op_catR {X : Cx} : OpR X (binaryOp .Add) (rCatR X.K) := by
  intro pins s σ H x y v u Q I rx ry h
  obtain ⟨a, b, xs, ys, rfl, rfl, hA, hB, hz, q⟩ := h
  cases rx
  cases ry
  obtain ⟨ia, na, ra, za, ea⟩ := hA.at I
  obtain ⟨ib, nb, rb, zb, eb⟩ := hB.at I
  refine PySem.P.add_list ea eb ?_ (by rw [List.size_toArray, List.size_toArray, ← ra.length, ← rb.length]; exact hz)
  rw [show ia.toArray ++ ib.toArray = (ia ++ ib).toArray from by simp]
  exact ⟨.ref _, _, I.lnew (t' := s.toks) (ra.append rb) (by rw [List.length_append]; exact hz), rfl, q _ I.fresh⟩

/-! ### repr of data -/
def rRepr (K : PySem.W.Frag) : List V → Hp → VK → Prop := fun xs H Q => ∃ (a : Addr) (d : PyData), xs = [.ref a] ∧ Dp K H (.ref a) d ∧ d.showable = true ∧ d.hasDict = false ∧ d.depth ≤ 60 ∧ d.shown.length ≤ sizeLine ∧ Q (.str d.shown) H
theorem call_repr {X : Cx} {k : Nat} (hr : RmG k X.A) : CallR X (.builtin "repr") (rRepr X.K) := by
  intro pins s σ H vs us Q I r h
  obtain ⟨a, d, rfl, hd, h1, h2, h3, h4, q⟩ := h
  cases r with
  | cons ra rn =>
    cases rn
    cases ra
    obtain ⟨as, hr2⟩ := Dp.reads I d _ _ hd rfl
    have hu := hr.r.un
    refine repr_of_reads' hr2 h1 (PyData.noDict_hsm h2) hr.g (by omega) (fun _ _ e => e) (fun h' u tk hk => ?_) h4
    exact ⟨.str d.shown, H, I.kept hk, ⟨u, rfl⟩, q⟩

/-! ### enumerate of a text -/
def Itet (x : Str) : It :=
  ⟨fun i _ => i < x.cps.size, fun i H v H' => ∃ T c, v = .ref T ∧ H T = none ∧ x.cps[i]? = some c ∧ H' = upd H T (.tup [.int (i : Nat), .str ⟨#[c]⟩]), fun i _ => i = x.cps.size⟩
def IsEt (x : Str) (t : Tok) (e it : Addr) (i : Nat) (h : Heap) : Prop :=
  (∃ old, IsEnum h e it ((i : Nat) : Int) old) ∧ h.IsStrIter it (strIterType x) x t i ∧ e ≠ it
theorem drawsS {prog : Program} {w : World} {A : Around} (hh : A.handled = none) (it : Addr) (x : Str) (t : Tok) :
    Draws prog w A it [it] x.cps.size (fun i v => ∃ c u, x.cps[i]? = some c ∧ v = .str ⟨#[c]⟩ u) (fun i h => h.IsStrIter it (strIterType x) x t i) := by
  have z : strIterType x = "str_ascii_iterator" ∨ strIterType x = "str_iterator" := by
    unfold strIterType
    split <;> simp
  rcases z with e | e <;> rw [e]
  · exact Draws.strAscii hh it x t
  · exact Draws.strWide hh it x t
theorem turn_et {P : Program} {w : World} {K : PySem.W.Frag} {elts : List Expr} {kk : Nat} {tpos : Pos} (x : Str) (t : Tok) (e it : Addr) :
    Turn P w K (.Tuple elts kk tpos) (Itet x) [e, it] e (IsEt x t e it) where
  mem := by simp
  obj := fun i h st b hb => by
    obtain ⟨⟨old, he⟩, ⟨o, ho, hc, hd⟩, _⟩ := st
    rcases List.mem_cons.mp hb with z | z
    · exact ⟨_, z ▸ he, fun v q => by cases q⟩
    · exact ⟨o, (List.mem_singleton.mp z) ▸ ho, fun v q => by rw [hd] at q; cases q⟩
  keep := fun i h h' st k => ⟨let ⟨old, he⟩ := st.1; ⟨old, k e (by simp) _ he⟩, let ⟨o, ho, r⟩ := st.2.1; ⟨o, k it (by simp) _ ho, r⟩, st.2.2⟩
  item := by
    intro X hP hw hK hc i pins s σ H E I hf st hg
    subst hP hw hK
    obtain ⟨⟨old, he⟩, hit, hne⟩ := st
    have le : e < s.heap.objs.size := Heap.lt_size he
    have li : it < s.heap.objs.size := by obtain ⟨_, q, _⟩ := id hit; exact Heap.lt_size q
    have D := drawsS (prog := X.prog) (w := X.w) (A := X.A.in1) (I.ok.hd hc) it x t
    refine wpAny_pyNext_enum_itemD D he hit hg hne (by simpa using hne) fun z h' tk hz ho hit' hT hsz hk => ?_
    obtain ⟨c, u, hcx, rfl⟩ := hz
    refine ⟨_, rfl, wpAny_letOwnedTupleGo_enum (s := { s with heap := h', toks := tk + 1 }) ho fun h'' he' sb => ?_⟩
    have hT2 : h''.get? s.heap.objs.size = some { cls := .type "tuple", data := .seq #[.int i tk, .str ⟨#[c]⟩ u] } := (sb.2 _ (Nat.ne_of_gt le)).trans hT
    have new : ObjOk X.prog X.w (upd H s.heap.objs.size (.tup [.int (i : Nat), .str ⟨#[c]⟩])) h'' s.heap.objs.size (.tup [.int (i : Nat), .str ⟨#[c]⟩]) :=
      ⟨(by decide : 2 ≤ sizeLine), _, .cons ⟨_, rfl⟩ (.cons ⟨_, rfl⟩ .nil), _, hT2, rfl, _, rfl⟩
    have J : Inv X pins σ (upd H s.heap.objs.size (.tup [.int (i : Nat), .str ⟨#[c]⟩])) { s with heap := h'', toks := tk + 1 } :=
      I.turnedNew (ch := [e, it]) (fun b ob hb q => (sb.2 b (fun y => hb (by simp [y]))).trans (hk b ob (fun y => hb (by simp [y])) (fun y => hb (by simp [y])) q)) hf (Nat.le_refl _) new
    refine ⟨.ref s.heap.objs.size, _, J, rfl, ⟨_, c, rfl, I.hok.fresh (Nat.le_refl _), hcx, rfl⟩, ⟨⟨.str ⟨#[c]⟩ u, ?_⟩, ?_, hne⟩, fun b hb => ?_⟩
    · have e1 : ((i + 1 : Nat) : Int) = (i : Int) + 1 := by omega
      rw [e1]
      exact he'
    · obtain ⟨o, q, r⟩ := hit'
      exact ⟨o, (sb.2 it (Ne.symm hne)).trans q, r⟩
    · have lb : b < s.heap.objs.size := by
        rcases List.mem_cons.mp hb with z | z
        · exact z ▸ le
        · exact (List.mem_singleton.mp z) ▸ li
      rw [upd_ne (Nat.ne_of_lt lb)]
      exact (hf b hb).1
  done := by
    intro X hP hw hK hc i pins s σ H E I hf st hg
    subst hP hw hK
    obtain ⟨⟨old, he⟩, hit, hne⟩ := st
    have hg' : i = x.cps.size := hg
    subst hg'
    obtain ⟨f0, f1, f2, f3, f4, f5⟩ := hf it (by simp)
    exact wpAny_pyNext_enum_endD (St := fun i h => h.IsStrIter it (strIterType x) x t i) (drawsS (A := X.A.in1) (I.ok.hd hc) it x t) he hit fun h' eb => ⟨rfl, I.turned (t' := s.toks) (fun b o hb q => eb b o hb q) f0 f1 f3 f4 f5⟩
  self := fun A i s Q E st h => let ⟨⟨_, he⟩, _⟩ := st; wpAny_pyIter_enum he h
def iEt (ta : TA) : TI := fun σ H R => ta σ H fun vs H1 => ∃ x, vs = [.str x] ∧ R (Itet x) H1
theorem pi_enumT {X : Cx} {e : Expr} {ta : TA} {p pos tpos : Pos} {elts : List Expr} {kk : Nat} (hg : Gl X "enumerate") (hm : X.mg "enumerate" = none) (ha : PA X [e] ta)
    (hs : starEach [e] X.env = [(false, eval e X.env)] := by rfl) : PI X (.Tuple elts kk tpos) (.Call (.Name "enumerate" p) [e] [] pos) (iEt ta) := by
  refine ⟨fun pins s σ H R I h => Call_ (ld_blt I hg hm boot_enumerate (PyProof.Rows.callWith_type1 (thn (ha.run pos pins s σ H _ I h) fun us s1 ⟨vs, H1, I1, r1, q1⟩ => ?_) hs rfl))⟩
  obtain ⟨x, ex, q⟩ := q1
  subst ex
  cases r1 with
  | cons r rr =>
    cases rr
    obtain ⟨t, rfl⟩ := r
    refine call_enumerate_str fun h' he hit hsz hk => wpAny_pyIter_enum he ?_
    have I2 : Inv X pins σ H1 { s1 with heap := h' } := I1.kept (t' := s1.toks) hk
    refine ⟨s1.heap.objs.size + 1, [s1.heap.objs.size + 1, s1.heap.objs.size], _, _, H1, rfl, I2, turn_et x t (s1.heap.objs.size + 1) s1.heap.objs.size, ⟨⟨.none, he⟩, hit, Nat.succ_ne_self _⟩, fun b hb => ?_, q⟩
    have le : s1.heap.objs.size ≤ b := by
      rcases List.mem_cons.mp hb with z | z
      · rw [z]; exact Nat.le_add_right _ _
      · rw [List.mem_singleton.mp z]; exact Nat.le_refl _
    exact I1.fpOk le (I1.hok.fresh le)
end Mx

namespace Mx
open PySem PySem.Spec PyProof.Rows L2

/-! ### exceptions whose __init__ calls that of their base by its name -/
/-- a base class over ValueError, read by its name -/
structure BaseT (K : PySem.W.Frag) (mg : Str → Option Value) (bn : Str) (CM : Addr) : Prop where
  mgM : mg bn = some (.ref CM)
  rd : PySem.W.readsIn K CM (.type "type") = true
  ga : PySem.W.specialIn K (.ref CM) "__getattribute__" = some (some (.builtin "type.__getattribute__"))
  at_ : PySem.W.findCls K (.ref CM) (.type "type") "__init__" = some (.val (.builtin "ValueError.__init__"))
section
variable {X : Cx} {o e : Expr} {es : List Expr} {ta : TA} {p1 p2 pos : Pos}
theorem pe_minit {bn : Str} {CM : Addr} {pl : Sem Bool} (T : BaseT X.K X.mg bn CM) (hg : Gl X bn) (ha : PA X (e :: es) ta)
    (hc : eval (.Call (.Attribute (.Name bn p1) "__init__" p2) (e :: es) [] pos) X.env = (do
      let ov ← eval (.Name bn p1) X.env
      standAt p2.atName
      let (f, first) ← holding [ov] (getMethod ov "__init__" pl)
      callWith pos f first (backTo pos (starEach (e :: es) X.env)) (backToKw pos (keywordEach [] X.env))) := by rfl)
    (he : starEach (e :: es) X.env = (false, eval e X.env) :: starEach es X.env := by rfl) (hpl : (backTo pos (starEach es X.env)).any (·.1) = false := by rfl)
    (hdb : (bn == ("__debug__" : Str)) = false := by decide) :
    PE X (.Call (.Attribute (.Name bn p1) "__init__" p2) (e :: es) [] pos) (tVeI X.K ta) := by
  refine ⟨fun pins s σ H Q I h => PySem.W.methodCall_KW (ld_glob I hg T.mgM ?_ hdb) hc⟩
  refine PySem.W.method_cls I.kIn T.ga (PySem.W.cls_value I.kIn T.rd T.at_ (by decide +kernel) ?_)
  refine PyProof.Rows.callWith_method1 (thn (ha.run pos pins _ σ H _ (I.tok _) h) fun us s1 ⟨vs, H1, I1, r1, a, C, ws, ev, hl, Tc, ea, q⟩ => ?_) he hpl
  subst ev
  cases r1 with
  | @cons _ u0 _ ur ra rw' =>
    obtain rfl : u0 = Value.ref a := ra
    have hz : ur.length ≤ sizeLine := by
      rw [← Paired.length rw']
      exact Nat.le_trans hl (by decide)
    exact oinit_ok Tc I1 ea hz fun s' J => ⟨.non, H1, J, rfl, q⟩
end
/-- what __init__(self, f) keeps -/
def spXI (K : PySem.W.Frag) (C : Addr) (f : Str) : Sp := fun vs H Q _ => ∃ (a : Addr) (y : V), vs = [.ref a, y] ∧ OexC K C ∧ H a = some (exo a C none) ∧
  ∀ dx, H dx = none → dx ≠ a → Q .non (upd (upd H dx (exd dx [(f, y)])) a (exo a C (some dx)))
/-- the facts of such a class with one field -/
structure ExT (P : Program) (w : World) (K : PySem.W.Frag) (mg : Str → Option Value) (base : Heap) (cn f : Str) (C fI : Addr) (fd : FuncData) (ps : List Str) : Prop where
  oex : OexC K C
  mgC : mg cn = some (.ref C)
  iC : PySem.W.findIn K (.ref C) "__init__" = some (some (.ref fI))
  tI : PySem.W.typeIn K (.ref fI) = some (.type "function")
  ok : FnOk P w K mg base CX0 1 fI fd ps (spXI K C f)
  bI : Binds K fd ps []
/-- C(e): the exception's class, its own dict -/
def tXM (C : Addr) (f : Str) (ta : TA) : L2.St → Hp → XK → Prop := fun σ H Q => ta σ H fun vs H1 => ∃ y, vs = [y] ∧ ∀ d, H1 d = none → Q (.ref C) (some d) (upd H1 d (.xd [(f, y)]))
/-- arguments, the wish made weaker behind them -/
def aMono (ta : TA) : TA := fun σ H Q => ∃ Q0 : List V → Hp → Prop, ta σ H Q0 ∧ ∀ vs H1, Q0 vs H1 → Q vs H1
theorem pa_mono {X : Cx} {es : List Expr} {ta : TA} (ha : PA X es ta) : PA X es (aMono ta) :=
  ⟨fun pos pins s σ H Q I ⟨Q0, h, k⟩ => wpAny_mono (ha.run pos pins s σ H Q0 I h) (fun _ _ ⟨vs, H1, I1, r, q⟩ => ⟨vs, H1, I1, r, k _ _ q⟩) fun _ _ z => z⟩
theorem pmk_x {X : Cx} {e : Expr} {ta : TA} {p pos : Pos} {cn f : Str} {C fI : Addr} {fd : FuncData} {ps : List Str} (T : ExT X.prog X.w X.K X.mg X.base cn f C fI fd ps) (hr : Room 2 X.A) (hg : Gl X cn) (ha : PA X [e] ta)
    (hdb : (cn == ("__debug__" : Str)) = false := by decide) (he : starEach [e] X.env = (false, eval e X.env) :: starEach [] X.env := by rfl) (hpl : (backTo pos (starEach [] X.env)).any (·.1) = false := by rfl) :
    PMk X (.Call (.Name cn p) [e] [] pos) (tXM C f ta) := by
  intro pins s σ H Q I h
  refine pmk_oex T.oex T.iC T.tI T.ok hr T.bI .nil pass0 hg T.mgC (pa_mono ha) hdb he hpl pins s σ H Q I ⟨_, h, fun vs H1 hq => ?_⟩
  obtain ⟨y, rfl, hq⟩ := hq
  refine ⟨(by show 1 ≤ 1000; omega), fun a ha => ⟨a, y, rfl, T.oex, upd_same, fun dx hx hn => ⟨rfl, dx, [(f, y)], upd_same, ?_, ?_, ?_⟩⟩⟩
  · rw [upd_ne hn, upd_same]
  · rw [upd_ne hn] at hx
    exact hx
  · rw [upd_ne hn] at hx
    have e1 : upd (L2.del (upd (upd (upd H1 a (exo a C none)) dx (exd dx [(f, y)])) a (exo a C (some dx))) a) dx (.xd [(f, y)]) = upd H1 dx (.xd [(f, y)]) := by
      funext b
      by_cases h1 : b = dx
      · rw [h1, upd_same, upd_same]
      · rw [upd_ne h1, upd_ne h1]
        by_cases h2 : b = a
        · rw [h2, del_same, ha]
        · rw [del_ne h2, upd_ne h2, upd_ne h1, upd_ne h2]
    rw [e1]
    exact hq dx hx
end Mx

namespace Mx
open PySem PySem.Spec PyProof.Rows L2

/-! ### a caught exception that is kept -/
/-- the object at a is an exception of the class cls, its dict at d -/
def xoO (a : Addr) (cls : Value) (d : Option Addr) : HO := .ext fun h => ∃ o vs, h.get? a = some o ∧ o.cls = cls ∧ o.dict = d ∧ o.data = .fields vs
theorem xo_at {P : Program} {w : World} {H : Hp} {h : Heap} {a : Addr} {cls : Value} {d : Option Addr} (hok : HOk P w H h) (e : H a = some (xoO a cls d)) :
    ∃ o vs, h.get? a = some o ∧ o.cls = cls ∧ o.dict = d ∧ o.data = .fields vs := by
  have x : ObjOk P w H h a (.ext fun h => ∃ o vs, h.get? a = some o ∧ o.cls = cls ∧ o.dict = d ∧ o.data = .fields vs) := hok a _ e
  exact x.1
theorem track {X : Cx} {pins : List (Addr × Obj)} {σ : L2.St} {H : Hp} {s : Shared} {a : Addr} {o : Obj} {vs : Array Value} {cls : Value} {d : Option Addr} (I : Inv X pins σ H s) (ho : s.heap.get? a = some o) (hz : Zc cls d o) (hd : o.data = .fields vs)
    (na : H a = none) (n0 : X.s_0.heap.get? a = none) (nL : a ≠ X.env.locals) (np : ∀ p ∈ X.pn ++ pins, p.1 ≠ a) : Inv X pins σ (upd H a (xoO a cls d)) s := by
  have ne : ∀ {b : Addr} {u : HO}, H b = some u → b ≠ a := fun {b u} e => ne_of_none e na
  have n0' : ∀ {b : Addr} {o : Obj}, X.s_0.heap.get? b = some o → b ≠ a := fun {b o} e z => by rw [z, n0] at e; cases e
  refine ⟨I.ok, I.os, I.bare, ⟨I.base.keep, I.base.slot, fun b ob e n hx => ?_, I.base.there, fun b xs e => ?_, fun b ob u e => ?_, fun b ps e => ?_⟩, I.loc, I.cell, ?_, fun x c e => ?_, fun p hp => ?_, fun b u e => ?_, I.len⟩
  · rw [upd_ne (n0' e)]
    exact I.base.free b ob e n hx
  · have q := I.base.tups b xs e
    rw [upd_ne (ne q)]
    exact q
  · have q := I.base.frzs b ob u e
    rw [upd_ne (ne q)]
    exact q
  · obtain ⟨m, q⟩ := I.base.tbls b ps e
    exact ⟨m, by rw [upd_ne (ne q)]; exact q⟩
  · rw [upd_ne (Ne.symm nL)]
    exact I.free
  · have hc : c ≠ a := fun z => by
      obtain ⟨v, oc, q, hv⟩ := I.cell x c e
      rw [z, ho] at q
      cases q
      rw [hd] at hv
      cases hv
    rw [upd_ne hc]
    exact I.freeC x c e
  · obtain ⟨e, n, r⟩ := I.pin p hp
    exact ⟨e, by rw [upd_ne (np p hp)]; exact n, r⟩
  · by_cases hb : b = a
    · subst hb
      rw [upd_same] at e
      cases e
      exact ⟨⟨o, vs, ho, hz.1, hz.2, hd⟩, ⟨o, ho⟩, fun h1 h2 z k => let ⟨o', vs', q, r⟩ := z; ⟨o', vs', k _ q, r⟩⟩
    · rw [upd_ne hb] at e
      exact (I.hok b u e).stay (fun _ _ _ q => q) (fun c q => by rw [upd_ne (ne q)]; exact q) fun c xs q => by rw [upd_ne (ne q)]; exact q

/-- what 'except (x1, x2, x3) as n' wishes: behind its suite the exception is told -/
def wT (K : PySem.W.Frag) (cs : List Value) (i : Nat) (ts : Addr → Value → Option Addr → TS) (Wout : WX) (D : Ends) : WX := fun cls d σ H =>
  ∃ b, PySem.W.exmAny K cls cs = some b ∧ (b = true → ∀ a, H a = none → ts a cls d { nx := fun σ' H' => D.nx (σ'.set i none) (upd H' a (xoO a cls d)), rt := fun _ _ => False, bk := fun _ _ => False, ct := fun _ _ => False } (σ.set i (some (.ref a))) H) ∧
    (b = false → Wout cls d σ H)
/-- a class of the text by its name -/
structure Nm (X : Cx) (x : Str) (c : Value) : Prop where
  g : Gl X x
  m : X.mg x = some c
  d : (x == ("__debug__" : Str)) = false
theorem ps_try_t3 {X : Cx} {x1 x2 x3 n : Str} {c1 c2 c3 : Value} {i kk : Nat} {body suite : List Stmt} {b₀ : Stmt} {q1 q2 q3 tp pos pos' : Pos} {tb : WX → TS} {ts : Addr → Value → Option Addr → TS} {Wout : WX}
    (hs : X.stack = X.env :: X.outer) (hf : X.env.frame = some X.env.locals) (hex : X.ex = []) (hN : X.N.Nodup) (hi : X.N[i]? = some n) (hln : X.env.kindOf n = some .local) (n1 : Nm X x1 c1) (n2 : Nm X x2 c2) (n3 : Nm X x3 c3) (tk : Takes X Wout)
    (hb : ∀ (W : WX) (pn : List (Addr × Obj)) (xe : Value → Shared → Prop), Takes (X.tr pn xe) W → PassesOwn (model X.prog X.w) X.A X.env xe → PSs (X.tr pn xe) body (tb W))
    (hsu : ∀ (a : Addr) (oe : Obj) (cls : Value) (d : Option Addr) (pn : List (Addr × Obj)), Zc cls d oe → (∃ vs, oe.data = .fields vs) → PSs (X.suite a ((a, oe) :: pn)) (b₀ :: suite) (ts a cls d)) :
    PS X (.Try body [.ExceptHandler (some (.Tuple [.Name x1 q1, .Name x2 q2, .Name x3 q3] kk tp)) (some n) (b₀ :: suite) pos'] [] [] pos) (fun D σ H => tb (wT X.K [c1, c2, c3] i ts Wout D) D σ H) := by
  refine ⟨fun pins s σ H D I h => wpAny_Try_except ?_⟩
  have ok := I.ok
  have hfr : X.A.frames = some (X.env :: X.outer) := ok.frames.trans (by rw [hs])
  refine wpAny_mono ((hb (wT X.K [c1, c2, c3] i ts Wout D) (X.pn ++ pins) (fun e s₁ => wpAny (model X.prog X.w) X.A (noteFrame e X.env) (fun _ s₂ => wpAny (model X.prog X.w) X.A (setFlight e none) (fun _ s₃ =>
    wpAny (model X.prog X.w) X.A (handleBy e X.env [.ExceptHandler (some (.Tuple [.Name x1 q1, .Name x2 q2, .Name x3 q3] kk tp)) (some n) (b₀ :: suite) pos']) (SP X pins D) X.xe s₃) X.xe s₂) X.xe s₁) (fun u s' xx => ?_) PassesOwn.looking).run [] s σ H D (I.toTry _) h) (fun f s1 hsp => ?_) (fun _ _ z => z)
  · obtain ⟨a, B, sI, pins', σ', H', cls, d, rfl, J', nb, up, sky, na, os, ag, b, hb1, hyes, hno⟩ := xx
    have J : Inv X pins σ' H' sI := J'.ofTry ok
    rw [show (X.tr (X.pn ++ pins) _).stack = X.env :: X.outer from hs] at sky
    show wpAny (model X.prog X.w) X.A (noteFrame (.ref a) X.env) _ _ _
    refine Sky.land Zc.steady hfr hf sky fun h3 fl3 up3 => ?_
    have J3 : Inv X pins σ' H' { s' with heap := h3 } := J.landed nb fl3.1 (up.trans up3) os ag
    obtain ⟨oe3, vs3, he3, hz3, hd3⟩ := fl3.there
    have nfr : a ∉ frs X.stack := fun hm => by
      rw [hs] at hm
      obtain ⟨_, o', e', hnf⟩ := fl3.2.2.1.mem hm
      rw [he3] at e'
      cases e'
      exact hnf _ hd3
    have nL : a ≠ X.env.locals := fun z => nfr (by rw [hs]; exact List.mem_filterMap.mpr ⟨X.env, List.mem_cons_self, by rw [hf, z]⟩)
    have nF : a ∉ X.fs := fun hm => nfr (by
      rw [hs]
      obtain ⟨e, he, q⟩ := List.mem_filterMap.mp hm
      exact List.mem_filterMap.mpr ⟨e, List.mem_cons_of_mem _ he, q⟩)
    have nI : sI.heap.get? a = none := by
      cases e : sI.heap.get? a with
      | none => rfl
      | some o =>
        have z := nb a o e nfr
        rw [fl3.2.1] at z
        cases z
    have n0 : X.s_0.heap.get? a = none := by
      cases e : X.s_0.heap.get? a with
      | none => rfl
      | some o =>
        obtain ⟨o', z⟩ := J.base.there a o e (by rw [hex]; simp)
        rw [nI] at z
        cases z
    have np : ∀ p ∈ X.pn ++ pins, p.1 ≠ a := fun p hp z => by
      have q := (J.pin p hp).1
      rw [z, nI] at q
      cases q
    have S3 := J3.suite he3 hd3 na nL nF
    refine wpAny_handleBy_cons (codeAny_handlers_test ?_) (by intro q; cases q)
    have nm : ∀ {x : Str} {c : Value} {q : Pos} {s2 : Shared} {Q E : Value → Shared → Prop}, Nm X x c → Inv (X.suite a ((a, oe3) :: (X.pn ++ pins))) [] σ' H' s2 → Q c s2 → wpAny (model X.prog X.w) (X.A.mark (some (.ref a))) (eval (.Name x q) X.env) Q E s2 :=
      fun {x c q s2 Q E} nx S z => ld_glob (X := X.suite a ((a, oe3) :: (X.pn ++ pins))) S nx.g nx.m z nx.d
    refine PyProof.Rows.Tuple_ (PyProof.Rows.spliced_more (nm n1 S3 (PyProof.Rows.spliced_more (nm n2 S3 (PyProof.Rows.spliced_more (nm n3 S3 (PyProof.Rows.spliced_none ?_)))))))
    refine wpAny_newObj_type ?_
    have kp : ∀ b o, h3.get? b = some o → (h3.push { cls := .type "tuple", dict := none, data := .seq [c1, c2, c3].toArray }).get? b = some o := fun b o e => Heap.get?_push_of_some _ e
    have LT : PySem.W.Looks (model X.prog X.w) (h3.push { cls := .type "tuple", dict := none, data := .seq [c1, c2, c3].toArray }) (typeOf (.ref a)) cls := fun A Q E s k q => wpAny_typeOf_ref (k _ _ (kp _ _ he3)) (by rw [hz3.1]; exact q)
    have LM := PySem.W.exm_tup3 (M := model X.prog X.w) (J3.kIn.keeps kp) LT (Heap.get?_push_size h3 rfl) hb1
    refine LM.here ?_
    have fl5 : HandSPX.FlyingZ B (X.env :: X.outer) a (Zc cls d) (h3.push { cls := .type "tuple", dict := none, data := .seq [c1, c2, c3].toArray }) := by
      obtain ⟨k1, k2, k3, oe, vs, T, oT, ts', he, hz, hd, h1, hr0, hr1, hr2, hr3⟩ := id fl3
      exact ⟨fun b o e => kp _ _ (k1 b o e), k2, Heap.FunFrames.of_keeps (fun b o e _ => ⟨o, kp b o e, rfl⟩) k3, oe, vs, T, oT, ts', kp _ _ he, hz, hd, h1, hr0, hr1, kp _ _ hr2, hr3⟩
    have up5 := (up.trans up3).trans (Heap.UpToSlots.of_keeps kp)
    cases b with
    | true =>
      refine codeAny_handlers_suite_as (HandSPX.lands_againZ fl5 fun h4 fl4 up4 => ?_)
      have J4 : Inv X pins σ' H' { s' with heap := h4 } := J.landed nb fl4.1 (up5.trans up4) os ag
      obtain ⟨oe4, vs4, he4, hz4, hd4⟩ := fl4.there
      refine store_ok (X := X.suite a ((a, oe4) :: (X.pn ++ pins))) (v := .ref a) (J4.suite he4 hd4 na nL nF) hN hi (.inl hln) rfl (fun s5 S5 => ?_) (.inr hln)
      refine wpAny_mono ((hsu a oe4 cls d (X.pn ++ pins) hz4 ⟨_, hd4⟩).run [] s5 _ H' _ S5 (hyes rfl a na)) (fun f s6 hsp => ?_) (fun _ _ z => False.elim z)
      cases f with
      | next =>
        obtain ⟨σ6, H6, S6, q6⟩ := hsp
        have p6 := S6.pin (a, oe4) (List.mem_append_left _ List.mem_cons_self)
        have I6 : Inv X ((a, oe4) :: pins) σ6 H6 s6 := (S6.unsuite ok).pins_of fun p hp => by
          rcases List.mem_cons.mp hp with e | h
          · rw [e]; exact p6
          · exact (S6.unsuite ok).pin p (List.mem_append_right _ h)
        exact gone_ok I6 hN hi hln fun s7 J7 => by
          have p7 := J7.pin (a, oe4) (List.mem_append_right _ List.mem_cons_self)
          have K7 : Inv X pins (σ6.set i none) H6 s7 := J7.pins_of fun p hp => J7.pin p (List.mem_append_right _ (List.mem_cons_of_mem _ hp))
          exact ⟨_, _, track K7 p7.1 hz4 hd4 p7.2.1 n0 nL np, q6⟩
      | brk => exact hsp.elim fun _ h => h.elim fun _ h => h.2.elim
      | cont => exact hsp.elim fun _ h => h.elim fun _ h => h.2.elim
      | ret u => exact hsp.elim fun _ h => h.elim fun _ h => h.elim fun _ h => h.2.2.elim
    | false =>
      show wpAny _ X.A (handleBy (.ref a) X.env []) _ _ _
      refine wpAny_handleBy_nil ?_
      obtain ⟨k1, k2, k3, oe, vs, T, oT, ts', he, hz, hd, h1, hr⟩ := id fl5
      unfold PySem.passOn
      refine wpAny_bind (wpAny_field he hd h1 ?_)
      rw [if_neg (show ¬ ((Value.ref T == Value.none) = true) from by simp)]
      have fin : ∀ {s5 : Shared}, s5 = { s' with heap := h3.push { cls := .type "tuple", dict := none, data := .seq [c1, c2, c3].toArray } } →
          wpAny (model X.prog X.w) X.A (setFlight (.ref a) X.env.frame) (fun _ s4 => wpAny (model X.prog X.w) X.A (throw (.ref a) : Sem Flow) (SP X pins D) X.xe s4) X.xe s5 := by
        intro s5 e5
        rw [hf, e5]
        exact HandSPX.setFlight_upZ fl5 fun h4 hh4 up4 => wpAny_throw (tk _ _ ⟨a, B, sI, pins, σ', H', cls, d, rfl, J, nb, up5.trans up4, .inr (.inr (by rw [hs]; exact hh4)), na, os, ag, hno rfl⟩)
      first
        | exact wpAny_bind (wpAny_pure (wpAny_bind (fin rfl)))
        | exact wpAny_bind (fin rfl)
  · cases f with
    | next =>
      obtain ⟨σ', H', J', q⟩ := hsp
      exact wpAny_execs_nil ⟨σ', H', J'.ofTry ok, q⟩
    | brk =>
      obtain ⟨σ', H', J', q⟩ := hsp
      exact ⟨σ', H', J'.ofTry ok, q⟩
    | cont =>
      obtain ⟨σ', H', J', q⟩ := hsp
      exact ⟨σ', H', J'.ofTry ok, q⟩
    | ret u =>
      obtain ⟨v, σ', H', J', r, q⟩ := hsp
      exact ⟨v, σ', H', J'.ofTry ok, r, q⟩
end Mx

namespace Mx
open PySem PySem.Spec PyProof.Rows L2

/-! ### a kept exception asked: isinstance, its fields -/
structure XcC (K : PySem.W.Frag) (C : Addr) : Prop where
  cl : (PySem.W.clsIn K C).isSome = true
  ga : PySem.W.findIn K (.ref C) "__getattribute__" = some (some (.builtin "BaseException.__getattribute__"))
  gt : PySem.W.findIn K (.ref C) "__getattr__" = some none
  sub : PySem.W.subIn K (.ref C) (.type "BaseException") = some true
  ha : PySem.W.findIn K (.ref C) "__class__" = some (some (.builtin "object.__class__"))
  hn : PySem.W.specialIn K (.builtin "object.__class__") "__get__" = some (some (.builtin "getset_descriptor.__get__"))
  tk : PySem.W.takesIn K (.builtin "object.__class__") = some true
  hm : PySem.W.mroIn K C (.type "object") = some true
  hd : PySem.W.hasDictIn K C = true
/-- an exception of the class at C, its fields -/
def XoAt (H : Hp) (a C : Addr) (fs : List (Str × V)) : Prop := ∃ d, H a = some (xoO a (.ref C) (some d)) ∧ H d = some (.xd fs)
theorem xo_inst {X : Cx} {pins : List (Addr × Obj)} {σ : L2.St} {H : Hp} {s : Shared} {a C : Addr} {fs : List (Str × V)} (I : Inv X pins σ H s) (h : XoAt H a C fs) :
    ∃ (ox od : Obj) (mA : Str → Option Value), PySem.W.InstAt s.heap a ox C (some od) ∧ (∀ f, PySem.W.lookIn f od = some (mA f)) ∧ ∀ f, RelO (fs.lookup f) (mA f) := by
  obtain ⟨d, h1, h2⟩ := h
  obtain ⟨o, vs, e1, e2, e3, e4⟩ := xo_at I.hok h1
  obtain ⟨mA, hns, hr⟩ : ObjOk X.prog X.w H s.heap d (.xd fs) := I.hok d _ h2
  obtain ⟨od, ho, hl⟩ := lookIn_ns hns
  exact ⟨o, od, mA, ⟨e1, e2, by unfold PySem.W.notCls; rw [e4] <;> rfl, by rw [e3]; exact ho⟩, hl, hr⟩
def rIsiX (K : PySem.W.Frag) : List V → Hp → VK → Prop := fun xs H Q => ∃ (a C : Addr) (fs : List (Str × V)) (c : V) (u : Value) (b : Bool), xs = [.ref a, c] ∧ ClsV c u ∧ XoAt H a C fs ∧ XcC K C ∧ PySem.W.kitOne K (.ref C) u = some b ∧ Q (.bl b) H
theorem call_isiX {X : Cx} : CallR X (.builtin "isinstance") (rIsiX X.K) := by
  intro pins s σ H xs us Q I r h
  obtain ⟨a, C, fs, c, u, b, rfl, k, hx, T, e, q⟩ := h
  obtain ⟨u1, u2, rfl, r1, r2⟩ := vals2 r
  have e2 := k.eq r2
  subst e2
  cases (show u1 = Value.ref a from r1)
  obtain ⟨ox, od, mA, J, _, _⟩ := xo_inst I hx
  exact PySem.W.kia_one (PySem.W.kitx_exc T.cl T.ga T.gt T.sub T.ha T.hn T.tk T.hm) I.kIn J e (fun z => by cases z) fun tk => ⟨.bl b, H, I.tok tk, rfl, q⟩
/-- e.f of a kept exception -/
def tXo (K : PySem.W.Frag) (f : Str) (te : TE) : TE := fun σ H Q => te σ H fun x H1 => ∃ (a C : Addr) (fs : List (Str × V)) (v : V), x = .ref a ∧ XoAt H1 a C fs ∧ XcC K C ∧ PySem.W.findIn K (.ref C) f = some none ∧ fs.lookup f = some v ∧ Q v H1
theorem pe_xo {X : Cx} {e : Expr} {te : TE} {pos : Pos} {f : Str} (he : PE X e te) (hb : attributeBase e f X.env (eval e X.env) = eval e X.env := by rfl) : PE X (.Attribute e f pos) (tXo X.K f te) := by
  refine ⟨fun pins s σ H Q I h => attr_of hb (thn (he.run pins s σ H _ I h) fun u s1 hh => ?_)⟩
  obtain ⟨x, H1, I1, rx, a, C, fs, v, ex, hx, T, hno, l, q⟩ := hh
  subst ex
  cases (show u = Value.ref a from rx)
  obtain ⟨ox, od, mA, J, hl, hr⟩ := xo_inst I1 hx
  obtain ⟨u, hu, ru⟩ := RelO.some_of (v := v) (o := mA f) (by rw [← l]; exact hr f)
  exact HandSPX.exc_get I1.kIn J T.ga T.gt T.sub (PySem.W.findObj_own T.hd hno rfl (by rw [hl, hu])) (handed_of ru) ⟨v, H1, I1.tok _, ru, q⟩
end Mx

namespace Mx
open PySem PySem.Spec PyProof.Rows L2

/-- a def of the module: where it stands, its name, its parameters -/
structure DefT (K : PySem.W.Frag) (mg : Str → Option Value) (x : Str) (st : Stmt) (ps : List Str) : Type where
  f : Addr
  fd : FuncData
  F : Fun K x x st f fd
  m : mg x = some (.ref f)
  b : Binds K fd ps []

/-! ### heaps: all but a stays -/
def Kp (a : Addr) (H H' : Hp) : Prop := ∀ b o, b ≠ a → H b = some o → H' b = some o
theorem Kp.refl (a : Addr) (H : Hp) : Kp a H H := fun _ _ _ h => h
theorem Kp.trans {a : Addr} {H H1 H2 : Hp} (x : Kp a H H1) (y : Kp a H1 H2) : Kp a H H2 := fun b o n h => y b o n (x b o n h)
theorem Kp.upd {a : Addr} {H H1 : Hp} {o : HO} (x : Kp a H H1) : Kp a H (upd H1 a o) := fun b u n h => by rw [upd_ne n]; exact x b u n h
theorem Kp.new {a p : Addr} {H H1 : Hp} {o : HO} (x : Kp a H H1) (h : H1 p = none) : Kp a H (L2.upd H1 p o) := fun b u n e => by
  have q := x b u n e
  rw [upd_ne (ne_of_none q h)]
  exact q
theorem Kp.of {a : Addr} {H H1 : Hp} (x : Same H H1) : Kp a H H1 := fun b o _ h => x b o h
theorem Same.new {p : Addr} {H H1 : Hp} {o : HO} (x : Same H H1) (h : H1 p = none) : Same H (L2.upd H1 p o) := fun b u e => by
  have q := x b u e
  rw [upd_ne (ne_of_none q h)]
  exact q
/-! ### the law's draws: a stream is a list of three ints at a, the second counts -/
def StAt (a : Addr) (c : Int) (H : Hp) : Prop := ∃ x m n : Int, H a = some (.lst [.int x, .int n, .int m]) ∧ 0 ≤ n ∧ n ≤ c
theorem StAt.mono {a : Addr} {c d : Int} {H : Hp} (h : StAt a c H) (l : c ≤ d) : StAt a d H := let ⟨x, m, n, e, h1, h2⟩ := h; ⟨x, m, n, e, h1, by omega⟩
theorem StAt.same {a : Addr} {c : Int} {H H' : Hp} (h : StAt a c H) (e : Same H H') : StAt a c H' := let ⟨x, m, n, q, h1, h2⟩ := h; ⟨x, m, n, e _ _ q, h1, h2⟩
/-- a constant of the module -/
theorem pe_gc {X : Cx} {x : Str} {pos : Pos} {v : V} (hg : Gl X x) (h : ∃ u, X.mg x = some u ∧ RelV v u) (hd : (x == ("__debug__" : Str)) = false := by decide) : PE X (.Name x pos) (tC v) :=
  let ⟨_, e, r⟩ := h
  pe_glob hg e r hd
/-! ### a for over enumerate of a text -/
theorem for_et {x : Str} {g : TG} {tb : TS} {D : Ends} {σ : L2.St} {H : Hp} (Pv : Nat → L2.St → Hp → Prop) (h0 : Pv 0 σ H)
    (hs : ∀ (i c : Nat) (T : Addr) σ H, x.cps[i]? = some c → H T = none → Pv i σ H → g (.ref T) σ (upd H T (.tup [.int (i : Nat), .str ⟨#[c]⟩])) fun σ2 H2 => tb { D with nx := Pv (i + 1), ct := Pv (i + 1), bk := D.nx } σ2 H2)
    (hd : ∀ σ H, Pv x.cps.size σ H → D.nx σ H) :
    ∃ W : Nat → Nat → L2.St → Hp → Prop, (∃ m, W 0 m σ H) ∧ ∀ i m σ H, W i m σ H →
      ((Itet x).stop i H ∧ D.nx σ H) ∨ ((Itet x).go i H ∧ ∃ N : L2.St → Hp → Prop, (∀ σ' H', N σ' H' → ∃ m', m' < m ∧ W (i + 1) m' σ' H') ∧ ∀ v H', (Itet x).yld i H v H' → g v σ H' fun σ2 H2 => tb { D with nx := N, ct := N, bk := D.nx } σ2 H2) := by
  refine ⟨fun i m σ H => m = x.cps.size - i ∧ i ≤ x.cps.size ∧ Pv i σ H, ⟨x.cps.size, by simp, Nat.zero_le _, h0⟩, ?_⟩
  rintro i m σ H ⟨rfl, hi, p⟩
  by_cases hlt : i < x.cps.size
  · refine .inr ⟨hlt, Pv (i + 1), fun σ' H' p' => ⟨x.cps.size - (i + 1), by omega, rfl, hlt, p'⟩, fun v H' y => ?_⟩
    obtain ⟨T, c, rfl, hT, hc, rfl⟩ := y
    exact hs i c T σ H hc hT p
  · have e : i = x.cps.size := by omega
    subst e
    exact .inl ⟨rfl, hd σ H p⟩
/-! ### places -/
theorem at_int {α : Type} {xs : List α} {r : Int} (r0 : 0 ≤ r) (r1 : r < (xs.length : Int)) : ∃ (i : Nat) (x : α), xs[i]? = some x ∧ atI xs r = some x ∧ (i : Int) = r := by
  have h : r.toNat < xs.length := by omega
  obtain ⟨n, rfl⟩ := Int.eq_ofNat_of_zero_le r0
  have h2 : n < xs.length := by omega
  exact ⟨n, xs[n], List.getElem?_eq_getElem h2, atI_nat (List.getElem?_eq_getElem h2), rfl⟩
theorem at_text {z : Str} {r : Int} (r0 : 0 ≤ r) (r1 : r < (z.cps.size : Int)) : ∃ cp : Nat, cp ∈ z.cps.toList ∧ atI z.cps.toList r = some cp := by
  obtain ⟨i, x, h, e, _⟩ := at_int (xs := z.cps.toList) r0 (by simpa using r1)
  exact ⟨x, List.mem_of_getElem? h, e⟩
theorem size_add (x y : Str) : (x ++ y).cps.size = x.cps.size + y.cps.size := by
  show (x.cps ++ y.cps).size = _
  simp
theorem itT {c : Bool} {A B : Prop} (h : c = true) (a : A) : if c = true then A else B := by rw [if_pos h]; exact a
theorem itF {c : Bool} {A B : Prop} (h : c = false) (b : B) : if c = true then A else B := by rw [if_neg (by rw [h]; decide)]; exact b
theorem dVi {i j : Int} (h : i = j) : decide (V.int i = V.int j) = true := by subst h; simp
theorem dViN {i j : Int} (h : ¬ i = j) : decide (V.int i = V.int j) = false := by
  refine decide_eq_false fun e => ?_
  injection e with e
  exact h e
theorem notT {b : Bool} (h : b = false) : (!b) = true := by rw [h]; rfl
theorem notF {b : Bool} (h : b = true) : (!b) = false := by rw [h]; rfl
theorem mem_add {x y : Str} {c : Nat} (h : c ∈ (x ++ y).cps.toList) : c ∈ x.cps.toList ∨ c ∈ y.cps.toList := by
  have e : (x ++ y).cps.toList = x.cps.toList ++ y.cps.toList := by rw [Str.cps_append, Array.toList_append]
  rw [e] at h
  exact List.mem_append.mp h
/-! ### readings without a question -/
theorem tC_ {v : V} {σ : L2.St} {H : Hp} {Q : VK} (h : Q v H) : tC v σ H Q := h
theorem tNext_ {D : Ends} {σ : L2.St} {H : Hp} (h : D.nx σ H) : tNext D σ H := h
theorem tYes_ {σ : L2.St} {H : Hp} {Q : Bool → Hp → Prop} (h : Q true H) : tYes σ H Q := h
theorem tNil_ {σ : L2.St} {H : Hp} {Q : List V → Hp → Prop} (h : Q [] H) : tNil σ H Q := h
end Mx

namespace Mx
open PySem PySem.Spec PyProof.Rows L2
/-! ### comprehensions that pick -/
def picked {α : Type} (n : Nat) (f : Nat → Bool) (y : Nat → α) : List α := ((List.range n).filter f).map y
theorem picked_zero {α : Type} (f : Nat → Bool) (y : Nat → α) : picked 0 f y = [] := rfl
theorem picked_yes {α : Type} {n : Nat} {f : Nat → Bool} (y : Nat → α) (h : f n = true) : picked (n + 1) f y = picked n f y ++ [y n] := by
  unfold picked
  rw [List.range_succ, List.filter_append, List.map_append, List.filter_cons, if_pos h]
  rfl
theorem picked_no {α : Type} {n : Nat} {f : Nat → Bool} (y : Nat → α) (h : f n = false) : picked (n + 1) f y = picked n f y := by
  unfold picked
  rw [List.range_succ, List.filter_append, List.map_append, List.filter_cons, if_neg (by rw [h]; decide)]
  simp
theorem picked_len {α : Type} (n : Nat) (f : Nat → Bool) (y : Nat → α) : (picked n f y).length ≤ n := by
  unfold picked
  rw [List.length_map]
  have := List.length_filter_le f (List.range n)
  rw [List.length_range] at this
  exact this
theorem picked_map {α β : Type} (n : Nat) (f : Nat → Bool) (y : Nat → α) (g : α → β) : picked n f (fun i => g (y i)) = (picked n f y).map g := by
  unfold picked
  rw [List.map_map]
  rfl
theorem picked_empty {α : Type} (n : Nat) (f : Nat → Bool) (y : Nat → α) : (picked n f y).isEmpty = !(List.range n).any f := by
  unfold picked
  rw [Bool.eq_iff_iff]
  simp
theorem picked_mem {α : Type} {n : Nat} {f : Nat → Bool} {y : Nat → α} {v : α} (h : v ∈ picked n f y) : ∃ i, i < n ∧ f i = true ∧ v = y i := by
  unfold picked at h
  obtain ⟨i, hi, e⟩ := List.mem_map.mp h
  have := List.mem_filter.mp hi
  exact ⟨i, List.mem_range.mp this.1, this.2, e.symm⟩
theorem picked_in {α : Type} {n i : Nat} {f : Nat → Bool} {y : Nat → α} (hi : i < n) (hf : f i = true) : y i ∈ picked n f y := by
  unfold picked
  exact List.mem_map.mpr ⟨i, List.mem_filter.mpr ⟨List.mem_range.mpr hi, hf⟩, rfl⟩
theorem picked_all {α : Type} (n : Nat) (y : Nat → α) : picked n (fun _ => true) y = (List.range n).map y := by
  unfold picked
  rw [List.filter_eq_self.mpr (fun _ _ => rfl)]
theorem range_getD {α : Type} (l : List α) (d : α) : (List.range l.length).map (fun i => l.getD i d) = l := by
  refine List.ext_getElem? fun i => ?_
  rw [List.getElem?_map]
  by_cases h : i < l.length
  · rw [List.getElem?_range h, Option.map_some, List.getD_eq_getElem?_getD, List.getElem?_eq_getElem h]
    rfl
  · rw [List.getElem?_eq_none (by rw [List.length_range]; omega), List.getElem?_eq_none (by omega)]
    rfl
theorem picked_filter {α : Type} (l : List α) (d : α) (p : α → Bool) : picked l.length (fun i => p (l.getD i d)) (fun i => l.getD i d) = l.filter p := by
  unfold picked
  have e := List.filter_map (f := fun i => l.getD i d) (p := p) (l := List.range l.length)
  rw [range_getD] at e
  exact e.symm
theorem Kp.same {D : Addr} {H H' : Hp} (h : Kp D H H') (hD : H D = none) : Same H H' := fun b o e => h b o (fun z => by rw [z, hD] at e; cases e) e
section
variable {J : It} {n : Nat} {G : Hp → Prop} {Y : Nat → Hp → V → Hp → Prop}
/-- [te for g in J if tt]: turn i is kept where f i, and gives y i; all that was stays -/
theorem lc_flt (w : Walk J n G Y) {g : TG} {tt : TT} {te : TE} {vs : List Nat} {σ : L2.St} {H1 : Hp} {D : Addr} {Qd : Hp → Prop} (f : Nat → Bool) (y : Nat → V) (hD : H1 D = none) (hn : n ≤ 1000000)
    (hG : ∀ H, Same H1 H → G H) (hY : ∀ i H x H', Y i H x H' → Same H H')
    (hs : ∀ i x H H' (Nx : V → Hp → Prop) (Mx : Hp → Prop), i < n → Same H1 H → Y i H x H' → (f i = true → ∀ H4, Same H' H4 → Nx (y i) H4) → (f i = false → ∀ H3, Same H' H3 → Mx H3) →
      g x (wipe σ vs) H' fun σ2 H2 => wipe σ2 vs = wipe σ vs ∧ tt σ2 H2 fun b H3 => if b = true then te σ2 H3 Nx else Mx H3)
    (hd : ∀ H, Same H1 H → H D = some (.lst (picked n f y)) → Qd H) :
    ∃ W : Nat → Nat → Hp → Prop, (∃ m, W 0 m (upd H1 D (.lst []))) ∧ ∀ i m H, W i m H →
      (J.stop i H ∧ Qd H) ∨ (J.go i H ∧ ∃ Nx : Hp → Prop, (∀ H', Nx H' → ∃ m', m' < m ∧ W (i + 1) m' H') ∧ ∀ x H', J.yld i H x H' → g x (wipe σ vs) H' fun σ2 H2 => wipe σ2 vs = wipe σ vs ∧ tt σ2 H2 fun b H3 =>
        if b = true then te σ2 H3 fun y H4 => ∃ acc, H4 D = some (.lst acc) ∧ acc.length < sizeLine ∧ Nx (upd H4 D (.lst (acc ++ [y]))) else Nx H3) := by
  refine lc_it w (fun i H => i ≤ n ∧ Kp D H1 H ∧ H D = some (.lst (picked i f y))) ⟨Nat.zero_le _, (Kp.refl _ _).upd, upd_same⟩ (fun i H _ p => hG H (p.2.1.same hD)) ?_ (fun H p => hd H (p.2.1.same hD) p.2.2)
  rintro i x H H' hi ⟨_, kp, e⟩ yy
  have sm := hY i H x H' yy
  refine hs i x H H' _ _ hi (kp.same hD) yy (fun hf H4 s4 => ?_) (fun hf H3 s3 => ?_)
  · refine ⟨_, s4 _ _ (sm _ _ e), ?_, hi, ?_, ?_⟩
    · have := picked_len i f y
      unfold sizeLine
      omega
    · exact ((kp.trans (Kp.of sm)).trans (Kp.of s4)).upd
    · rw [upd_same, picked_yes y hf]
  · exact ⟨hi, (kp.trans (Kp.of sm)).trans (Kp.of s3), by rw [picked_no y hf]; exact s3 _ _ (sm _ _ e)⟩
end
/-! ### exceptions told with the slots' number; readings made weaker -/
theorem takes_len {X : Cx} {W : WX} (tk : Takes X W) : Takes X (fun cls d σ H => σ.length = X.N.length → W cls d σ H) :=
  fun u s' ⟨a, B, sI, pins, σ, H, cls, d, e, I, nb, up, sky, na, os, ag, w⟩ => tk u s' ⟨a, B, sI, pins, σ, H, cls, d, e, I, nb, up, sky, na, os, ag, w I.len⟩
def eMono (te : TE) : TE := fun σ H Q => ∃ Q0 : VK, te σ H Q0 ∧ ∀ v H1, Q0 v H1 → Q v H1
theorem pe_mono {X : Cx} {e : Expr} {te : TE} (h : PE X e te) : PE X e (eMono te) :=
  ⟨fun pins s σ H Q I ⟨Q0, hh, k⟩ => wpAny_mono (h.run pins s σ H Q0 I hh) (fun _ _ ⟨v, H1, I1, r, q⟩ => ⟨v, H1, I1, r, k _ _ q⟩) fun _ _ z => z⟩
theorem cutV_mem {xs : List V} {lo hi : Option Int} {x : V} (h : x ∈ cutV xs lo hi) : x ∈ xs := List.mem_of_mem_drop (List.mem_of_mem_take h)
theorem cutV_front (xs : List V) (n : Nat) : (cutV xs none (some (n : Int))).length ≤ n := by
  unfold cutV
  rw [List.length_take, HT.sIx_nat]
  have : HT.sIx xs.length 0 none = 0 := rfl
  omega
theorem ints_mem {ns : List Int} {x : V} (h : x ∈ ns.map V.int ++ [.int 0]) : ∃ z, x = .int z := by
  rcases List.mem_append.mp h with h | h
  · obtain ⟨z, _, rfl⟩ := List.mem_map.mp h
    exact ⟨z, rfl⟩
  · exact ⟨0, List.mem_singleton.mp h⟩
/-! ### lists of texts as data -/
theorem dp_strsAll {K : PySem.W.Frag} {H : Hp} : ∀ l : List Str, DpAll K H (l.map V.str) (l.map PyData.str)
  | [] => .nil
  | z :: l => .cons (.str z) (dp_strsAll l)
theorem dp_strs {K : PySem.W.Frag} {H : Hp} {a : Addr} {l : List Str} (h : SqL K H a (l.map V.str)) : Dp K H (.ref a) (.list (l.map PyData.str)) := .lst h (dp_strsAll l)
theorem lay_strs : ∀ l : List Str, (∀ z ∈ l, ∀ c ∈ z.cps.toList, c < 0x110000) → PyData.canLayAll0 (l.map PyData.str) = true ∧ PyData.depthAll (l.map PyData.str) = 0
  | [], _ => ⟨rfl, rfl⟩
  | z :: l, h => by
    obtain ⟨h1, h2⟩ := lay_strs l fun y hy => h y (List.mem_cons_of_mem _ hy)
    refine ⟨?_, ?_⟩
    · show (z.cps.all (· < 0x110000) && PyData.canLayAll0 (l.map PyData.str)) = true
      rw [h1, Bool.and_true]
      rw [Array.all_eq_true]
      intro i hi
      exact decide_eq_true (h z List.mem_cons_self _ (by simp))
    · show max 0 (PyData.depthAll (l.map PyData.str)) = 0
      rw [h2]
      rfl
theorem shaped_strs {l : List Str} (h : ∀ z ∈ l, ∀ c ∈ z.cps.toList, c < 0x110000) : SeqAt.shaped (.list (l.map PyData.str)) = true := by
  obtain ⟨h1, h2⟩ := lay_strs l h
  show (PyData.canLayAll0 _ && decide (PyData.depthAll _ + 1 ≤ 64)) = true
  rw [h1, h2]
  rfl
theorem eqv_nil : ∀ l : List Str, PyData.eqv (.list (l.map PyData.str)) (.list []) = l.isEmpty
  | [] => rfl
  | _ :: _ => rfl
/-- a list of texts against the empty list -/
theorem eq_nil {K : PySem.W.Frag} {H : Hp} {a b : Addr} {l : List Str} {Q : VK} (ha : SqL K H a (l.map V.str)) (hb : SqL K H b []) (h : ∀ z ∈ l, ∀ c ∈ z.cps.toList, c < 0x110000) (q : Q (.bl l.isEmpty) H) : rEqD K (.ref a) (.ref b) H Q :=
  ⟨_, _, dp_strs ha, .lst hb .nil, shaped_strs h, rfl, by rw [eqv_nil]; exact q⟩
end Mx

namespace Mx
open PySem PySem.Spec PyProof.Rows L2
/-! ### heaps of a law that makes lambdas: all but tables stays, the tables keep their word -/
def Go (Tb : List (Addr × Str)) (H H' : Hp) : Prop := LamX.ExtN H H' ∧ (LamX.Tabs Tb H → LamX.Tabs Tb H')
theorem Go.refl (Tb : List (Addr × Str)) (H : Hp) : Go Tb H H := ⟨LamX.ExtN.refl H, id⟩
theorem Go.trans {Tb : List (Addr × Str)} {H H1 H2 : Hp} (x : Go Tb H H1) (y : Go Tb H1 H2) : Go Tb H H2 := ⟨x.1.trans y.1, fun t => y.2 (x.2 t)⟩
theorem Go.same {Tb : List (Addr × Str)} {H H' : Hp} (x : Same H H') : Go Tb H H' := ⟨.of x, fun t => t.ext x⟩
theorem Go.new {Tb : List (Addr × Str)} {H H1 : Hp} {p : Addr} {o : HO} (x : Go Tb H H1) (h : H1 p = none) : Go Tb H (L2.upd H1 p o) := x.trans (.same (Same.new (Same.refl _) h))
theorem Go.kp {Tb : List (Addr × Str)} {H0 H H' : Hp} {a : Addr} {c : Int} (x : Go Tb H0 H) (n : H0 a = none) (st : StAt a c H) (k : Kp a H H') : Go Tb H0 H' := by
  obtain ⟨u, m, v, e, _, _⟩ := st
  refine ⟨fun b o h1 h2 => k b o (ne_of_none h1 n) (x.1 b o h1 h2), fun t p hp => ?_⟩
  obtain ⟨ps, e1, e2, e3⟩ := x.2 t p hp
  refine ⟨ps, k _ _ (fun z => by rw [z, e] at e1; cases e1) e1, e2, fun pos cv h => ?_⟩
  obtain ⟨c', rfl, e5⟩ := e3 pos cv h
  exact ⟨c', rfl, k _ _ (fun z => by rw [z, e] at e5; unfold LamX.CodeO at e5; cases e5) e5⟩
theorem Go.lst {Tb : List (Addr × Str)} {H H' : Hp} {p : Addr} {xs : List V} (x : Go Tb H H') (h : H p = some (.lst xs)) : H' p = some (.lst xs) := x.1 p _ h fun ps z => by cases z
theorem Go.tup {Tb : List (Addr × Str)} {H H' : Hp} {p : Addr} {xs : List V} (x : Go Tb H H') (h : H p = some (.tup xs)) : H' p = some (.tup xs) := x.1 p _ h fun ps z => by cases z
theorem TyOf_go {K : PySem.W.Frag} {H H' : Hp} {x : V} {t : Value} (g : LamX.ExtN H H') (h : TyOf K H x t) : TyOf K H' x t := by
  cases h with
  | non => exact .non
  | bl y => exact .bl y
  | int i => exact .int i
  | str y => exact .str y
  | flt y => exact .flt y
  | lst e => exact .lst (g _ _ e fun ps z => by cases z)
  | frz e => exact .frz (g _ _ e fun ps z => by cases z)
  | tup e => exact .tup (g _ _ e fun ps z => by cases z)
  | dK e => exact .dK (g _ _ e fun ps z => by cases z)
  | dT e => exact .dT (g _ _ e fun ps z => by cases z)
  | ins e a b c d f => exact .ins (g _ _ e fun ps z => by cases z) a b c d f
theorem TyX_go {K : PySem.W.Frag} {H H' : Hp} {x : V} {t : Value} (g : LamX.ExtN H H') (h : TyX K H x t) : TyX K H' x t := by
  cases h with
  | base b => exact .base (TyOf_go g b)
  | byt y => exact .byt y
  | set e => exact .set (g _ _ e fun ps z => by cases z)
  | kList e c => exact .kList e c
  | kTuple e c => exact .kTuple e c
  | kDict e c => exact .kDict e c
  | fTuple e => exact .fTuple (g _ _ e fun ps z => by cases z)
  | fDict e => exact .fDict (g _ _ e fun ps z => by cases z)
theorem picked_none {α : Type} (n : Nat) (y : Nat → α) : picked n (fun _ => false) y = [] := by
  unfold picked
  simp
/-! ### the law's def: its code object told, guards told -/
structure FunC (K : PySem.W.Frag) (x : Str) (st : Stmt) (f : Addr) (fd : FuncData) (c : Addr) : Prop where
  ex : ∃ (oc : Value) (od : Option Addr) (kV doc pm : Value) (an : Option Addr) (ct : Value) (osl : Array (Option Value)),
    fd = PySem.W.fnOf x x (defArgs st) (defBody st) (defScope st) .none kV doc pm an (.ref c) ct ∧ K.lookup f = some ⟨oc, od, .func fd, osl⟩ ∧ PySem.W.codeIn K (.ref c) x = true
section
variable {P : Program} {w : World} {K : PySem.W.Frag} {mg : Str → Option Value} {base : Heap}
theorem okGC {CX : CXT} {x : Str} {st : Stmt} {f c : Addr} {fd : FuncData} {N ps : List Str} {k : Nat} {sp : Sp} (F : FunC K x st f fd c) (S : FnScope N ps (defScope st)) (len : ∀ vs H Q E, sp vs H Q E → vs.length = ps.length)
    (body : ∀ (A : Around) (outer : List Env) (s : Shared) (H : Hp) (vs : List V) (Q : VK) (E : XK), RmG k (A.deeper (envOfC x (defScope st) s.heap.objs.size f (.ref c))) → sp vs H Q E →
      ∃ t, PSs (cxOf CX P w K mg base N x (defScope st) f (.ref c) A outer s H E) (defBody st) t ∧ t { nx := fun _ H' => Q .non H', rt := Q } (start N vs) H) : FnG P w K mg base CX (k + 1) f fd ps sp := by
  obtain ⟨oc, od, kV, doc, pm, an, ct, osl, rfl, look, code⟩ := F.ex
  constructor
  · exact len
  intro A outer s H args us vs Q E room e0 binds rel want
  have names : ((ps.zip us).all fun y => (defScope st).names.lookup y.1 == some .local || (defScope st).names.lookup y.1 == some .cell) = true := by
    rw [List.all_eq_true]
    rintro ⟨n, u⟩ mem
    rcases S.par n (List.of_mem_zip mem).1 with q | q <;> simp [q]
  have inK : K.In s.heap := e0.mod.kin.keeps fun b o z => (e0.bs b o z).1
  have limit : s.heap.NoLimit := e0.mod.nolimit.keeps fun b o z => (e0.bs b o z).1
  refine Att.call_fn inK limit look code room.r.depth binds names (fun s1 entered => ?_) S.co S.gen S.kind
  obtain ⟨t, term, read⟩ := body A outer s H vs Q E (room.deeper _) want
  have begin_ := inv_start (CX := CX) (E := E) (f := f) (cd := .ref c) (qual := x) (outer := outer) S room.r.hd e0 (len _ _ _ _ want) rel entered
  refine wpAny_mono (term.run [] s1 _ H _ begin_ read) (fun flow s2 out => ?_) fun _ _ z => z
  match flow, out with
  | .ret u, ⟨v, _, H2, J, r, q⟩ => exact ⟨v, H2, J.os, J.bare, J.base, J.hok, r, q⟩
  | .next, ⟨_, H2, J, q⟩ => exact ⟨.non, H2, J.os, J.bare, J.base, J.hok, rfl, q⟩
  | .brk, ⟨_, _, _, q⟩ => exact q.elim
  | .cont, ⟨_, _, _, q⟩ => exact q.elim
end
/-- keywords (and positional arguments) of a def without defaults -/
theorem kb_of {K : PySem.W.Frag} {x qual : Str} {st : Stmt} {f : Addr} {fd : FuncData} {ps ks : List Str} (F : Fun K x qual st f fd)
    (h : ∀ (kV doc pm : Value) (an : Option Addr) (cdv ct : Value) (us ws : List Value), (us ++ ws).length = ps.length → bindArgs (PySem.W.fnOf x qual (defArgs st) (defBody st) (defScope st) .none kV doc pm an cdv ct) ⟨us, ks.zip ws⟩ = pure (ps.zip (us ++ ws))) :
    KBinds K fd ps ks (fun us ws => us ++ ws) (fun vs zs => vs ++ zs) := by
  obtain ⟨oc, od, kV, doc, pm, an, cdv, ct, osl, rfl, look, code⟩ := F.ex
  exact ⟨fun s us ws _ hl => .of_eq (h kV doc pm an cdv ct us ws hl), fun a b => a.append b⟩
/-! ### the head: a script, tables of code objects -/
/-- what is tracked when the law is called: the tables (empty), and the script if K does not tell it -/
def lawH (K : PySem.W.Frag) (ts : List Addr) (a : Addr) (o : Obj) (xs : List V) : Hp := fun b =>
  if b ∈ ts then some (.tbl #[]) else if b = a then (if (K.lookup a).isNone = true then some (.frz o (.lst xs)) else none) else none
section
variable {K : PySem.W.Frag} {ts : List Addr} {a b : Addr} {o : Obj} {xs : List V}
theorem lawH_tab (h : b ∈ ts) : lawH K ts a o xs b = some (.tbl #[]) := if_pos h
theorem lawH_kinds {u : HO} (h : lawH K ts a o xs b = some u) : (b ∈ ts ∧ u = .tbl #[]) ∨ (b = a ∧ K.lookup a = none ∧ u = .frz o (.lst xs)) := by
  unfold lawH at h
  split at h
  · rename_i m
    exact .inl ⟨m, (Option.some.inj h).symm⟩
  · split at h
    · rename_i e
      split at h
      · rename_i n
        exact .inr ⟨e, Option.isNone_iff_eq_none.mp n, (Option.some.inj h).symm⟩
      · cases h
    · cases h
end
section
variable {P : Program} {w : World} {K : PySem.W.Frag} {mg mb : Str → Option Value} {CX : CXT} {k : Nat} {fa a : Addr} {cs : List (Addr × Addr)} {fd : FuncData} {x : Str} {sp : Sp} {s : Shared} {vs : List Value} {ns : List Int}
theorem lawRun (inK : K.In s.heap) (glob : s.heap.Ns mainGlobals mg) (blt : s.heap.Ns builtinsNs mb) (boot : ∀ y : Str, y ≠ "__name__" → mb y = bootBuiltins y) (limit : s.heap.NoLimit) (gens : s.gens = #[])
    (tabs : ∀ p ∈ cs, s.heap.get? p.2 = some { cls := .none, data := .fields #[] }) (notK : ∀ p ∈ cs, K.lookup p.2 = none) (heads : ∀ p ∈ cs, PySem.W.CodeHd s.heap p.1 p.2)
    (main : ∃ (bm : Addr) (ob : Obj), mg "__builtins__" = some (.ref bm) ∧ bm ≠ builtinsNs ∧ s.heap.get? bm = some ob ∧ ob.cls = .type "module" ∧ ob.dict = some builtinsNs ∧ ob.data = .plain)
    (script : s.heap.get? a = some { cls := .type "list", data := .seq vs.toArray }) (whole : IntsAre vs ns) (short : ns.length ≤ sizeLine) (room : RmG k callerA)
    (F : ∀ base : Heap, K.In base → base.Ns mainGlobals mg → (∀ p ∈ cs, LamX.TabB base mg p.1 p.2) → FnG P w K mg base CX k fa fd [x] sp) (bind : ∀ (s : Shared) (u : Value), BindsTo s fd ⟨[u], []⟩ [(x, u)])
    (want : ∀ H : Hp, (∀ p ∈ cs, H p.2 = some (.tbl #[])) → LsX K H a (ns.map V.int) → sp [.ref a] H (fun v _ => v = .bl true) fun _ _ _ => False)
    (none_ : ∀ H e s', CX [] H s (fun _ _ _ => False) e s' → False) :
    codeAny (model P w) callerA (.call (.ref fa) ⟨[.ref a], []⟩) (fun r s' => r = .ok (.ret (.bool true)) ∧ OldK s.heap s'.heap ∧ s'.os = s.os ∧ AllBare s'.gens) s := by
  have rel : Vals (ns.map V.int) vs := vals_ints whole
  have isTab : ∀ b ∈ cs.map Prod.snd, s.heap.get? b = some { cls := .none, data := .fields #[] } := by
    intro b mem
    obtain ⟨p, hp, rfl⟩ := List.mem_map.mp mem
    exact tabs p hp
  have ofTab : ∀ p ∈ cs, p.2 ∈ cs.map Prod.snd := fun p hp => List.mem_map_of_mem hp
  generalize hH : lawH K (cs.map Prod.snd) a { cls := .type "list", data := .seq vs.toArray } (ns.map V.int) = H
  have tracked : ∀ {b : Addr} {u : HO}, H b = some u → (b ∈ cs.map Prod.snd ∧ u = .tbl #[]) ∨ (b = a ∧ K.lookup a = none ∧ u = .frz { cls := .type "list", data := .seq vs.toArray } (.lst (ns.map V.int))) := fun {b u} e => lawH_kinds (by rw [hH]; exact e)
  have atTab : ∀ p ∈ cs, H p.2 = some (.tbl #[]) := fun p hp => by rw [← hH]; exact lawH_tab (ofTab p hp)
  -- an object that is neither a list nor an empty table is not tracked
  have plain : ∀ {b : Addr} {o : Obj}, s.heap.get? b = some o → o ≠ { cls := .none, data := .fields #[] } → o ≠ { cls := .type "list", data := .seq vs.toArray } → H b = none := by
    intro b o e n1 n2
    cases q : H b with
    | none => rfl
    | some u =>
      rcases tracked q with ⟨m, _⟩ | ⟨rfl, _⟩
      · exact absurd (Option.some.inj (e.symm.trans (isTab b m))) n1
      · exact absurd (Option.some.inj (e.symm.trans script)) n2
  have below : ∀ {b : Addr} {o : Obj}, s.heap.get? b = some o → o ≠ { cls := .none, data := .fields #[] } → o ≠ { cls := .type "list", data := .seq vs.toArray } → (hidT s.heap H).get? b = some o := fun e n1 n2 => hidT_get e (plain e n1 n2)
  have spaces : ∀ {b : Addr} {m : Str → Option Value}, s.heap.Ns b m → (hidT s.heap H).Ns b m := by
    rintro b m ⟨o, es, ep, e, d, r⟩
    exact ⟨o, es, ep, below e (fun z => by rw [z] at d; cases d) (fun z => by rw [z] at d; cases d), d, r⟩
  have inB : K.In (hidT s.heap H) := by
    intro b o e
    refine hidT_get (inK b o e) ?_
    cases q : H b with
    | none => rfl
    | some u =>
      rcases tracked q with ⟨m, _⟩ | ⟨rfl, n, _⟩
      · obtain ⟨p, hp, rfl⟩ := List.mem_map.mp m
        rw [notK p hp] at e
        cases e
      · rw [n] at e
        cases e
  have mod : L2.Mod K mg (hidT s.heap H) := ⟨inB, spaces glob, ⟨mb, spaces blt, boot⟩, let ⟨mc, l1, l2⟩ := limit; ⟨mc, spaces l1, l2⟩⟩
  have bases : ∀ p ∈ cs, LamX.TabB (hidT s.heap H) mg p.1 p.2 := by
    intro p hp
    have tp := tabs p hp
    constructor
    · obtain ⟨o, us, file, tf, flags, tg, inF, text, tt, e1, r1, r2, r3, rest⟩ := heads p hp
      refine ⟨o, us, file, tf, flags, tg, inF, text, tt, below e1 (fun z => ?_) (fun z => ?_), r1, r2, r3, rest⟩
      · rw [z] at r2
        cases r2
        simp at r3
      · rw [z] at r2
        cases r2
    · obtain ⟨bm, ob, b1, b2, b3, b4, b5, b6⟩ := main
      refine ⟨bm, ob, b1, b2, fun z => ?_, fun z => ?_, below b3 (fun z => by rw [z] at b6; cases b6) (fun z => by rw [z] at b6; cases b6), b4, b5, b6⟩
      · obtain ⟨o, es, ep, e, d, _⟩ := glob
        rw [z, e] at b3
        obtain rfl := Option.some.inj b3
        rw [d] at b6
        cases b6
      · rw [z, tp] at b3
        obtain rfl := Option.some.inj b3
        cases b6
    · intro z
      obtain ⟨o, es, ep, e, d, _⟩ := glob
      rw [z, tp] at e
      obtain rfl := Option.some.inj e
      cases d
  have reads : LsX K H a (ns.map V.int) := by
    cases q : K.lookup a with
    | some o =>
      have e1 := Option.some.inj ((inK a o q).symm.trans script)
      exact .inr ⟨vs, 0, by rw [q, e1], by rw [List.length_map]; exact short, rel⟩
    | none =>
      refine .inl (.inr ⟨{ cls := .type "list", data := .seq vs.toArray }, ?_⟩)
      have no : a ∉ cs.map Prod.snd := fun m => by
        have z := (isTab a m).symm.trans script
        cases Option.some.inj z
      rw [← hH]
      unfold lawH
      rw [if_neg no, if_pos rfl, if_pos (by rw [q]; rfl)]
  have hok : HOk P w H s.heap := by
    intro b u e
    rcases tracked e with ⟨m, rfl⟩ | ⟨rfl, _, rfl⟩
    · exact isTab b m
    · exact ⟨script, by rw [List.length_map]; exact short, vs, _, rel, script⟩
  have e0 : Env0 P w K mg (hidT s.heap H) callerA [] s H := ⟨rfl, mod, fun b o e => of_hidT e, Nat.le_of_eq (hidT_size _ _), trivial, (fun b m => by cases m), hok, .of_eq gens⟩
  refine codeAny_mono ((F _ inB (spaces glob) bases).run callerA [] s H ⟨[.ref a], []⟩ [.ref a] [.ref a] _ _ room e0 (bind s (.ref a)) (.cons rfl .nil) (want H atTab reads)) ?_
  intro r s' out
  match r, out with
  | .error e, z => exact (none_ H e s' z).elim
  | .ok .next, z => exact z.elim
  | .ok .brk, z => exact z.elim
  | .ok .cont, z => exact z.elim
  | .ok (.ret u), ⟨v, H', os, bare, un, hok', r', (q : v = .bl true)⟩ =>
    subst q
    have u1 : u = Value.bool true := r'
    subst u1
    have grown : ∀ b ∈ cs.map Prod.snd, ∃ more : Array Value, s'.heap.get? b = some { cls := .none, data := .fields more } := by
      intro b mem
      obtain ⟨p, hp, rfl⟩ := List.mem_map.mp mem
      obtain ⟨more, z⟩ := un.tbls p.2 #[] (atTab p hp)
      exact ⟨_, hok' _ _ z⟩
    have stays : ∀ b o, b ∉ cs.map Prod.snd → s.heap.get? b = some o → s'.heap.get? b = some o := by
      intro b o no e
      cases t : H b with
      | none => exact un.keep b o e t (fun z => by cases z) (fun z => by cases z)
      | some u =>
        rcases tracked t with ⟨m, _⟩ | ⟨rfl, _, rfl⟩
        · exact absurd m no
        · have z1 := (hok _ _ t).1
          have z2 := (hok' _ _ (un.frzs _ _ _ t)).1
          rw [← e]
          exact z2.trans z1.symm
    refine ⟨rfl, ⟨fun b o e => ?_, fun b o e => ?_⟩, os, bare⟩
    · by_cases mem : b ∈ cs.map Prod.snd
      · obtain ⟨more, z⟩ := grown b mem
        obtain ⟨p, hp, rfl⟩ := List.mem_map.mp mem
        obtain rfl := Option.some.inj (e.symm.trans (tabs p hp))
        exact .inr (.inl ⟨((heads p hp).tab (tabs p hp)).isCodeTable, rfl, #[], more, rfl, by rw [Array.empty_append]; exact z⟩)
      · exact .inl (stays b o mem e)
    · by_cases mem : b ∈ cs.map Prod.snd
      · obtain ⟨more, z⟩ := grown b mem
        exact ⟨_, z⟩
      · exact ⟨o, stays b o mem e⟩
end
/-- what is known of the law's promise behind the top -/
def LawG (l : PySem.W.OpenLaw) (w : World) (K : PySem.W.Frag) (CX : CXT) (k n : Nat) (x : Str) (mg : Str → Option Value) (fa : Addr) (h : Heap) : Prop :=
  ∃ (fd : FuncData) (cs : List (Addr × Addr)) (sp : Sp), (∀ p ∈ cs, h.get? p.2 = some { cls := .none, data := .fields #[] }) ∧ (∀ p ∈ cs, K.lookup p.2 = none) ∧ (∀ p ∈ cs, PySem.W.CodeHd h p.1 p.2) ∧ (∀ (s : Shared) (u : Value), BindsTo s fd ⟨[u], []⟩ [(x, u)]) ∧
    (∀ (H : Hp) (a : Addr) (ns : List Int), ns.length ≤ n → (∀ z ∈ ns, Builtin.Int.intBits z ≤ 1048576) → (∀ p ∈ cs, H p.2 = some (.tbl #[])) → LsX K H a (ns.map V.int) → sp [.ref a] H (fun v _ => v = .bl true) fun _ _ _ => False) ∧
    ∀ base : Heap, K.In base → base.Ns mainGlobals mg → (∀ p ∈ cs, LamX.TabB base mg p.1 p.2) → FnG l.prog w K mg base CX k fa fd [x] sp
theorem walkG {l : PySem.W.OpenLaw} {n k : Nat} {q : Program} {loose : List Str} {XP : (Str → Option Value) → Heap → Prop} {YP : World → Heap → Prop} {d : DefRec} {K : Params → PySem.W.Frag} {CX : World → CXT} {x : Str}
    (most : l.most = some n) (fits : n ≤ sizeLine) (bare : d.params.defaults = []) (room : RmG k callerA) (hY : ∀ (w : World) (h : Heap), YP w h → (K w.params).In h)
    (F : ∀ (w : World) (mg mb : Str → Option Value) (fa : Addr) (h : Heap), (∃ ls mean, PyProof.Rows.Top q ls mean mg mb h) → YP w h → (K w.params).In h → h.Ns mainGlobals mg → mg d.name = some (.ref fa) → LawG l w (K w.params) (CX w) k n x mg fa h)
    (none_ : ∀ (w : World) (H : Hp) (s : Shared) (e : Value) (s' : Shared), CX w [] H s (fun _ _ _ => False) e s' → False) :
    PySem.W.WalkO q loose XP YP l.row.toRowW d [] (fun f vs => PySem.call f vs) := by
  refine Att.attach_callB most bare ?_
  intro w s0 s mg mb fa o pm cd doc a vs ns G Y ho hd hcd hm script whole len bits gens
  have inK := hY w _ Y
  obtain ⟨fd, cs, sp, tabs, notK, heads, bind, want, run⟩ := F w mg mb fa _ ⟨_, _, G.T⟩ Y inK G.T.g hm
  exact lawRun inK G.T.g G.T.b G.T.builtins G.T.nolimit gens tabs notK heads G.T.bmain script whole (Nat.le_trans len fits) room run bind (fun H t r => want H a ns len bits t r) fun H e s' => none_ w H s e s'
end Mx

namespace Mx
open PySem PySem.Spec PyProof.Rows L2
/-! ### d.setdefault(k, v), called as a method -/
def tDSet (td ty tx : TE) : TE := fun σ H Q => td σ H fun x H1 => ∃ a, x = .ref a ∧ IsD H1 a ∧ ty σ H1 fun y H2 => tx σ H2 fun z H3 => rSetd (.ref a) [y, z] H3 Q
section
variable {X : Cx} {o e f : Expr} {apos cpos : Pos} {td ty tx : TE}
theorem pe_dset2 (ho : PE X o td) (he : PE X e ty) (hf : PE X f tx) (m : M2 X o "setdefault" apos e f cpos) : PE X (.Call (.Attribute o "setdefault" apos) [e, f] [] cpos) (tDSet td ty tx) := by
  constructor
  intro pins s σ H Q I h
  refine wpAny_Call_method m.base m.few m.line PySem.F.plainAttrs_dict PySem.F.slot_dict_setdefault PySem.F.type_dict_setdefault (thn (ho.run pins s σ H _ I h) ?_)
  rintro u s1 ⟨x, H1, I1, rx, a, rfl, d, q1⟩
  obtain rfl : u = Value.ref a := rx
  obtain ⟨t1, t2, _⟩ := isD_at I1 d
  refine ⟨t1, t2, ?_⟩
  rw [m.trees]
  refine Calls.callWith_builtin rfl (Calls.evalArgs_plain (Calls.spliced_cons (thn (he.run pins s1 σ H1 _ I1 q1) ?_)))
  rintro iv s2 ⟨y, H2, I2, ry, q2⟩
  refine Calls.spliced_cons (thn (hf.run pins s2 σ H2 _ I2 q2) ?_)
  rintro fv s3 ⟨z, H3, I3, rz, b, kvs, k, v, eb, ev, ea, hl, w1, w2⟩
  cases eb
  cases ev
  refine Calls.spliced_nil ?_
  obtain ⟨fits, notMods, vs0, rel, dd⟩ := dk_of I3.hok ea
  have small : vs0.length ≤ sizeLine := by rw [← rel.length]; exact fits
  refine call_meetsIn PySem.F.slot_dict_setdefault dd.typeIs PySem.F.entry_dict_setdefault (PySem.F.args_dict_setdefault_3 _ _ _) (kt_meets_setdefault (mixKind X.prog X.w) _ (kV_is ry) notMods _) ⟨vs0, dd, small, ?_, ?_⟩
  · intro u hu
    have there := rel.val k
    rw [hu] at there
    match hv : valV kvs k, there with
    | some x, there => exact ⟨x, H3, I3.tok _, there, w1 x hv⟩
    | none, there => exact there.elim
  · intro hn h' dd' hs
    have there := rel.val k
    rw [hn] at there
    match hv : valV kvs k, there with
    | some x, there => exact there.elim
    | none, there =>
      have grows : (putK kvs k z).length ≤ sizeLine := by have := length_putK kvs k z; omega
      exact ⟨z, _, d_write (t' := s3.toks + 1) I3 (by rw [ea]; exact True.intro) hs (let ⟨q, _, _, hq, _⟩ := dd'; ⟨q, hq⟩) (dk_new grows notMods (rel.put k rz) dd'), rz, w2 hv⟩
end
/-- a def with one default: where it stands, its name, its parameters, the default -/
structure DefD (K : PySem.W.Frag) (mg : Str → Option Value) (x : Str) (st : Stmt) (ps : List Str) (dv : V) : Type where
  f : Addr
  fd : FuncData
  F : FunD K x x (defArgs st) (defBody st) (defScope st) [dv] [] f fd
  m : mg x = some (.ref f)
  b : Binds K fd ps []
  ds : List Value
  hd : Vals [dv] ds
  b1 : Binds K fd ps ds
/-! ### a sign, n times -/
theorem rep_fold (c : Nat) : ∀ (m : Nat) (acc : Array Nat), ((List.replicate m (#[c] : Array Nat)).foldl (· ++ ·) acc).toList = acc.toList ++ List.replicate m c
  | 0, acc => by simp
  | m + 1, acc => by
    rw [List.replicate_succ, List.foldl_cons, rep_fold c m (acc ++ #[c]), List.replicate_succ]
    simp
theorem mul_one (c : Nat) (n : Int) (h : 0 ≤ n) : TL.tl (Txt.mul ⟨#[c]⟩ n) = List.replicate n.toNat c := by
  unfold Txt.mul
  by_cases h1 : n < 1
  · rw [if_pos h1]
    have : n = 0 := by omega
    subst this
    rfl
  · rw [if_neg h1]
    by_cases h2 : n = 1
    · subst h2
      rfl
    · rw [if_neg (by simp [Str.length]; exact h2)]
      show ((List.replicate n.toNat (#[c] : Array Nat)).foldl (· ++ ·) #[]).toList = _
      rw [rep_fold]
      rfl
theorem mul_ok (c : Nat) (n : Int) (h : 0 ≤ n) (h2 : n ≤ 1000) : MulOk ⟨#[c]⟩ n := by
  refine ⟨?_, ?_, ?_⟩
  · rw [decide_eq_false (by omega), decide_eq_false (by omega)]
    rfl
  · intro h1 _ h3
    have h4 : ((2 : Int) ^ 63 - 1) / n ≥ 1 := (Int.le_ediv_iff_mul_le (by omega)).mpr (by omega)
    have h5 : (((⟨#[c]⟩ : Str).length : Nat) : Int) = 1 := rfl
    omega
  · intro _ _
    exact short24 (by show 1 * n.toNat ≤ 16777216; omega)
theorem op_strMul {X : Cx} : OpR X (binaryOp .Mult) (fun x y H Q => ∃ (c : Nat) (n : Int), x = .str ⟨#[c]⟩ ∧ y = .int n ∧ (0 ≤ n ∧ n ≤ 1000) ∧ ∀ z : Str, TL.tl z = List.replicate n.toNat c → Q (.str z) H) := by
  intro pins s σ H x y v u Q I rx ry h
  obtain ⟨c, n, rfl, rfl, ⟨h1, h2⟩, q⟩ := h
  obtain ⟨t, rfl⟩ := rx
  obtain ⟨t', rfl⟩ := ry
  exact SB.mul (mul_ok c n h1 h2) fun t2 tk => ⟨.str _, H, I.tok _, ⟨_, rfl⟩, q _ (mul_one c n h1)⟩
end Mx

namespace Mx
open PySem PySem.Spec PyProof.Rows L2
/-! ### what stands, carried by rules that a tactic can chain backwards -/
section
variable {Tb : List (Addr × Str)} {H H0 H1 H' : Hp} {p q a : Addr} {o u : HO} {xs : List V} {c d : Int} {kvs : List (Key × V)}
theorem lk_new (hp : H p = none) (h : H q = some u) : upd H p o q = some u := by rw [upd_ne (ne_of_none h hp)]; exact h
theorem lk_ne (n : q ≠ p) (h : H q = some u) : upd H p o q = some u := by rw [upd_ne n]; exact h
theorem lk_same (s : Same H H') (h : H q = some u) : H' q = some u := s _ _ h
theorem lk_go_lst (g : Go Tb H H') (h : H q = some (.lst xs)) : H' q = some (.lst xs) := g.lst h
theorem lk_go_tup (g : Go Tb H H') (h : H q = some (.tup xs)) : H' q = some (.tup xs) := g.tup h
theorem lk_go_dK (g : Go Tb H H') (h : H q = some (.dK kvs)) : H' q = some (.dK kvs) := g.1 q _ h fun ps z => by cases z
theorem lk_kp (k : Kp a H H') (n : q ≠ a) (h : H q = some u) : H' q = some u := k _ _ n h
theorem lk_kp_tup (k : Kp a H H') (st : StAt a c H) (h : H q = some (.tup xs)) : H' q = some (.tup xs) := k _ _ (fun z => by obtain ⟨_, _, _, e, _⟩ := st; rw [z, e] at h; cases h) h
theorem lk_kp_dK (k : Kp a H H') (st : StAt a c H) (h : H q = some (.dK kvs)) : H' q = some (.dK kvs) := k _ _ (fun z => by obtain ⟨_, _, _, e, _⟩ := st; rw [z, e] at h; cases h) h
theorem ne_st (hp : H p = none) (st : StAt a c H) : p ≠ a := fun e => by
  obtain ⟨_, _, _, e2, _⟩ := st
  rw [e, e2] at hp
  cases hp
theorem st_new (hp : H p = none) (st : StAt a c H) : StAt a c (upd H p o) := st.same (Same.new (Same.refl _) hp)
theorem st_same (s : Same H H') (st : StAt a c H) : StAt a c H' := st.same s
theorem st_go (g : Go Tb H H') (st : StAt a c H) : StAt a c H' := let ⟨x, m, n, e, h1, h2⟩ := st; ⟨x, m, n, g.lst e, h1, h2⟩
theorem fr_new (hp : H p = none) (s : Same H0 H) : Same H0 (L2.upd H p o) := Same.new s hp
theorem fr_same (s : Same H H') (t : Same H0 H) : Same H0 H' := t.trans s
theorem go_new (hp : H p = none) (s : Go Tb H0 H) : Go Tb H0 (upd H p o) := s.new hp
theorem go_same (s : Same H H') (t : Go Tb H0 H) : Go Tb H0 H' := t.trans (.same s)
theorem go_go (s : Go Tb H H') (t : Go Tb H0 H) : Go Tb H0 H' := t.trans s
theorem go_kp (k : Kp a H H') (n : H0 a = none) (st : StAt a c H) (t : Go Tb H0 H) : Go Tb H0 H' := t.kp n st k
theorem go_set (n : H0 a = none) (h : H a = some (.lst xs)) (t : Go Tb H0 H) : Go Tb H0 (L2.upd H a o) := by
  refine ⟨fun b u h1 h2 => ?_, fun tb p hp => ?_⟩
  · rw [upd_ne (ne_of_none h1 n)]
    exact t.1 b u h1 h2
  · obtain ⟨ps, e1, e2, e3⟩ := t.2 tb p hp
    refine ⟨ps, ?_, e2, fun pos cv hc => ?_⟩
    · rw [upd_ne (fun z => by rw [z, h] at e1; cases e1)]
      exact e1
    · obtain ⟨c', rfl, e5⟩ := e3 pos cv hc
      refine ⟨c', rfl, ?_⟩
      rw [upd_ne (fun z => by rw [z, h] at e5; unfold LamX.CodeO at e5; cases e5)]
      exact e5
theorem fr_set (n : H0 a = none) (t : Same H0 H) : Same H0 (L2.upd H a o) := fun b u h1 => by
  rw [upd_ne (ne_of_none h1 n)]
  exact t b u h1
theorem none_same (t : Same H0 H) (n : H a = none) : H0 a = none := by
  cases e : H0 a with
  | none => rfl
  | some u => rw [t _ _ e] at n; cases n
theorem kp_new (hp : H p = none) (s : Kp a H0 H) : Kp a H0 (L2.upd H p o) := s.new hp
theorem kp_same (s : Same H H') (t : Kp a H0 H) : Kp a H0 H' := t.trans (.of s)
theorem kp_kp (s : Kp a H H') (t : Kp a H0 H) : Kp a H0 H' := t.trans s
theorem kp_upd (s : Kp a H0 H) : Kp a H0 (L2.upd H a o) := s.upd
end
theorem Go.tabs {Tb : List (Addr × Str)} {H0 H : Hp} (g : Go Tb H0 H) (t : LamX.Tabs Tb H0) : LamX.Tabs Tb H := g.2 t
theorem tCut {t u : TS} {D : Ends} {σ : L2.St} {H : Hp} (R : L2.St → Hp → Prop) (key : ∀ σ' H', R σ' H' → u D σ' H') (go : (∀ σ' H', R σ' H' → u D σ' H') → t { D with nx := u D } σ H) : tSeq t u D σ H := go key
theorem tCutIf {c : TT} {x y u : TS} {D : Ends} {σ : L2.St} {H : Hp} (R : L2.St → Hp → Prop) (key : ∀ σ' H', R σ' H' → u D σ' H') (go : (∀ σ' H', R σ' H' → u D σ' H') → tIfS c x y { D with nx := u D } σ H) : tSeq (tIfS c x y) u D σ H := go key
theorem str_ext {x y : Str} (h : x.cps.toList = y.cps.toList) : x = y := by
  cases x
  cases y
  congr 1
  exact Array.toList_inj.mp h
/-! ### data -/
theorem lay_str {z : Str} (h : ∀ c ∈ z.cps.toList, c < 0x110000) : PyData.canLay0 (.str z) = true := by
  rw [PyData.canLay0]
  show z.cps.all (fun c => decide (c < 0x110000)) = true
  rw [Array.all_eq_true]
  intro i hi
  exact decide_eq_true (h _ (Array.getElem_mem_toList hi))
theorem lay_str8 {z : Str} (h : ∀ c ∈ z.cps.toList, c < 128) : PyData.canLay0 (.str z) = true := lay_str fun c hc => Nat.lt_trans (h c hc) (by decide)
theorem lay_sign {c : Nat} (h : c < 128) : PyData.canLay0 (.str ⟨#[c]⟩) = true := lay_str8 fun d hd => by rw [List.mem_singleton.mp hd]; exact h
theorem lay_l (xs : List PyData) : PyData.canLay0 (.list xs) = PyData.canLayAll0 xs := by rw [PyData.canLay0]
theorem lay_t (xs : List PyData) : PyData.canLay0 (.tuple xs) = PyData.canLayAll0 xs := by rw [PyData.canLay0]
theorem lay_i (i : Int) : PyData.canLay0 (.int i) = true := by rw [PyData.canLay0]
theorem lay_b (i : Bool) : PyData.canLay0 (.bool i) = true := by rw [PyData.canLay0]
theorem lay_n : PyData.canLay0 .none = true := by rw [PyData.canLay0]
theorem lay_c (x : PyData) (xs : List PyData) : PyData.canLayAll0 (x :: xs) = (PyData.canLay0 x && PyData.canLayAll0 xs) := by rw [PyData.canLayAll0]
theorem lay_e : PyData.canLayAll0 [] = true := by rw [PyData.canLayAll0]
theorem eqv_same {d : PyData} (h : SeqAt.shaped d = true) : PyData.eqv d d = true := SeqAt.eqv_refl d (SeqAt.canLay_of_shaped h)
end Mx

namespace Mx
open PySem PySem.Spec PyProof.Rows L2
/-! ### enumerate of a tuple -/
theorem meets_enumT (l : Addr) (items : Array Value) :
    Meets (Builtin.«enumerate.__new__» ⟨[.type "enumerate", .ref l], []⟩) (fun _ R s => s.heap.IsTuple l items ∧
      R (.ok (.ret (.ref (s.heap.push { cls := .type "tuple_iterator", data := .fields #[.ref l, .int 0 0] }).objs.size)))
        { s with heap := (s.heap.push { cls := .type "tuple_iterator", data := .fields #[.ref l, .int 0 0] }).push { cls := .type "enumerate", data := .fields #[.none, .bool false, .ref s.heap.objs.size, rawInt 0, .none, .none] } }) :=
  .of_wp fun prog w A R s h => by
    obtain ⟨hp, g, d, tk, os⟩ := s; obtain ⟨hL, h⟩ := h
    have hsub := sub_enumerate
    obtain ⟨o, ho, hc, n, hd⟩ := id hL
    wp_walk using AutoSeq1.wpAny_loadPart' ho
    refine wpAny_stack_any fun st => wpAny_pure ?_
    split
    · rename_i c _ _ _ _ _
      cases (c == Value.type "enumerate")
      · wp_walk using AutoSeq1.wpAny_loadPart' ho, wpAny_pyIter_tuple hL
        exact ⟨_, rfl, h⟩
      · wp_walk using AutoSeq1.wpAny_loadPart' ho, wpAny_pyIter_tuple hL
        exact ⟨_, rfl, h⟩
    · wp_walk using AutoSeq1.wpAny_loadPart' ho, wpAny_pyIter_tuple hL
      exact ⟨_, rfl, h⟩
theorem call_enumT {prog : Program} {w : World} {A : Around} {E : Value → Shared → Prop} {s : Shared} {l : Addr} {items : Array Value} {Q : Value → Shared → Prop} (hL : s.heap.IsTuple l items)
    (h : ∀ h', IsEnum h' (s.heap.objs.size + 1) s.heap.objs.size 0 .none → h'.IsTupleIter s.heap.objs.size l 0 → h'.objs.size = s.heap.objs.size + 2 →
      (∀ b o, s.heap.get? b = some o → h'.get? b = some o) → Q (.ref (s.heap.objs.size + 1)) { s with heap := h' }) :
    wpAny (model prog w) A (call (.type "enumerate") [.ref l]) Q E s := by
  refine callType_new F.called_enumerate (by decide) (F.typeCall_enumerate_1 _) (F.newCall_enumerate_1 _) (fun obj => F.args_object_init_2 obj _) F.entry_enumerate_new
    (meets_enumT l items) ⟨hL, ?_⟩
  have hz : (s.heap.push { cls := .type "tuple_iterator", data := .fields #[.ref l, .int 0 0] }).objs.size = s.heap.objs.size + 1 := Heap.size_push ..
  show _ ∧ _
  rw [hz]
  have he : IsEnum ((s.heap.push { cls := .type "tuple_iterator", data := .fields #[.ref l, .int 0 0] }).push
      { cls := .type "enumerate", data := .fields #[.none, .bool false, .ref s.heap.objs.size, rawInt 0, .none, .none] }) (s.heap.objs.size + 1) s.heap.objs.size 0 .none := by
    have := Heap.get?_push_size (s.heap.push { cls := .type "tuple_iterator", data := .fields #[.ref l, .int 0 0] })
      (o := { cls := .type "enumerate", data := .fields #[.none, .bool false, .ref s.heap.objs.size, rawInt 0, .none, .none] }) rfl
    rw [hz] at this; exact this
  refine ⟨⟨_, he, rfl⟩, h _ he ⟨_, Heap.get?_push_of_some _ (Heap.get?_push_size _ rfl), rfl, rfl⟩ (by rw [Heap.size_push, hz]) fun b o x => Heap.get?_push_of_some _ (Heap.get?_push_of_some _ x)⟩
def Itu (K : PySem.W.Frag) (a : Addr) : It :=
  ⟨fun i H => ∃ (xs : List V) (x : V), SqT K H a xs ∧ xs[i]? = some x, fun i H v H' => ∃ T x, v = .ref T ∧ H T = none ∧ H' = upd H T (.tup [.int (i : Nat), x]) ∧ ∀ xs, SqT K H a xs → xs[i]? = some x, fun i H => ∃ xs : List V, SqT K H a xs ∧ xs.length = i⟩
theorem turn_enumT {P : Program} {w : World} {K : PySem.W.Frag} {elts : List Expr} {kk : Nat} {tpos : Pos} (a e it : Addr) :
    Turn P w K (.Tuple elts kk tpos) (Itu K a) [e, it] e (fun i h => (∃ old, IsEnum h e it ((i : Nat) : Int) old) ∧ h.IsTupleIter it a i ∧ e ≠ it) where
  mem := by simp
  obj := fun i h st b hb => by
    obtain ⟨⟨old, he⟩, ⟨o, ho, hc, hd⟩, _⟩ := st
    have e' : b = e ∨ b = it := by simpa using hb
    rcases e' with z | z
    · rw [z]; exact ⟨_, he, fun v q => nomatch q⟩
    · rw [z]; exact ⟨o, ho, fun v q => by rw [hd] at q; cases q⟩
  keep := fun i h h' st k => let ⟨⟨old, he⟩, hi, hne⟩ := st; ⟨⟨old, k e (by simp) _ he⟩, hi.at fun o q => k it (by simp) o q, hne⟩
  item := by
    intro X hP hw hK hc i pins s σ H E I hf st hg
    subst hP hw hK
    obtain ⟨⟨old, he⟩, hit, hne⟩ := st
    obtain ⟨xs, x, hq, hx⟩ := hg
    obtain ⟨its, rv, p, hz⟩ := I.tuple hq
    have p' : s.heap.IsTuple a its.toArray := p
    obtain ⟨u, hu, ru⟩ := rv.get hx
    have hel : e < s.heap.objs.size := Heap.lt_size he
    have hil : it < s.heap.objs.size := by obtain ⟨_, q, _⟩ := hit; exact Heap.lt_size q
    have hea : e ≠ a := fun z => by
      obtain ⟨o, ho, hcl, _⟩ := p'
      have he' := he
      unfold IsEnum at he'
      rw [z, ho] at he'
      obtain rfl := Option.some.inj he'
      injection hcl with hcl; exact absurd hcl (by decide)
    have hai : a ≠ it := fun z => by
      obtain ⟨o, ho, hcl, _⟩ := p'
      obtain ⟨o2, ho2, hc2, _⟩ := hit
      rw [← z, ho] at ho2
      obtain rfl := Option.some.inj ho2
      rw [hcl] at hc2
      injection hc2 with hc2; exact absurd hc2 (by decide)
    have D := Draws.tuple (prog := X.prog) (w := X.w) (A := X.A.in1) (I.ok.hd hc) it a hai its.toArray
    have hi : i < its.toArray.size := by
      have := (List.getElem?_eq_some_iff.mp hu).1
      simpa using this
    refine wpAny_pyNext_enum_itemD D he ⟨hit, p'⟩ hi hne (by simp [hne, hea]) fun z h' tk hz2 ho hst hT hsz hk => ?_
    have ezu : z = u := by
      have hz3 : its[i]? = some z := by simpa using hz2
      exact Option.some.inj (hz3.symm.trans hu)
    subst ezu
    refine ⟨_, rfl, wpAny_letOwnedTupleGo_enum (s := { s with heap := h', toks := tk + 1 }) ho fun h'' he' sb => ?_⟩
    have hT2 : h''.get? s.heap.objs.size = some { cls := .type "tuple", data := .seq #[.int i tk, z] } := (sb.2 _ (Nat.ne_of_gt hel)).trans hT
    have new : ObjOk X.prog X.w (upd H s.heap.objs.size (.tup [.int (i : Nat), x])) h'' s.heap.objs.size (.tup [.int (i : Nat), x]) :=
      ⟨by show 2 ≤ sizeLine; decide, [.int i tk, z], .cons ⟨_, rfl⟩ (.cons ru .nil), ⟨_, hT2, rfl, _, rfl⟩⟩
    have I1 : Inv X pins σ (upd H s.heap.objs.size (.tup [.int (i : Nat), x])) { s with heap := h'', toks := tk + 1 } :=
      I.turnedNew (ch := [e, it]) (fun b ob hb q => (sb.2 b (fun z => hb (by simp [z]))).trans (hk b ob (fun z => hb (by simp [z])) (fun z => hb (by simp [z])) q)) hf (Nat.le_refl _) new
    refine ⟨.ref s.heap.objs.size, _, I1, rfl, ⟨_, x, rfl, I.hok.fresh (Nat.le_refl _), rfl, fun ys hy => by rw [I.tuple_inj hy hq]; exact hx⟩, ⟨⟨z, ?_⟩, hst.1.at fun o q => (sb.2 it (Ne.symm hne)).trans q, hne⟩, fun b hb => ?_⟩
    · have e1 : ((i + 1 : Nat) : Int) = (i : Int) + 1 := by omega
      rw [e1]; exact he'
    · have hb' : b < s.heap.objs.size := by
        have e' : b = e ∨ b = it := by simpa using hb
        rcases e' with z | z
        · rw [z]; exact hel
        · rw [z]; exact hil
      rw [upd_ne (Nat.ne_of_lt hb')]
      exact (hf b hb).1
  done := by
    intro X hP hw hK hc i pins s σ H E I hf st hg
    subst hP hw hK
    obtain ⟨⟨old, he⟩, hit, hne⟩ := st
    obtain ⟨xs, hq, hx⟩ := hg
    obtain ⟨its, rv, p, hz⟩ := I.tuple hq
    have p' : s.heap.IsTuple a its.toArray := p
    have hai : a ≠ it := fun z => by
      obtain ⟨o, ho, hcl, _⟩ := p'
      obtain ⟨o2, ho2, hc2, _⟩ := hit
      rw [← z, ho] at ho2
      obtain rfl := Option.some.inj ho2
      rw [hcl] at hc2
      injection hc2 with hc2; exact absurd hc2 (by decide)
    have D := Draws.tuple (prog := X.prog) (w := X.w) (A := X.A.in1) (I.ok.hd hc) it a hai its.toArray
    obtain ⟨f0, f1, f2, f3, f4, f5⟩ := hf it (by simp)
    have hl := rv.length
    have hi : its.toArray.size = i := by rw [List.size_toArray, ← hl, hx]
    subst hi
    exact wpAny_pyNext_enum_endD D he ⟨hit, p'⟩ fun h' eb => ⟨rfl, I.turned (t' := s.toks) (fun b o hb q => eb b o hb q) f0 f1 f3 f4 f5⟩
  self := fun A i s Q E st h => let ⟨⟨_, he⟩, _⟩ := st; wpAny_pyIter_enum he h
def iEnumT (K : PySem.W.Frag) (ta : TA) : TI := fun σ H R => ta σ H fun vs H1 => ∃ a xs, vs = [.ref a] ∧ SqT K H1 a xs ∧ R (Itu K a) H1
theorem pi_enumTup {X : Cx} {e : Expr} {ta : TA} {p pos tpos : Pos} {elts : List Expr} {kk : Nat} (hg : Gl X "enumerate") (hm : X.mg "enumerate" = none) (ha : PA X [e] ta) (hs : starEach [e] X.env = [(false, eval e X.env)] := by rfl) :
    PI X (.Tuple elts kk tpos) (.Call (.Name "enumerate" p) [e] [] pos) (iEnumT X.K ta) := by
  refine ⟨fun pins s σ H R I h => ?_⟩
  refine Call_ (ld_blt I hg hm boot_enumerate (PyProof.Rows.callWith_type1 (thn (ha.run pos pins s σ H _ I h) fun us s1 ⟨vs, H1, I1, r1, q1⟩ => ?_) hs rfl))
  obtain ⟨a, xs, ex, hq, q⟩ := q1
  subst ex
  cases r1 with
  | cons r rr =>
    cases rr
    cases r
    obtain ⟨its, rv, p', hz⟩ := I1.tuple hq
    have p2 : s1.heap.IsTuple a its.toArray := p'
    refine call_enumT p2 fun h' he hit hsz hk => wpAny_pyIter_enum he ?_
    have I2 : Inv X pins σ H1 { s1 with heap := h' } := I1.kept (t' := s1.toks) hk
    refine ⟨s1.heap.objs.size + 1, [s1.heap.objs.size + 1, s1.heap.objs.size], _, _, H1, rfl, I2, turn_enumT a (s1.heap.objs.size + 1) s1.heap.objs.size, ⟨⟨.none, he⟩, hit, Nat.succ_ne_self _⟩, fun b hb => ?_, q⟩
    have e' : b = s1.heap.objs.size + 1 ∨ b = s1.heap.objs.size := by simpa using hb
    have hle : s1.heap.objs.size ≤ b := by
      rcases e' with z | z
      · rw [z]; exact Nat.le_add_right _ _
      · rw [z]; exact Nat.le_refl _
    exact I1.fpOk hle (I1.hok.fresh hle)
/-- for i, x in enumerate(t): a tuple that stands still -/
theorem for_eu {K : PySem.W.Frag} {a : Addr} {xs : List V} {g : TG} {tb : TS} {D : Ends} {σ : L2.St} {H : Hp} (Pv : Nat → L2.St → Hp → Prop) (h0 : Pv 0 σ H) (hl : ∀ i σ H, Pv i σ H → SqT K H a xs)
    (hs : ∀ (i : Nat) (x : V) (T : Addr) σ H, xs[i]? = some x → H T = none → Pv i σ H → g (.ref T) σ (upd H T (.tup [.int (i : Nat), x])) fun σ2 H2 => tb { D with nx := Pv (i + 1), ct := Pv (i + 1), bk := D.nx } σ2 H2)
    (hd : ∀ σ H, Pv xs.length σ H → D.nx σ H) :
    ∃ W : Nat → Nat → L2.St → Hp → Prop, (∃ m, W 0 m σ H) ∧ ∀ i m σ H, W i m σ H →
      ((Itu K a).stop i H ∧ D.nx σ H) ∨ ((Itu K a).go i H ∧ ∃ N : L2.St → Hp → Prop, (∀ σ' H', N σ' H' → ∃ m', m' < m ∧ W (i + 1) m' σ' H') ∧ ∀ v H', (Itu K a).yld i H v H' → g v σ H' fun σ2 H2 => tb { D with nx := N, ct := N, bk := D.nx } σ2 H2) := by
  refine ⟨fun i m σ H => m = xs.length - i ∧ i ≤ xs.length ∧ Pv i σ H, ⟨xs.length, by simp, Nat.zero_le _, h0⟩, ?_⟩
  rintro i m σ H ⟨rfl, hi, p⟩
  have hl' := hl i σ H p
  by_cases hlt : i < xs.length
  · have e : xs[i]? = some xs[i] := List.getElem?_eq_getElem hlt
    refine .inr ⟨⟨xs, xs[i], hl', e⟩, Pv (i + 1), fun σ' H' p' => ⟨xs.length - (i + 1), by omega, rfl, hlt, p'⟩, fun v H' y => ?_⟩
    obtain ⟨T, x, rfl, hT, rfl, hx⟩ := y
    exact hs i x T σ H (hx xs hl') hT p
  · have e : i = xs.length := by omega
    subst e
    exact .inl ⟨⟨xs, hl', rfl⟩, hd σ H p⟩
end Mx

namespace Mx
open PySem PySem.Spec PyProof.Rows L2
/-! ### data with dicts, read and shown -/
mutual
inductive Rs (h : Heap) : Value → PyData → Prop
  | none : Rs h .none .none
  | bool (b) : Rs h (.bool b) (.bool b)
  | int (i t) : Rs h (.int i t) (.int i)
  | str (x t) : Rs h (.str x t) (.str x)
  | list {a : Addr} {o : Obj} {vs : Array Value} {n : Nat} {xs : List PyData} : h.get? a = some o → o.cls = .type "list" → o.data = .seq vs n → RsAll h vs.toList xs → Rs h (.ref a) (.list xs)
  | tuple {a : Addr} {o : Obj} {vs : Array Value} {n : Nat} {xs : List PyData} : h.get? a = some o → o.cls = .type "tuple" → o.data = .seq vs n → RsAll h vs.toList xs → Rs h (.ref a) (.tuple xs)
  | dict {a : Addr} {o : Obj} {es : Array DictEntry} {n : Nat} {kvs : List (PyData × PyData)} : h.get? a = some o → o.cls = .type "dict" → o.data = .dict es n → (a == sysModules) = false → RsAll h (es.toList.map (·.key)) (kvs.map (·.1)) →
      RsAll h (es.toList.map (·.val)) (kvs.map (·.2)) → Rs h (.ref a) (.dict kvs)
inductive RsAll (h : Heap) : List Value → List PyData → Prop
  | nil : RsAll h [] []
  | cons {v : Value} {vs : List Value} {d : PyData} {ds : List PyData} : Rs h v d → RsAll h vs ds → RsAll h (v :: vs) (d :: ds)
end
mutual
theorem Rs.reads {h : Heap} : ∀ {v : Value} {d : PyData}, Rs h v d → ∃ as, Reads h v d as
  | _, _, .none => ⟨_, .none⟩
  | _, _, .bool b => ⟨_, .bool b⟩
  | _, _, .int i t => ⟨_, .int i t⟩
  | _, _, .str x t => ⟨_, .str x t⟩
  | _, _, .list a b c d => let ⟨_, r⟩ := RsAll.reads d; ⟨_, .list a b c r⟩
  | _, _, .tuple a b c d => let ⟨_, r⟩ := RsAll.reads d; ⟨_, .tuple a b c r⟩
  | _, _, .dict a b c _ d e => let ⟨_, r⟩ := RsAll.reads d; let ⟨_, q⟩ := RsAll.reads e; ⟨_, .dict a b c r q⟩
theorem RsAll.reads {h : Heap} : ∀ {vs : List Value} {ds : List PyData}, RsAll h vs ds → ∃ as, ReadsAll h vs ds as
  | _, _, .nil => ⟨_, .nil⟩
  | _, _, .cons a b => let ⟨_, r⟩ := Rs.reads a; let ⟨_, q⟩ := RsAll.reads b; ⟨_, .cons r q⟩
end
section
variable {prog : Program} {w : World} {h₀ : Heap}
mutual
theorem Rs.shown : ∀ {v : Value} {d : PyData}, Rs h₀ v d → d.showable = true → d.shown.length ≤ sizeLine → ∃ bs, ReadAtMost h₀ d.depth bs ∧ ReprK prog w bs h₀ d.depth v d.shown
  | _, _, .none, _, _ => ⟨[], (fun _ h => nomatch h), by simp only [PyData.shown]; exact .of_is ReprIs.none _ _ _⟩
  | _, _, .bool b, _, _ => ⟨[], (fun _ h => nomatch h), by simp only [PyData.shown]; exact .of_is (ReprIs.bool b) _ _ _⟩
  | _, _, .int i t, hs, _ => ⟨[], (fun _ h => nomatch h), by simp only [PyData.shown]; exact .of_is (ReprIs.int t (by simpa [PyData.showable] using hs)) _ _ _⟩
  | _, _, .str x t, _, hz => ⟨[], (fun _ h => nomatch h), by simp only [PyData.shown]; exact .of_is (ReprIs.str x t (by simpa only [PyData.shown] using hz)) _ _ _⟩
  | _, _, .list (a := a) (vs := vs) (xs := xs) h1 h2 h3 h4, hs, hz => by
    have hz' : (listText (PyData.shownAll xs)).length ≤ sizeLine := by simpa only [PyData.shown] using hz
    obtain ⟨bs, hb, hk⟩ := RsAll.shown h4 (by simpa [PyData.showable] using hs) (fun t ht => Nat.le_trans (listText_mem_le ht) hz')
    obtain ⟨as, r⟩ := Rs.reads (.list h1 h2 h3 h4)
    have hna : a ∉ bs := not_mem_of_deeper r (by simp only [PyData.depth]; omega) hb
    refine ⟨a :: bs, ReadAtMost.cons r (by simp only [PyData.depth]; omega) hb, ?_⟩
    simp only [PyData.depth, PyData.shown]
    obtain ⟨l⟩ := vs
    cases l with
    | nil =>
      have h4' : RsAll h₀ [] xs := h4
      cases h4'
      simp only [PyData.shownAll, listText_nil]
      exact ReprK.listEmpty h1 h2 h3
    | cons x l => exact ReprK.list h1 h2 h3 hna (by simpa using hk.length_eq) (fun i y e => hk.item i y (by simpa using e))
  | _, _, .tuple (a := a) (xs := xs) h1 h2 h3 h4, hs, hz => by
    have hz' : (tupleText (PyData.shownAll xs)).length ≤ sizeLine := by simpa only [PyData.shown] using hz
    obtain ⟨bs, hb, hk⟩ := RsAll.shown h4 (by simpa [PyData.showable] using hs) (fun t ht => Nat.le_trans (tupleText_mem_le ht) hz')
    obtain ⟨as, r⟩ := Rs.reads (.tuple h1 h2 h3 h4)
    have hna : a ∉ bs := not_mem_of_deeper r (by simp only [PyData.depth]; omega) hb
    refine ⟨a :: bs, ReadAtMost.cons r (by simp only [PyData.depth]; omega) hb, ?_⟩
    simp only [PyData.depth, PyData.shown]
    exact ReprK.tuple h1 h2 h3 hna hk
  | _, _, .dict (a := a) (es := es) (kvs := kvs) h1 h2 h3 h6 h4 h5, hs, hz => by
    have hz' : (dictText (PyData.shownKv kvs)).length ≤ sizeLine := by simpa only [PyData.shown] using hz
    obtain ⟨hs1, hs2⟩ := PyData.showableKv_split kvs (by simpa [PyData.showable] using hs)
    obtain ⟨b1, hb1, k1⟩ := RsAll.shown h4 hs1 (fun t ht => let ⟨p, hp, hl⟩ := PyData.shownKv_key_le kvs t ht; Nat.le_trans hl (Nat.le_trans (dictText_mem_le hp) hz'))
    obtain ⟨b2, hb2, k2⟩ := RsAll.shown h5 hs2 (fun t ht => let ⟨p, hp, hl⟩ := PyData.shownKv_val_le kvs t ht; Nat.le_trans hl (Nat.le_trans (dictText_mem_le hp) hz'))
    obtain ⟨as, r⟩ := Rs.reads (.dict h1 h2 h3 h6 h4 h5)
    have hb : ReadAtMost h₀ (PyData.depthKv kvs) (b1 ++ b2) := (hb1.mono (PyData.depthAll_keys_le kvs)).append (hb2.mono (PyData.depthAll_vals_le kvs))
    have hna : a ∉ b1 ++ b2 := not_mem_of_deeper r (by simp only [PyData.depth]; omega) hb
    refine ⟨a :: (b1 ++ b2), ReadAtMost.cons r (by simp only [PyData.depth]; omega) hb, ?_⟩
    simp only [PyData.depth, PyData.shown, PyData.shownKv_eq]
    exact ReprK.dict h1 h2 h3 h6 hna (ReprEntriesK.of_two es.toList _ _
      (k1.more_le (fun b hb => List.mem_append_left _ hb) (PyData.depthAll_keys_le kvs)) (k2.more_le (fun b hb => List.mem_append_right _ hb) (PyData.depthAll_vals_le kvs)))
theorem RsAll.shown : ∀ {vs : List Value} {ds : List PyData}, RsAll h₀ vs ds → PyData.showableAll ds = true → (∀ t ∈ PyData.shownAll ds, t.length ≤ sizeLine) →
    ∃ bs, ReadAtMost h₀ (PyData.depthAll ds) bs ∧ ReprAllK prog w bs h₀ (PyData.depthAll ds) vs (PyData.shownAll ds)
  | _, _, .nil, _, _ => ⟨[], (fun _ h => nomatch h), by simp only [PyData.shownAll]; exact .nil⟩
  | _, _, .cons (d := d) (ds := ds) r rs, hs, hz => by
    have hs' : d.showable = true ∧ PyData.showableAll ds = true := by simpa [PyData.showableAll] using hs
    obtain ⟨b1, hb1, k1⟩ := Rs.shown r hs'.1 (hz _ (by simp only [PyData.shownAll]; exact List.mem_cons_self ..))
    obtain ⟨b2, hb2, k2⟩ := RsAll.shown rs hs'.2 (fun t ht => hz t (by simp only [PyData.shownAll]; exact List.mem_cons_of_mem _ ht))
    refine ⟨b1 ++ b2, ?_, ?_⟩
    · intro b hm
      simp only [PyData.depthAll]
      rcases List.mem_append.mp hm with hm | hm
      · obtain ⟨d', as', r', hd'⟩ := hb1 b hm
        exact ⟨d', as', r', Nat.le_trans hd' (Nat.le_max_left _ _)⟩
      · obtain ⟨d', as', r', hd'⟩ := hb2 b hm
        exact ⟨d', as', r', Nat.le_trans hd' (Nat.le_max_right _ _)⟩
    · simp only [PyData.depthAll, PyData.shownAll]
      exact .cons ((k1.more fun b hb => List.mem_append_left _ hb).level_le (Nat.le_max_left _ _)) (k2.more_le (fun b hb => List.mem_append_right _ hb) (Nat.le_max_right _ _))
end
/-- repr of a list of data -/
theorem repr_list {a : Addr} {xs : List PyData} {A : Around} {E : Value → Shared → Prop} {s : Shared} {Q : Value → Shared → Prop} (r : Rs s.heap (.ref a) (.list xs)) (hs : (PyData.list xs).showable = true) (hg : A.guards = some []) (hu : A.units + ((PyData.list xs).depth + 1) < cLine)
    (hQ : ∀ h' u tk, (∀ b o, s.heap.get? b = some o → h'.get? b = some o) → Q (.str (PyData.list xs).shown u) { s with heap := h', toks := tk })
    (hsz : (PyData.list xs).shown.length ≤ sizeLine) : wpAny (model prog w) A (call (.builtin "repr") [.ref a]) Q E s := by
  generalize hd : PyData.list xs = d at r hs hu hQ hsz
  cases r with
  | tuple => cases hd
  | dict => cases hd
  | list h1 h2 h3 h4 =>
    rename_i o vs n xs'
    cases hd
    have hz' : (listText (PyData.shownAll xs)).length ≤ sizeLine := by simpa only [PyData.shown] using hsz
    obtain ⟨bs, hb, hk⟩ := RsAll.shown (prog := prog) (w := w) h4 (by simpa [PyData.showable] using hs) (fun t ht => Nat.le_trans (listText_mem_le ht) hz')
    obtain ⟨as, r⟩ := Rs.reads (.list h1 h2 h3 h4)
    have hna : a ∉ bs := not_mem_of_deeper r (by simp only [PyData.depth]; omega) hb
    refine call_repr_slot (by omega) ⟨o, h1, h2⟩ F.slot_list_repr.toG ?_
    have hu' : A.in1.units + (PyData.list xs).depth < cLine := by show A.units + 1 + _ < cLine; omega
    simp only [PyData.depth] at hu'
    have hQ' : ∀ h' u tk, (∀ b o, s.heap.get? b = some o → h'.get? b = some o) → ∃ x t, Value.str (PyData.list xs).shown u = .str x t ∧ Q (.str (PyData.list xs).shown u) { s with heap := h', toks := tk } := fun h' u tk k => ⟨_, _, rfl, hQ h' u tk k⟩
    simp only [PyData.shown] at hQ'
    obtain ⟨l⟩ := vs
    cases l with
    | nil =>
      have h4' : RsAll s.heap [] xs := h4
      cases h4'
      simp only [PyData.shownAll, listText_nil] at hQ'
      exact call_list_repr_empty ⟨o, h1, h2⟩ h1 h3 (hQ' s.heap _ _ fun _ _ e => e)
    | cons x l => exact call_list_reprK h1 h2 h3 hna (by simpa using hk.length_eq) (fun i y e => hk.item i y (by simpa using e)) hg (fun b _ => Clear.nil b) hu' (fun _ _ e => e) hQ' hz'
end
/-! ### the same over the abstract heap -/
def keyD : Key → PyData
  | .inl i => .int i
  | .inr x => .str x
mutual
inductive Dx (K : PySem.W.Frag) (H : Hp) : V → PyData → Prop
  | non : Dx K H .non .none
  | bl (b : Bool) : Dx K H (.bl b) (.bool b)
  | int (i : Int) : Dx K H (.int i) (.int i)
  | str (x : Str) : Dx K H (.str x) (.str x)
  | lst {a : Addr} {xs : List V} {ds : List PyData} : SqL K H a xs → DxAll K H xs ds → Dx K H (.ref a) (.list ds)
  | tup {a : Addr} {xs : List V} {ds : List PyData} : SqT K H a xs → DxAll K H xs ds → Dx K H (.ref a) (.tuple ds)
  | dct {a : Addr} {kvs : List (Key × V)} {ds : List (PyData × PyData)} : Rd H a (.dK kvs) → DxKv K H kvs ds → Dx K H (.ref a) (.dict ds)
inductive DxAll (K : PySem.W.Frag) (H : Hp) : List V → List PyData → Prop
  | nil : DxAll K H [] []
  | cons {v : V} {vs : List V} {d : PyData} {ds : List PyData} : Dx K H v d → DxAll K H vs ds → DxAll K H (v :: vs) (d :: ds)
inductive DxKv (K : PySem.W.Frag) (H : Hp) : List (Key × V) → List (PyData × PyData) → Prop
  | nil : DxKv K H [] []
  | cons {k : Key} {v : V} {vs : List (Key × V)} {d : PyData} {ds : List (PyData × PyData)} : Dx K H v d → DxKv K H vs ds → DxKv K H ((k, v) :: vs) ((keyD k, d) :: ds)
end
theorem rs_keys {P : Program} {w : World} {h : Heap} {K : PySem.W.Frag} {H : Hp} : ∀ {kvs : List (Key × V)} {ds : List (PyData × PyData)} {es : List DictEntry} {vs : List (Key × Value)}, DxKv K H kvs ds → Pairs (mixKind P w) es vs → KV kvs vs → RsAll h (es.map (·.key)) (ds.map (·.1))
  | _, _, _, _, .nil, p, r => by cases r; cases p; exact .nil
  | _, _, _, _, .cons (k := k) _ q, p, r => by
    cases r with
    | cons r1 r2 =>
      cases p with
      | cons p1 p2 p3 =>
        refine .cons ?_ (rs_keys q p3 r2)
        have hk := p1
        rw [← r1.1] at hk
        rcases keyIs_shape hk with ⟨i, t, e1, e2⟩ | ⟨x, t, e1, e2⟩
        · dsimp only at e1 e2 ⊢
          rw [e2, e1]
          exact .int i t
        · dsimp only at e1 e2 ⊢
          rw [e2, e1]
          exact .str x t
section
variable {X : Cx} {pins : List (Addr × Obj)} {σ : L2.St} {H : Hp} {s : Shared}
mutual
theorem Dx.rs (I : Inv X pins σ H s) : ∀ {v : V} {d : PyData} {u : Value}, Dx X.K H v d → RelV v u → Rs s.heap u d
  | _, _, _, .non, r => by cases r; exact .none
  | _, _, _, .bl b, r => by cases r; exact .bool b
  | _, _, _, .int i, r => by obtain ⟨t, rfl⟩ := r; exact .int i t
  | _, _, _, .str x, r => by obtain ⟨t, rfl⟩ := r; exact .str x t
  | _, _, _, .lst hs ha, r => by
    cases r
    obtain ⟨its, rv, ⟨o, n, ho, hc, _, hd⟩, _⟩ := I.list hs
    exact .list ho hc hd (DxAll.rs I ha rv)
  | _, _, _, .tup hs ha, r => by
    cases r
    obtain ⟨its, rv, ⟨o, ho, hc, n, hd⟩, _⟩ := I.tuple hs
    exact .tuple ho hc hd (DxAll.rs I ha rv)
  | _, _, _, .dct hs ha, r => by
    cases r
    obtain ⟨hz, hsm, vs, rel, o, es, ep, ho, hx, hd, _, ps, _⟩ := dk_rd I.hok hs
    exact .dict ho hx.1 hd hsm (rs_keys ha ps rel) (DxKv.rs I ha rel ps)
theorem DxAll.rs (I : Inv X pins σ H s) : ∀ {vs : List V} {ds : List PyData} {us : List Value}, DxAll X.K H vs ds → Vals vs us → RsAll s.heap us ds
  | _, _, _, .nil, r => by cases r; exact .nil
  | _, _, _, .cons h1 h2, r => by
    cases r with
    | cons r1 r2 => exact .cons (Dx.rs I h1 r1) (DxAll.rs I h2 r2)
theorem DxKv.rs (I : Inv X pins σ H s) : ∀ {kvs : List (Key × V)} {ds : List (PyData × PyData)} {vs : List (Key × Value)} {es : List DictEntry}, DxKv X.K H kvs ds → KV kvs vs → Pairs (mixKind X.prog X.w) es vs → RsAll s.heap (es.map (·.val)) (ds.map (·.2))
  | _, _, _, _, .nil, r, p => by cases r; cases p; exact .nil
  | _, _, _, _, .cons h1 h2, r, p => by
    cases r with
    | cons r1 r2 =>
      cases p with
      | cons p1 p2 p3 => exact .cons (by dsimp only; rw [p2]; exact Dx.rs I h1 r1.2) (DxKv.rs I h2 r2 p3)
end
end
def rReprX (K : PySem.W.Frag) : List V → Hp → VK → Prop := fun xs H Q => ∃ (a : Addr) (ds : List PyData), xs = [.ref a] ∧ Dx K H (.ref a) (.list ds) ∧ (PyData.list ds).showable = true ∧ (PyData.list ds).depth ≤ 60 ∧ (PyData.list ds).shown.length ≤ sizeLine ∧ Q (.str (PyData.list ds).shown) H
theorem call_reprX {X : Cx} {k : Nat} (hr : RmG k X.A) : CallR X (.builtin "repr") (rReprX X.K) := by
  intro pins s σ H vs us Q I r h
  obtain ⟨a, ds, rfl, hd, h1, h3, h4, q⟩ := h
  cases r with
  | cons ra rn =>
    cases rn
    cases ra
    have hu := hr.r.un
    refine repr_list (Dx.rs I hd rfl) h1 hr.g (by omega) (fun h' u tk hk => ?_) h4
    exact ⟨.str (PyData.list ds).shown, H, I.kept hk, ⟨u, rfl⟩, q⟩
/-! ### frames -/
section
variable {Tb : List (Addr × Str)} {K : PySem.W.Frag} {H H' : Hp}
theorem rd_ext {a : Addr} {u : HO} (g : LamX.ExtN H H') (n : ∀ ps, u ≠ .tbl ps) (h : Rd H a u) : Rd H' a u := by
  rcases h with h | ⟨o, h⟩
  · exact .inl (g _ _ h n)
  · exact .inr ⟨o, g _ _ h fun ps z => by cases z⟩
theorem sql_ext {a : Addr} {xs : List V} (g : LamX.ExtN H H') (h : SqL K H a xs) : SqL K H' a xs := h.imp (rd_ext g fun ps z => by cases z) id
theorem sqt_ext {a : Addr} {xs : List V} (g : LamX.ExtN H H') (h : SqT K H a xs) : SqT K H' a xs := h.imp (rd_ext g fun ps z => by cases z) id
mutual
theorem Dx.ext (g : LamX.ExtN H H') : ∀ {v : V} {d : PyData}, Dx K H v d → Dx K H' v d
  | _, _, .non => .non
  | _, _, .bl b => .bl b
  | _, _, .int i => .int i
  | _, _, .str x => .str x
  | _, _, .lst h r => .lst (sql_ext g h) (DxAll.ext g r)
  | _, _, .tup h r => .tup (sqt_ext g h) (DxAll.ext g r)
  | _, _, .dct h r => .dct (rd_ext g (fun ps z => by cases z) h) (DxKv.ext g r)
theorem DxAll.ext (g : LamX.ExtN H H') : ∀ {v : List V} {d : List PyData}, DxAll K H v d → DxAll K H' v d
  | _, _, .nil => .nil
  | _, _, .cons a b => .cons (Dx.ext g a) (DxAll.ext g b)
theorem DxKv.ext (g : LamX.ExtN H H') : ∀ {v : List (Key × V)} {d : List (PyData × PyData)}, DxKv K H v d → DxKv K H' v d
  | _, _, .nil => .nil
  | _, _, .cons a b => .cons (Dx.ext g a) (DxKv.ext g b)
end
mutual
theorem Dp.ext (g : LamX.ExtN H H') : ∀ {v : V} {d : PyData}, Dp K H v d → Dp K H' v d
  | _, _, .non => .non
  | _, _, .bl b => .bl b
  | _, _, .int i => .int i
  | _, _, .str x => .str x
  | _, _, .lst h r => .lst (sql_ext g h) (DpAll.ext g r)
  | _, _, .tup h r => .tup (sqt_ext g h) (DpAll.ext g r)
theorem DpAll.ext (g : LamX.ExtN H H') : ∀ {v : List V} {d : List PyData}, DpAll K H v d → DpAll K H' v d
  | _, _, .nil => .nil
  | _, _, .cons a b => .cons (Dp.ext g a) (DpAll.ext g b)
end
mutual
theorem Dx.dp : ∀ {v : V} {d : PyData}, Dp K H v d → Dx K H v d
  | _, _, .non => .non
  | _, _, .bl b => .bl b
  | _, _, .int i => .int i
  | _, _, .str x => .str x
  | _, _, .lst h r => .lst h (DxAll.dp r)
  | _, _, .tup h r => .tup h (DxAll.dp r)
theorem DxAll.dp : ∀ {v : List V} {d : List PyData}, DpAll K H v d → DxAll K H v d
  | _, _, .nil => .nil
  | _, _, .cons a b => .cons (Dx.dp a) (DxAll.dp b)
end
theorem dp_go {v : V} {d : PyData} (h : Dp K H v d) (g : Go Tb H H') : Dp K H' v d := Dp.ext g.1 h
theorem dp_same {v : V} {d : PyData} (h : Dp K H v d) (g : Same H H') : Dp K H' v d := Dp.ext (.of g) h
theorem dx_go {v : V} {d : PyData} (h : Dx K H v d) (g : Go Tb H H') : Dx K H' v d := Dx.ext g.1 h
theorem ty_go {v : V} {t : Value} (h : TyX K H v t) (g : Go Tb H H') : TyX K H' v t := TyX_go g.1 h
end
theorem vals_rev : ∀ {vs : List V} {us : List Value}, Vals vs us → Vals vs.reverse us.reverse
  | _, _, .nil => .nil
  | _, _, .cons r t => by rw [List.reverse_cons, List.reverse_cons]; exact (vals_rev t).append (.cons r .nil)
end Mx

namespace Mx
open PySem PySem.Spec PyProof.Rows L2
section
variable {Tb : List (Addr × Str)} {H H0 H1 H2 H' : Hp} {p q a : Addr} {o u : HO} {xs : List V}
theorem go_set2 (h : H a = some (.lst xs)) (n : H2 a = none) (g : Go Tb H0 H2) (t : Go Tb H0 H) : Go Tb H0 (L2.upd H a o) := by
  refine ⟨fun b u h1 h2 => ?_, fun tb p hp => ?_⟩
  · have hb : b ≠ a := fun z => by
      have e := g.1 b u h1 h2
      rw [z, n] at e
      cases e
    rw [upd_ne hb]
    exact t.1 b u h1 h2
  · obtain ⟨ps, e1, e2, e3⟩ := t.2 tb p hp
    refine ⟨ps, ?_, e2, fun pos cv hc => ?_⟩
    · rw [upd_ne (fun z => by rw [z, h] at e1; cases e1)]
      exact e1
    · obtain ⟨c', rfl, e5⟩ := e3 pos cv hc
      refine ⟨c', rfl, ?_⟩
      rw [upd_ne (fun z => by rw [z, h] at e5; unfold LamX.CodeO at e5; cases e5)]
      exact e5
theorem fr_set2 (n : H2 a = none) (g : Same H0 H2) (t : Same H0 H) : Same H0 (L2.upd H a o) := fun b u h1 => by
  have hb : b ≠ a := fun z => by
    have e := g b u h1
    rw [z, n] at e
    cases e
  rw [upd_ne hb]
  exact t b u h1
theorem lk_neN (n : H2 p = none) (h2 : H2 q = some u) (h : H q = some u) : upd H p o q = some u := lk_ne (ne_of_none h2 n) h
theorem lk_neN' (n : H2 q = none) (h2 : H2 p = some (.lst xs)) (h : H q = some u) : upd H p o q = some u := lk_ne (fun z => ne_of_none h2 n z.symm) h
def NT (u : HO) : Prop := ∀ ps, u ≠ .tbl ps
theorem nt_lst {xs : List V} : NT (.lst xs) := fun ps z => by cases z
theorem nt_tup {xs : List V} : NT (.tup xs) := fun ps z => by cases z
theorem nt_dK {xs : List (Key × V)} : NT (.dK xs) := fun ps z => by cases z
theorem nt_xd {xs : List (Str × V)} : NT (.xd xs) := fun ps z => by cases z
theorem nt_ins {C dx : Addr} {xs : List (Str × V)} : NT (.ins C dx xs) := fun ps z => by cases z
def NL (u : HO) : Prop := ∀ xs, u ≠ .lst xs
theorem nl_tup {xs : List V} : NL (.tup xs) := fun ps z => by cases z
theorem nl_dK {xs : List (Key × V)} : NL (.dK xs) := fun ps z => by cases z
theorem nl_xd {xs : List (Str × V)} : NL (.xd xs) := fun ps z => by cases z
theorem nl_ins {C dx : Addr} {xs : List (Str × V)} : NL (.ins C dx xs) := fun ps z => by cases z
theorem lk_go (g : Go Tb H H') (n : NT u) (h : H q = some u) : H' q = some u := g.1 _ _ h n
theorem lk_kp_nl {c : Int} (k : Kp a H H') (st : StAt a c H) (n : NL u) (h : H q = some u) : H' q = some u := k _ _ (fun z => by obtain ⟨_, _, _, e, _⟩ := st; rw [z, e] at h; exact n _ (Option.some.inj h).symm) h
theorem en_new (hp : H p = none) (t : LamX.ExtN H0 H) : LamX.ExtN H0 (L2.upd H p o) := t.trans (.of (Same.new (Same.refl _) hp))
theorem en_same (s : Same H H') (t : LamX.ExtN H0 H) : LamX.ExtN H0 H' := t.trans (.of s)
theorem en_go (s : Go Tb H H') (t : LamX.ExtN H0 H) : LamX.ExtN H0 H' := t.trans s.1
theorem en_set2 (n : H2 a = none) (g : LamX.ExtN H0 H2) (t : LamX.ExtN H0 H) : LamX.ExtN H0 (L2.upd H a o) := fun b u h1 h2 => by
  have hb : b ≠ a := fun z => by
    have e := g b u h1 h2
    rw [z, n] at e
    cases e
  rw [upd_ne hb]
  exact t b u h1 h2
theorem en_kp (k : Kp a H H') (n : H2 a = none) (g : LamX.ExtN H0 H2) (t : LamX.ExtN H0 H) : LamX.ExtN H0 H' := fun b u h1 h2 => by
  have hb : b ≠ a := fun z => by
    have e := g b u h1 h2
    rw [z, n] at e
    cases e
  exact k b u hb (t b u h1 h2)
theorem dp_ext {K : PySem.W.Frag} {v : V} {d : PyData} (h : Dp K H v d) (g : LamX.ExtN H H') : Dp K H' v d := Dp.ext g h
theorem dx_ext {K : PySem.W.Frag} {v : V} {d : PyData} (h : Dx K H v d) (g : LamX.ExtN H H') : Dx K H' v d := Dx.ext g h
theorem ty_ext {K : PySem.W.Frag} {v : V} {t : Value} (h : TyX K H v t) (g : LamX.ExtN H H') : TyX K H' v t := TyX_go g h
/-- what is new since H0 in H1 stands in H -/
def New (H0 H1 H : Hp) : Prop := ∀ b u, H0 b = none → H1 b = some u → NT u → H b = some u
/-- data that leans on what is new alone -/
def Dn (K : PySem.W.Frag) (H0 H1 : Hp) (v : V) (d : PyData) : Prop := ∀ H, New H0 H1 H → Dp K H v d
theorem dn_use {K : PySem.W.Frag} {v : V} {d : PyData} (h : Dn K H0 H1 v d) (g : New H0 H1 H) : Dp K H v d := h H g
theorem nw_refl : New H0 H1 H1 := fun _ _ _ h _ => h
theorem nw_new (hp : H p = none) (t : New H0 H1 H) : New H0 H1 (L2.upd H p o) := fun b u h1 h2 h3 => lk_new hp (t b u h1 h2 h3)
theorem nw_same (s : Same H H') (t : New H0 H1 H) : New H0 H1 H' := fun b u h1 h2 h3 => s _ _ (t b u h1 h2 h3)
theorem nw_go (s : Go Tb H H') (t : New H0 H1 H) : New H0 H1 H' := fun b u h1 h2 h3 => s.1 _ _ (t b u h1 h2 h3) h3
theorem nw_set (h : H0 a = some (.lst xs)) (t : New H0 H1 H) : New H0 H1 (L2.upd H a o) := fun b u h1 h2 h3 => lk_ne (fun z => by rw [z, h] at h1; cases h1) (t b u h1 h2 h3)
theorem nw_set2 (n : H2 a = none) (g : New H0 H1 H2) (t : New H0 H1 H) : New H0 H1 (L2.upd H a o) := fun b u h1 h2 h3 => lk_ne (fun z => by
  have e := g b u h1 h2 h3
  rw [z, n] at e
  cases e) (t b u h1 h2 h3)
theorem nw_kp {c : Int} (k : Kp a H H') (st : StAt a c H0) (t : New H0 H1 H) : New H0 H1 H' := fun b u h1 h2 h3 => k b u (ne_st h1 st) (t b u h1 h2 h3)
theorem lsx_ext {K : PySem.W.Frag} {xs : List V} (h : LsX K H a xs) (g : LamX.ExtN H H') : LsX K H' a xs := h.imp (rd_ext g fun ps z => by cases z) id
theorem st_ne {c : Int} (n : a ≠ p) (st : StAt a c H) : StAt a c (L2.upd H p o) := let ⟨x, m, v, e, h1, h2⟩ := st; ⟨x, m, v, lk_ne n e, h1, h2⟩
theorem tabs_new (hp : H p = none) (t : LamX.Tabs Tb H) : LamX.Tabs Tb (L2.upd H p o) := t.ext (Same.new (Same.refl _) hp)
theorem tabs_same (s : Same H H') (t : LamX.Tabs Tb H) : LamX.Tabs Tb H' := t.ext s
theorem tabs_go (s : Go Tb H H') (t : LamX.Tabs Tb H) : LamX.Tabs Tb H' := s.2 t
theorem tabs_set (h : H a = some (.lst xs)) (t : LamX.Tabs Tb H) : LamX.Tabs Tb (L2.upd H a o) := by
  intro p hp
  obtain ⟨ps, e1, e2, e3⟩ := t p hp
  refine ⟨ps, ?_, e2, fun pos cv hc => ?_⟩
  · rw [upd_ne (fun z => by rw [z, h] at e1; cases e1)]
    exact e1
  · obtain ⟨c', rfl, e5⟩ := e3 pos cv hc
    refine ⟨c', rfl, ?_⟩
    rw [upd_ne (fun z => by rw [z, h] at e5; unfold LamX.CodeO at e5; cases e5)]
    exact e5
theorem tabs_kp {c : Int} (k : Kp a H H') (st : StAt a c H) (t : LamX.Tabs Tb H) : LamX.Tabs Tb H' := by
  intro p hp
  obtain ⟨u, m, v, e, _, _⟩ := st
  obtain ⟨ps, e1, e2, e3⟩ := t p hp
  refine ⟨ps, k _ _ (fun z => by rw [z, e] at e1; cases e1) e1, e2, fun pos cv h => ?_⟩
  obtain ⟨c', rfl, e5⟩ := e3 pos cv h
  exact ⟨c', rfl, k _ _ (fun z => by rw [z, e] at e5; unfold LamX.CodeO at e5; cases e5) e5⟩
end
theorem shaped_ti (x : Str) (hx : PyData.canLay0 (.str x) = true) (k : Int) : SeqAt.shaped (.tuple [.str x, .int k]) = true := by
  simp only [SeqAt.shaped, lay_t, lay_c, lay_e, lay_i, hx, PyData.depth, PyData.depthAll, Bool.and_true, Bool.true_and]
  rfl
theorem shaped_l2 {d e : PyData} (sd : SeqAt.shaped d = true) (se : SeqAt.shaped e = true) (hd : d.depth ≤ 60) (he : e.depth ≤ 60) : SeqAt.shaped (.list [d, e]) = true := by
  have a1 := SeqAt.canLay_of_shaped sd
  have a2 := SeqAt.canLay_of_shaped se
  simp only [SeqAt.shaped, lay_l, lay_c, lay_e, a1, a2, PyData.depth, PyData.depthAll, Bool.and_true, Bool.true_and]
  exact decide_eq_true (by omega)
/-- keywords of a def with one default, each of its two parameters told: the keywords in the other order -/
theorem kb_ofD {K : PySem.W.Frag} {x qual : Str} {st : Stmt} {f : Addr} {fd : FuncData} {ps ks : List Str} {dv : V} (F : FunD K x qual (defArgs st) (defBody st) (defScope st) [dv] [] f fd)
    (h : ∀ (T : Addr) (kV doc pm : Value) (an : Option Addr) (cdv ct : Value) (us ws its : List Value), us.length + ws.length = ps.length → its.length = 1 →
      ∃ k, bindArgs (PySem.W.fnOf x qual (defArgs st) (defBody st) (defScope st) (.ref T) kV doc pm an cdv ct) ⟨us, ks.zip ws⟩ = seqItems? (.ref T) >>= k ∧ k (some its.toArray) = pure (ps.zip (us ++ ws.reverse))) :
    KBinds K fd ps ks (fun us ws => us ++ ws.reverse) (fun vs zs => vs ++ zs.reverse) := by
  obtain ⟨oc, od, dV, kV, doc, pm, an, cdv, ct, osl, rfl, lk, hcd, hD, hK⟩ := F.ex
  rcases hD with ⟨e, _⟩ | ⟨_, T, o, its, m, rfl, lT, oT, rT⟩
  · exact absurd e (by simp)
  · refine ⟨fun s us ws X hl => ?_, fun a b => a.append (vals_rev b)⟩
    rw [List.length_append, List.length_reverse] at hl
    obtain ⟨k, e1, e2⟩ := h T kV doc pm an cdv ct us ws its hl rT.length.symm
    refine BindsTo.of_looks fun M => ?_
    rw [e1]
    exact looks_items X lT oT (.of_pure e2)
end Mx

namespace Mx
open PySem PySem.Spec PyProof.Rows L2

/-! ### own exceptions over any built-in base, made as values and kept -/
/-- a built-in exception class as a base -/
structure EB : Type where
  B : String
  N : String
  I : String
  tl : List Value
structure EB.Ok (b : EB) : Prop where
  F : ExcBaseFacts b.B b.N b.I b.tl
  pass : ∀ self : Value, PySem.refuseLoop self "__setattr__" b.tl = pure ()
  obj : b.tl.contains (.type "object") = true
  ne : b.tl.isEmpty = false
def ebV : EB := ⟨"ValueError", "ValueError.__new__", "ValueError.__init__", [.type "ValueError", .type "Exception", .type "BaseException", .type "object"]⟩
def ebR : EB := ⟨"RuntimeError", "RuntimeError.__new__", "RuntimeError.__init__", [.type "RuntimeError", .type "Exception", .type "BaseException", .type "object"]⟩
def ebO : EB := ⟨"OverflowError", "OverflowError.__new__", "OverflowError.__init__", [.type "OverflowError", .type "ArithmeticError", .type "Exception", .type "BaseException", .type "object"]⟩
theorem ebV_ok : ebV.Ok := ⟨PySem.F.excBase_ValueError, fun self => by kernel_rfl, by decide +kernel, rfl⟩
theorem ebR_ok : ebR.Ok := ⟨PySem.F.excBase_RuntimeError, fun self => by kernel_rfl, by decide +kernel, rfl⟩
theorem ebO_ok : ebO.Ok := ⟨PySem.F.excBase_OverflowError, fun self => by kernel_rfl, by decide +kernel, rfl⟩
/-- own classes, then the built-in's mro -/
def mroB (own : List Addr) (b : EB) : List Value := own.map Value.ref ++ b.tl
theorem mro_has (b : EB) (X : String) : ∀ own : List Addr, (mroB own b).contains (.type X) = b.tl.contains (.type X)
  | [] => rfl
  | c :: own => by
    show (Value.ref c :: mroB own b).contains (.type X) = _
    rw [List.contains_cons, mro_has b X own]
    rfl
theorem mro_pass {b : EB} (h : b.Ok) (self : Value) : ∀ own : List Addr, PySem.refuseLoop self "__setattr__" (mroB own b) = pure ()
  | [] => h.pass self
  | c :: own => by
    show PySem.refuseLoop self "__setattr__" (Value.ref c :: mroB own b) = _
    rw [PySem.refuseLoop_ref]
    exact mro_pass h self own
theorem mro_ne {b : EB} (h : b.Ok) : ∀ own : List Addr, (mroB own b).isEmpty = false
  | [] => h.ne
  | _ :: _ => rfl
structure OexG (K : PySem.W.Frag) (b : EB) (C : Addr) : Prop where
  ok : b.Ok
  cls : ∃ nm q N bs own sn sub ab col dd k0 k1 k2 k3 k5, K.lookup C = some (excClassObj nm q C N bs (mroB own b) true sn sub ab col dd k0 k1 k2 k3 k5 b.N)
  sa : PySem.W.findIn K (.ref C) "__setattr__" = some (some (.builtin "object.__setattr__"))
  kC : PySem.W.keepIn K (.ref C) = true

def finQ (M : Model) (A : Around) (R : Result → Shared → Prop) : Fin → Shared → Prop := fun fin s' => match fin with
  | .done f => R (.ok f) s'
  | .again c => c.quiet = true ∧ codeAny M A c R s'
section
open Builtin Builtin.ObjectAttr
variable {prog : Program} {w : World} {A : Around} {R : Result → Shared → Prop} {hh : Heap} {g : Array GenState} {d : Drawn} {t : Nat} {os : OsState}
/-- object.__setattr__ on such an exception, up to its own dict -/
theorem osa_pre {K : PySem.W.Frag} {f : Str} {tk : Tok} {v : Value} {x C : Addr} {ox : Obj} {oD : Option Obj} {cd : ClassData} (KX : K.In hh) (J : PySem.W.InstAt hh x ox C oD) (hcd : PySem.W.clsIn K C = some cd)
    (e1 : cd.mro.isEmpty = false) (e2 : cd.mro.contains (.type "object") = true) (e3 : refuseLoop (.ref x) "__setattr__" cd.mro = pure ()) (ha : PySem.W.findIn K (.ref C) f = some none)
    (h : wpAny (model prog w) A.in1 (storeInOwnDict (.ref x) (.ref C) (.str f tk) f v false) (finQ (model prog w) A R) (fun e s => R (.error e) s) ⟨hh, g, d, t, os⟩) :
    codeAny (model prog w) A (.call (.builtin "object.__setattr__") ⟨[.ref x, .str f tk, v], []⟩) R ⟨hh, g, d, t, os⟩ := by
  have S0 := F.store_object
  have isO : PySem.W.Looks (model prog w) hh (isInstance (.ref x) (.type "object")) true :=
    J.type.andThen (PySem.W.looks_mroIn KX (by unfold PySem.W.mroIn; rw [hcd, Option.bind_some, if_neg (by rw [e1]; decide), e2]))
  have mr : PySem.W.Looks (model prog w) hh (mroOf (.ref C)) cd.mro := (PySem.W.looks_clsIn KX hcd).andThen .now
  have no : PySem.W.Looks (model prog w) hh (storeTaker? none) none := .now
  refine codeAny_call_builtin S0.slot.plain S0.entry ?_
  refine @PySem.W.check_slot (model prog w) _ _ ⟨hh, g, d, t, os⟩ "object.__setattr__" "object" "__setattr__" (.ref x) [.str f tk, v] [] _ S0.kind S0.split isO (S0.args (.ref x) (.str f tk) v) ?_
  rw [PySem.W.osa_eq, refuse_eq]
  refine wpAny_bind (wpAny_bind (J.type.at (wpAny_bind (mr.at ?_))))
  rw [e3]
  refine wpAny_pure (wpAny_bind (J.type.at (wpAny_bind ((PySem.W.looks_findIn KX ha).at (wpAny_bind (no.at ?_))))))
  exact wpAny_mono h (fun fin s z => by cases fin <;> exact z) fun _ _ z => z
/-- the first field -/
theorem osa_first {K : PySem.W.Frag} {f : Str} {tk : Tok} {v : Value} {x C : Addr} {fv : Array Value} {cd : ClassData} (KX : K.In hh) (hx : hh.get? x = some { cls := .ref C, data := .fields fv }) (hcd : PySem.W.clsIn K C = some cd)
    (e1 : cd.mro.isEmpty = false) (e2 : cd.mro.contains (.type "object") = true) (e3 : refuseLoop (.ref x) "__setattr__" cd.mro = pure ()) (ed : cd.hasDict = true) (ha : PySem.W.findIn K (.ref C) f = some none)
    (hq : ∀ h1 tk1 dx, (∀ b o, b ≠ x → hh.get? b = some o → h1.get? b = some o) → hh.objs.size ≤ dx → dx ≠ x → h1.get? x = some { cls := .ref C, dict := some dx, data := .fields fv } →
      h1.Ns1 dx (fun y => if y = f then some v else none) → R (.ok (.ret .none)) ⟨h1, g, d, tk1, os⟩) :
    codeAny (model prog w) A (.call (.builtin "object.__setattr__") ⟨[.ref x, .str f tk, v], []⟩) R ⟨hh, g, d, t, os⟩ := by
  refine osa_pre KX (oD := none) ⟨hx, rfl, rfl, trivial⟩ hcd e1 e2 e3 ha ?_
  have lk : PySem.W.Looks (model prog w) hh (classData C) cd := PySem.W.looks_clsIn KX hcd
  have nx : x ≠ hh.objs.size := Nat.ne_of_lt (Heap.lt_size hx)
  obtain ⟨nm, bs, mro, ns, qn, hd, sn, sb, ab, col, del⟩ := cd
  dsimp only at ed
  subst ed
  unfold storeInOwnDict ownDictForStores
  repeat (first | with_reducible refine HandSPX.store_in_new ?_ ?_ | with_reducible refine wpAny_loadPart_at hx ?_ | with_reducible refine lk.at ?_ | wp_step)
  · exact ⟨_, #[], _, (Heap.get?_update_ne _ _ _ _ nx.symm).trans (Heap.get?_push_at rfl rfl), rfl, fun e he => absurd he (by simp), fun _ => rfl⟩
  · intro h1 tk1 hn hs
    have hx1 : (hh.push { cls := .type "dict", data := .dict #[] }).get? x = some { cls := .ref C, data := .fields fv } := Heap.get?_push_of_some _ hx
    exact hq h1 tk1 hh.objs.size (fun b o hb ho => (hs.2 b (Nat.ne_of_lt (Heap.lt_size ho))).trans ((Heap.get?_update_ne _ _ _ _ hb).trans (Heap.get?_push_of_some _ ho))) (Nat.le_refl _) nx.symm
      ((hs.2 x nx).trans (Heap.get?_update_self _ hx1 rfl)) hn
/-- a further field -/
theorem osa_more {K : PySem.W.Frag} {f : Str} {tk : Tok} {v : Value} {x C dx : Addr} {fv : Array Value} {cd : ClassData} {m0 : Str → Option Value} {nl : List Str} (KX : K.In hh) (hx : hh.get? x = some { cls := .ref C, dict := some dx, data := .fields fv })
    (hns : hh.Ns1 dx m0) (hw : Within m0 nl) (hz : nl.length ≤ 1000) (hcd : PySem.W.clsIn K C = some cd)
    (e1 : cd.mro.isEmpty = false) (e2 : cd.mro.contains (.type "object") = true) (e3 : refuseLoop (.ref x) "__setattr__" cd.mro = pure ()) (ed : cd.hasDict = true) (ha : PySem.W.findIn K (.ref C) f = some none)
    (hq : ∀ h1 tk1, (∀ b o, b ≠ dx → hh.get? b = some o → h1.get? b = some o) → h1.Ns1 dx (fun y => if y = f then some v else m0 y) → R (.ok (.ret .none)) ⟨h1, g, d, tk1, os⟩) :
    codeAny (model prog w) A (.call (.builtin "object.__setattr__") ⟨[.ref x, .str f tk, v], []⟩) R ⟨hh, g, d, t, os⟩ := by
  obtain ⟨oD, _, _, hoD, _, _⟩ := hns.count hw
  refine osa_pre KX (oD := some oD) ⟨hx, rfl, rfl, hoD⟩ hcd e1 e2 e3 ha ?_
  have lk : PySem.W.Looks (model prog w) hh (classData C) cd := PySem.W.looks_clsIn KX hcd
  obtain ⟨nm, bs, mro, ns, qn, hd, sn, sb, ab, col, del⟩ := cd
  dsimp only at ed
  subst ed
  unfold storeInOwnDict ownDictForStores
  repeat (first | with_reducible refine PySem.OEX.store_in_old hns hw hz ?_ | with_reducible refine wpAny_loadPart_at hx ?_ | with_reducible refine lk.at ?_ | wp_step)
  exact fun h1 tk1 hn hs => hq h1 tk1 (fun b o hb ho => (hs.2 b hb).trans ho) hn
end
section
variable {X : Cx} {pins : List (Addr × Obj)} {σ : L2.St} {H : Hp} {s : Shared} {a C dx : Addr} {f : Str} {y : V} {u : Value} {fs : List (Str × V)} {Q : Unit → Shared → Prop} {E : Value → Shared → Prop} {A : Around} {b : EB}
theorem OexG.data {K : PySem.W.Frag} (T : OexG K b C) : ∃ cd, PySem.W.clsIn K C = some cd ∧ cd.mro.isEmpty = false ∧ cd.mro.contains (.type "object") = true ∧ (∀ self, PySem.refuseLoop self "__setattr__" cd.mro = pure ()) ∧ cd.hasDict = true := by
  obtain ⟨nm, q, N, bs, own, sn, sub, ab, col, dd, k0, k1, k2, k3, k5, hC⟩ := T.cls
  refine ⟨{ name := nm, bases := bs, mro := .ref C :: mroB own b, ns := N, qualname := q, hasDict := true, slotNames := sn, subclasses := sub, abstract := ab, collection := col, hasDel := false }, by unfold PySem.W.clsIn; rw [hC] <;> rfl, rfl, ?_, fun self => mro_pass T.ok self (C :: own), rfl⟩
  exact (mro_has b "object" (C :: own)).trans T.ok.obj
/-- self.f = y, the first -/
theorem ostG_new (T : OexG X.K b C) (I : Inv X pins σ H s) (e : H a = some (exo a C none)) (hno : PySem.W.findIn X.K (.ref C) f = some none) (ry : RelV y u)
    (h : ∀ dx s', H dx = none → dx ≠ a → Inv X pins σ (upd (upd H dx (exd dx [(f, y)])) a (exo a C (some dx))) s' → Q () s') : wpAny (model X.prog X.w) A (setAttr (.ref a) f u) Q E s := by
  obtain ⟨cd, hcl, e1, e2, e3, e4⟩ := T.data
  obtain ⟨t1, ho⟩ := exo_at I.hok e
  obtain ⟨hp, g, d, t, os⟩ := s
  refine PySem.W.set_plain I.kIn (ox := { cls := .ref C, dict := none, data := .fields #[.ref t1, .none, .none, .none, .bool false, .none] }) (od := none) ⟨ho, rfl, rfl, trivial⟩ T.sa ?_
  refine osa_first I.kIn ho hcl e1 e2 (e3 _) e4 hno (fun h' tk' dx k dn dne hx hn => ?_)
  have hnd : H dx = none := I.hok.fresh dn
  have nd : ∀ {b : Addr} {o : Obj}, hp.get? b = some o → b ≠ dx := fun q => Nat.ne_of_lt (Nat.lt_of_lt_of_le (Heap.lt_size q) dn)
  have na : ∀ {b : Addr}, H b = none → b ≠ a := fun n z => by rw [z, e] at n; cases n
  have new : Un X.fs [] H (upd (upd H dx (exd dx [(f, y)])) a (exo a C (some dx))) hp h' :=
    ⟨fun b o q n _ _ => k b o (na n) q, fun b o q n _ _ => ⟨o.slots, k b o (na n) q⟩, fun b o q n _ => by rw [upd_ne (na n), upd_ne (nd q)]; exact n,
      fun b o q _ => by
        by_cases z : b = a
        · rw [z]; exact ⟨_, hx⟩
        · exact ⟨o, k b o z q⟩,
      fun b xs q => by rw [upd_ne (at_ne e q exo_tup), upd_ne (ne_of_none q hnd)]; exact q, fun b o v q => by rw [upd_ne (at_ne e q exo_frz), upd_ne (ne_of_none q hnd)]; exact q,
      fun b ps q => ⟨#[], by rw [upd_ne (at_ne e q exo_tbl), upd_ne (ne_of_none q hnd), q]; simp⟩⟩
  refine h dx _ hnd dne (I.un (t' := tk') new fun b o q => ?_)
  by_cases hb : b = a
  · subst hb
    rw [upd_same] at q
    cases q
    exact exo_ok hx
  rw [upd_ne hb] at q
  by_cases hd : b = dx
  · subst hd
    rw [upd_same] at q
    cases q
    exact exd_ok hn (relO_put (fs := []) ry fun g => True.intro)
  rw [upd_ne hd] at q
  refine (I.hok b o q).stay (fun c v hc z => k c v ?_ z) (fun c hc => ?_) fun c xs hc => ?_
  · rcases hc with hc | hc
    · rw [hc]; exact hb
    · exact at_ne e hc exo_own
  · rw [upd_ne (at_ne e hc exo_own), upd_ne (ne_of_none hc hnd)]; exact hc
  · rw [upd_ne (at_ne e hc exo_tup), upd_ne (ne_of_none hc hnd)]; exact hc
/-- a further one -/
theorem ostG_old (T : OexG X.K b C) (I : Inv X pins σ H s) (e : H a = some (exo a C (some dx))) (ed : H dx = some (exd dx fs)) (hl : fs.length ≤ 900) (hno : PySem.W.findIn X.K (.ref C) f = some none) (ry : RelV y u)
    (h : ∀ s', Inv X pins σ (upd H dx (exd dx ((f, y) :: fs))) s' → Q () s') : wpAny (model X.prog X.w) A (setAttr (.ref a) f u) Q E s := by
  obtain ⟨cd, hcl, e1, e2, e3, e4⟩ := T.data
  obtain ⟨t1, ho⟩ := exo_at I.hok e
  obtain ⟨mA, hns, rel⟩ := exd_at I.hok ed
  have hw := within_of rel
  obtain ⟨hp, g, d, t, os⟩ := s
  obtain ⟨oD, _, _, hoD, _, _⟩ := hns.count hw
  refine PySem.W.set_plain I.kIn (ox := { cls := .ref C, dict := some dx, data := .fields #[.ref t1, .none, .none, .none, .bool false, .none] }) (od := some oD) ⟨ho, rfl, rfl, hoD⟩ T.sa ?_
  refine osa_more I.kIn ho hns hw (by rw [List.length_map]; omega) hcl e1 e2 (e3 _) e4 hno (fun h' tk' k hn => ?_)
  refine h _ (I.write (t' := tk') (x := dx) (e := dx) (o := exd dx ((f, y) :: fs)) (by rw [ed]; exact True.intro) (.inl rfl) k ?_ (exd_ok hn (relO_put ry rel)))
  obtain ⟨o, _, _, e', _⟩ := hn
  exact ⟨o, e'⟩
/-- the base's __init__(self, ..): nothing of it is told -/
theorem oinitG {us : List Value} {Q : Value → Shared → Prop} (T : OexG X.K b C) (I : Inv X pins σ H s) (e : H a = some (exo a C none)) (hl : us.length ≤ sizeLine) (h : ∀ s', Inv X pins σ H s' → Q .none s') :
    wpAny (model X.prog X.w) A (call (.builtin b.I) (.ref a :: us)) Q E s := by
  obtain ⟨nm, q, N, bs, own, sn, sub, ab, col, dd, k0, k1, k2, k3, k5, hC⟩ := T.cls
  obtain ⟨t1, ho⟩ := exo_at I.hok e
  obtain ⟨hp, g, d, t, os⟩ := s
  refine wpAny_call (PySem.HandSPX.init_base T.ok.F (fun Y => mro_has b Y own) (I.kIn _ _ hC) ho hl fun h' t2 k hx => ?_)
  have J := I.write (t' := t) (x := a) (e := a) (o := exo a C none) (by rw [e]; exact True.intro) (.inl rfl) k ⟨_, hx⟩ (exo_ok hx)
  rw [show upd H a (exo a C none) = H from funext fun b => (Classical.em (b = a)).elim (fun z => by rw [z, upd_same, e]) fun z => upd_ne z] at J
  exact h _ J
end
/-- a base class of the module over b, read by its name -/
structure BaseG (K : PySem.W.Frag) (mg : Str → Option Value) (b : EB) (bn : Str) (CM : Addr) : Prop where
  mgM : mg bn = some (.ref CM)
  rd : PySem.W.readsIn K CM (.type "type") = true
  ga : PySem.W.specialIn K (.ref CM) "__getattribute__" = some (some (.builtin "type.__getattribute__"))
  at_ : PySem.W.findCls K (.ref CM) (.type "type") "__init__" = some (.val (.builtin b.I))
  hd : PySem.W.handedIn (.builtin b.I) = true
def tVeG (K : PySem.W.Frag) (b : EB) (ta : TA) : TE := fun σ H Q => ta σ H fun vs H1 => ∃ (a C : Addr) (ws : List V), vs = .ref a :: ws ∧ ws.length ≤ 1000 ∧ OexG K b C ∧ H1 a = some (exo a C none) ∧ Q .non H1
def tOsG (K : PySem.W.Frag) (b : EB) (f : Str) (y : V) (x : V) (H2 : Hp) (N : Hp → Prop) : Prop := ∃ a C : Addr, x = .ref a ∧ OexG K b C ∧ PySem.W.findIn K (.ref C) f = some none ∧
  ((H2 a = some (exo a C none) ∧ ∀ dx, H2 dx = none → dx ≠ a → N (upd (upd H2 dx (exd dx [(f, y)])) a (exo a C (some dx)))) ∨
    ∃ (dx : Addr) (fs : List (Str × V)), H2 a = some (exo a C (some dx)) ∧ H2 dx = some (exd dx fs) ∧ fs.length ≤ 900 ∧ N (upd H2 dx (exd dx ((f, y) :: fs))))
section
variable {X : Cx} {o e : Expr} {es : List Expr} {to te : TE} {ta : TA} {f : Str} {p p' p1 p2 pos : Pos} {b : EB}
theorem pe_minitG {bn : Str} {CM : Addr} {pl : Sem Bool} (T : BaseG X.K X.mg b bn CM) (hg : Gl X bn) (ha : PA X (e :: es) ta)
    (hc : eval (.Call (.Attribute (.Name bn p1) "__init__" p2) (e :: es) [] pos) X.env = (do
      let ov ← eval (.Name bn p1) X.env
      standAt p2.atName
      let (f, first) ← holding [ov] (getMethod ov "__init__" pl)
      callWith pos f first (backTo pos (starEach (e :: es) X.env)) (backToKw pos (keywordEach [] X.env))) := by rfl)
    (he : starEach (e :: es) X.env = (false, eval e X.env) :: starEach es X.env := by rfl) (hpl : (backTo pos (starEach es X.env)).any (·.1) = false := by rfl)
    (hdb : (bn == ("__debug__" : Str)) = false := by decide) :
    PE X (.Call (.Attribute (.Name bn p1) "__init__" p2) (e :: es) [] pos) (tVeG X.K b ta) := by
  refine ⟨fun pins s σ H Q I h => PySem.W.methodCall_KW (ld_glob I hg T.mgM ?_ hdb) hc⟩
  refine PySem.W.method_cls I.kIn T.ga (PySem.W.cls_value I.kIn T.rd T.at_ T.hd ?_)
  refine PyProof.Rows.callWith_method1 (thn (ha.run pos pins _ σ H _ (I.tok _) h) fun us s1 ⟨vs, H1, I1, r1, a, C, ws, ev, hl, Tc, ea, q⟩ => ?_) he hpl
  subst ev
  cases r1 with
  | @cons _ u0 _ ur ra rw' =>
    obtain rfl : u0 = Value.ref a := ra
    have hz : ur.length ≤ sizeLine := by
      rw [← Paired.length rw']
      exact Nat.le_trans hl (by decide)
    exact oinitG Tc I1 ea hz fun s' J => ⟨.non, H1, J, rfl, q⟩
def tOsS (K : PySem.W.Frag) (b : EB) (f : Str) (to te : TE) : TS := fun D σ H => te σ H fun y H1 => to σ H1 fun x H2 => tOsG K b f y x H2 fun H3 => D.nx σ H3
theorem ps_osG (ho : PE X o to) (he : PE X e te) (hs : swapsWith e (some (.Attribute o f p')) pos.line X.env = pure false := by rfl) : PS X (.Assign [.Attribute o f p'] e pos) (tOsS X.K b f to te) := by
  refine ⟨fun pins s σ H D I h => ?_⟩
  refine plainObj_wpAny_Assign_Attribute (thn (he.run pins s σ H _ I h) fun v s1 ⟨y, H1, I1, r1, q1⟩ => thn (ho.run pins s1 σ H1 _ I1 q1) fun u s2 ⟨x, H2, I2, r2, a, C, ex, T, hno, q⟩ => ?_) hs
  subst ex
  obtain rfl : u = Value.ref a := r2
  rcases q with ⟨ea, q⟩ | ⟨dx, fs, ea, ed, hl, q⟩
  · exact ostG_new T I2 ea hno r1 fun dx s' n ne J => ⟨σ, _, J, q dx n ne⟩
  · exact ostG_old T I2 ea ed hl hno r1 fun s' J => ⟨σ, _, J, q⟩
def gOsG (K : PySem.W.Frag) (b : EB) (f : Str) (to : TE) : TG := fun y σ H Q => to σ H fun x H2 => tOsG K b f y x H2 fun H3 => Q σ H3
/-- .. self.f .. as a target among others -/
theorem pg_osG (ho : PE X o to) (ha : ∀ v, assign (.Attribute o f p') X.env v = (do
      let ov ← holding [v] (eval o X.env)
      standAt p'.atName
      holding [v, ov] (setAttr ov f v)
      release [v, ov] []) := by intro _; rfl) : PG X (.Attribute o f p') (gOsG X.K b f to) := by
  refine ⟨fun pins s σ H v u Q I r h => ?_⟩
  rw [ha]
  refine wpAny_bind (wpAny_holding (thn (ho.run pins s σ H _ I h) fun ov s1 ⟨x, H1, I1, r1, a, C, ex, T, hno, q⟩ => ?_))
  subst ex
  obtain rfl : ov = Value.ref a := r1
  refine wpAny_bind (wpAny_standAt (wpAny_bind (wpAny_holding ?_)))
  rcases q with ⟨ea, q⟩ | ⟨dx, fs, ea, ed, hl, q⟩
  · exact ostG_new T I1 ea hno r fun dx s' n ne J => wpAny_release ⟨σ, _, J, q dx n ne⟩
  · exact ostG_old T I1 ea ed hl hno r fun s' J => wpAny_release ⟨σ, _, J, q⟩
/-- C(e, ..) as a value -/
def tNewX (C : Addr) (sp : Sp) (ta : TA) : TE := fun σ H Q => ta σ H fun vs H1 => vs.length ≤ 1000 ∧ ∀ a, H1 a = none → sp (.ref a :: vs) (upd H1 a (exo a C none)) (fun v H2 => v = .non ∧ Q (.ref a) H2) (fun _ _ _ => False)
theorem xnew_call {pins : List (Addr × Obj)} {σ : L2.St} {H1 : Hp} {s1 : Shared} {C fI : Addr} {k : Nat} {fd : FuncData} {ps : List Str} {sp : Sp} {vs : List V} {us : List Value} {Q : VK} (T : OexG X.K b C) (iC : PySem.W.findIn X.K (.ref C) "__init__" = some (some (.ref fI)))
    (tI : PySem.W.typeIn X.K (.ref fI) = some (.type "function")) (F1 : FnOk X.prog X.w X.K X.mg X.base CX0 k fI fd ps sp) (hr : Room (k + 1) X.A) (hb : Binds X.K fd ps [])
    (I1 : Inv X pins σ H1 s1) (r1 : Vals vs us) (hz : vs.length ≤ 1000) (q1 : ∀ a, H1 a = none → sp (.ref a :: vs) (upd H1 a (exo a C none)) (fun v H2 => v = .non ∧ Q (.ref a) H2) (fun _ _ _ => False)) :
    wpAny (model X.prog X.w) X.A (call (.ref C) us) (fun u s' => ∃ v H', Inv X pins σ H' s' ∧ RelV v u ∧ Q v H') X.xe s1 := by
  obtain ⟨nm, q, N, bs, own, sn, sub, ab, col, dd, k0, k1, k2, k3, k5, hC⟩ := T.cls
  obtain ⟨hp, g, dr, tk, os⟩ := s1
  have hq := q1 (hp.objs.size + 1) (I1.hok.fresh (Nat.le_succ _))
  have I2 : Inv X pins σ (upd H1 (hp.objs.size + 1) (exo (hp.objs.size + 1) C none)) ⟨(hp.push (PySem.W.kdv_tup us)).push (PySem.HandSPX.excO C hp.objs.size), g, dr, tk, os⟩ :=
    I1.laid (t' := tk) (a := hp.objs.size + 1) (o := exo (hp.objs.size + 1) C none) (h' := (hp.push (PySem.W.kdv_tup us)).push (PySem.HandSPX.excO C hp.objs.size))
      (fun b o e => Heap.get?_push_of_some _ (Heap.get?_push_of_some _ e)) (Nat.le_succ _) (exo_ok (by heap_get))
  have r2 : Vals (V.ref (hp.objs.size + 1) :: vs) (Value.ref (hp.objs.size + 1) :: us ++ []) := by
    rw [List.append_nil]
    exact .cons rfl r1
  have hl : (Value.ref (hp.objs.size + 1) :: us ++ []).length = ps.length := by
    rw [← r2.length]
    exact F1.len _ _ _ _ hq
  have hus : us.length ≤ sizeLine := by
    rw [← Paired.length r1]
    exact Nat.le_trans hz (by decide)
  refine wpAny_call (PySem.HandSPX.call_own T.ok.F (fun Y => mro_has b Y own) (I1.kIn _ _ hC) (PySem.W.looks_findIn I1.kIn iC) (fun self => PySem.W.bind_fn I1.kIn self tI) hus
    (codeAny_mono (F1.run _ X.stack _ _ ⟨Value.ref (hp.objs.size + 1) :: us, []⟩ _ _ _ (fun _ _ _ => False) (hr.make C us []) (I2.env0.make C us []) (hb _ (Value.ref (hp.objs.size + 1) :: us) I2.kIn hl) r2 hq) fun r s' hq' => ?_))
  cases r with
  | error er => exact pass0 pins σ _ _ er s' I2 hq'
  | ok fl =>
    cases fl with
    | ret u =>
      obtain ⟨v, H2, os2, bare2, un2, hok2, rv, ev, q2⟩ := hq'
      subst ev
      exact ⟨rv, .ref (hp.objs.size + 1), H2, I2.call' (ch := []) os2 un2 hok2 bare2 (fun b z => absurd z (by simp)), rfl, q2⟩
    | next => exact False.elim hq'
    | brk => exact False.elim hq'
    | cont => exact False.elim hq'
/-- the facts of such a class: its __init__ keeps sp -/
structure ClT (P : Program) (w : World) (K : PySem.W.Frag) (mg : Str → Option Value) (base : Heap) (b : EB) (cn : Str) (C fI : Addr) (fd : FuncData) (ps : List Str) (sp : Sp) : Prop where
  oex : OexG K b C
  mgC : mg cn = some (.ref C)
  iC : PySem.W.findIn K (.ref C) "__init__" = some (some (.ref fI))
  tI : PySem.W.typeIn K (.ref fI) = some (.type "function")
  ok : FnOk P w K mg base CX0 1 fI fd ps sp
  bI : Binds K fd ps []
theorem pe_newX {x : Str} {C fI : Addr} {fd : FuncData} {ps : List Str} {sp : Sp} (T : ClT X.prog X.w X.K X.mg X.base b x C fI fd ps sp) (hr : Room 2 X.A) (hg : Gl X x) (ha : PA X (e :: es) ta)
    (hdb : (x == ("__debug__" : Str)) = false := by decide) (he : starEach (e :: es) X.env = (false, eval e X.env) :: starEach es X.env := by rfl) (hpl : (backTo pos (starEach es X.env)).any (·.1) = false := by rfl) :
    PE X (.Call (.Name x p) (e :: es) [] pos) (tNewX C sp ta) := by
  refine ⟨fun pins s σ H Q I h => ?_⟩
  refine wpAny_Call_Name_kw (ld_glob I hg T.mgC ?_ hdb)
  refine PySem.W.callWith_K (h₀ := X.base) I.ok.mod.kin T.oex.kC (thn (ha.run pos pins s σ H _ I h) fun us s1 ⟨vs, H1, I1, r1, hz, q1⟩ => ⟨I1.kIn, ?_⟩) he hpl
  exact xnew_call (k := 1) T.oex T.iC T.tI T.ok hr T.bI I1 r1 hz q1
theorem pe_newX0 {x : Str} {C fI : Addr} {fd : FuncData} {ps : List Str} {sp : Sp} (T : ClT X.prog X.w X.K X.mg X.base b x C fI fd ps sp) (hr : Room 2 X.A) (hg : Gl X x) (hdb : (x == ("__debug__" : Str)) = false := by decide) :
    PE X (.Call (.Name x p) [] [] pos) (tNewX C sp tNil) := by
  refine ⟨fun pins s σ H Q I h => ?_⟩
  refine wpAny_Call_Name_kw (ld_glob I hg T.mgC ?_ hdb)
  exact PySem.W.callWith_K0 (first := []) I.kIn T.oex.kC (xnew_call (k := 1) T.oex T.iC T.tI T.ok hr T.bI I .nil (Nat.zero_le _) h.2)
end
end Mx

namespace Mx
open PySem PySem.Spec PyProof.Rows L2

/-! ### an exception that its __init__ has filled, as a value -/
def XoF (H : Hp) (a C : Addr) (fs : List (Str × V)) : Prop := (∃ d, H a = some (exo a C (some d)) ∧ H d = some (exd d fs)) ∨ (H a = some (exo a C none) ∧ fs = [])
theorem XoF.same {H H' : Hp} {a C : Addr} {fs : List (Str × V)} (h : XoF H a C fs) (s : Same H H') : XoF H' a C fs := by
  rcases h with ⟨d, h1, h2⟩ | ⟨h1, h2⟩
  · exact .inl ⟨d, s _ _ h1, s _ _ h2⟩
  · exact .inr ⟨s _ _ h1, h2⟩
theorem XoF.some {H : Hp} {a C : Addr} {fs : List (Str × V)} (h : XoF H a C fs) : ∃ u, H a = Option.some u := by
  rcases h with ⟨d, h1, h2⟩ | ⟨h1, h2⟩
  · exact ⟨_, h1⟩
  · exact ⟨_, h1⟩
section
variable {X : Cx} {pins : List (Addr × Obj)} {σ : L2.St} {H : Hp} {s : Shared} {a C : Addr} {fs : List (Str × V)}
theorem xoF_inst (I : Inv X pins σ H s) (h : XoF H a C fs) : ∃ (ox : Obj) (od : Option Obj), PySem.W.InstAt s.heap a ox C od := by
  rcases h with ⟨d, h1, h2⟩ | ⟨h1, h2⟩
  · obtain ⟨t1, ho⟩ := exo_at I.hok h1
    obtain ⟨mA, hns, rel⟩ := exd_at I.hok h2
    obtain ⟨oD, _, _, hoD, _, _⟩ := hns.count (within_of rel)
    exact ⟨_, some oD, ho, rfl, rfl, hoD⟩
  · obtain ⟨t1, ho⟩ := exo_at I.hok h1
    exact ⟨_, none, ho, rfl, rfl, trivial⟩
def rIsiF (K : PySem.W.Frag) : List V → Hp → VK → Prop := fun xs H Q => ∃ (a C : Addr) (fs : List (Str × V)) (c : V) (u : Value) (b : Bool), xs = [.ref a, c] ∧ ClsV c u ∧ XoF H a C fs ∧ XcC K C ∧ PySem.W.kitOne K (.ref C) u = some b ∧ Q (.bl b) H
theorem call_isiF : CallR X (.builtin "isinstance") (rIsiF X.K) := by
  intro pins s σ H xs us Q I r h
  obtain ⟨a, C, fs, c, u, b, rfl, k, hx, T, e, q⟩ := h
  obtain ⟨u1, u2, rfl, r1, r2⟩ := vals2 r
  have e2 := k.eq r2
  subst e2
  cases (show u1 = Value.ref a from r1)
  obtain ⟨ox, od, J⟩ := xoF_inst I hx
  exact PySem.W.kia_one (PySem.W.kitx_exc T.cl T.ga T.gt T.sub T.ha T.hn T.tk T.hm) I.kIn J e (fun z => by cases z) fun tk => ⟨.bl b, H, I.tok tk, rfl, q⟩
/-- e.f of such an exception -/
def tXf (K : PySem.W.Frag) (f : Str) (te : TE) : TE := fun σ H Q => te σ H fun x H1 => ∃ (a C : Addr) (fs : List (Str × V)) (v : V), x = .ref a ∧ XoF H1 a C fs ∧ XcC K C ∧ PySem.W.findIn K (.ref C) f = some none ∧ fs.lookup f = some v ∧ Q v H1
theorem pe_xf {e : Expr} {te : TE} {pos : Pos} {f : Str} (he : PE X e te) (hb : attributeBase e f X.env (eval e X.env) = eval e X.env := by rfl) : PE X (.Attribute e f pos) (tXf X.K f te) := by
  refine ⟨fun pins s σ H Q I h => attr_of hb (thn (he.run pins s σ H _ I h) fun u s1 hh => ?_)⟩
  obtain ⟨x, H1, I1, rx, a, C, fs, v, ex, hx, T, hno, l, q⟩ := hh
  subst ex
  cases (show u = Value.ref a from rx)
  rcases hx with ⟨d, h1, h2⟩ | ⟨h1, h2⟩
  · obtain ⟨t1, ho⟩ := exo_at I1.hok h1
    obtain ⟨mA, hns, rel⟩ := exd_at I1.hok h2
    obtain ⟨od, hod, hl⟩ := lookIn_ns hns
    obtain ⟨z, hz, rz⟩ := RelO.some_of (v := v) (o := mA f) (by rw [← l]; exact rel f)
    exact HandSPX.exc_get I1.kIn ⟨ho, rfl, rfl, hod⟩ T.ga T.gt T.sub (PySem.W.findObj_own T.hd hno rfl (by rw [hl, hz])) (handed_of rz) ⟨v, H1, I1.tok _, rz, q⟩
  · rw [h2] at l
    cases l
/-! ### made with its fields -/
def fsOf (fs : List Str) (ys : List V) : List (Str × V) := (fs.zip ys).reverse
/-- what such an __init__ keeps: all but the exception stays, it has its fields -/
def spIn (C : Addr) (fs : List Str) : Sp := fun vs H Q _ => ∃ (a : Addr) (ys : List V), vs = .ref a :: ys ∧ ys.length = fs.length ∧ H a = Option.some (exo a C none) ∧ ∀ H', Kp a H H' → XoF H' a C (fsOf fs ys) → Q .non H'
def tNewF (C : Addr) (fs : List Str) (ta : TA) : TE := fun σ H Q => ta σ H fun vs H1 => (vs.length = fs.length ∧ vs.length ≤ 1000) ∧ ∀ a H', Same H1 H' → XoF H' a C (fsOf fs vs) → Q (.ref a) H'
theorem same_of_kp {a : Addr} {H H' : Hp} {o : HO} (n : H a = none) (k : Kp a (upd H a o) H') : Same H H' := fun b u e => k b u (ne_of_none e n) (by rw [upd_ne (ne_of_none e n)]; exact e)
theorem newF_of {ta : TA} {H : Hp} {Q : VK} {fs : List Str} (h : tNewF C fs ta σ H Q) : tNewX C (spIn C fs) (aMono ta) σ H Q :=
  ⟨_, h, fun vs H1 hq => ⟨hq.1.2, fun a ha => ⟨a, vs, rfl, hq.1.1, upd_same, fun H' k x => ⟨rfl, hq.2 a H' (same_of_kp ha k) x⟩⟩⟩⟩
theorem pe_newF {b : EB} {e : Expr} {es : List Expr} {ta : TA} {p pos : Pos} {x : Str} {fI : Addr} {fd : FuncData} {ps fs : List Str} (T : ClT X.prog X.w X.K X.mg X.base b x C fI fd ps (spIn C fs)) (hr : Room 2 X.A) (hg : Gl X x) (ha : PA X (e :: es) ta)
    (hdb : (x == ("__debug__" : Str)) = false := by decide) (he : starEach (e :: es) X.env = (false, eval e X.env) :: starEach es X.env := by rfl) (hpl : (backTo pos (starEach es X.env)).any (·.1) = false := by rfl) :
    PE X (.Call (.Name x p) (e :: es) [] pos) (tNewF C fs ta) :=
  ⟨fun pins s σ H Q I h => (pe_newX T hr hg (pa_mono ha) hdb he hpl).run pins s σ H Q I (newF_of h)⟩
theorem pe_newF0 {b : EB} {p pos : Pos} {x : Str} {fI : Addr} {fd : FuncData} {ps : List Str} (T : ClT X.prog X.w X.K X.mg X.base b x C fI fd ps (spIn C [])) (hr : Room 2 X.A) (hg : Gl X x) (hdb : (x == ("__debug__" : Str)) = false := by decide) :
    PE X (.Call (.Name x p) [] [] pos) (tNewF C [] tNil) :=
  ⟨fun pins s σ H Q I h => (pe_newX0 T hr hg hdb).run pins s σ H Q I ⟨Nat.zero_le _, fun a ha => ⟨a, [], rfl, rfl, upd_same, fun H' k x => ⟨rfl, h.2 a H' (same_of_kp ha k) x⟩⟩⟩⟩
end
end Mx

namespace K1
open PySem PySem.Spec PyProof.Rows L2 Mx
/-! ### the text by places -/
def topS (i : Nat) : Stmt := PySem.Challenge.pw_markstream_k01_error_classes.main.body.getD i (.Pass ⟨0, 0, 0, 0⟩)
abbrev s_IllFormed___init__ : Stmt := inClass (topS 4) 0
abbrev s_InvalidText___init__ : Stmt := inClass (topS 5) 0
abbrev s_InvalidName___init__ : Stmt := inClass (topS 6) 0
abbrev s_InvalidKind___init__ : Stmt := inClass (topS 7) 0
abbrev s_InvalidNumber___init__ : Stmt := inClass (topS 8) 0
abbrev s_InvalidPlace___init__ : Stmt := inClass (topS 9) 0
abbrev s_InvalidMark___init__ : Stmt := inClass (topS 10) 0
abbrev s_InvalidAttributes___init__ : Stmt := inClass (topS 11) 0
abbrev s_InvalidNode___init__ : Stmt := inClass (topS 12) 0
abbrev s_InvalidPath___init__ : Stmt := inClass (topS 13) 0
abbrev s_InvalidEvents___init__ : Stmt := inClass (topS 14) 0
abbrev s_InvalidEdit___init__ : Stmt := inClass (topS 15) 0
abbrev s_InvalidQuery___init__ : Stmt := inClass (topS 16) 0
abbrev s_InvalidPlan___init__ : Stmt := inClass (topS 17) 0
abbrev s_UnknownMark___init__ : Stmt := inClass (topS 18) 0
abbrev s_BadBinding___init__ : Stmt := inClass (topS 19) 0
abbrev s_Unbound___init__ : Stmt := inClass (topS 20) 0
abbrev s_Repeated___init__ : Stmt := inClass (topS 21) 0
abbrev s_NoEntity___init__ : Stmt := inClass (topS 22) 0
abbrev s_NotPlain___init__ : Stmt := inClass (topS 23) 0
abbrev s_NotPossible___init__ : Stmt := inClass (topS 24) 0
abbrev s_OutOfPlace___init__ : Stmt := inClass (topS 25) 0
abbrev s_NothingToUndo___init__ : Stmt := inClass (topS 26) 0
abbrev s_TooLarge___init__ : Stmt := inClass (topS 27) 0
abbrev s__law_mixed : Stmt := topS 29
abbrev s__law_stream : Stmt := topS 30
abbrev s__law_draw : Stmt := topS 31
abbrev s__law_pick : Stmt := topS 32
abbrev s__law_made : Stmt := topS 33
abbrev s__law_kinds : Stmt := topS 34
abbrev s__law_bases : Stmt := topS 35
abbrev s__law_fields : Stmt := topS 36
abbrev s__law_right : Stmt := topS 37
abbrev s_law : Stmt := topS 38
theorem sc_IllFormed___init__ : FnScope ["self", "position"] ["self", "position"] (defScope s_IllFormed___init__) := ⟨rfl, rfl, rfl, by decide +kernel, rfl, by decide +kernel, by decide +kernel⟩
theorem sc_InvalidText___init__ : FnScope ["self", "index"] ["self", "index"] (defScope s_InvalidText___init__) := ⟨rfl, rfl, rfl, by decide +kernel, rfl, by decide +kernel, by decide +kernel⟩
theorem sc_InvalidName___init__ : FnScope ["self", "given"] ["self", "given"] (defScope s_InvalidName___init__) := ⟨rfl, rfl, rfl, by decide +kernel, rfl, by decide +kernel, by decide +kernel⟩
theorem sc_InvalidKind___init__ : FnScope ["self", "kind"] ["self", "kind"] (defScope s_InvalidKind___init__) := ⟨rfl, rfl, rfl, by decide +kernel, rfl, by decide +kernel, by decide +kernel⟩
theorem sc_InvalidNumber___init__ : FnScope ["self", "number"] ["self", "number"] (defScope s_InvalidNumber___init__) := ⟨rfl, rfl, rfl, by decide +kernel, rfl, by decide +kernel, by decide +kernel⟩
theorem sc_InvalidPlace___init__ : FnScope ["self", "given"] ["self", "given"] (defScope s_InvalidPlace___init__) := ⟨rfl, rfl, rfl, by decide +kernel, rfl, by decide +kernel, by decide +kernel⟩
theorem sc_InvalidMark___init__ : FnScope ["self", "given"] ["self", "given"] (defScope s_InvalidMark___init__) := ⟨rfl, rfl, rfl, by decide +kernel, rfl, by decide +kernel, by decide +kernel⟩
theorem sc_InvalidAttributes___init__ : FnScope ["self", "index"] ["self", "index"] (defScope s_InvalidAttributes___init__) := ⟨rfl, rfl, rfl, by decide +kernel, rfl, by decide +kernel, by decide +kernel⟩
theorem sc_InvalidNode___init__ : FnScope ["self", "given"] ["self", "given"] (defScope s_InvalidNode___init__) := ⟨rfl, rfl, rfl, by decide +kernel, rfl, by decide +kernel, by decide +kernel⟩
theorem sc_InvalidPath___init__ : FnScope ["self", "given"] ["self", "given"] (defScope s_InvalidPath___init__) := ⟨rfl, rfl, rfl, by decide +kernel, rfl, by decide +kernel, by decide +kernel⟩
theorem sc_InvalidEvents___init__ : FnScope ["self", "index"] ["self", "index"] (defScope s_InvalidEvents___init__) := ⟨rfl, rfl, rfl, by decide +kernel, rfl, by decide +kernel, by decide +kernel⟩
theorem sc_InvalidEdit___init__ : FnScope ["self", "index"] ["self", "index"] (defScope s_InvalidEdit___init__) := ⟨rfl, rfl, rfl, by decide +kernel, rfl, by decide +kernel, by decide +kernel⟩
theorem sc_InvalidQuery___init__ : FnScope ["self", "position"] ["self", "position"] (defScope s_InvalidQuery___init__) := ⟨rfl, rfl, rfl, by decide +kernel, rfl, by decide +kernel, by decide +kernel⟩
theorem sc_InvalidPlan___init__ : FnScope ["self", "index"] ["self", "index"] (defScope s_InvalidPlan___init__) := ⟨rfl, rfl, rfl, by decide +kernel, rfl, by decide +kernel, by decide +kernel⟩
theorem sc_UnknownMark___init__ : FnScope ["self", "given"] ["self", "given"] (defScope s_UnknownMark___init__) := ⟨rfl, rfl, rfl, by decide +kernel, rfl, by decide +kernel, by decide +kernel⟩
theorem sc_BadBinding___init__ : FnScope ["self", "spelling", "place"] ["self", "spelling", "place"] (defScope s_BadBinding___init__) := ⟨rfl, rfl, rfl, by decide +kernel, rfl, by decide +kernel, by decide +kernel⟩
theorem sc_Unbound___init__ : FnScope ["self", "spelling", "place"] ["self", "spelling", "place"] (defScope s_Unbound___init__) := ⟨rfl, rfl, rfl, by decide +kernel, rfl, by decide +kernel, by decide +kernel⟩
theorem sc_Repeated___init__ : FnScope ["self", "spelling", "place"] ["self", "spelling", "place"] (defScope s_Repeated___init__) := ⟨rfl, rfl, rfl, by decide +kernel, rfl, by decide +kernel, by decide +kernel⟩
theorem sc_NoEntity___init__ : FnScope ["self", "given"] ["self", "given"] (defScope s_NoEntity___init__) := ⟨rfl, rfl, rfl, by decide +kernel, rfl, by decide +kernel, by decide +kernel⟩
theorem sc_NotPlain___init__ : FnScope ["self", "given"] ["self", "given"] (defScope s_NotPlain___init__) := ⟨rfl, rfl, rfl, by decide +kernel, rfl, by decide +kernel, by decide +kernel⟩
theorem sc_NotPossible___init__ : FnScope ["self", "given"] ["self", "given"] (defScope s_NotPossible___init__) := ⟨rfl, rfl, rfl, by decide +kernel, rfl, by decide +kernel, by decide +kernel⟩
theorem sc_OutOfPlace___init__ : FnScope ["self", "kind"] ["self", "kind"] (defScope s_OutOfPlace___init__) := ⟨rfl, rfl, rfl, by decide +kernel, rfl, by decide +kernel, by decide +kernel⟩
theorem sc_NothingToUndo___init__ : FnScope ["self"] ["self"] (defScope s_NothingToUndo___init__) := ⟨rfl, rfl, rfl, by decide +kernel, rfl, by decide +kernel, by decide +kernel⟩
theorem sc_TooLarge___init__ : FnScope ["self", "limit", "position"] ["self", "limit", "position"] (defScope s_TooLarge___init__) := ⟨rfl, rfl, rfl, by decide +kernel, rfl, by decide +kernel, by decide +kernel⟩
theorem sc__law_mixed : FnScope ["number", "k"] ["number", "k"] (defScope s__law_mixed) := ⟨rfl, rfl, rfl, by decide +kernel, rfl, by decide +kernel, by decide +kernel⟩
theorem sc__law_stream : FnScope ["item", "k"] ["item", "k"] (defScope s__law_stream) := ⟨rfl, rfl, rfl, by decide +kernel, rfl, by decide +kernel, by decide +kernel⟩
theorem sc__law_draw : FnScope ["stream", "top", "number"] ["stream", "top"] (defScope s__law_draw) := ⟨rfl, rfl, rfl, by decide +kernel, rfl, by decide +kernel, by decide +kernel⟩
theorem sc__law_pick : FnScope ["stream", "some"] ["stream", "some"] (defScope s__law_pick) := ⟨rfl, rfl, rfl, by decide +kernel, rfl, by decide +kernel, by decide +kernel⟩
theorem sc__law_made : FnScope ["one", "other", "found"] ["one", "other"] (defScope s__law_made) := ⟨rfl, rfl, rfl, by decide +kernel, rfl, by decide +kernel, by decide +kernel⟩
theorem sc__law_kinds : FnScope ["error", "found"] ["error"] (defScope s__law_kinds) := ⟨rfl, rfl, rfl, by decide +kernel, rfl, by decide +kernel, by decide +kernel⟩
theorem sc__law_bases : FnScope ["error", "found"] ["error"] (defScope s__law_bases) := ⟨rfl, rfl, rfl, by decide +kernel, rfl, by decide +kernel, by decide +kernel⟩
theorem sc__law_fields : FnScope ["some", "found"] ["some"] (defScope s__law_fields) := ⟨rfl, rfl, rfl, by decide +kernel, rfl, by decide +kernel, by decide +kernel⟩
theorem sc__law_right : FnScope ["one", "other", "some", "due", "k", "error", "base", "at"] ["one", "other"] (defScope s__law_right) := ⟨rfl, rfl, rfl, by decide +kernel, rfl, by decide +kernel, by decide +kernel⟩
theorem sc_law : FnScope ["script", "k", "item", "stream", "small", "some", "one", "other"] ["script"] (defScope s_law) := ⟨rfl, rfl, rfl, by decide +kernel, rfl, by decide +kernel, by decide +kernel⟩
def isBase (i j : Nat) : Bool := decide (j < 6) && decide ((if i < 18 then 0 else if i < 23 then 1 else 2) = j % 3)
/-! ### what the walk asks of the top -/
structure Tx (P : Program) (w : World) (K : PySem.W.Frag) (mg : Str → Option Value) (base : Heap) : Type where
  d__law_mixed : Mx.DefT K mg "_law_mixed" s__law_mixed ["number", "k"]
  d__law_stream : Mx.DefT K mg "_law_stream" s__law_stream ["item", "k"]
  d__law_draw : Mx.DefT K mg "_law_draw" s__law_draw ["stream", "top"]
  d__law_pick : Mx.DefT K mg "_law_pick" s__law_pick ["stream", "some"]
  d__law_made : Mx.DefT K mg "_law_made" s__law_made ["one", "other"]
  d__law_kinds : Mx.DefT K mg "_law_kinds" s__law_kinds ["error"]
  d__law_bases : Mx.DefT K mg "_law_bases" s__law_bases ["error"]
  d__law_fields : Mx.DefT K mg "_law_fields" s__law_fields ["some"]
  d__law_right : Mx.DefT K mg "_law_right" s__law_right ["one", "other"]
  n_isinstance : mg "isinstance" = none
  n_len : mg "len" = none
  n_int : mg "int" = none
  n_enumerate : mg "enumerate" = none
  n_range : mg "range" = none
  n_repr : mg "repr" = none
  n_ValueError : mg "ValueError" = none
  n_RuntimeError : mg "RuntimeError" = none
  n_OverflowError : mg "OverflowError" = none
  n_LookupError : mg "LookupError" = none
  n_NotImplementedError : mg "NotImplementedError" = none
  a_MarkupError : Addr
  m_MarkupError : mg "MarkupError" = some (.ref a_MarkupError)
  a_MarkupStateError : Addr
  m_MarkupStateError : mg "MarkupStateError" = some (.ref a_MarkupStateError)
  a_LimitError : Addr
  m_LimitError : mg "LimitError" = some (.ref a_LimitError)
  a_IllFormed : Addr
  i_IllFormed : Addr
  fd_IllFormed : FuncData
  x_IllFormed : Mx.ClT P w K mg base Mx.ebV "IllFormed" a_IllFormed i_IllFormed fd_IllFormed ["self", "position"] (Mx.spIn a_IllFormed ["position"])
  f_IllFormed_position : PySem.W.findIn K (.ref a_IllFormed) "position" = some none
  a_InvalidText : Addr
  i_InvalidText : Addr
  fd_InvalidText : FuncData
  x_InvalidText : Mx.ClT P w K mg base Mx.ebV "InvalidText" a_InvalidText i_InvalidText fd_InvalidText ["self", "index"] (Mx.spIn a_InvalidText ["index"])
  f_InvalidText_index : PySem.W.findIn K (.ref a_InvalidText) "index" = some none
  a_InvalidName : Addr
  i_InvalidName : Addr
  fd_InvalidName : FuncData
  x_InvalidName : Mx.ClT P w K mg base Mx.ebV "InvalidName" a_InvalidName i_InvalidName fd_InvalidName ["self", "given"] (Mx.spIn a_InvalidName ["given"])
  f_InvalidName_given : PySem.W.findIn K (.ref a_InvalidName) "given" = some none
  a_InvalidKind : Addr
  i_InvalidKind : Addr
  fd_InvalidKind : FuncData
  x_InvalidKind : Mx.ClT P w K mg base Mx.ebV "InvalidKind" a_InvalidKind i_InvalidKind fd_InvalidKind ["self", "kind"] (Mx.spIn a_InvalidKind ["kind"])
  f_InvalidKind_kind : PySem.W.findIn K (.ref a_InvalidKind) "kind" = some none
  a_InvalidNumber : Addr
  i_InvalidNumber : Addr
  fd_InvalidNumber : FuncData
  x_InvalidNumber : Mx.ClT P w K mg base Mx.ebV "InvalidNumber" a_InvalidNumber i_InvalidNumber fd_InvalidNumber ["self", "number"] (Mx.spIn a_InvalidNumber ["number"])
  f_InvalidNumber_number : PySem.W.findIn K (.ref a_InvalidNumber) "number" = some none
  a_InvalidPlace : Addr
  i_InvalidPlace : Addr
  fd_InvalidPlace : FuncData
  x_InvalidPlace : Mx.ClT P w K mg base Mx.ebV "InvalidPlace" a_InvalidPlace i_InvalidPlace fd_InvalidPlace ["self", "given"] (Mx.spIn a_InvalidPlace ["given"])
  f_InvalidPlace_given : PySem.W.findIn K (.ref a_InvalidPlace) "given" = some none
  a_InvalidMark : Addr
  i_InvalidMark : Addr
  fd_InvalidMark : FuncData
  x_InvalidMark : Mx.ClT P w K mg base Mx.ebV "InvalidMark" a_InvalidMark i_InvalidMark fd_InvalidMark ["self", "given"] (Mx.spIn a_InvalidMark ["given"])
  f_InvalidMark_given : PySem.W.findIn K (.ref a_InvalidMark) "given" = some none
  a_InvalidAttributes : Addr
  i_InvalidAttributes : Addr
  fd_InvalidAttributes : FuncData
  x_InvalidAttributes : Mx.ClT P w K mg base Mx.ebV "InvalidAttributes" a_InvalidAttributes i_InvalidAttributes fd_InvalidAttributes ["self", "index"] (Mx.spIn a_InvalidAttributes ["index"])
  f_InvalidAttributes_index : PySem.W.findIn K (.ref a_InvalidAttributes) "index" = some none
  a_InvalidNode : Addr
  i_InvalidNode : Addr
  fd_InvalidNode : FuncData
  x_InvalidNode : Mx.ClT P w K mg base Mx.ebV "InvalidNode" a_InvalidNode i_InvalidNode fd_InvalidNode ["self", "given"] (Mx.spIn a_InvalidNode ["given"])
  f_InvalidNode_given : PySem.W.findIn K (.ref a_InvalidNode) "given" = some none
  a_InvalidPath : Addr
  i_InvalidPath : Addr
  fd_InvalidPath : FuncData
  x_InvalidPath : Mx.ClT P w K mg base Mx.ebV "InvalidPath" a_InvalidPath i_InvalidPath fd_InvalidPath ["self", "given"] (Mx.spIn a_InvalidPath ["given"])
  f_InvalidPath_given : PySem.W.findIn K (.ref a_InvalidPath) "given" = some none
  a_InvalidEvents : Addr
  i_InvalidEvents : Addr
  fd_InvalidEvents : FuncData
  x_InvalidEvents : Mx.ClT P w K mg base Mx.ebV "InvalidEvents" a_InvalidEvents i_InvalidEvents fd_InvalidEvents ["self", "index"] (Mx.spIn a_InvalidEvents ["index"])
  f_InvalidEvents_index : PySem.W.findIn K (.ref a_InvalidEvents) "index" = some none
  a_InvalidEdit : Addr
  i_InvalidEdit : Addr
  fd_InvalidEdit : FuncData
  x_InvalidEdit : Mx.ClT P w K mg base Mx.ebV "InvalidEdit" a_InvalidEdit i_InvalidEdit fd_InvalidEdit ["self", "index"] (Mx.spIn a_InvalidEdit ["index"])
  f_InvalidEdit_index : PySem.W.findIn K (.ref a_InvalidEdit) "index" = some none
  a_InvalidQuery : Addr
  i_InvalidQuery : Addr
  fd_InvalidQuery : FuncData
  x_InvalidQuery : Mx.ClT P w K mg base Mx.ebV "InvalidQuery" a_InvalidQuery i_InvalidQuery fd_InvalidQuery ["self", "position"] (Mx.spIn a_InvalidQuery ["position"])
  f_InvalidQuery_position : PySem.W.findIn K (.ref a_InvalidQuery) "position" = some none
  a_InvalidPlan : Addr
  i_InvalidPlan : Addr
  fd_InvalidPlan : FuncData
  x_InvalidPlan : Mx.ClT P w K mg base Mx.ebV "InvalidPlan" a_InvalidPlan i_InvalidPlan fd_InvalidPlan ["self", "index"] (Mx.spIn a_InvalidPlan ["index"])
  f_InvalidPlan_index : PySem.W.findIn K (.ref a_InvalidPlan) "index" = some none
  a_UnknownMark : Addr
  i_UnknownMark : Addr
  fd_UnknownMark : FuncData
  x_UnknownMark : Mx.ClT P w K mg base Mx.ebV "UnknownMark" a_UnknownMark i_UnknownMark fd_UnknownMark ["self", "given"] (Mx.spIn a_UnknownMark ["given"])
  f_UnknownMark_given : PySem.W.findIn K (.ref a_UnknownMark) "given" = some none
  a_BadBinding : Addr
  i_BadBinding : Addr
  fd_BadBinding : FuncData
  x_BadBinding : Mx.ClT P w K mg base Mx.ebV "BadBinding" a_BadBinding i_BadBinding fd_BadBinding ["self", "spelling", "place"] (Mx.spIn a_BadBinding ["spelling", "place"])
  f_BadBinding_spelling : PySem.W.findIn K (.ref a_BadBinding) "spelling" = some none
  f_BadBinding_place : PySem.W.findIn K (.ref a_BadBinding) "place" = some none
  a_Unbound : Addr
  i_Unbound : Addr
  fd_Unbound : FuncData
  x_Unbound : Mx.ClT P w K mg base Mx.ebV "Unbound" a_Unbound i_Unbound fd_Unbound ["self", "spelling", "place"] (Mx.spIn a_Unbound ["spelling", "place"])
  f_Unbound_spelling : PySem.W.findIn K (.ref a_Unbound) "spelling" = some none
  f_Unbound_place : PySem.W.findIn K (.ref a_Unbound) "place" = some none
  a_Repeated : Addr
  i_Repeated : Addr
  fd_Repeated : FuncData
  x_Repeated : Mx.ClT P w K mg base Mx.ebV "Repeated" a_Repeated i_Repeated fd_Repeated ["self", "spelling", "place"] (Mx.spIn a_Repeated ["spelling", "place"])
  f_Repeated_spelling : PySem.W.findIn K (.ref a_Repeated) "spelling" = some none
  f_Repeated_place : PySem.W.findIn K (.ref a_Repeated) "place" = some none
  a_NoEntity : Addr
  i_NoEntity : Addr
  fd_NoEntity : FuncData
  x_NoEntity : Mx.ClT P w K mg base Mx.ebR "NoEntity" a_NoEntity i_NoEntity fd_NoEntity ["self", "given"] (Mx.spIn a_NoEntity ["given"])
  f_NoEntity_given : PySem.W.findIn K (.ref a_NoEntity) "given" = some none
  a_NotPlain : Addr
  i_NotPlain : Addr
  fd_NotPlain : FuncData
  x_NotPlain : Mx.ClT P w K mg base Mx.ebR "NotPlain" a_NotPlain i_NotPlain fd_NotPlain ["self", "given"] (Mx.spIn a_NotPlain ["given"])
  f_NotPlain_given : PySem.W.findIn K (.ref a_NotPlain) "given" = some none
  a_NotPossible : Addr
  i_NotPossible : Addr
  fd_NotPossible : FuncData
  x_NotPossible : Mx.ClT P w K mg base Mx.ebR "NotPossible" a_NotPossible i_NotPossible fd_NotPossible ["self", "given"] (Mx.spIn a_NotPossible ["given"])
  f_NotPossible_given : PySem.W.findIn K (.ref a_NotPossible) "given" = some none
  a_OutOfPlace : Addr
  i_OutOfPlace : Addr
  fd_OutOfPlace : FuncData
  x_OutOfPlace : Mx.ClT P w K mg base Mx.ebR "OutOfPlace" a_OutOfPlace i_OutOfPlace fd_OutOfPlace ["self", "kind"] (Mx.spIn a_OutOfPlace ["kind"])
  f_OutOfPlace_kind : PySem.W.findIn K (.ref a_OutOfPlace) "kind" = some none
  a_NothingToUndo : Addr
  i_NothingToUndo : Addr
  fd_NothingToUndo : FuncData
  x_NothingToUndo : Mx.ClT P w K mg base Mx.ebR "NothingToUndo" a_NothingToUndo i_NothingToUndo fd_NothingToUndo ["self"] (Mx.spIn a_NothingToUndo [])
  a_TooLarge : Addr
  i_TooLarge : Addr
  fd_TooLarge : FuncData
  x_TooLarge : Mx.ClT P w K mg base Mx.ebO "TooLarge" a_TooLarge i_TooLarge fd_TooLarge ["self", "limit", "position"] (Mx.spIn a_TooLarge ["limit", "position"])
  f_TooLarge_limit : PySem.W.findIn K (.ref a_TooLarge) "limit" = some none
  f_TooLarge_position : PySem.W.findIn K (.ref a_TooLarge) "position" = some none
  xc : ∀ C ∈ [a_IllFormed, a_InvalidText, a_InvalidName, a_InvalidKind, a_InvalidNumber, a_InvalidPlace, a_InvalidMark, a_InvalidAttributes, a_InvalidNode, a_InvalidPath, a_InvalidEvents, a_InvalidEdit, a_InvalidQuery, a_InvalidPlan, a_UnknownMark, a_BadBinding, a_Unbound, a_Repeated, a_NoEntity, a_NotPlain, a_NotPossible, a_OutOfPlace, a_NothingToUndo, a_TooLarge], Mx.XcC K C
  kit : ∀ (i j : Nat) (C D : Addr), [a_IllFormed, a_InvalidText, a_InvalidName, a_InvalidKind, a_InvalidNumber, a_InvalidPlace, a_InvalidMark, a_InvalidAttributes, a_InvalidNode, a_InvalidPath, a_InvalidEvents, a_InvalidEdit, a_InvalidQuery, a_InvalidPlan, a_UnknownMark, a_BadBinding, a_Unbound, a_Repeated, a_NoEntity, a_NotPlain, a_NotPossible, a_OutOfPlace, a_NothingToUndo, a_TooLarge][i]? = some C → [a_IllFormed, a_InvalidText, a_InvalidName, a_InvalidKind, a_InvalidNumber, a_InvalidPlace, a_InvalidMark, a_InvalidAttributes, a_InvalidNode, a_InvalidPath, a_InvalidEvents, a_InvalidEdit, a_InvalidQuery, a_InvalidPlan, a_UnknownMark, a_BadBinding, a_Unbound, a_Repeated, a_NoEntity, a_NotPlain, a_NotPossible, a_OutOfPlace, a_NothingToUndo, a_TooLarge][j]? = some D → PySem.W.kitOne K (.ref C) (.ref D) = some (decide (i = j))
  kitB : ∀ (i j : Nat) (C : Addr) (u : Value), [a_IllFormed, a_InvalidText, a_InvalidName, a_InvalidKind, a_InvalidNumber, a_InvalidPlace, a_InvalidMark, a_InvalidAttributes, a_InvalidNode, a_InvalidPath, a_InvalidEvents, a_InvalidEdit, a_InvalidQuery, a_InvalidPlan, a_UnknownMark, a_BadBinding, a_Unbound, a_Repeated, a_NoEntity, a_NotPlain, a_NotPossible, a_OutOfPlace, a_NothingToUndo, a_TooLarge][i]? = some C → [.ref a_MarkupError, .ref a_MarkupStateError, .ref a_LimitError, .type "ValueError", .type "RuntimeError", .type "OverflowError", .type "LookupError", .type "NotImplementedError"][j]? = some u → PySem.W.kitOne K (.ref C) u = some (isBase i j)
abbrev Tx.L {P : Program} {w : World} {K : PySem.W.Frag} {mg : Str → Option Value} {base : Heap} (T : Tx P w K mg base) : List Addr := [T.a_IllFormed, T.a_InvalidText, T.a_InvalidName, T.a_InvalidKind, T.a_InvalidNumber, T.a_InvalidPlace, T.a_InvalidMark, T.a_InvalidAttributes, T.a_InvalidNode, T.a_InvalidPath, T.a_InvalidEvents, T.a_InvalidEdit, T.a_InvalidQuery, T.a_InvalidPlan, T.a_UnknownMark, T.a_BadBinding, T.a_Unbound, T.a_Repeated, T.a_NoEntity, T.a_NotPlain, T.a_NotPossible, T.a_OutOfPlace, T.a_NothingToUndo, T.a_TooLarge]
abbrev Tx.B {P : Program} {w : World} {K : PySem.W.Frag} {mg : Str → Option Value} {base : Heap} (T : Tx P w K mg base) : List Value := [.ref T.a_MarkupError, .ref T.a_MarkupStateError, .ref T.a_LimitError, .type "ValueError", .type "RuntimeError", .type "OverflowError", .type "LookupError", .type "NotImplementedError"]
/-- the classes with their fields, in order -/
def due (L : List Addr) (one other : V) : List (Addr × List (Str × V)) := L.zip [[("position", one)], [("index", one)], [("given", one)], [("kind", one)], [("number", one)], [("given", one)], [("given", one)], [("index", one)], [("given", one)], [("given", one)], [("index", one)], [("index", one)], [("position", one)], [("index", one)], [("given", one)], [("place", other), ("spelling", one)], [("place", other), ("spelling", one)], [("place", other), ("spelling", one)], [("given", one)], [("given", one)], [("given", one)], [("kind", one)], [], [("position", other), ("limit", one)]]
def Xs (H : Hp) (as : List Addr) (ds : List (Addr × List (Str × V))) : Prop := Paired (fun a cf => XoF H a cf.1 cf.2) as ds
def kindsV (i : Nat) : List Bool := (List.range 24).map fun j => decide (i = j)
def basesV (i : Nat) : List Bool := (List.range 8).map fun j => isBase i j
def fieldsV (one other : V) : List V := List.replicate 15 one ++ [one, other, one, other, one, other] ++ List.replicate 4 one ++ [one, other]
def sp__law_made (L : List Addr) : Sp := fun vs H Q _ => ∃ one other : V, vs = [one, other] ∧ ∀ (p : Addr) (as : List Addr) (H' : Hp), Same H H' → H' p = some (.lst (as.map V.ref)) → Xs H' as (due L one other) → Q (.ref p) H'
def sp__law_kinds (L : List Addr) : Sp := fun vs H Q _ => ∃ (a C : Addr) (fs : List (Str × V)) (i : Nat), vs = [.ref a] ∧ L[i]? = some C ∧ XoF H a C fs ∧ ∀ (p : Addr) (H' : Hp), Same H H' → H' p = some (.lst ((kindsV i).map V.bl)) → Q (.ref p) H'
def sp__law_bases (L : List Addr) : Sp := fun vs H Q _ => ∃ (a C : Addr) (fs : List (Str × V)) (i : Nat), vs = [.ref a] ∧ L[i]? = some C ∧ XoF H a C fs ∧ ∀ (p : Addr) (H' : Hp), Same H H' → H' p = some (.lst ((basesV i).map V.bl)) → Q (.ref p) H'
def sp__law_fields (L : List Addr) : Sp := fun vs H Q _ => ∃ (p : Addr) (as : List Addr) (one other : V), vs = [.ref p] ∧ H p = some (.lst (as.map V.ref)) ∧ Xs H as (due L one other) ∧ ∀ (r : Addr) (H' : Hp), Same H H' → H' r = some (.lst (fieldsV one other)) → Q (.ref r) H'
end K1

namespace K1
open PySem PySem.Spec PyProof.Rows L2 Mx
/-! ### the law's draws -/
def sp__law_mixed : Sp := fun vs H Q _ => ∃ n k : Int, vs = [.int n, .int k] ∧ 0 ≤ k ∧ k ≤ 1000000000000 ∧ ∀ r : Int, 0 ≤ r → r < 2147483629 → Q (.int r) H
def sp__law_stream : Sp := fun vs H Q _ => ∃ n k : Int, vs = [.int n, .int k] ∧ 0 ≤ k ∧ k ≤ 1000000 ∧ ∀ (p : Addr) (H' : Hp), H p = none → Same H H' → StAt p 0 H' → Q (.ref p) H'
def sp__law_draw : Sp := fun vs H Q _ => ∃ (a : Addr) (c top : Int), vs = [.ref a, .int top] ∧ StAt a c H ∧ c ≤ 100000000 ∧ 0 < top ∧ top < 1000000 ∧
  ∀ (r : Int) (H' : Hp), 0 ≤ r → r < top → Kp a H H' → StAt a (c + 1) H' → Q (.int r) H'

local macro_rules | `(tactic| walk_at "sz") => `(tactic| first | assumption | decide | omega | (unfold sizeLine; omega) | exact Nat.le_of_ble_eq_true rfl)
local macro_rules | `(tactic| walk_at "hp") => `(tactic| (first | assumption | exact upd_same | (rw [upd_ne (by assumption)]; assumption)))
local macro_rules | `(tactic| walk_at "rd") => `(tactic| (first
  | refine ⟨_, rfl, ?_⟩
  | (refine ⟨_, _, rfl, rfl, ?rdc, ?_⟩; (case rdc => first | (show (0 : Int) < _; omega) | (exact ⟨by omega, by omega⟩) | (exact .inl ⟨by omega, by omega⟩) | (exact .inr ⟨by omega, by omega⟩) | exact ⟨by decide, by decide, by decide⟩))
  | refine ⟨_, _, rfl, rfl, ?_⟩
  | refine .inl ⟨_, rfl, ?_⟩
  | refine ⟨rfl, ?_⟩
  | refine ⟨⟨_, rfl⟩, ?_⟩
  | refine ⟨⟨_, SqL.of (by walk_at "hp")⟩, ?_⟩
  | refine ⟨_, _, _, _, rfl, rfl, SqL.of (by walk_at "hp"), (by rfl), ?_⟩
  | refine ⟨_, _, _, _, rfl, rfl, (by walk_at "hp"), (by rfl), ?_⟩
  | refine ⟨_, _, rfl, ⟨by walk_at "sz", rfl⟩, ?_⟩
  | refine ⟨_, _, _, rfl, rfl, by walk_at "sz", by assumption, ?_⟩
  | refine And.intro (by walk_at "sz") ?_
  | refine itT rfl ?_
  | refine itF rfl ?_
  | refine itT (by assumption) ?_
  | refine itF (by assumption) ?_
  | refine itT (decide_eq_true (by omega)) ?_
  | refine itF (decide_eq_false (by omega)) ?_
  | refine itT (dVi (by omega)) ?_
  | refine itF (dViN (by omega)) ?_
  | refine itT (notT (by assumption)) ?_
  | refine itF (notF (by assumption)) ?_
  | refine itT (notT (dViN (by omega))) ?_
  | refine itF (notF (dVi (by omega))) ?_
  | refine itT (decide_eq_true rfl) ?_
  | refine itF (notF (decide_eq_true rfl)) ?_
  | refine ite2 (fun _ => ?_) (fun _ => ?_)
  | with_reducible refine tC_ ?_
  | with_reducible refine tNext_ ?_
  | with_reducible refine tNil_ ?_
  | with_reducible refine tYes_ ?_))
local macro_rules | `(tactic| walk_at "rds") => `(tactic| repeat' (walk_at "rd"))
section
variable {P : Program} {w : World} {K : PySem.W.Frag} {mg : Str → Option Value} {base : Heap}

theorem ok__law_mixed (T : Tx P w K mg base) : FnOk P w K mg base CX0 1 T.d__law_mixed.f T.d__law_mixed.fd ["number", "k"] sp__law_mixed := by
  have sc := sc__law_mixed
  refine T.d__law_mixed.F.ok sc (fun vs H Q E h => ?_) (fun cdv A outer s H vs Q E hr h => ?_)
  · obtain ⟨n, k, rfl, h1, h2, q⟩ := h
    rfl
  · obtain ⟨n, k, rfl, h1, h2, q⟩ := h
    refine ⟨_, (pss_cons (ps_set (i := 0) sc.nd rfl (Or.inl rfl) (pe_op op_mod (pe_callTy call_int1 (by rfl) T.n_int (by decide +kernel) (pa_cons (pe_op op_mul (pe_op op_add (pe_op op_add (pe_op op_mod (pe_callTy call_int1 (by rfl) T.n_int (by decide +kernel) (pa_cons (pv 0) pa_nil)) pe_int) (pe_op op_mul (pe_op op_mul pe_int (pv 1)) (pv 1))) (pe_op op_mul pe_int (pv 1))) pe_int) pa_nil)) pe_int))
      (pss_one (ps_ret (pe_op op_mod (pe_callTy call_int1 (by rfl) T.n_int (by decide +kernel) (pa_cons (pe_op op_mul (pv 0) (pe_op op_add pe_int (pe_op op_mul pe_int (pv 1)))) pa_nil)) pe_int)))), ?_⟩
    have e2 : ∀ x : Int, 0 ≤ x % 2147483629 ∧ x % 2147483629 < 2147483629 := fun x => ⟨Int.emod_nonneg _ (by decide), Int.emod_lt_of_pos _ (by decide)⟩
    repeat (walk_at "rd")
    exact q _ (e2 _).1 (e2 _).2

theorem ok__law_stream (T : Tx P w K mg base) (G__law_mixed : FnOk P w K mg base CX0 1 T.d__law_mixed.f T.d__law_mixed.fd ["number", "k"] sp__law_mixed) : FnOk P w K mg base CX0 2 T.d__law_stream.f T.d__law_stream.fd ["item", "k"] sp__law_stream := by
  have sc := sc__law_stream
  refine T.d__law_stream.F.ok sc (fun vs H Q E h => ?_) (fun cdv A outer s H vs Q E hr h => ?_)
  · obtain ⟨n, k, rfl, h1, h2, q⟩ := h
    rfl
  · obtain ⟨n, k, rfl, h1, h2, q⟩ := h
    refine ⟨_, (pss_one (ps_ret (pe_lst (pa_cons (pe_ifExp (pt_cmpR op_ge (pv 0) (pe_op op_pow pe_int pe_int) (nomark _)) (pv 0) pe_int) (pa_cons pe_int (pa_cons (pe_call G__law_mixed (hr.mono (by decide)) rfl T.d__law_mixed.m T.d__law_mixed.F.kp T.d__law_mixed.b .nil pass0 (pa_cons (pv 0) (pa_cons (pv 1) pa_nil))) pa_nil)))))), ?_⟩
    walk_at "rds"
    all_goals
      refine ⟨_, _, rfl, h1, by omega, fun r r0 r1 => ?_⟩
      walk_at "rds"
      intro p hp
      exact q p _ hp (Same.new (Same.refl _) hp) ⟨_, _, 0, upd_same, by decide, by decide⟩

theorem ok__law_draw (T : Tx P w K mg base) (G__law_mixed : FnOk P w K mg base CX0 1 T.d__law_mixed.f T.d__law_mixed.fd ["number", "k"] sp__law_mixed) : FnOk P w K mg base CX0 2 T.d__law_draw.f T.d__law_draw.fd ["stream", "top"] sp__law_draw := by
  have sc := sc__law_draw
  refine T.d__law_draw.F.ok sc (fun vs H Q E h => ?_) (fun cdv A outer s H vs Q E hr h => ?_)
  · obtain ⟨a, c, top, rfl, hs, hc, t0, t1, q⟩ := h
    rfl
  · obtain ⟨a, c, top, rfl, hs, hc, t0, t1, q⟩ := h
    refine ⟨_, (pss_cons (ps_asg (pe_op op_add (pe_ix ix_list (pv 0) pe_int (fun _ _ => rfl)) pe_int) (pg_sub (pv 0) pe_int set_list))
      (pss_cons (ps_if (pt_cmpR op_eq (pe_ix ix_list (pv 0) pe_int (fun _ _ => rfl)) pe_int (nomark _)) (pss_one (ps_ret (pe_op op_mod (pe_callTy call_int1 (by rfl) T.n_int (by decide +kernel) (pa_cons (pe_call G__law_mixed (hr.mono (by decide)) rfl T.d__law_mixed.m T.d__law_mixed.F.kp T.d__law_mixed.b .nil pass0 (pa_cons (pe_call G__law_mixed (hr.mono (by decide)) rfl T.d__law_mixed.m T.d__law_mixed.F.kp T.d__law_mixed.b .nil pass0 (pa_cons (pe_ix ix_list (pv 0) pe_int (fun _ _ => rfl)) (pa_cons (pe_ix ix_list (pv 0) pe_int (fun _ _ => rfl)) pa_nil))) (pa_cons pe_int pa_nil))) pa_nil)) (pv 1)))) pss_nil)
      (pss_cons (ps_set (i := 2) sc.nd rfl (Or.inl rfl) (pe_op op_mod (pe_callTy call_int1 (by rfl) T.n_int (by decide +kernel) (pa_cons (pe_ix ix_list (pv 0) pe_int (fun _ _ => rfl)) pa_nil)) (pv 1)))
      (pss_cons (ps_asg (pe_op op_fdiv (pe_ix ix_list (pv 0) pe_int (fun _ _ => rfl)) (pv 1)) (pg_sub (pv 0) pe_int set_list))
      (pss_one (ps_ret (pv 2))))))), ?_⟩
    obtain ⟨x, y, n, ha, n0, n1⟩ := hs
    have em : ∀ x : Int, 0 ≤ x % top ∧ x % top < top := fun x => ⟨Int.emod_nonneg _ (by omega), Int.emod_lt_of_pos _ t0⟩
    walk_at "rds"
    · refine ⟨_, _, rfl, by omega, by omega, fun r r0 r1 => ?_⟩
      walk_at "rds"
      refine ⟨_, _, rfl, by decide, by decide, fun r2 r20 r21 => ?_⟩
      walk_at "rds"
      exact q _ _ (em _).1 (em _).2 ((Kp.refl _ _).upd) ⟨_, _, _, upd_same, by omega, by omega⟩
    · walk_at "rds"
      exact q _ _ (em _).1 (em _).2 ((Kp.refl _ _).upd.upd) ⟨_, _, _, upd_same, by omega, by omega⟩

abbrev signs : Str := Str.ofString ("\t\n !\"#$&'()*+,-./0123456789:;<=>?@" ++ "ABCDEFGHIJKLMNOPQRSTUVWXYZ[\\]^_`abcdefghijklmnopqrstuvwxyz{|}~")
def sp__law_signs : Sp := fun vs H Q _ => vs = [] ∧ Q (.str signs) H
def sp__law_pick : Sp := fun vs H Q _ => ∃ (a : Addr) (c : Int) (v : V), vs = [.ref a, v] ∧ StAt a c H ∧ c ≤ 100000000 ∧
  ((∃ (b : Addr) (xs : List V), v = .ref b ∧ b ≠ a ∧ H b = some (.lst xs) ∧ 0 < xs.length ∧ xs.length < 1000000 ∧ ∀ (i : Nat) (x : V) (H' : Hp), xs[i]? = some x → Kp a H H' → StAt a (c + 1) H' → Q x H') ∨
   (∃ z : Str, v = .str z ∧ 0 < z.cps.size ∧ z.cps.size < 1000000 ∧ ∀ (cp : Nat) (H' : Hp), cp ∈ z.cps.toList → Kp a H H' → StAt a (c + 1) H' → Q (.str ⟨#[cp]⟩) H'))
theorem ok__law_pick (T : Tx P w K mg base) (G__law_draw : FnOk P w K mg base CX0 2 T.d__law_draw.f T.d__law_draw.fd ["stream", "top"] sp__law_draw) : FnOk P w K mg base CX0 3 T.d__law_pick.f T.d__law_pick.fd ["stream", "some"] sp__law_pick := by
  have sc := sc__law_pick
  refine T.d__law_pick.F.ok sc (fun vs H Q E h => ?_) (fun cdv A outer s H vs Q E hr h => ?_)
  · obtain ⟨a, c, v, rfl, hs, hc, hv⟩ := h
    rfl
  · obtain ⟨a, c, v, rfl, hs, hc, hv⟩ := h
    refine ⟨_, (pss_one (ps_ret (pe_ix ix_seq (pv 1) (pe_call G__law_draw (hr.mono (by decide)) rfl T.d__law_draw.m T.d__law_draw.F.kp T.d__law_draw.b .nil pass0 (pa_cons (pv 0) (pa_cons (pe_callB call_len (by rfl) T.n_len PySem.boot_len (pa_cons (pv 1) pa_nil)) pa_nil))) (fun _ _ => rfl)))), ?_⟩
    rcases hv with ⟨b, xs, rfl, hb, hx, z0, z1, q⟩ | ⟨z, rfl, z0, z1, q⟩
    · walk_at "rds"
      refine ⟨_, _, rfl, .inl ⟨_, SqL.of hx, rfl⟩, ?_⟩
      walk_at "rds"
      refine ⟨a, c, _, rfl, hs, hc, by omega, by omega, fun r H' r0 r1 kp st => ?_⟩
      obtain ⟨i, x, hi, e, _⟩ := at_int r0 r1
      exact .inl ⟨_, _, _, _, rfl, rfl, SqL.of (kp _ _ hb hx), e, q i x H' hi kp st⟩
    · have zl : z.length = z.cps.size := rfl
      walk_at "rds"
      refine ⟨a, c, _, rfl, hs, hc, by omega, by omega, fun r H' r0 r1 kp st => ?_⟩
      obtain ⟨cp, hm, e⟩ := at_text r0 r1
      exact .inr (.inr ⟨_, _, _, rfl, rfl, by unfold sizeLine; omega, e, q cp H' hm kp st⟩)

end
end K1

namespace K1
open PySem PySem.Spec PyProof.Rows L2 Mx
local macro_rules | `(tactic| walk_at "sz") => `(tactic| first | assumption | decide | omega | (unfold sizeLine; omega) | exact Nat.le_of_ble_eq_true rfl)
local macro_rules | `(tactic| walk_at "hp") => `(tactic| (first | assumption | exact upd_same | (rw [upd_ne (by assumption)]; assumption)))
local macro_rules | `(tactic| walk_at "rd") => `(tactic| (first
  | refine ⟨_, rfl, ?_⟩
  | (refine ⟨_, _, rfl, rfl, ?rdc, ?_⟩; (case rdc => first | (show (0 : Int) < _; omega) | (exact ⟨by omega, by omega⟩) | (exact .inl ⟨by omega, by omega⟩) | (exact .inr ⟨by omega, by omega⟩) | exact ⟨by decide, by decide, by decide⟩))
  | refine ⟨_, _, rfl, rfl, ?_⟩
  | refine .inl ⟨_, rfl, ?_⟩
  | refine ⟨rfl, ?_⟩
  | refine ⟨⟨_, rfl⟩, ?_⟩
  | refine ⟨⟨_, SqL.of (by walk_at "hp")⟩, ?_⟩
  | refine ⟨_, _, _, _, rfl, rfl, SqL.of (by walk_at "hp"), (by rfl), ?_⟩
  | refine ⟨_, _, _, _, rfl, rfl, (by walk_at "hp"), (by rfl), ?_⟩
  | refine ⟨_, _, rfl, ⟨by walk_at "sz", rfl⟩, ?_⟩
  | refine ⟨_, _, _, rfl, rfl, by walk_at "sz", by assumption, ?_⟩
  | refine And.intro (by walk_at "sz") ?_
  | refine itT rfl ?_
  | refine itF rfl ?_
  | refine itT (by assumption) ?_
  | refine itF (by assumption) ?_
  | refine itT (decide_eq_true (by omega)) ?_
  | refine itF (decide_eq_false (by omega)) ?_
  | refine itT (dVi (by omega)) ?_
  | refine itF (dViN (by omega)) ?_
  | refine itT (notT (by assumption)) ?_
  | refine itF (notF (by assumption)) ?_
  | refine itT (notT (dViN (by omega))) ?_
  | refine itF (notF (dVi (by omega))) ?_
  | refine itT (decide_eq_true rfl) ?_
  | refine itF (notF (decide_eq_true rfl)) ?_
  | refine ite2 (fun _ => ?_) (fun _ => ?_)
  | with_reducible refine tC_ ?_
  | with_reducible refine tNext_ ?_
  | with_reducible refine tNil_ ?_
  | with_reducible refine tYes_ ?_))
local macro_rules | `(tactic| walk_at "rds") => `(tactic| repeat' (walk_at "rd"))

local macro_rules | `(tactic| walk_at "lk") => `(tactic| first
  | with_reducible assumption
  | with_reducible exact upd_same
  | (walk_at "lk1"; walk_at "lk")
  | fail "lk")
local macro_rules | `(tactic| walk_at "lk1") => `(tactic| first
  | ((with_reducible refine' lk_new ?a1 ?a2); (case a1 => with_reducible assumption); (case' a2 => skip))
  | ((with_reducible refine' lk_ne ?a1 ?a2); (case a1 => with_reducible assumption); (case' a2 => skip))
  | ((with_reducible refine' lk_neN ?a1 ?a2 ?a3); (case a1 => with_reducible assumption); (case a2 => walk_at "lk"); (case' a3 => skip))
  | ((with_reducible refine' lk_neN' ?a1 ?a2 ?a3); (case a1 => with_reducible assumption); (case a2 => walk_at "lk"); (case' a3 => skip))
  | ((with_reducible refine' lk_same ?a1 ?a2); (case a1 => with_reducible assumption); (case' a2 => skip))
  | ((with_reducible refine' lk_go ?a1 ?a2 ?a3); (case a1 => with_reducible assumption); (case a2 => walk_at "nt"); (case' a3 => skip))
  | ((with_reducible refine' lk_kp_nl ?a1 ?a2 ?a3 ?a4); (case a1 => with_reducible assumption); (case a2 => walk_at "st"); (case a3 => walk_at "nl"); (case' a4 => skip))
  | ((with_reducible refine' lk_kp ?a1 ?a2 ?a3); (case a1 => with_reducible assumption); (case a2 => walk_at "ne"); (case' a3 => skip))
  | fail "lk1")
local macro_rules | `(tactic| walk_at "nt") => `(tactic| first
  | (intro _ z; cases z)
  | fail "nt")
local macro_rules | `(tactic| walk_at "nl") => `(tactic| first
  | (intro _ z; cases z)
  | fail "nl")
local macro_rules | `(tactic| walk_at "ne") => `(tactic| first
  | with_reducible assumption
  | ((with_reducible refine' ne_st ?a1 ?a2); (case a1 => with_reducible assumption); (case a2 => walk_at "st"))
  | fail "ne")
local macro_rules | `(tactic| walk_at "st") => `(tactic| first
  | with_reducible assumption
  | with_reducible exact st_new (by with_reducible assumption) (by walk_at "st")
  | with_reducible exact st_same (by with_reducible assumption) (by walk_at "st")
  | with_reducible exact st_go (by with_reducible assumption) (by walk_at "st")
  | with_reducible exact st_ne (by walk_at "ns") (by walk_at "st")
  | fail "st")
local macro_rules | `(tactic| walk_at "ns") => `(tactic| first
  | with_reducible assumption
  | with_reducible exact Ne.symm (by with_reducible assumption)
  | with_reducible exact Ne.symm (ne_st (by with_reducible assumption) (by walk_at "st"))
  | fail "ns")
local macro_rules | `(tactic| walk_at "fr") => `(tactic| first
  | with_reducible assumption
  | with_reducible exact Same.refl _
  | with_reducible exact Go.refl _ _
  | with_reducible exact Kp.refl _ _
  | with_reducible exact LamX.ExtN.refl _
  | with_reducible exact nw_refl
  | (walk_at "fr1"; walk_at "fr")
  | fail "fr")
local macro_rules | `(tactic| walk_at "fr1") => `(tactic| first
  | ((with_reducible refine' fr_new ?a1 ?a2); (case a1 => with_reducible assumption); (case' a2 => skip))
  | ((with_reducible refine' go_new ?a1 ?a2); (case a1 => with_reducible assumption); (case' a2 => skip))
  | ((with_reducible refine' kp_new ?a1 ?a2); (case a1 => with_reducible assumption); (case' a2 => skip))
  | ((with_reducible refine' fr_same ?a1 ?a2); (case a1 => with_reducible assumption); (case' a2 => skip))
  | ((with_reducible refine' go_same ?a1 ?a2); (case a1 => with_reducible assumption); (case' a2 => skip))
  | ((with_reducible refine' kp_same ?a1 ?a2); (case a1 => with_reducible assumption); (case' a2 => skip))
  | ((with_reducible refine' go_go ?a1 ?a2); (case a1 => with_reducible assumption); (case' a2 => skip))
  | ((with_reducible refine' go_kp ?a1 ?a2 ?a3 ?a4); (case a1 => with_reducible assumption); (case a2 => with_reducible assumption); (case a3 => walk_at "st"); (case' a4 => skip))
  | ((with_reducible refine' kp_kp ?a1 ?a2); (case a1 => with_reducible assumption); (case' a2 => skip))
  | ((with_reducible refine' kp_upd ?a1); (case' a1 => skip))
  | ((with_reducible refine' go_set2 ?a1 ?a2 ?a3 ?a4); (case a1 => walk_at "lk"); (case a2 => with_reducible assumption); (case a3 => walk_at "fr"); (case' a4 => skip))
  | ((with_reducible refine' fr_set2 ?a1 ?a2 ?a3); (case a1 => with_reducible assumption); (case a2 => walk_at "fr"); (case' a3 => skip))
  | ((with_reducible refine' en_new ?a1 ?a2); (case a1 => with_reducible assumption); (case' a2 => skip))
  | ((with_reducible refine' en_same ?a1 ?a2); (case a1 => with_reducible assumption); (case' a2 => skip))
  | ((with_reducible refine' en_go ?a1 ?a2); (case a1 => with_reducible assumption); (case' a2 => skip))
  | ((with_reducible refine' en_set2 ?a1 ?a2 ?a3); (case a1 => with_reducible assumption); (case a2 => walk_at "fr"); (case' a3 => skip))
  | ((with_reducible refine' en_kp ?a1 ?a2 ?a3 ?a4); (case a1 => with_reducible assumption); (case a2 => with_reducible assumption); (case a3 => walk_at "fr"); (case' a4 => skip))
  | ((with_reducible refine' nw_new ?a1 ?a2); (case a1 => with_reducible assumption); (case' a2 => skip))
  | ((with_reducible refine' nw_same ?a1 ?a2); (case a1 => with_reducible assumption); (case' a2 => skip))
  | ((with_reducible refine' nw_go ?a1 ?a2); (case a1 => with_reducible assumption); (case' a2 => skip))
  | ((with_reducible refine' nw_kp ?a1 ?a2 ?a3); (case a1 => with_reducible assumption); (case a2 => walk_at "st"); (case' a3 => skip))
  | ((with_reducible refine' nw_set ?a1 ?a2); (case a1 => walk_at "lk"); (case' a2 => skip))
  | ((with_reducible refine' nw_set2 ?a1 ?a2 ?a3); (case a1 => with_reducible assumption); (case a2 => walk_at "fr"); (case' a3 => skip))
  | fail "fr1")
local macro_rules | `(tactic| walk_at "tb") => `(tactic| first
  | with_reducible assumption
  | (walk_at "tb1"; walk_at "tb")
  | fail "tb")
local macro_rules | `(tactic| walk_at "tb1") => `(tactic| first
  | ((with_reducible refine' tabs_new ?a1 ?a2); (case a1 => with_reducible assumption); (case' a2 => skip))
  | ((with_reducible refine' tabs_same ?a1 ?a2); (case a1 => with_reducible assumption); (case' a2 => skip))
  | ((with_reducible refine' tabs_go ?a1 ?a2); (case a1 => with_reducible assumption); (case' a2 => skip))
  | ((with_reducible refine' tabs_kp ?a1 ?a2 ?a3); (case a1 => with_reducible assumption); (case a2 => walk_at "st"); (case' a3 => skip))
  | ((with_reducible refine' tabs_set ?a1 ?a2); (case a1 => walk_at "lk"); (case' a2 => skip))
  | fail "tb1")
local macro_rules | `(tactic| walk_at "dg") => `(tactic| first
  | assumption
  | (refine' dp_ext ?a1 ?a2; (case a1 => assumption); (case a2 => walk_at "fr"))
  | (refine' dn_use ?a1 ?a2; (case a1 => assumption); (case a2 => walk_at "fr"))
  | fail "dg")
local macro_rules | `(tactic| walk_at "dp") => `(tactic| first
  | assumption
  | exact .str _
  | exact .int _
  | exact .bl _
  | exact .non
  | (refine' Dp.lst (SqL.of ?a1) ?a2; (case a1 => walk_at "lk"); (case a2 => walk_at "dpa"))
  | (refine' Dp.tup (SqT.of ?a1) ?a2; (case a1 => walk_at "lk"); (case a2 => walk_at "dpa"))
  | (walk_at "dg")
  | fail "dp")
local macro_rules | `(tactic| walk_at "dpa") => `(tactic| first
  | assumption
  | exact .nil
  | (refine' DpAll.cons ?a1 ?a2; (case a1 => walk_at "dp"); (case a2 => walk_at "dpa"))
  | fail "dpa")
local macro_rules | `(tactic| walk_at "dx") => `(tactic| first
  | assumption
  | exact .str _
  | exact .int _
  | exact .bl _
  | exact .non
  | (refine' Dx.lst (SqL.of ?a1) ?a2; (case a1 => walk_at "lk"); (case a2 => walk_at "dxa"))
  | (refine' Dx.tup (SqT.of ?a1) ?a2; (case a1 => walk_at "lk"); (case a2 => walk_at "dxa"))
  | (refine' Dx.dct (.inl ?a1) ?a2; (case a1 => walk_at "lk"); (case a2 => exact .nil))
  | (refine' dx_ext ?a1 ?a2; (case a1 => assumption); (case a2 => walk_at "fr"))
  | fail "dx")
local macro_rules | `(tactic| walk_at "dxa") => `(tactic| first
  | assumption
  | exact .nil
  | (refine' DxAll.cons ?a1 ?a2; (case a1 => walk_at "dx"); (case a2 => walk_at "dxa"))
  | fail "dxa")
local macro_rules | `(tactic| walk_at "ty") => `(tactic| first
  | assumption
  | (refine' ty_ext ?a1 ?a2; (case a1 => assumption); (case a2 => walk_at "fr"))
  | fail "ty")
local macro_rules | `(tactic| walk_at "shp") => `(tactic| first
  | assumption
  | (simp only [SeqAt.shaped, lay_l, lay_t, lay_i, lay_b, lay_n, lay_c, lay_e, PyData.depth, PyData.depthAll, Bool.and_true, Bool.true_and, Bool.and_eq_true, decide_eq_true_eq]
     repeat' (first | assumption | (refine And.intro ?_ ?_) | (exact rfl) | (decide +kernel) | omega))
  | decide +kernel)
local macro_rules | `(tactic| walk_at "side") => `(tactic| first
  | assumption
  | (intros; trivial)
  | omega
  | (walk_at "lk")
  | (walk_at "st")
  | (walk_at "sz")
  | (walk_at "tb")
  | (walk_at "fr"))
local macro_rules | `(tactic| walk_at "cl") => `(tactic| ((repeat' (apply Exists.intro)); refine And.intro rfl ?_; repeat (refine And.intro (by walk_at "side") ?_)))
local macro_rules | `(tactic| walk_at "eqd") => `(tactic| (refine ⟨_, _, by walk_at "dp", by walk_at "dp", by walk_at "shp", by walk_at "shp", ?_⟩; rw [eqv_same (by walk_at "shp")]))
local macro_rules | `(tactic| walk_at "new") => `(tactic| refine fun (p : Addr) (hp : (_ : Hp) p = none) => ?_)
local macro_rules | `(tactic| walk_at "rdn") => `(tactic| (repeat' (first | walk_at "rd" | walk_at "new")))

section
variable {P : Program} {w : World} {K : PySem.W.Frag} {mg : Str → Option Value} {base : Heap}

theorem ok__law_made (T : Tx P w K mg base) : FnOk P w K mg base CX0 3 T.d__law_made.f T.d__law_made.fd ["one", "other"] (sp__law_made T.L) := by
  have sc := sc__law_made
  refine T.d__law_made.F.ok sc (fun vs H Q E h => ?_) (fun cdv A outer s H vs Q E hr h => ?_)
  · obtain ⟨one, other, rfl, q⟩ := h
    rfl
  · obtain ⟨one, other, rfl, q⟩ := h
    refine ⟨_, (pss_cons (ps_set (i := 2) sc.nd rfl (Or.inl rfl) (pe_lst (pa_cons (pe_newF T.x_IllFormed (hr.mono (by decide)) rfl (pa_cons (pv 0) pa_nil)) (pa_cons (pe_newF T.x_InvalidText (hr.mono (by decide)) rfl (pa_cons (pv 0) pa_nil)) (pa_cons (pe_newF T.x_InvalidName (hr.mono (by decide)) rfl (pa_cons (pv 0) pa_nil)) (pa_cons (pe_newF T.x_InvalidKind (hr.mono (by decide)) rfl (pa_cons (pv 0) pa_nil)) (pa_cons (pe_newF T.x_InvalidNumber (hr.mono (by decide)) rfl (pa_cons (pv 0) pa_nil)) pa_nil)))))))
      (pss_cons (ps_set (i := 2) sc.nd rfl (Or.inl rfl) (pe_op op_catR (pv 2) (pe_lst (pa_cons (pe_newF T.x_InvalidPlace (hr.mono (by decide)) rfl (pa_cons (pv 0) pa_nil)) (pa_cons (pe_newF T.x_InvalidMark (hr.mono (by decide)) rfl (pa_cons (pv 0) pa_nil)) (pa_cons (pe_newF T.x_InvalidAttributes (hr.mono (by decide)) rfl (pa_cons (pv 0) pa_nil)) (pa_cons (pe_newF T.x_InvalidNode (hr.mono (by decide)) rfl (pa_cons (pv 0) pa_nil)) (pa_cons (pe_newF T.x_InvalidPath (hr.mono (by decide)) rfl (pa_cons (pv 0) pa_nil)) pa_nil))))))))
      (pss_cons (ps_set (i := 2) sc.nd rfl (Or.inl rfl) (pe_op op_catR (pv 2) (pe_lst (pa_cons (pe_newF T.x_InvalidEvents (hr.mono (by decide)) rfl (pa_cons (pv 0) pa_nil)) (pa_cons (pe_newF T.x_InvalidEdit (hr.mono (by decide)) rfl (pa_cons (pv 0) pa_nil)) (pa_cons (pe_newF T.x_InvalidQuery (hr.mono (by decide)) rfl (pa_cons (pv 0) pa_nil)) (pa_cons (pe_newF T.x_InvalidPlan (hr.mono (by decide)) rfl (pa_cons (pv 0) pa_nil)) (pa_cons (pe_newF T.x_UnknownMark (hr.mono (by decide)) rfl (pa_cons (pv 0) pa_nil)) pa_nil))))))))
      (pss_cons (ps_set (i := 2) sc.nd rfl (Or.inl rfl) (pe_op op_catR (pv 2) (pe_lst (pa_cons (pe_newF T.x_BadBinding (hr.mono (by decide)) rfl (pa_cons (pv 0) (pa_cons (pv 1) pa_nil))) (pa_cons (pe_newF T.x_Unbound (hr.mono (by decide)) rfl (pa_cons (pv 0) (pa_cons (pv 1) pa_nil))) (pa_cons (pe_newF T.x_Repeated (hr.mono (by decide)) rfl (pa_cons (pv 0) (pa_cons (pv 1) pa_nil))) pa_nil))))))
      (pss_cons (ps_set (i := 2) sc.nd rfl (Or.inl rfl) (pe_op op_catR (pv 2) (pe_lst (pa_cons (pe_newF T.x_NoEntity (hr.mono (by decide)) rfl (pa_cons (pv 0) pa_nil)) (pa_cons (pe_newF T.x_NotPlain (hr.mono (by decide)) rfl (pa_cons (pv 0) pa_nil)) (pa_cons (pe_newF T.x_NotPossible (hr.mono (by decide)) rfl (pa_cons (pv 0) pa_nil)) (pa_cons (pe_newF T.x_OutOfPlace (hr.mono (by decide)) rfl (pa_cons (pv 0) pa_nil)) (pa_cons (pe_newF0 T.x_NothingToUndo (hr.mono (by decide)) rfl) pa_nil))))))))
      (pss_one (ps_ret (pe_op op_catR (pv 2) (pe_lst (pa_cons (pe_newF T.x_TooLarge (hr.mono (by decide)) rfl (pa_cons (pv 0) (pa_cons (pv 1) pa_nil))) pa_nil)))))))))), ?_⟩
    walk_at "rds"
    refine ⟨⟨rfl, Nat.le_of_ble_eq_true rfl⟩, fun a0 H0 s0 x0 => ?_⟩
    walk_at "rds"
    refine ⟨⟨rfl, Nat.le_of_ble_eq_true rfl⟩, fun a1 H1 s1 x1 => ?_⟩
    walk_at "rds"
    refine ⟨⟨rfl, Nat.le_of_ble_eq_true rfl⟩, fun a2 H2 s2 x2 => ?_⟩
    walk_at "rds"
    refine ⟨⟨rfl, Nat.le_of_ble_eq_true rfl⟩, fun a3 H3 s3 x3 => ?_⟩
    walk_at "rds"
    refine ⟨⟨rfl, Nat.le_of_ble_eq_true rfl⟩, fun a4 H4 s4 x4 => ?_⟩
    walk_at "rds"
    intro p0 hp0
    walk_at "rds"
    refine ⟨⟨rfl, Nat.le_of_ble_eq_true rfl⟩, fun a5 H5 s5 x5 => ?_⟩
    walk_at "rds"
    refine ⟨⟨rfl, Nat.le_of_ble_eq_true rfl⟩, fun a6 H6 s6 x6 => ?_⟩
    walk_at "rds"
    refine ⟨⟨rfl, Nat.le_of_ble_eq_true rfl⟩, fun a7 H7 s7 x7 => ?_⟩
    walk_at "rds"
    refine ⟨⟨rfl, Nat.le_of_ble_eq_true rfl⟩, fun a8 H8 s8 x8 => ?_⟩
    walk_at "rds"
    refine ⟨⟨rfl, Nat.le_of_ble_eq_true rfl⟩, fun a9 H9 s9 x9 => ?_⟩
    walk_at "rds"
    intro q1 hq1
    walk_at "rds"
    refine ⟨_, _, _, _, rfl, rfl, .of (by walk_at "lk"), .of upd_same, Nat.le_of_ble_eq_true rfl, fun p1 hp1 => ?_⟩
    walk_at "rds"
    refine ⟨⟨rfl, Nat.le_of_ble_eq_true rfl⟩, fun a10 H10 s10 x10 => ?_⟩
    walk_at "rds"
    refine ⟨⟨rfl, Nat.le_of_ble_eq_true rfl⟩, fun a11 H11 s11 x11 => ?_⟩
    walk_at "rds"
    refine ⟨⟨rfl, Nat.le_of_ble_eq_true rfl⟩, fun a12 H12 s12 x12 => ?_⟩
    walk_at "rds"
    refine ⟨⟨rfl, Nat.le_of_ble_eq_true rfl⟩, fun a13 H13 s13 x13 => ?_⟩
    walk_at "rds"
    refine ⟨⟨rfl, Nat.le_of_ble_eq_true rfl⟩, fun a14 H14 s14 x14 => ?_⟩
    walk_at "rds"
    intro q2 hq2
    walk_at "rds"
    refine ⟨_, _, _, _, rfl, rfl, .of (by walk_at "lk"), .of upd_same, Nat.le_of_ble_eq_true rfl, fun p2 hp2 => ?_⟩
    walk_at "rds"
    refine ⟨⟨rfl, Nat.le_of_ble_eq_true rfl⟩, fun a15 H15 s15 x15 => ?_⟩
    walk_at "rds"
    refine ⟨⟨rfl, Nat.le_of_ble_eq_true rfl⟩, fun a16 H16 s16 x16 => ?_⟩
    walk_at "rds"
    refine ⟨⟨rfl, Nat.le_of_ble_eq_true rfl⟩, fun a17 H17 s17 x17 => ?_⟩
    walk_at "rds"
    intro q3 hq3
    walk_at "rds"
    refine ⟨_, _, _, _, rfl, rfl, .of (by walk_at "lk"), .of upd_same, Nat.le_of_ble_eq_true rfl, fun p3 hp3 => ?_⟩
    walk_at "rds"
    refine ⟨⟨rfl, Nat.le_of_ble_eq_true rfl⟩, fun a18 H18 s18 x18 => ?_⟩
    walk_at "rds"
    refine ⟨⟨rfl, Nat.le_of_ble_eq_true rfl⟩, fun a19 H19 s19 x19 => ?_⟩
    walk_at "rds"
    refine ⟨⟨rfl, Nat.le_of_ble_eq_true rfl⟩, fun a20 H20 s20 x20 => ?_⟩
    walk_at "rds"
    refine ⟨⟨rfl, Nat.le_of_ble_eq_true rfl⟩, fun a21 H21 s21 x21 => ?_⟩
    walk_at "rds"
    refine fun a22 H22 s22 x22 => ?_
    walk_at "rds"
    intro q4 hq4
    walk_at "rds"
    refine ⟨_, _, _, _, rfl, rfl, .of (by walk_at "lk"), .of upd_same, Nat.le_of_ble_eq_true rfl, fun p4 hp4 => ?_⟩
    walk_at "rds"
    refine ⟨⟨rfl, Nat.le_of_ble_eq_true rfl⟩, fun a23 H23 s23 x23 => ?_⟩
    walk_at "rds"
    intro q5 hq5
    walk_at "rds"
    refine ⟨_, _, _, _, rfl, rfl, .of (by walk_at "lk"), .of upd_same, Nat.le_of_ble_eq_true rfl, fun p5 hp5 => ?_⟩
    walk_at "rds"
    refine q p5 [a0, a1, a2, a3, a4, a5, a6, a7, a8, a9, a10, a11, a12, a13, a14, a15, a16, a17, a18, a19, a20, a21, a22, a23] _ ?_ upd_same ?_
    · have t23 : Same H23 (upd (upd H23 q5 (.lst [.ref a23])) p5 (.lst ([.ref a0, .ref a1, .ref a2, .ref a3, .ref a4] ++ [.ref a5, .ref a6, .ref a7, .ref a8, .ref a9] ++ [.ref a10, .ref a11, .ref a12, .ref a13, .ref a14] ++ [.ref a15, .ref a16, .ref a17] ++ [.ref a18, .ref a19, .ref a20, .ref a21, .ref a22] ++ [.ref a23]))) := Same.new (Same.new (Same.refl _) hq5) hp5
      have t22 := ((Same.new (Same.new (Same.refl _) hq4) hp4).trans s23).trans t23
      have t21 := s22.trans t22
      have t20 := s21.trans t21
      have t19 := s20.trans t20
      have t18 := s19.trans t19
      have t17 := ((Same.new (Same.new (Same.refl _) hq3) hp3).trans s18).trans t18
      have t16 := s17.trans t17
      have t15 := s16.trans t16
      have t14 := ((Same.new (Same.new (Same.refl _) hq2) hp2).trans s15).trans t15
      have t13 := s14.trans t14
      have t12 := s13.trans t13
      have t11 := s12.trans t12
      have t10 := s11.trans t11
      have t9 := ((Same.new (Same.new (Same.refl _) hq1) hp1).trans s10).trans t10
      have t8 := s9.trans t9
      have t7 := s8.trans t8
      have t6 := s7.trans t7
      have t5 := s6.trans t6
      have t4 := ((Same.new (Same.refl _) hp0).trans s5).trans t5
      have t3 := s4.trans t4
      have t2 := s3.trans t3
      have t1 := s2.trans t2
      have t0 := s1.trans t1
      exact s0.trans t0
    · have t23 : Same H23 (upd (upd H23 q5 (.lst [.ref a23])) p5 (.lst ([.ref a0, .ref a1, .ref a2, .ref a3, .ref a4] ++ [.ref a5, .ref a6, .ref a7, .ref a8, .ref a9] ++ [.ref a10, .ref a11, .ref a12, .ref a13, .ref a14] ++ [.ref a15, .ref a16, .ref a17] ++ [.ref a18, .ref a19, .ref a20, .ref a21, .ref a22] ++ [.ref a23]))) := Same.new (Same.new (Same.refl _) hq5) hp5
      have t22 := ((Same.new (Same.new (Same.refl _) hq4) hp4).trans s23).trans t23
      have t21 := s22.trans t22
      have t20 := s21.trans t21
      have t19 := s20.trans t20
      have t18 := s19.trans t19
      have t17 := ((Same.new (Same.new (Same.refl _) hq3) hp3).trans s18).trans t18
      have t16 := s17.trans t17
      have t15 := s16.trans t16
      have t14 := ((Same.new (Same.new (Same.refl _) hq2) hp2).trans s15).trans t15
      have t13 := s14.trans t14
      have t12 := s13.trans t13
      have t11 := s12.trans t12
      have t10 := s11.trans t11
      have t9 := ((Same.new (Same.new (Same.refl _) hq1) hp1).trans s10).trans t10
      have t8 := s9.trans t9
      have t7 := s8.trans t8
      have t6 := s7.trans t7
      have t5 := s6.trans t6
      have t4 := ((Same.new (Same.refl _) hp0).trans s5).trans t5
      have t3 := s4.trans t4
      have t2 := s3.trans t3
      have t1 := s2.trans t2
      have t0 := s1.trans t1
      exact .cons (x0.same t0) (.cons (x1.same t1) (.cons (x2.same t2) (.cons (x3.same t3) (.cons (x4.same t4) (.cons (x5.same t5) (.cons (x6.same t6) (.cons (x7.same t7) (.cons (x8.same t8) (.cons (x9.same t9) (.cons (x10.same t10) (.cons (x11.same t11) (.cons (x12.same t12) (.cons (x13.same t13) (.cons (x14.same t14) (.cons (x15.same t15) (.cons (x16.same t16) (.cons (x17.same t17) (.cons (x18.same t18) (.cons (x19.same t19) (.cons (x20.same t20) (.cons (x21.same t21) (.cons (x22.same t22) (.cons (x23.same t23) (.nil))))))))))))))))))))))))

end
end K1

namespace K1
open PySem PySem.Spec PyProof.Rows L2 Mx
local macro_rules | `(tactic| walk_at "sz") => `(tactic| first | assumption | decide | omega | (unfold sizeLine; omega) | exact Nat.le_of_ble_eq_true rfl)
local macro_rules | `(tactic| walk_at "hp") => `(tactic| (first | assumption | exact upd_same | (rw [upd_ne (by assumption)]; assumption)))
local macro_rules | `(tactic| walk_at "rd") => `(tactic| (first
  | refine ⟨_, rfl, ?_⟩
  | (refine ⟨_, _, rfl, rfl, ?rdc, ?_⟩; (case rdc => first | (show (0 : Int) < _; omega) | (exact ⟨by omega, by omega⟩) | (exact .inl ⟨by omega, by omega⟩) | (exact .inr ⟨by omega, by omega⟩) | exact ⟨by decide, by decide, by decide⟩))
  | refine ⟨_, _, rfl, rfl, ?_⟩
  | refine .inl ⟨_, rfl, ?_⟩
  | refine ⟨rfl, ?_⟩
  | refine ⟨⟨_, rfl⟩, ?_⟩
  | refine ⟨⟨_, SqL.of (by walk_at "hp")⟩, ?_⟩
  | refine ⟨_, _, _, _, rfl, rfl, SqL.of (by walk_at "hp"), (by rfl), ?_⟩
  | refine ⟨_, _, _, _, rfl, rfl, (by walk_at "hp"), (by rfl), ?_⟩
  | refine ⟨_, _, rfl, ⟨by walk_at "sz", rfl⟩, ?_⟩
  | refine ⟨_, _, _, rfl, rfl, by walk_at "sz", by assumption, ?_⟩
  | refine And.intro (by walk_at "sz") ?_
  | refine itT rfl ?_
  | refine itF rfl ?_
  | refine itT (by assumption) ?_
  | refine itF (by assumption) ?_
  | refine itT (decide_eq_true (by omega)) ?_
  | refine itF (decide_eq_false (by omega)) ?_
  | refine itT (dVi (by omega)) ?_
  | refine itF (dViN (by omega)) ?_
  | refine itT (notT (by assumption)) ?_
  | refine itF (notF (by assumption)) ?_
  | refine itT (notT (dViN (by omega))) ?_
  | refine itF (notF (dVi (by omega))) ?_
  | refine itT (decide_eq_true rfl) ?_
  | refine itF (notF (decide_eq_true rfl)) ?_
  | refine ite2 (fun _ => ?_) (fun _ => ?_)
  | with_reducible refine tC_ ?_
  | with_reducible refine tNext_ ?_
  | with_reducible refine tNil_ ?_
  | with_reducible refine tYes_ ?_))
local macro_rules | `(tactic| walk_at "rds") => `(tactic| repeat' (walk_at "rd"))

local macro_rules | `(tactic| walk_at "lk") => `(tactic| first
  | with_reducible assumption
  | with_reducible exact upd_same
  | (walk_at "lk1"; walk_at "lk")
  | fail "lk")
local macro_rules | `(tactic| walk_at "lk1") => `(tactic| first
  | ((with_reducible refine' lk_new ?a1 ?a2); (case a1 => with_reducible assumption); (case' a2 => skip))
  | ((with_reducible refine' lk_ne ?a1 ?a2); (case a1 => with_reducible assumption); (case' a2 => skip))
  | ((with_reducible refine' lk_neN ?a1 ?a2 ?a3); (case a1 => with_reducible assumption); (case a2 => walk_at "lk"); (case' a3 => skip))
  | ((with_reducible refine' lk_neN' ?a1 ?a2 ?a3); (case a1 => with_reducible assumption); (case a2 => walk_at "lk"); (case' a3 => skip))
  | ((with_reducible refine' lk_same ?a1 ?a2); (case a1 => with_reducible assumption); (case' a2 => skip))
  | ((with_reducible refine' lk_go ?a1 ?a2 ?a3); (case a1 => with_reducible assumption); (case a2 => walk_at "nt"); (case' a3 => skip))
  | ((with_reducible refine' lk_kp_nl ?a1 ?a2 ?a3 ?a4); (case a1 => with_reducible assumption); (case a2 => walk_at "st"); (case a3 => walk_at "nl"); (case' a4 => skip))
  | ((with_reducible refine' lk_kp ?a1 ?a2 ?a3); (case a1 => with_reducible assumption); (case a2 => walk_at "ne"); (case' a3 => skip))
  | fail "lk1")
local macro_rules | `(tactic| walk_at "nt") => `(tactic| first
  | (intro _ z; cases z)
  | fail "nt")
local macro_rules | `(tactic| walk_at "nl") => `(tactic| first
  | (intro _ z; cases z)
  | fail "nl")
local macro_rules | `(tactic| walk_at "ne") => `(tactic| first
  | with_reducible assumption
  | ((with_reducible refine' ne_st ?a1 ?a2); (case a1 => with_reducible assumption); (case a2 => walk_at "st"))
  | fail "ne")
local macro_rules | `(tactic| walk_at "st") => `(tactic| first
  | with_reducible assumption
  | with_reducible exact st_new (by with_reducible assumption) (by walk_at "st")
  | with_reducible exact st_same (by with_reducible assumption) (by walk_at "st")
  | with_reducible exact st_go (by with_reducible assumption) (by walk_at "st")
  | with_reducible exact st_ne (by walk_at "ns") (by walk_at "st")
  | fail "st")
local macro_rules | `(tactic| walk_at "ns") => `(tactic| first
  | with_reducible assumption
  | with_reducible exact Ne.symm (by with_reducible assumption)
  | with_reducible exact Ne.symm (ne_st (by with_reducible assumption) (by walk_at "st"))
  | fail "ns")
local macro_rules | `(tactic| walk_at "fr") => `(tactic| first
  | with_reducible assumption
  | with_reducible exact Same.refl _
  | with_reducible exact Go.refl _ _
  | with_reducible exact Kp.refl _ _
  | with_reducible exact LamX.ExtN.refl _
  | with_reducible exact nw_refl
  | (walk_at "fr1"; walk_at "fr")
  | fail "fr")
local macro_rules | `(tactic| walk_at "fr1") => `(tactic| first
  | ((with_reducible refine' fr_new ?a1 ?a2); (case a1 => with_reducible assumption); (case' a2 => skip))
  | ((with_reducible refine' go_new ?a1 ?a2); (case a1 => with_reducible assumption); (case' a2 => skip))
  | ((with_reducible refine' kp_new ?a1 ?a2); (case a1 => with_reducible assumption); (case' a2 => skip))
  | ((with_reducible refine' fr_same ?a1 ?a2); (case a1 => with_reducible assumption); (case' a2 => skip))
  | ((with_reducible refine' go_same ?a1 ?a2); (case a1 => with_reducible assumption); (case' a2 => skip))
  | ((with_reducible refine' kp_same ?a1 ?a2); (case a1 => with_reducible assumption); (case' a2 => skip))
  | ((with_reducible refine' go_go ?a1 ?a2); (case a1 => with_reducible assumption); (case' a2 => skip))
  | ((with_reducible refine' go_kp ?a1 ?a2 ?a3 ?a4); (case a1 => with_reducible assumption); (case a2 => with_reducible assumption); (case a3 => walk_at "st"); (case' a4 => skip))
  | ((with_reducible refine' kp_kp ?a1 ?a2); (case a1 => with_reducible assumption); (case' a2 => skip))
  | ((with_reducible refine' kp_upd ?a1); (case' a1 => skip))
  | ((with_reducible refine' go_set2 ?a1 ?a2 ?a3 ?a4); (case a1 => walk_at "lk"); (case a2 => with_reducible assumption); (case a3 => walk_at "fr"); (case' a4 => skip))
  | ((with_reducible refine' fr_set2 ?a1 ?a2 ?a3); (case a1 => with_reducible assumption); (case a2 => walk_at "fr"); (case' a3 => skip))
  | ((with_reducible refine' en_new ?a1 ?a2); (case a1 => with_reducible assumption); (case' a2 => skip))
  | ((with_reducible refine' en_same ?a1 ?a2); (case a1 => with_reducible assumption); (case' a2 => skip))
  | ((with_reducible refine' en_go ?a1 ?a2); (case a1 => with_reducible assumption); (case' a2 => skip))
  | ((with_reducible refine' en_set2 ?a1 ?a2 ?a3); (case a1 => with_reducible assumption); (case a2 => walk_at "fr"); (case' a3 => skip))
  | ((with_reducible refine' en_kp ?a1 ?a2 ?a3 ?a4); (case a1 => with_reducible assumption); (case a2 => with_reducible assumption); (case a3 => walk_at "fr"); (case' a4 => skip))
  | ((with_reducible refine' nw_new ?a1 ?a2); (case a1 => with_reducible assumption); (case' a2 => skip))
  | ((with_reducible refine' nw_same ?a1 ?a2); (case a1 => with_reducible assumption); (case' a2 => skip))
  | ((with_reducible refine' nw_go ?a1 ?a2); (case a1 => with_reducible assumption); (case' a2 => skip))
  | ((with_reducible refine' nw_kp ?a1 ?a2 ?a3); (case a1 => with_reducible assumption); (case a2 => walk_at "st"); (case' a3 => skip))
  | ((with_reducible refine' nw_set ?a1 ?a2); (case a1 => walk_at "lk"); (case' a2 => skip))
  | ((with_reducible refine' nw_set2 ?a1 ?a2 ?a3); (case a1 => with_reducible assumption); (case a2 => walk_at "fr"); (case' a3 => skip))
  | fail "fr1")
local macro_rules | `(tactic| walk_at "tb") => `(tactic| first
  | with_reducible assumption
  | (walk_at "tb1"; walk_at "tb")
  | fail "tb")
local macro_rules | `(tactic| walk_at "tb1") => `(tactic| first
  | ((with_reducible refine' tabs_new ?a1 ?a2); (case a1 => with_reducible assumption); (case' a2 => skip))
  | ((with_reducible refine' tabs_same ?a1 ?a2); (case a1 => with_reducible assumption); (case' a2 => skip))
  | ((with_reducible refine' tabs_go ?a1 ?a2); (case a1 => with_reducible assumption); (case' a2 => skip))
  | ((with_reducible refine' tabs_kp ?a1 ?a2 ?a3); (case a1 => with_reducible assumption); (case a2 => walk_at "st"); (case' a3 => skip))
  | ((with_reducible refine' tabs_set ?a1 ?a2); (case a1 => walk_at "lk"); (case' a2 => skip))
  | fail "tb1")
local macro_rules | `(tactic| walk_at "dg") => `(tactic| first
  | assumption
  | (refine' dp_ext ?a1 ?a2; (case a1 => assumption); (case a2 => walk_at "fr"))
  | (refine' dn_use ?a1 ?a2; (case a1 => assumption); (case a2 => walk_at "fr"))
  | fail "dg")
local macro_rules | `(tactic| walk_at "dp") => `(tactic| first
  | assumption
  | exact .str _
  | exact .int _
  | exact .bl _
  | exact .non
  | (refine' Dp.lst (SqL.of ?a1) ?a2; (case a1 => walk_at "lk"); (case a2 => walk_at "dpa"))
  | (refine' Dp.tup (SqT.of ?a1) ?a2; (case a1 => walk_at "lk"); (case a2 => walk_at "dpa"))
  | (walk_at "dg")
  | fail "dp")
local macro_rules | `(tactic| walk_at "dpa") => `(tactic| first
  | assumption
  | exact .nil
  | (refine' DpAll.cons ?a1 ?a2; (case a1 => walk_at "dp"); (case a2 => walk_at "dpa"))
  | fail "dpa")
local macro_rules | `(tactic| walk_at "dx") => `(tactic| first
  | assumption
  | exact .str _
  | exact .int _
  | exact .bl _
  | exact .non
  | (refine' Dx.lst (SqL.of ?a1) ?a2; (case a1 => walk_at "lk"); (case a2 => walk_at "dxa"))
  | (refine' Dx.tup (SqT.of ?a1) ?a2; (case a1 => walk_at "lk"); (case a2 => walk_at "dxa"))
  | (refine' Dx.dct (.inl ?a1) ?a2; (case a1 => walk_at "lk"); (case a2 => exact .nil))
  | (refine' dx_ext ?a1 ?a2; (case a1 => assumption); (case a2 => walk_at "fr"))
  | fail "dx")
local macro_rules | `(tactic| walk_at "dxa") => `(tactic| first
  | assumption
  | exact .nil
  | (refine' DxAll.cons ?a1 ?a2; (case a1 => walk_at "dx"); (case a2 => walk_at "dxa"))
  | fail "dxa")
local macro_rules | `(tactic| walk_at "ty") => `(tactic| first
  | assumption
  | (refine' ty_ext ?a1 ?a2; (case a1 => assumption); (case a2 => walk_at "fr"))
  | fail "ty")
local macro_rules | `(tactic| walk_at "shp") => `(tactic| first
  | assumption
  | (simp only [SeqAt.shaped, lay_l, lay_t, lay_i, lay_b, lay_n, lay_c, lay_e, PyData.depth, PyData.depthAll, Bool.and_true, Bool.true_and, Bool.and_eq_true, decide_eq_true_eq]
     repeat' (first | assumption | (refine And.intro ?_ ?_) | (exact rfl) | (decide +kernel) | omega))
  | decide +kernel)
local macro_rules | `(tactic| walk_at "side") => `(tactic| first
  | assumption
  | (intros; trivial)
  | omega
  | (walk_at "lk")
  | (walk_at "st")
  | (walk_at "sz")
  | (walk_at "tb")
  | (walk_at "fr"))
local macro_rules | `(tactic| walk_at "cl") => `(tactic| ((repeat' (apply Exists.intro)); refine And.intro rfl ?_; repeat (refine And.intro (by walk_at "side") ?_)))
local macro_rules | `(tactic| walk_at "eqd") => `(tactic| (refine ⟨_, _, by walk_at "dp", by walk_at "dp", by walk_at "shp", by walk_at "shp", ?_⟩; rw [eqv_same (by walk_at "shp")]))
local macro_rules | `(tactic| walk_at "new") => `(tactic| refine fun (p : Addr) (hp : (_ : Hp) p = none) => ?_)
local macro_rules | `(tactic| walk_at "rdn") => `(tactic| (repeat' (first | walk_at "rd" | walk_at "new")))

section
variable {P : Program} {w : World} {K : PySem.W.Frag} {mg : Str → Option Value} {base : Heap}

theorem ok__law_kinds (T : Tx P w K mg base) : FnOk P w K mg base CX0 1 T.d__law_kinds.f T.d__law_kinds.fd ["error"] (sp__law_kinds T.L) := by
  have sc := sc__law_kinds
  refine T.d__law_kinds.F.ok sc (fun vs H Q E h => ?_) (fun cdv A outer s H vs Q E hr h => ?_)
  · obtain ⟨a, C, fs, i, rfl, hi, hx, q⟩ := h
    rfl
  · obtain ⟨a, C, fs, i, rfl, hi, hx, q⟩ := h
    refine ⟨_, (pss_cons (ps_set (i := 1) sc.nd rfl (Or.inl rfl) (pe_lst (pa_cons (pe_callB call_isiF (by rfl) T.n_isinstance (by decide +kernel) (pa_cons (pv 0) (pa_cons (pe_glob (v := .ref T.a_IllFormed) rfl T.x_IllFormed.mgC rfl) pa_nil))) (pa_cons (pe_callB call_isiF (by rfl) T.n_isinstance (by decide +kernel) (pa_cons (pv 0) (pa_cons (pe_glob (v := .ref T.a_InvalidText) rfl T.x_InvalidText.mgC rfl) pa_nil))) (pa_cons (pe_callB call_isiF (by rfl) T.n_isinstance (by decide +kernel) (pa_cons (pv 0) (pa_cons (pe_glob (v := .ref T.a_InvalidName) rfl T.x_InvalidName.mgC rfl) pa_nil))) pa_nil)))))
      (pss_cons (ps_set (i := 1) sc.nd rfl (Or.inl rfl) (pe_op op_catR (pv 1) (pe_lst (pa_cons (pe_callB call_isiF (by rfl) T.n_isinstance (by decide +kernel) (pa_cons (pv 0) (pa_cons (pe_glob (v := .ref T.a_InvalidKind) rfl T.x_InvalidKind.mgC rfl) pa_nil))) (pa_cons (pe_callB call_isiF (by rfl) T.n_isinstance (by decide +kernel) (pa_cons (pv 0) (pa_cons (pe_glob (v := .ref T.a_InvalidNumber) rfl T.x_InvalidNumber.mgC rfl) pa_nil))) (pa_cons (pe_callB call_isiF (by rfl) T.n_isinstance (by decide +kernel) (pa_cons (pv 0) (pa_cons (pe_glob (v := .ref T.a_InvalidPlace) rfl T.x_InvalidPlace.mgC rfl) pa_nil))) pa_nil))))))
      (pss_cons (ps_set (i := 1) sc.nd rfl (Or.inl rfl) (pe_op op_catR (pv 1) (pe_lst (pa_cons (pe_callB call_isiF (by rfl) T.n_isinstance (by decide +kernel) (pa_cons (pv 0) (pa_cons (pe_glob (v := .ref T.a_InvalidMark) rfl T.x_InvalidMark.mgC rfl) pa_nil))) (pa_cons (pe_callB call_isiF (by rfl) T.n_isinstance (by decide +kernel) (pa_cons (pv 0) (pa_cons (pe_glob (v := .ref T.a_InvalidAttributes) rfl T.x_InvalidAttributes.mgC rfl) pa_nil))) pa_nil)))))
      (pss_cons (ps_set (i := 1) sc.nd rfl (Or.inl rfl) (pe_op op_catR (pv 1) (pe_lst (pa_cons (pe_callB call_isiF (by rfl) T.n_isinstance (by decide +kernel) (pa_cons (pv 0) (pa_cons (pe_glob (v := .ref T.a_InvalidNode) rfl T.x_InvalidNode.mgC rfl) pa_nil))) (pa_cons (pe_callB call_isiF (by rfl) T.n_isinstance (by decide +kernel) (pa_cons (pv 0) (pa_cons (pe_glob (v := .ref T.a_InvalidPath) rfl T.x_InvalidPath.mgC rfl) pa_nil))) (pa_cons (pe_callB call_isiF (by rfl) T.n_isinstance (by decide +kernel) (pa_cons (pv 0) (pa_cons (pe_glob (v := .ref T.a_InvalidEvents) rfl T.x_InvalidEvents.mgC rfl) pa_nil))) pa_nil))))))
      (pss_cons (ps_set (i := 1) sc.nd rfl (Or.inl rfl) (pe_op op_catR (pv 1) (pe_lst (pa_cons (pe_callB call_isiF (by rfl) T.n_isinstance (by decide +kernel) (pa_cons (pv 0) (pa_cons (pe_glob (v := .ref T.a_InvalidEdit) rfl T.x_InvalidEdit.mgC rfl) pa_nil))) (pa_cons (pe_callB call_isiF (by rfl) T.n_isinstance (by decide +kernel) (pa_cons (pv 0) (pa_cons (pe_glob (v := .ref T.a_InvalidQuery) rfl T.x_InvalidQuery.mgC rfl) pa_nil))) (pa_cons (pe_callB call_isiF (by rfl) T.n_isinstance (by decide +kernel) (pa_cons (pv 0) (pa_cons (pe_glob (v := .ref T.a_InvalidPlan) rfl T.x_InvalidPlan.mgC rfl) pa_nil))) pa_nil))))))
      (pss_cons (ps_set (i := 1) sc.nd rfl (Or.inl rfl) (pe_op op_catR (pv 1) (pe_lst (pa_cons (pe_callB call_isiF (by rfl) T.n_isinstance (by decide +kernel) (pa_cons (pv 0) (pa_cons (pe_glob (v := .ref T.a_UnknownMark) rfl T.x_UnknownMark.mgC rfl) pa_nil))) (pa_cons (pe_callB call_isiF (by rfl) T.n_isinstance (by decide +kernel) (pa_cons (pv 0) (pa_cons (pe_glob (v := .ref T.a_BadBinding) rfl T.x_BadBinding.mgC rfl) pa_nil))) (pa_cons (pe_callB call_isiF (by rfl) T.n_isinstance (by decide +kernel) (pa_cons (pv 0) (pa_cons (pe_glob (v := .ref T.a_Unbound) rfl T.x_Unbound.mgC rfl) pa_nil))) pa_nil))))))
      (pss_cons (ps_set (i := 1) sc.nd rfl (Or.inl rfl) (pe_op op_catR (pv 1) (pe_lst (pa_cons (pe_callB call_isiF (by rfl) T.n_isinstance (by decide +kernel) (pa_cons (pv 0) (pa_cons (pe_glob (v := .ref T.a_Repeated) rfl T.x_Repeated.mgC rfl) pa_nil))) (pa_cons (pe_callB call_isiF (by rfl) T.n_isinstance (by decide +kernel) (pa_cons (pv 0) (pa_cons (pe_glob (v := .ref T.a_NoEntity) rfl T.x_NoEntity.mgC rfl) pa_nil))) (pa_cons (pe_callB call_isiF (by rfl) T.n_isinstance (by decide +kernel) (pa_cons (pv 0) (pa_cons (pe_glob (v := .ref T.a_NotPlain) rfl T.x_NotPlain.mgC rfl) pa_nil))) pa_nil))))))
      (pss_cons (ps_set (i := 1) sc.nd rfl (Or.inl rfl) (pe_op op_catR (pv 1) (pe_lst (pa_cons (pe_callB call_isiF (by rfl) T.n_isinstance (by decide +kernel) (pa_cons (pv 0) (pa_cons (pe_glob (v := .ref T.a_NotPossible) rfl T.x_NotPossible.mgC rfl) pa_nil))) (pa_cons (pe_callB call_isiF (by rfl) T.n_isinstance (by decide +kernel) (pa_cons (pv 0) (pa_cons (pe_glob (v := .ref T.a_OutOfPlace) rfl T.x_OutOfPlace.mgC rfl) pa_nil))) (pa_cons (pe_callB call_isiF (by rfl) T.n_isinstance (by decide +kernel) (pa_cons (pv 0) (pa_cons (pe_glob (v := .ref T.a_NothingToUndo) rfl T.x_NothingToUndo.mgC rfl) pa_nil))) pa_nil))))))
      (pss_one (ps_ret (pe_op op_catR (pv 1) (pe_lst (pa_cons (pe_callB call_isiF (by rfl) T.n_isinstance (by decide +kernel) (pa_cons (pv 0) (pa_cons (pe_glob (v := .ref T.a_TooLarge) rfl T.x_TooLarge.mgC rfl) pa_nil))) pa_nil))))))))))))), ?_⟩
    have hC : C ∈ T.L := List.mem_of_getElem? hi
    walk_at "rds"
    refine ⟨a, C, fs, _, _, decide (i = 0), rfl, .own _, hx.same (by walk_at "fr"), T.xc C hC, T.kit i 0 C _ hi rfl, ?_⟩
    walk_at "rds"
    refine ⟨a, C, fs, _, _, decide (i = 1), rfl, .own _, hx.same (by walk_at "fr"), T.xc C hC, T.kit i 1 C _ hi rfl, ?_⟩
    walk_at "rds"
    refine ⟨a, C, fs, _, _, decide (i = 2), rfl, .own _, hx.same (by walk_at "fr"), T.xc C hC, T.kit i 2 C _ hi rfl, ?_⟩
    walk_at "rds"
    intro p0 hp0
    walk_at "rds"
    refine ⟨a, C, fs, _, _, decide (i = 3), rfl, .own _, hx.same (by walk_at "fr"), T.xc C hC, T.kit i 3 C _ hi rfl, ?_⟩
    walk_at "rds"
    refine ⟨a, C, fs, _, _, decide (i = 4), rfl, .own _, hx.same (by walk_at "fr"), T.xc C hC, T.kit i 4 C _ hi rfl, ?_⟩
    walk_at "rds"
    refine ⟨a, C, fs, _, _, decide (i = 5), rfl, .own _, hx.same (by walk_at "fr"), T.xc C hC, T.kit i 5 C _ hi rfl, ?_⟩
    walk_at "rds"
    intro q1 hq1
    walk_at "rds"
    refine ⟨_, _, _, _, rfl, rfl, .of (by walk_at "lk"), .of upd_same, Nat.le_of_ble_eq_true rfl, fun p1 hp1 => ?_⟩
    walk_at "rds"
    refine ⟨a, C, fs, _, _, decide (i = 6), rfl, .own _, hx.same (by walk_at "fr"), T.xc C hC, T.kit i 6 C _ hi rfl, ?_⟩
    walk_at "rds"
    refine ⟨a, C, fs, _, _, decide (i = 7), rfl, .own _, hx.same (by walk_at "fr"), T.xc C hC, T.kit i 7 C _ hi rfl, ?_⟩
    walk_at "rds"
    intro q2 hq2
    walk_at "rds"
    refine ⟨_, _, _, _, rfl, rfl, .of (by walk_at "lk"), .of upd_same, Nat.le_of_ble_eq_true rfl, fun p2 hp2 => ?_⟩
    walk_at "rds"
    refine ⟨a, C, fs, _, _, decide (i = 8), rfl, .own _, hx.same (by walk_at "fr"), T.xc C hC, T.kit i 8 C _ hi rfl, ?_⟩
    walk_at "rds"
    refine ⟨a, C, fs, _, _, decide (i = 9), rfl, .own _, hx.same (by walk_at "fr"), T.xc C hC, T.kit i 9 C _ hi rfl, ?_⟩
    walk_at "rds"
    refine ⟨a, C, fs, _, _, decide (i = 10), rfl, .own _, hx.same (by walk_at "fr"), T.xc C hC, T.kit i 10 C _ hi rfl, ?_⟩
    walk_at "rds"
    intro q3 hq3
    walk_at "rds"
    refine ⟨_, _, _, _, rfl, rfl, .of (by walk_at "lk"), .of upd_same, Nat.le_of_ble_eq_true rfl, fun p3 hp3 => ?_⟩
    walk_at "rds"
    refine ⟨a, C, fs, _, _, decide (i = 11), rfl, .own _, hx.same (by walk_at "fr"), T.xc C hC, T.kit i 11 C _ hi rfl, ?_⟩
    walk_at "rds"
    refine ⟨a, C, fs, _, _, decide (i = 12), rfl, .own _, hx.same (by walk_at "fr"), T.xc C hC, T.kit i 12 C _ hi rfl, ?_⟩
    walk_at "rds"
    refine ⟨a, C, fs, _, _, decide (i = 13), rfl, .own _, hx.same (by walk_at "fr"), T.xc C hC, T.kit i 13 C _ hi rfl, ?_⟩
    walk_at "rds"
    intro q4 hq4
    walk_at "rds"
    refine ⟨_, _, _, _, rfl, rfl, .of (by walk_at "lk"), .of upd_same, Nat.le_of_ble_eq_true rfl, fun p4 hp4 => ?_⟩
    walk_at "rds"
    refine ⟨a, C, fs, _, _, decide (i = 14), rfl, .own _, hx.same (by walk_at "fr"), T.xc C hC, T.kit i 14 C _ hi rfl, ?_⟩
    walk_at "rds"
    refine ⟨a, C, fs, _, _, decide (i = 15), rfl, .own _, hx.same (by walk_at "fr"), T.xc C hC, T.kit i 15 C _ hi rfl, ?_⟩
    walk_at "rds"
    refine ⟨a, C, fs, _, _, decide (i = 16), rfl, .own _, hx.same (by walk_at "fr"), T.xc C hC, T.kit i 16 C _ hi rfl, ?_⟩
    walk_at "rds"
    intro q5 hq5
    walk_at "rds"
    refine ⟨_, _, _, _, rfl, rfl, .of (by walk_at "lk"), .of upd_same, Nat.le_of_ble_eq_true rfl, fun p5 hp5 => ?_⟩
    walk_at "rds"
    refine ⟨a, C, fs, _, _, decide (i = 17), rfl, .own _, hx.same (by walk_at "fr"), T.xc C hC, T.kit i 17 C _ hi rfl, ?_⟩
    walk_at "rds"
    refine ⟨a, C, fs, _, _, decide (i = 18), rfl, .own _, hx.same (by walk_at "fr"), T.xc C hC, T.kit i 18 C _ hi rfl, ?_⟩
    walk_at "rds"
    refine ⟨a, C, fs, _, _, decide (i = 19), rfl, .own _, hx.same (by walk_at "fr"), T.xc C hC, T.kit i 19 C _ hi rfl, ?_⟩
    walk_at "rds"
    intro q6 hq6
    walk_at "rds"
    refine ⟨_, _, _, _, rfl, rfl, .of (by walk_at "lk"), .of upd_same, Nat.le_of_ble_eq_true rfl, fun p6 hp6 => ?_⟩
    walk_at "rds"
    refine ⟨a, C, fs, _, _, decide (i = 20), rfl, .own _, hx.same (by walk_at "fr"), T.xc C hC, T.kit i 20 C _ hi rfl, ?_⟩
    walk_at "rds"
    refine ⟨a, C, fs, _, _, decide (i = 21), rfl, .own _, hx.same (by walk_at "fr"), T.xc C hC, T.kit i 21 C _ hi rfl, ?_⟩
    walk_at "rds"
    refine ⟨a, C, fs, _, _, decide (i = 22), rfl, .own _, hx.same (by walk_at "fr"), T.xc C hC, T.kit i 22 C _ hi rfl, ?_⟩
    walk_at "rds"
    intro q7 hq7
    walk_at "rds"
    refine ⟨_, _, _, _, rfl, rfl, .of (by walk_at "lk"), .of upd_same, Nat.le_of_ble_eq_true rfl, fun p7 hp7 => ?_⟩
    walk_at "rds"
    refine ⟨a, C, fs, _, _, decide (i = 23), rfl, .own _, hx.same (by walk_at "fr"), T.xc C hC, T.kit i 23 C _ hi rfl, ?_⟩
    walk_at "rds"
    intro q8 hq8
    walk_at "rds"
    refine ⟨_, _, _, _, rfl, rfl, .of (by walk_at "lk"), .of upd_same, Nat.le_of_ble_eq_true rfl, fun p8 hp8 => ?_⟩
    walk_at "rds"
    exact q p8 _ (by walk_at "fr") upd_same

theorem ok__law_bases (T : Tx P w K mg base) : FnOk P w K mg base CX0 1 T.d__law_bases.f T.d__law_bases.fd ["error"] (sp__law_bases T.L) := by
  have sc := sc__law_bases
  refine T.d__law_bases.F.ok sc (fun vs H Q E h => ?_) (fun cdv A outer s H vs Q E hr h => ?_)
  · obtain ⟨a, C, fs, i, rfl, hi, hx, q⟩ := h
    rfl
  · obtain ⟨a, C, fs, i, rfl, hi, hx, q⟩ := h
    refine ⟨_, (pss_cons (ps_set (i := 1) sc.nd rfl (Or.inl rfl) (pe_lst (pa_cons (pe_callB call_isiF (by rfl) T.n_isinstance (by decide +kernel) (pa_cons (pv 0) (pa_cons (pe_glob (v := .ref T.a_MarkupError) rfl T.m_MarkupError rfl) pa_nil))) (pa_cons (pe_callB call_isiF (by rfl) T.n_isinstance (by decide +kernel) (pa_cons (pv 0) (pa_cons (pe_glob (v := .ref T.a_MarkupStateError) rfl T.m_MarkupStateError rfl) pa_nil))) (pa_cons (pe_callB call_isiF (by rfl) T.n_isinstance (by decide +kernel) (pa_cons (pv 0) (pa_cons (pe_glob (v := .ref T.a_LimitError) rfl T.m_LimitError rfl) pa_nil))) pa_nil)))))
      (pss_cons (ps_set (i := 1) sc.nd rfl (Or.inl rfl) (pe_op op_catR (pv 1) (pe_lst (pa_cons (pe_callB call_isiF (by rfl) T.n_isinstance (by decide +kernel) (pa_cons (pv 0) (pa_cons (pe_bltn (by rfl) T.n_ValueError (by decide +kernel) (v := .ty "ValueError") rfl) pa_nil))) (pa_cons (pe_callB call_isiF (by rfl) T.n_isinstance (by decide +kernel) (pa_cons (pv 0) (pa_cons (pe_bltn (by rfl) T.n_RuntimeError (by decide +kernel) (v := .ty "RuntimeError") rfl) pa_nil))) (pa_cons (pe_callB call_isiF (by rfl) T.n_isinstance (by decide +kernel) (pa_cons (pv 0) (pa_cons (pe_bltn (by rfl) T.n_OverflowError (by decide +kernel) (v := .ty "OverflowError") rfl) pa_nil))) pa_nil))))))
      (pss_one (ps_ret (pe_op op_catR (pv 1) (pe_lst (pa_cons (pe_callB call_isiF (by rfl) T.n_isinstance (by decide +kernel) (pa_cons (pv 0) (pa_cons (pe_bltn (by rfl) T.n_LookupError (by decide +kernel) (v := .ty "LookupError") rfl) pa_nil))) (pa_cons (pe_callB call_isiF (by rfl) T.n_isinstance (by decide +kernel) (pa_cons (pv 0) (pa_cons (pe_bltn (by rfl) T.n_NotImplementedError (by decide +kernel) (v := .ty "NotImplementedError") rfl) pa_nil))) pa_nil)))))))), ?_⟩
    have hC : C ∈ T.L := List.mem_of_getElem? hi
    walk_at "rds"
    refine ⟨a, C, fs, _, _, isBase i 0, rfl, .own _, hx.same (by walk_at "fr"), T.xc C hC, T.kitB i 0 C _ hi rfl, ?_⟩
    walk_at "rds"
    refine ⟨a, C, fs, _, _, isBase i 1, rfl, .own _, hx.same (by walk_at "fr"), T.xc C hC, T.kitB i 1 C _ hi rfl, ?_⟩
    walk_at "rds"
    refine ⟨a, C, fs, _, _, isBase i 2, rfl, .own _, hx.same (by walk_at "fr"), T.xc C hC, T.kitB i 2 C _ hi rfl, ?_⟩
    walk_at "rds"
    intro p0 hp0
    walk_at "rds"
    refine ⟨a, C, fs, _, _, isBase i 3, rfl, .ty _, hx.same (by walk_at "fr"), T.xc C hC, T.kitB i 3 C _ hi rfl, ?_⟩
    walk_at "rds"
    refine ⟨a, C, fs, _, _, isBase i 4, rfl, .ty _, hx.same (by walk_at "fr"), T.xc C hC, T.kitB i 4 C _ hi rfl, ?_⟩
    walk_at "rds"
    refine ⟨a, C, fs, _, _, isBase i 5, rfl, .ty _, hx.same (by walk_at "fr"), T.xc C hC, T.kitB i 5 C _ hi rfl, ?_⟩
    walk_at "rds"
    intro q1 hq1
    walk_at "rds"
    refine ⟨_, _, _, _, rfl, rfl, .of (by walk_at "lk"), .of upd_same, Nat.le_of_ble_eq_true rfl, fun p1 hp1 => ?_⟩
    walk_at "rds"
    refine ⟨a, C, fs, _, _, isBase i 6, rfl, .ty _, hx.same (by walk_at "fr"), T.xc C hC, T.kitB i 6 C _ hi rfl, ?_⟩
    walk_at "rds"
    refine ⟨a, C, fs, _, _, isBase i 7, rfl, .ty _, hx.same (by walk_at "fr"), T.xc C hC, T.kitB i 7 C _ hi rfl, ?_⟩
    walk_at "rds"
    intro q2 hq2
    walk_at "rds"
    refine ⟨_, _, _, _, rfl, rfl, .of (by walk_at "lk"), .of upd_same, Nat.le_of_ble_eq_true rfl, fun p2 hp2 => ?_⟩
    walk_at "rds"
    exact q p2 _ (by walk_at "fr") upd_same

end
end K1

namespace K1
open PySem PySem.Spec PyProof.Rows L2 Mx
local macro_rules | `(tactic| walk_at "sz") => `(tactic| first | assumption | decide | omega | (unfold sizeLine; omega) | exact Nat.le_of_ble_eq_true rfl)
local macro_rules | `(tactic| walk_at "hp") => `(tactic| (first | assumption | exact upd_same | (rw [upd_ne (by assumption)]; assumption)))
local macro_rules | `(tactic| walk_at "rd") => `(tactic| (first
  | refine ⟨_, rfl, ?_⟩
  | (refine ⟨_, _, rfl, rfl, ?rdc, ?_⟩; (case rdc => first | (show (0 : Int) < _; omega) | (exact ⟨by omega, by omega⟩) | (exact .inl ⟨by omega, by omega⟩) | (exact .inr ⟨by omega, by omega⟩) | exact ⟨by decide, by decide, by decide⟩))
  | refine ⟨_, _, rfl, rfl, ?_⟩
  | refine .inl ⟨_, rfl, ?_⟩
  | refine ⟨rfl, ?_⟩
  | refine ⟨⟨_, rfl⟩, ?_⟩
  | refine ⟨⟨_, SqL.of (by walk_at "hp")⟩, ?_⟩
  | refine ⟨_, _, _, _, rfl, rfl, SqL.of (by walk_at "hp"), (by rfl), ?_⟩
  | refine ⟨_, _, _, _, rfl, rfl, (by walk_at "hp"), (by rfl), ?_⟩
  | refine ⟨_, _, rfl, ⟨by walk_at "sz", rfl⟩, ?_⟩
  | refine ⟨_, _, _, rfl, rfl, by walk_at "sz", by assumption, ?_⟩
  | refine And.intro (by walk_at "sz") ?_
  | refine itT rfl ?_
  | refine itF rfl ?_
  | refine itT (by assumption) ?_
  | refine itF (by assumption) ?_
  | refine itT (decide_eq_true (by omega)) ?_
  | refine itF (decide_eq_false (by omega)) ?_
  | refine itT (dVi (by omega)) ?_
  | refine itF (dViN (by omega)) ?_
  | refine itT (notT (by assumption)) ?_
  | refine itF (notF (by assumption)) ?_
  | refine itT (notT (dViN (by omega))) ?_
  | refine itF (notF (dVi (by omega))) ?_
  | refine itT (decide_eq_true rfl) ?_
  | refine itF (notF (decide_eq_true rfl)) ?_
  | refine ite2 (fun _ => ?_) (fun _ => ?_)
  | with_reducible refine tC_ ?_
  | with_reducible refine tNext_ ?_
  | with_reducible refine tNil_ ?_
  | with_reducible refine tYes_ ?_))
local macro_rules | `(tactic| walk_at "rds") => `(tactic| repeat' (walk_at "rd"))

local macro_rules | `(tactic| walk_at "lk") => `(tactic| first
  | with_reducible assumption
  | with_reducible exact upd_same
  | (walk_at "lk1"; walk_at "lk")
  | fail "lk")
local macro_rules | `(tactic| walk_at "lk1") => `(tactic| first
  | ((with_reducible refine' lk_new ?a1 ?a2); (case a1 => with_reducible assumption); (case' a2 => skip))
  | ((with_reducible refine' lk_ne ?a1 ?a2); (case a1 => with_reducible assumption); (case' a2 => skip))
  | ((with_reducible refine' lk_neN ?a1 ?a2 ?a3); (case a1 => with_reducible assumption); (case a2 => walk_at "lk"); (case' a3 => skip))
  | ((with_reducible refine' lk_neN' ?a1 ?a2 ?a3); (case a1 => with_reducible assumption); (case a2 => walk_at "lk"); (case' a3 => skip))
  | ((with_reducible refine' lk_same ?a1 ?a2); (case a1 => with_reducible assumption); (case' a2 => skip))
  | ((with_reducible refine' lk_go ?a1 ?a2 ?a3); (case a1 => with_reducible assumption); (case a2 => walk_at "nt"); (case' a3 => skip))
  | ((with_reducible refine' lk_kp_nl ?a1 ?a2 ?a3 ?a4); (case a1 => with_reducible assumption); (case a2 => walk_at "st"); (case a3 => walk_at "nl"); (case' a4 => skip))
  | ((with_reducible refine' lk_kp ?a1 ?a2 ?a3); (case a1 => with_reducible assumption); (case a2 => walk_at "ne"); (case' a3 => skip))
  | fail "lk1")
local macro_rules | `(tactic| walk_at "nt") => `(tactic| first
  | (intro _ z; cases z)
  | fail "nt")
local macro_rules | `(tactic| walk_at "nl") => `(tactic| first
  | (intro _ z; cases z)
  | fail "nl")
local macro_rules | `(tactic| walk_at "ne") => `(tactic| first
  | with_reducible assumption
  | ((with_reducible refine' ne_st ?a1 ?a2); (case a1 => with_reducible assumption); (case a2 => walk_at "st"))
  | fail "ne")
local macro_rules | `(tactic| walk_at "st") => `(tactic| first
  | with_reducible assumption
  | with_reducible exact st_new (by with_reducible assumption) (by walk_at "st")
  | with_reducible exact st_same (by with_reducible assumption) (by walk_at "st")
  | with_reducible exact st_go (by with_reducible assumption) (by walk_at "st")
  | with_reducible exact st_ne (by walk_at "ns") (by walk_at "st")
  | fail "st")
local macro_rules | `(tactic| walk_at "ns") => `(tactic| first
  | with_reducible assumption
  | with_reducible exact Ne.symm (by with_reducible assumption)
  | with_reducible exact Ne.symm (ne_st (by with_reducible assumption) (by walk_at "st"))
  | fail "ns")
local macro_rules | `(tactic| walk_at "fr") => `(tactic| first
  | with_reducible assumption
  | with_reducible exact Same.refl _
  | with_reducible exact Go.refl _ _
  | with_reducible exact Kp.refl _ _
  | with_reducible exact LamX.ExtN.refl _
  | with_reducible exact nw_refl
  | (walk_at "fr1"; walk_at "fr")
  | fail "fr")
local macro_rules | `(tactic| walk_at "fr1") => `(tactic| first
  | ((with_reducible refine' fr_new ?a1 ?a2); (case a1 => with_reducible assumption); (case' a2 => skip))
  | ((with_reducible refine' go_new ?a1 ?a2); (case a1 => with_reducible assumption); (case' a2 => skip))
  | ((with_reducible refine' kp_new ?a1 ?a2); (case a1 => with_reducible assumption); (case' a2 => skip))
  | ((with_reducible refine' fr_same ?a1 ?a2); (case a1 => with_reducible assumption); (case' a2 => skip))
  | ((with_reducible refine' go_same ?a1 ?a2); (case a1 => with_reducible assumption); (case' a2 => skip))
  | ((with_reducible refine' kp_same ?a1 ?a2); (case a1 => with_reducible assumption); (case' a2 => skip))
  | ((with_reducible refine' go_go ?a1 ?a2); (case a1 => with_reducible assumption); (case' a2 => skip))
  | ((with_reducible refine' go_kp ?a1 ?a2 ?a3 ?a4); (case a1 => with_reducible assumption); (case a2 => with_reducible assumption); (case a3 => walk_at "st"); (case' a4 => skip))
  | ((with_reducible refine' kp_kp ?a1 ?a2); (case a1 => with_reducible assumption); (case' a2 => skip))
  | ((with_reducible refine' kp_upd ?a1); (case' a1 => skip))
  | ((with_reducible refine' go_set2 ?a1 ?a2 ?a3 ?a4); (case a1 => walk_at "lk"); (case a2 => with_reducible assumption); (case a3 => walk_at "fr"); (case' a4 => skip))
  | ((with_reducible refine' fr_set2 ?a1 ?a2 ?a3); (case a1 => with_reducible assumption); (case a2 => walk_at "fr"); (case' a3 => skip))
  | ((with_reducible refine' en_new ?a1 ?a2); (case a1 => with_reducible assumption); (case' a2 => skip))
  | ((with_reducible refine' en_same ?a1 ?a2); (case a1 => with_reducible assumption); (case' a2 => skip))
  | ((with_reducible refine' en_go ?a1 ?a2); (case a1 => with_reducible assumption); (case' a2 => skip))
  | ((with_reducible refine' en_set2 ?a1 ?a2 ?a3); (case a1 => with_reducible assumption); (case a2 => walk_at "fr"); (case' a3 => skip))
  | ((with_reducible refine' en_kp ?a1 ?a2 ?a3 ?a4); (case a1 => with_reducible assumption); (case a2 => with_reducible assumption); (case a3 => walk_at "fr"); (case' a4 => skip))
  | ((with_reducible refine' nw_new ?a1 ?a2); (case a1 => with_reducible assumption); (case' a2 => skip))
  | ((with_reducible refine' nw_same ?a1 ?a2); (case a1 => with_reducible assumption); (case' a2 => skip))
  | ((with_reducible refine' nw_go ?a1 ?a2); (case a1 => with_reducible assumption); (case' a2 => skip))
  | ((with_reducible refine' nw_kp ?a1 ?a2 ?a3); (case a1 => with_reducible assumption); (case a2 => walk_at "st"); (case' a3 => skip))
  | ((with_reducible refine' nw_set ?a1 ?a2); (case a1 => walk_at "lk"); (case' a2 => skip))
  | ((with_reducible refine' nw_set2 ?a1 ?a2 ?a3); (case a1 => with_reducible assumption); (case a2 => walk_at "fr"); (case' a3 => skip))
  | fail "fr1")
local macro_rules | `(tactic| walk_at "tb") => `(tactic| first
  | with_reducible assumption
  | (walk_at "tb1"; walk_at "tb")
  | fail "tb")
local macro_rules | `(tactic| walk_at "tb1") => `(tactic| first
  | ((with_reducible refine' tabs_new ?a1 ?a2); (case a1 => with_reducible assumption); (case' a2 => skip))
  | ((with_reducible refine' tabs_same ?a1 ?a2); (case a1 => with_reducible assumption); (case' a2 => skip))
  | ((with_reducible refine' tabs_go ?a1 ?a2); (case a1 => with_reducible assumption); (case' a2 => skip))
  | ((with_reducible refine' tabs_kp ?a1 ?a2 ?a3); (case a1 => with_reducible assumption); (case a2 => walk_at "st"); (case' a3 => skip))
  | ((with_reducible refine' tabs_set ?a1 ?a2); (case a1 => walk_at "lk"); (case' a2 => skip))
  | fail "tb1")
local macro_rules | `(tactic| walk_at "dg") => `(tactic| first
  | assumption
  | (refine' dp_ext ?a1 ?a2; (case a1 => assumption); (case a2 => walk_at "fr"))
  | (refine' dn_use ?a1 ?a2; (case a1 => assumption); (case a2 => walk_at "fr"))
  | fail "dg")
local macro_rules | `(tactic| walk_at "dp") => `(tactic| first
  | assumption
  | exact .str _
  | exact .int _
  | exact .bl _
  | exact .non
  | (refine' Dp.lst (SqL.of ?a1) ?a2; (case a1 => walk_at "lk"); (case a2 => walk_at "dpa"))
  | (refine' Dp.tup (SqT.of ?a1) ?a2; (case a1 => walk_at "lk"); (case a2 => walk_at "dpa"))
  | (walk_at "dg")
  | fail "dp")
local macro_rules | `(tactic| walk_at "dpa") => `(tactic| first
  | assumption
  | exact .nil
  | (refine' DpAll.cons ?a1 ?a2; (case a1 => walk_at "dp"); (case a2 => walk_at "dpa"))
  | fail "dpa")
local macro_rules | `(tactic| walk_at "dx") => `(tactic| first
  | assumption
  | exact .str _
  | exact .int _
  | exact .bl _
  | exact .non
  | (refine' Dx.lst (SqL.of ?a1) ?a2; (case a1 => walk_at "lk"); (case a2 => walk_at "dxa"))
  | (refine' Dx.tup (SqT.of ?a1) ?a2; (case a1 => walk_at "lk"); (case a2 => walk_at "dxa"))
  | (refine' Dx.dct (.inl ?a1) ?a2; (case a1 => walk_at "lk"); (case a2 => exact .nil))
  | (refine' dx_ext ?a1 ?a2; (case a1 => assumption); (case a2 => walk_at "fr"))
  | fail "dx")
local macro_rules | `(tactic| walk_at "dxa") => `(tactic| first
  | assumption
  | exact .nil
  | (refine' DxAll.cons ?a1 ?a2; (case a1 => walk_at "dx"); (case a2 => walk_at "dxa"))
  | fail "dxa")
local macro_rules | `(tactic| walk_at "ty") => `(tactic| first
  | assumption
  | (refine' ty_ext ?a1 ?a2; (case a1 => assumption); (case a2 => walk_at "fr"))
  | fail "ty")
local macro_rules | `(tactic| walk_at "shp") => `(tactic| first
  | assumption
  | (simp only [SeqAt.shaped, lay_l, lay_t, lay_i, lay_b, lay_n, lay_c, lay_e, PyData.depth, PyData.depthAll, Bool.and_true, Bool.true_and, Bool.and_eq_true, decide_eq_true_eq]
     repeat' (first | assumption | (refine And.intro ?_ ?_) | (exact rfl) | (decide +kernel) | omega))
  | decide +kernel)
local macro_rules | `(tactic| walk_at "side") => `(tactic| first
  | assumption
  | (intros; trivial)
  | omega
  | (walk_at "lk")
  | (walk_at "st")
  | (walk_at "sz")
  | (walk_at "tb")
  | (walk_at "fr"))
local macro_rules | `(tactic| walk_at "cl") => `(tactic| ((repeat' (apply Exists.intro)); refine And.intro rfl ?_; repeat (refine And.intro (by walk_at "side") ?_)))
local macro_rules | `(tactic| walk_at "eqd") => `(tactic| (refine ⟨_, _, by walk_at "dp", by walk_at "dp", by walk_at "shp", by walk_at "shp", ?_⟩; rw [eqv_same (by walk_at "shp")]))
local macro_rules | `(tactic| walk_at "new") => `(tactic| refine fun (p : Addr) (hp : (_ : Hp) p = none) => ?_)
local macro_rules | `(tactic| walk_at "rdn") => `(tactic| (repeat' (first | walk_at "rd" | walk_at "new")))

theorem pc {α β : Type} {R : α → β → Prop} {as : List α} {d : β} {ds : List β} (h : Paired R as (d :: ds)) : ∃ a t, as = a :: t ∧ R a d ∧ Paired R t ds := by
  cases h with
  | cons x y => exact ⟨_, _, rfl, x, y⟩
theorem pn {α β : Type} {R : α → β → Prop} {as : List α} (h : Paired R as ([] : List β)) : as = [] := by
  cases h
  rfl

section
variable {P : Program} {w : World} {K : PySem.W.Frag} {mg : Str → Option Value} {base : Heap}

theorem ok__law_fields (T : Tx P w K mg base) : FnOk P w K mg base CX0 1 T.d__law_fields.f T.d__law_fields.fd ["some"] (sp__law_fields T.L) := by
  have sc := sc__law_fields
  refine T.d__law_fields.F.ok sc (fun vs H Q E h => ?_) (fun cdv A outer s H vs Q E hr h => ?_)
  · obtain ⟨p, as, one, other, rfl, hl, hx, q⟩ := h
    rfl
  · obtain ⟨p, as, one, other, rfl, hl, hx, q⟩ := h
    refine ⟨_, (pss_cons (ps_set (i := 1) sc.nd rfl (Or.inl rfl) (pe_lst (pa_cons (pe_xf (pe_ix ix_list (pv 0) pe_int (fun _ _ => rfl))) (pa_cons (pe_xf (pe_ix ix_list (pv 0) pe_int (fun _ _ => rfl))) (pa_cons (pe_xf (pe_ix ix_list (pv 0) pe_int (fun _ _ => rfl))) (pa_cons (pe_xf (pe_ix ix_list (pv 0) pe_int (fun _ _ => rfl))) (pa_cons (pe_xf (pe_ix ix_list (pv 0) pe_int (fun _ _ => rfl))) (pa_cons (pe_xf (pe_ix ix_list (pv 0) pe_int (fun _ _ => rfl))) pa_nil))))))))
      (pss_cons (ps_set (i := 1) sc.nd rfl (Or.inl rfl) (pe_op op_catR (pv 1) (pe_lst (pa_cons (pe_xf (pe_ix ix_list (pv 0) pe_int (fun _ _ => rfl))) (pa_cons (pe_xf (pe_ix ix_list (pv 0) pe_int (fun _ _ => rfl))) (pa_cons (pe_xf (pe_ix ix_list (pv 0) pe_int (fun _ _ => rfl))) (pa_cons (pe_xf (pe_ix ix_list (pv 0) pe_int (fun _ _ => rfl))) (pa_cons (pe_xf (pe_ix ix_list (pv 0) pe_int (fun _ _ => rfl))) (pa_cons (pe_xf (pe_ix ix_list (pv 0) pe_int (fun _ _ => rfl))) pa_nil)))))))))
      (pss_cons (ps_set (i := 1) sc.nd rfl (Or.inl rfl) (pe_op op_catR (pv 1) (pe_lst (pa_cons (pe_xf (pe_ix ix_list (pv 0) pe_int (fun _ _ => rfl))) (pa_cons (pe_xf (pe_ix ix_list (pv 0) pe_int (fun _ _ => rfl))) (pa_cons (pe_xf (pe_ix ix_list (pv 0) pe_int (fun _ _ => rfl))) (pa_cons (pe_xf (pe_ix ix_list (pv 0) pe_int (fun _ _ => rfl))) (pa_cons (pe_xf (pe_ix ix_list (pv 0) pe_int (fun _ _ => rfl))) pa_nil))))))))
      (pss_cons (ps_set (i := 1) sc.nd rfl (Or.inl rfl) (pe_op op_catR (pv 1) (pe_lst (pa_cons (pe_xf (pe_ix ix_list (pv 0) pe_int (fun _ _ => rfl))) (pa_cons (pe_xf (pe_ix ix_list (pv 0) pe_int (fun _ _ => rfl))) (pa_cons (pe_xf (pe_ix ix_list (pv 0) pe_int (fun _ _ => rfl))) (pa_cons (pe_xf (pe_ix ix_list (pv 0) pe_int (fun _ _ => rfl))) (pa_cons (pe_xf (pe_ix ix_list (pv 0) pe_int (fun _ _ => rfl))) pa_nil))))))))
      (pss_one (ps_ret (pe_op op_catR (pv 1) (pe_lst (pa_cons (pe_xf (pe_ix ix_list (pv 0) pe_int (fun _ _ => rfl))) (pa_cons (pe_xf (pe_ix ix_list (pv 0) pe_int (fun _ _ => rfl))) (pa_cons (pe_xf (pe_ix ix_list (pv 0) pe_int (fun _ _ => rfl))) (pa_cons (pe_xf (pe_ix ix_list (pv 0) pe_int (fun _ _ => rfl))) (pa_cons (pe_xf (pe_ix ix_list (pv 0) pe_int (fun _ _ => rfl))) pa_nil))))))))))))), ?_⟩
    have hx : Paired (fun (a : Addr) (cf : Addr × List (Str × V)) => XoF H a cf.1 cf.2) as [(T.a_IllFormed, [("position", one)]), (T.a_InvalidText, [("index", one)]), (T.a_InvalidName, [("given", one)]), (T.a_InvalidKind, [("kind", one)]), (T.a_InvalidNumber, [("number", one)]), (T.a_InvalidPlace, [("given", one)]), (T.a_InvalidMark, [("given", one)]), (T.a_InvalidAttributes, [("index", one)]), (T.a_InvalidNode, [("given", one)]), (T.a_InvalidPath, [("given", one)]), (T.a_InvalidEvents, [("index", one)]), (T.a_InvalidEdit, [("index", one)]), (T.a_InvalidQuery, [("position", one)]), (T.a_InvalidPlan, [("index", one)]), (T.a_UnknownMark, [("given", one)]), (T.a_BadBinding, [("place", other), ("spelling", one)]), (T.a_Unbound, [("place", other), ("spelling", one)]), (T.a_Repeated, [("place", other), ("spelling", one)]), (T.a_NoEntity, [("given", one)]), (T.a_NotPlain, [("given", one)]), (T.a_NotPossible, [("given", one)]), (T.a_OutOfPlace, [("kind", one)]), (T.a_NothingToUndo, []), (T.a_TooLarge, [("position", other), ("limit", one)])] := hx
    obtain ⟨a0, t0, rfl, x0, hx⟩ := pc hx
    obtain ⟨a1, t1, rfl, x1, hx⟩ := pc hx
    obtain ⟨a2, t2, rfl, x2, hx⟩ := pc hx
    obtain ⟨a3, t3, rfl, x3, hx⟩ := pc hx
    obtain ⟨a4, t4, rfl, x4, hx⟩ := pc hx
    obtain ⟨a5, t5, rfl, x5, hx⟩ := pc hx
    obtain ⟨a6, t6, rfl, x6, hx⟩ := pc hx
    obtain ⟨a7, t7, rfl, x7, hx⟩ := pc hx
    obtain ⟨a8, t8, rfl, x8, hx⟩ := pc hx
    obtain ⟨a9, t9, rfl, x9, hx⟩ := pc hx
    obtain ⟨a10, t10, rfl, x10, hx⟩ := pc hx
    obtain ⟨a11, t11, rfl, x11, hx⟩ := pc hx
    obtain ⟨a12, t12, rfl, x12, hx⟩ := pc hx
    obtain ⟨a13, t13, rfl, x13, hx⟩ := pc hx
    obtain ⟨a14, t14, rfl, x14, hx⟩ := pc hx
    obtain ⟨a15, t15, rfl, x15, hx⟩ := pc hx
    obtain ⟨a16, t16, rfl, x16, hx⟩ := pc hx
    obtain ⟨a17, t17, rfl, x17, hx⟩ := pc hx
    obtain ⟨a18, t18, rfl, x18, hx⟩ := pc hx
    obtain ⟨a19, t19, rfl, x19, hx⟩ := pc hx
    obtain ⟨a20, t20, rfl, x20, hx⟩ := pc hx
    obtain ⟨a21, t21, rfl, x21, hx⟩ := pc hx
    obtain ⟨a22, t22, rfl, x22, hx⟩ := pc hx
    obtain ⟨a23, t23, rfl, x23, hx⟩ := pc hx
    obtain rfl := pn hx
    have hl : H p = some (.lst [.ref a0, .ref a1, .ref a2, .ref a3, .ref a4, .ref a5, .ref a6, .ref a7, .ref a8, .ref a9, .ref a10, .ref a11, .ref a12, .ref a13, .ref a14, .ref a15, .ref a16, .ref a17, .ref a18, .ref a19, .ref a20, .ref a21, .ref a22, .ref a23]) := hl
    walk_at "rds"
    (try refine ⟨_, _, _, _, rfl, rfl, SqL.of (by walk_at "lk"), (by rfl), ?_⟩)
    refine ⟨a0, T.a_IllFormed, _, _, rfl, x0.same (by walk_at "fr"), T.xc _ (by simp), T.f_IllFormed_position, rfl, ?_⟩
    walk_at "rds"
    (try refine ⟨_, _, _, _, rfl, rfl, SqL.of (by walk_at "lk"), (by rfl), ?_⟩)
    refine ⟨a1, T.a_InvalidText, _, _, rfl, x1.same (by walk_at "fr"), T.xc _ (by simp), T.f_InvalidText_index, rfl, ?_⟩
    walk_at "rds"
    (try refine ⟨_, _, _, _, rfl, rfl, SqL.of (by walk_at "lk"), (by rfl), ?_⟩)
    refine ⟨a2, T.a_InvalidName, _, _, rfl, x2.same (by walk_at "fr"), T.xc _ (by simp), T.f_InvalidName_given, rfl, ?_⟩
    walk_at "rds"
    (try refine ⟨_, _, _, _, rfl, rfl, SqL.of (by walk_at "lk"), (by rfl), ?_⟩)
    refine ⟨a3, T.a_InvalidKind, _, _, rfl, x3.same (by walk_at "fr"), T.xc _ (by simp), T.f_InvalidKind_kind, rfl, ?_⟩
    walk_at "rds"
    (try refine ⟨_, _, _, _, rfl, rfl, SqL.of (by walk_at "lk"), (by rfl), ?_⟩)
    refine ⟨a4, T.a_InvalidNumber, _, _, rfl, x4.same (by walk_at "fr"), T.xc _ (by simp), T.f_InvalidNumber_number, rfl, ?_⟩
    walk_at "rds"
    (try refine ⟨_, _, _, _, rfl, rfl, SqL.of (by walk_at "lk"), (by rfl), ?_⟩)
    refine ⟨a5, T.a_InvalidPlace, _, _, rfl, x5.same (by walk_at "fr"), T.xc _ (by simp), T.f_InvalidPlace_given, rfl, ?_⟩
    walk_at "rds"
    intro p0 hp0
    walk_at "rds"
    (try refine ⟨_, _, _, _, rfl, rfl, SqL.of (by walk_at "lk"), (by rfl), ?_⟩)
    refine ⟨a6, T.a_InvalidMark, _, _, rfl, x6.same (by walk_at "fr"), T.xc _ (by simp), T.f_InvalidMark_given, rfl, ?_⟩
    walk_at "rds"
    (try refine ⟨_, _, _, _, rfl, rfl, SqL.of (by walk_at "lk"), (by rfl), ?_⟩)
    refine ⟨a7, T.a_InvalidAttributes, _, _, rfl, x7.same (by walk_at "fr"), T.xc _ (by simp), T.f_InvalidAttributes_index, rfl, ?_⟩
    walk_at "rds"
    (try refine ⟨_, _, _, _, rfl, rfl, SqL.of (by walk_at "lk"), (by rfl), ?_⟩)
    refine ⟨a8, T.a_InvalidNode, _, _, rfl, x8.same (by walk_at "fr"), T.xc _ (by simp), T.f_InvalidNode_given, rfl, ?_⟩
    walk_at "rds"
    (try refine ⟨_, _, _, _, rfl, rfl, SqL.of (by walk_at "lk"), (by rfl), ?_⟩)
    refine ⟨a9, T.a_InvalidPath, _, _, rfl, x9.same (by walk_at "fr"), T.xc _ (by simp), T.f_InvalidPath_given, rfl, ?_⟩
    walk_at "rds"
    (try refine ⟨_, _, _, _, rfl, rfl, SqL.of (by walk_at "lk"), (by rfl), ?_⟩)
    refine ⟨a10, T.a_InvalidEvents, _, _, rfl, x10.same (by walk_at "fr"), T.xc _ (by simp), T.f_InvalidEvents_index, rfl, ?_⟩
    walk_at "rds"
    (try refine ⟨_, _, _, _, rfl, rfl, SqL.of (by walk_at "lk"), (by rfl), ?_⟩)
    refine ⟨a11, T.a_InvalidEdit, _, _, rfl, x11.same (by walk_at "fr"), T.xc _ (by simp), T.f_InvalidEdit_index, rfl, ?_⟩
    walk_at "rds"
    intro q1 hq1
    walk_at "rds"
    refine ⟨_, _, _, _, rfl, rfl, .of (by walk_at "lk"), .of upd_same, Nat.le_of_ble_eq_true rfl, fun p1 hp1 => ?_⟩
    walk_at "rds"
    (try refine ⟨_, _, _, _, rfl, rfl, SqL.of (by walk_at "lk"), (by rfl), ?_⟩)
    refine ⟨a12, T.a_InvalidQuery, _, _, rfl, x12.same (by walk_at "fr"), T.xc _ (by simp), T.f_InvalidQuery_position, rfl, ?_⟩
    walk_at "rds"
    (try refine ⟨_, _, _, _, rfl, rfl, SqL.of (by walk_at "lk"), (by rfl), ?_⟩)
    refine ⟨a13, T.a_InvalidPlan, _, _, rfl, x13.same (by walk_at "fr"), T.xc _ (by simp), T.f_InvalidPlan_index, rfl, ?_⟩
    walk_at "rds"
    (try refine ⟨_, _, _, _, rfl, rfl, SqL.of (by walk_at "lk"), (by rfl), ?_⟩)
    refine ⟨a14, T.a_UnknownMark, _, _, rfl, x14.same (by walk_at "fr"), T.xc _ (by simp), T.f_UnknownMark_given, rfl, ?_⟩
    walk_at "rds"
    (try refine ⟨_, _, _, _, rfl, rfl, SqL.of (by walk_at "lk"), (by rfl), ?_⟩)
    refine ⟨a15, T.a_BadBinding, _, _, rfl, x15.same (by walk_at "fr"), T.xc _ (by simp), T.f_BadBinding_spelling, rfl, ?_⟩
    walk_at "rds"
    (try refine ⟨_, _, _, _, rfl, rfl, SqL.of (by walk_at "lk"), (by rfl), ?_⟩)
    refine ⟨a15, T.a_BadBinding, _, _, rfl, x15.same (by walk_at "fr"), T.xc _ (by simp), T.f_BadBinding_place, rfl, ?_⟩
    walk_at "rds"
    intro q2 hq2
    walk_at "rds"
    refine ⟨_, _, _, _, rfl, rfl, .of (by walk_at "lk"), .of upd_same, Nat.le_of_ble_eq_true rfl, fun p2 hp2 => ?_⟩
    walk_at "rds"
    (try refine ⟨_, _, _, _, rfl, rfl, SqL.of (by walk_at "lk"), (by rfl), ?_⟩)
    refine ⟨a16, T.a_Unbound, _, _, rfl, x16.same (by walk_at "fr"), T.xc _ (by simp), T.f_Unbound_spelling, rfl, ?_⟩
    walk_at "rds"
    (try refine ⟨_, _, _, _, rfl, rfl, SqL.of (by walk_at "lk"), (by rfl), ?_⟩)
    refine ⟨a16, T.a_Unbound, _, _, rfl, x16.same (by walk_at "fr"), T.xc _ (by simp), T.f_Unbound_place, rfl, ?_⟩
    walk_at "rds"
    (try refine ⟨_, _, _, _, rfl, rfl, SqL.of (by walk_at "lk"), (by rfl), ?_⟩)
    refine ⟨a17, T.a_Repeated, _, _, rfl, x17.same (by walk_at "fr"), T.xc _ (by simp), T.f_Repeated_spelling, rfl, ?_⟩
    walk_at "rds"
    (try refine ⟨_, _, _, _, rfl, rfl, SqL.of (by walk_at "lk"), (by rfl), ?_⟩)
    refine ⟨a17, T.a_Repeated, _, _, rfl, x17.same (by walk_at "fr"), T.xc _ (by simp), T.f_Repeated_place, rfl, ?_⟩
    walk_at "rds"
    (try refine ⟨_, _, _, _, rfl, rfl, SqL.of (by walk_at "lk"), (by rfl), ?_⟩)
    refine ⟨a18, T.a_NoEntity, _, _, rfl, x18.same (by walk_at "fr"), T.xc _ (by simp), T.f_NoEntity_given, rfl, ?_⟩
    walk_at "rds"
    intro q3 hq3
    walk_at "rds"
    refine ⟨_, _, _, _, rfl, rfl, .of (by walk_at "lk"), .of upd_same, Nat.le_of_ble_eq_true rfl, fun p3 hp3 => ?_⟩
    walk_at "rds"
    (try refine ⟨_, _, _, _, rfl, rfl, SqL.of (by walk_at "lk"), (by rfl), ?_⟩)
    refine ⟨a19, T.a_NotPlain, _, _, rfl, x19.same (by walk_at "fr"), T.xc _ (by simp), T.f_NotPlain_given, rfl, ?_⟩
    walk_at "rds"
    (try refine ⟨_, _, _, _, rfl, rfl, SqL.of (by walk_at "lk"), (by rfl), ?_⟩)
    refine ⟨a20, T.a_NotPossible, _, _, rfl, x20.same (by walk_at "fr"), T.xc _ (by simp), T.f_NotPossible_given, rfl, ?_⟩
    walk_at "rds"
    (try refine ⟨_, _, _, _, rfl, rfl, SqL.of (by walk_at "lk"), (by rfl), ?_⟩)
    refine ⟨a21, T.a_OutOfPlace, _, _, rfl, x21.same (by walk_at "fr"), T.xc _ (by simp), T.f_OutOfPlace_kind, rfl, ?_⟩
    walk_at "rds"
    (try refine ⟨_, _, _, _, rfl, rfl, SqL.of (by walk_at "lk"), (by rfl), ?_⟩)
    refine ⟨a23, T.a_TooLarge, _, _, rfl, x23.same (by walk_at "fr"), T.xc _ (by simp), T.f_TooLarge_limit, rfl, ?_⟩
    walk_at "rds"
    (try refine ⟨_, _, _, _, rfl, rfl, SqL.of (by walk_at "lk"), (by rfl), ?_⟩)
    refine ⟨a23, T.a_TooLarge, _, _, rfl, x23.same (by walk_at "fr"), T.xc _ (by simp), T.f_TooLarge_position, rfl, ?_⟩
    walk_at "rds"
    intro q4 hq4
    walk_at "rds"
    refine ⟨_, _, _, _, rfl, rfl, .of (by walk_at "lk"), .of upd_same, Nat.le_of_ble_eq_true rfl, fun p4 hp4 => ?_⟩
    walk_at "rds"
    exact q p4 _ (by walk_at "fr") upd_same

end
end K1

namespace K1
open PySem PySem.Spec PyProof.Rows L2 Mx
theorem isBase_lo {i j : Nat} (h : i < 18) : isBase i j = (decide (j < 6) && decide (0 = j % 3)) := by unfold isBase; rw [if_pos h]
theorem isBase_mid {i j : Nat} (h : ¬ i < 18) (h2 : i < 23) : isBase i j = (decide (j < 6) && decide (1 = j % 3)) := by unfold isBase; rw [if_neg h, if_pos h2]
theorem isBase_hi {i j : Nat} (h2 : ¬ i < 23) : isBase i j = (decide (j < 6) && decide (2 = j % 3)) := by unfold isBase; rw [if_neg (by omega), if_neg h2]
theorem Xs.same {H H' : Hp} {as : List Addr} {ds : List (Addr × List (Str × V))} (h : Xs H as ds) (s : Same H H') : Xs H' as ds := by
  unfold Xs at h ⊢
  induction h with
  | nil => exact .nil
  | cons x _ ih => exact .cons (x.same s) ih
theorem Xs.at {H : Hp} : ∀ {as : List Addr} {ds : List (Addr × List (Str × V))} {i : Nat} {a : Addr}, Xs H as ds → as[i]? = some a → ∃ C fs, ds[i]? = some (C, fs) ∧ XoF H a C fs
  | _, _, i, a, .nil, h => by cases h
  | _, _, 0, a, .cons x _, h => by
    cases h
    exact ⟨_, _, rfl, x⟩
  | _, _, i + 1, a, .cons _ t, h => Xs.at (i := i) t h
theorem Xs.len {H : Hp} {as : List Addr} {ds : List (Addr × List (Str × V))} (h : Xs H as ds) : as.length = ds.length := by
  unfold Xs at h
  induction h with
  | nil => rfl
  | cons x _ ih => rw [List.length_cons, List.length_cons, ih]
theorem zip_at {α β : Type} : ∀ {xs : List α} {ys : List β} {i : Nat} {a : α} {b : β}, (xs.zip ys)[i]? = some (a, b) → xs[i]? = some a
  | [], _, i, a, b, h => by cases h
  | x :: xs, [], i, a, b, h => by cases h
  | x :: xs, y :: ys, 0, a, b, h => by cases h; rfl
  | x :: xs, y :: ys, i + 1, a, b, h => zip_at (xs := xs) (ys := ys) (i := i) h
theorem due_at {L : List Addr} {one other : V} {i : Nat} {C : Addr} {fs : List (Str × V)} (h : (due L one other)[i]? = some (C, fs)) : L[i]? = some C := zip_at h
/-- data that may be shown -/
def Gd (d : PyData) : Prop := d.showable = true ∧ d.depth ≤ 10 ∧ d.shown.length ≤ 100
def fieldsD (a b : PyData) : List PyData := [a, a, a, a, a, a, a, a, a, a, a, a, a, a, a, a, b, a, b, a, b, a, a, a, a, a, b]
theorem shown_sum : ∀ ds : List PyData, (∀ d ∈ ds, d.shown.length ≤ 100) → ((PyData.shownAll ds).map (·.length)).sum ≤ 100 * ds.length
  | [], _ => Nat.le_refl _
  | d :: ds, h => by
    have h1 := shown_sum ds fun x hx => h x (List.mem_cons_of_mem _ hx)
    have h2 := h d List.mem_cons_self
    simp only [PyData.shownAll, List.map_cons, List.sum_cons, List.length_cons]
    omega
theorem fieldsD_ok {a b : PyData} (ha : Gd a) (hb : Gd b) : (PyData.list (fieldsD a b)).showable = true ∧ (PyData.list (fieldsD a b)).depth ≤ 60 ∧ (PyData.list (fieldsD a b)).shown.length ≤ sizeLine := by
  obtain ⟨a1, a2, a3⟩ := ha
  obtain ⟨b1, b2, b3⟩ := hb
  refine ⟨?_, ?_, ?_⟩
  · simp only [fieldsD, PyData.showable, PyData.showableAll, a1, b1, Bool.and_true]
  · have h : PyData.depthAll (fieldsD a b) ≤ 10 := by
      simp only [fieldsD, PyData.depthAll]
      repeat' (first | exact a2 | exact b2 | exact Nat.zero_le _ | refine Nat.max_le.mpr ⟨?_, ?_⟩)
    simp only [PyData.depth]
    omega
  · have hm : ∀ d ∈ fieldsD a b, d.shown.length ≤ 100 := by
      intro d hd
      simp only [fieldsD, List.mem_cons, List.not_mem_nil, or_false] at hd
      have : d = a ∨ d = b := by
        clear a1 a2 a3 b1 b2 b3
        repeat' (first | exact .inl (by assumption) | exact .inr (by assumption) | (rcases hd with hd | hd))
      rcases this with rfl | rfl
      · exact a3
      · exact b3
    have e27 : (fieldsD a b).length = 27 := rfl
    have h2 := shown_sum (fieldsD a b) hm
    have h := listText_len_le (PyData.shownAll (fieldsD a b))
    rw [PyData.shownAll_length, e27] at h
    rw [e27] at h2
    have e0 : (PyData.list (fieldsD a b)).shown.length = (listText (PyData.shownAll (fieldsD a b))).length := by rw [PyData.shown]
    rw [e0]
    generalize (listText (PyData.shownAll (fieldsD a b))).length = n at *
    generalize ((PyData.shownAll (fieldsD a b)).map (·.length)).sum = k at *
    have e : sizeLine = 16777216 := rfl
    rw [e]
    omega
theorem fieldsD_dx {K : PySem.W.Frag} {H : Hp} {one other : V} {a b : PyData} (x : Dx K H one a) (y : Dx K H other b) : DxAll K H (fieldsV one other) (fieldsD a b) := by
  show DxAll K H [one, one, one, one, one, one, one, one, one, one, one, one, one, one, one, one, other, one, other, one, other, one, one, one, one, one, other] (fieldsD a b)
  unfold fieldsD
  repeat' (first | exact x | exact y | exact .nil | refine .cons ?_ ?_)
theorem dpa_bl {K : PySem.W.Frag} {H : Hp} : ∀ bs : List Bool, DpAll K H (bs.map V.bl) (bs.map PyData.bool)
  | [] => .nil
  | b :: bs => .cons (.bl b) (dpa_bl bs)
theorem shp_bl (bs : List Bool) : SeqAt.shaped (.list (bs.map PyData.bool)) = true := by
  have h1 : ∀ bs : List Bool, PyData.canLayAll0 (bs.map PyData.bool) = true := by
    intro bs
    induction bs with
    | nil => exact lay_e
    | cons b bs ih => rw [List.map_cons, lay_c, lay_b, ih]; rfl
  have h2 : ∀ bs : List Bool, PyData.depthAll (bs.map PyData.bool) = 0 := by
    intro bs
    induction bs with
    | nil => rfl
    | cons b bs ih => rw [List.map_cons]; simp only [PyData.depthAll, PyData.depth, ih]; rfl
  simp only [SeqAt.shaped, lay_l, h1, h2, PyData.depth, Bool.true_and]
  rfl
def sp__law_right (K : PySem.W.Frag) : Sp := fun vs H Q _ => ∃ (one other : V) (d1 d2 : PyData), vs = [one, other] ∧ Dx K H one d1 ∧ Dx K H other d2 ∧ Gd d1 ∧ Gd d2 ∧ ∀ H', Same H H' → Q (.bl true) H'
end K1

namespace K1
open PySem PySem.Spec PyProof.Rows L2 Mx
local macro_rules | `(tactic| walk_at "sz") => `(tactic| first | assumption | decide | omega | (unfold sizeLine; omega) | exact Nat.le_of_ble_eq_true rfl)
local macro_rules | `(tactic| walk_at "hp") => `(tactic| (first | assumption | exact upd_same | (rw [upd_ne (by assumption)]; assumption)))
local macro_rules | `(tactic| walk_at "rd") => `(tactic| (first
  | refine ⟨_, rfl, ?_⟩
  | (refine ⟨_, _, rfl, rfl, ?rdc, ?_⟩; (case rdc => first | (show (0 : Int) < _; omega) | (exact ⟨by omega, by omega⟩) | (exact .inl ⟨by omega, by omega⟩) | (exact .inr ⟨by omega, by omega⟩) | exact ⟨by decide, by decide, by decide⟩))
  | refine ⟨_, _, rfl, rfl, ?_⟩
  | refine .inl ⟨_, rfl, ?_⟩
  | refine ⟨rfl, ?_⟩
  | refine ⟨⟨_, rfl⟩, ?_⟩
  | refine ⟨⟨_, SqL.of (by walk_at "hp")⟩, ?_⟩
  | refine ⟨_, _, _, _, rfl, rfl, SqL.of (by walk_at "hp"), (by rfl), ?_⟩
  | refine ⟨_, _, _, _, rfl, rfl, (by walk_at "hp"), (by rfl), ?_⟩
  | refine ⟨_, _, rfl, ⟨by walk_at "sz", rfl⟩, ?_⟩
  | refine ⟨_, _, _, rfl, rfl, by walk_at "sz", by assumption, ?_⟩
  | refine And.intro (by walk_at "sz") ?_
  | refine itT rfl ?_
  | refine itF rfl ?_
  | refine itT (by assumption) ?_
  | refine itF (by assumption) ?_
  | refine itT (decide_eq_true (by omega)) ?_
  | refine itF (decide_eq_false (by omega)) ?_
  | refine itT (dVi (by omega)) ?_
  | refine itF (dViN (by omega)) ?_
  | refine itT (notT (by assumption)) ?_
  | refine itF (notF (by assumption)) ?_
  | refine itT (notT (dViN (by omega))) ?_
  | refine itF (notF (dVi (by omega))) ?_
  | refine itT (decide_eq_true rfl) ?_
  | refine itF (notF (decide_eq_true rfl)) ?_
  | refine ite2 (fun _ => ?_) (fun _ => ?_)
  | with_reducible refine tC_ ?_
  | with_reducible refine tNext_ ?_
  | with_reducible refine tNil_ ?_
  | with_reducible refine tYes_ ?_))
local macro_rules | `(tactic| walk_at "rds") => `(tactic| repeat' (walk_at "rd"))
local macro_rules | `(tactic| walk_at "lk") => `(tactic| first
  | with_reducible assumption
  | with_reducible exact upd_same
  | (walk_at "lk1"; walk_at "lk")
  | fail "lk")
local macro_rules | `(tactic| walk_at "lk1") => `(tactic| first
  | ((with_reducible refine' lk_new ?a1 ?a2); (case a1 => with_reducible assumption); (case' a2 => skip))
  | ((with_reducible refine' lk_ne ?a1 ?a2); (case a1 => with_reducible assumption); (case' a2 => skip))
  | ((with_reducible refine' lk_neN ?a1 ?a2 ?a3); (case a1 => with_reducible assumption); (case a2 => walk_at "lk"); (case' a3 => skip))
  | ((with_reducible refine' lk_neN' ?a1 ?a2 ?a3); (case a1 => with_reducible assumption); (case a2 => walk_at "lk"); (case' a3 => skip))
  | ((with_reducible refine' lk_same ?a1 ?a2); (case a1 => with_reducible assumption); (case' a2 => skip))
  | ((with_reducible refine' lk_go ?a1 ?a2 ?a3); (case a1 => with_reducible assumption); (case a2 => walk_at "nt"); (case' a3 => skip))
  | ((with_reducible refine' lk_kp_nl ?a1 ?a2 ?a3 ?a4); (case a1 => with_reducible assumption); (case a2 => walk_at "st"); (case a3 => walk_at "nl"); (case' a4 => skip))
  | ((with_reducible refine' lk_kp ?a1 ?a2 ?a3); (case a1 => with_reducible assumption); (case a2 => walk_at "ne"); (case' a3 => skip))
  | fail "lk1")
local macro_rules | `(tactic| walk_at "nt") => `(tactic| first
  | (intro _ z; cases z)
  | fail "nt")
local macro_rules | `(tactic| walk_at "nl") => `(tactic| first
  | (intro _ z; cases z)
  | fail "nl")
local macro_rules | `(tactic| walk_at "ne") => `(tactic| first
  | with_reducible assumption
  | ((with_reducible refine' ne_st ?a1 ?a2); (case a1 => with_reducible assumption); (case a2 => walk_at "st"))
  | fail "ne")
local macro_rules | `(tactic| walk_at "st") => `(tactic| first
  | with_reducible assumption
  | with_reducible exact st_new (by with_reducible assumption) (by walk_at "st")
  | with_reducible exact st_same (by with_reducible assumption) (by walk_at "st")
  | with_reducible exact st_go (by with_reducible assumption) (by walk_at "st")
  | with_reducible exact st_ne (by walk_at "ns") (by walk_at "st")
  | fail "st")
local macro_rules | `(tactic| walk_at "ns") => `(tactic| first
  | with_reducible assumption
  | with_reducible exact Ne.symm (by with_reducible assumption)
  | with_reducible exact Ne.symm (ne_st (by with_reducible assumption) (by walk_at "st"))
  | fail "ns")
local macro_rules | `(tactic| walk_at "fr") => `(tactic| first
  | with_reducible assumption
  | with_reducible exact Same.refl _
  | with_reducible exact Go.refl _ _
  | with_reducible exact Kp.refl _ _
  | with_reducible exact LamX.ExtN.refl _
  | with_reducible exact nw_refl
  | (walk_at "fr1"; walk_at "fr")
  | fail "fr")
local macro_rules | `(tactic| walk_at "fr1") => `(tactic| first
  | ((with_reducible refine' fr_new ?a1 ?a2); (case a1 => with_reducible assumption); (case' a2 => skip))
  | ((with_reducible refine' go_new ?a1 ?a2); (case a1 => with_reducible assumption); (case' a2 => skip))
  | ((with_reducible refine' kp_new ?a1 ?a2); (case a1 => with_reducible assumption); (case' a2 => skip))
  | ((with_reducible refine' fr_same ?a1 ?a2); (case a1 => with_reducible assumption); (case' a2 => skip))
  | ((with_reducible refine' go_same ?a1 ?a2); (case a1 => with_reducible assumption); (case' a2 => skip))
  | ((with_reducible refine' kp_same ?a1 ?a2); (case a1 => with_reducible assumption); (case' a2 => skip))
  | ((with_reducible refine' go_go ?a1 ?a2); (case a1 => with_reducible assumption); (case' a2 => skip))
  | ((with_reducible refine' go_kp ?a1 ?a2 ?a3 ?a4); (case a1 => with_reducible assumption); (case a2 => with_reducible assumption); (case a3 => walk_at "st"); (case' a4 => skip))
  | ((with_reducible refine' kp_kp ?a1 ?a2); (case a1 => with_reducible assumption); (case' a2 => skip))
  | ((with_reducible refine' kp_upd ?a1); (case' a1 => skip))
  | ((with_reducible refine' go_set2 ?a1 ?a2 ?a3 ?a4); (case a1 => walk_at "lk"); (case a2 => with_reducible assumption); (case a3 => walk_at "fr"); (case' a4 => skip))
  | ((with_reducible refine' fr_set2 ?a1 ?a2 ?a3); (case a1 => with_reducible assumption); (case a2 => walk_at "fr"); (case' a3 => skip))
  | ((with_reducible refine' en_new ?a1 ?a2); (case a1 => with_reducible assumption); (case' a2 => skip))
  | ((with_reducible refine' en_same ?a1 ?a2); (case a1 => with_reducible assumption); (case' a2 => skip))
  | ((with_reducible refine' en_go ?a1 ?a2); (case a1 => with_reducible assumption); (case' a2 => skip))
  | ((with_reducible refine' en_set2 ?a1 ?a2 ?a3); (case a1 => with_reducible assumption); (case a2 => walk_at "fr"); (case' a3 => skip))
  | ((with_reducible refine' en_kp ?a1 ?a2 ?a3 ?a4); (case a1 => with_reducible assumption); (case a2 => with_reducible assumption); (case a3 => walk_at "fr"); (case' a4 => skip))
  | ((with_reducible refine' nw_new ?a1 ?a2); (case a1 => with_reducible assumption); (case' a2 => skip))
  | ((with_reducible refine' nw_same ?a1 ?a2); (case a1 => with_reducible assumption); (case' a2 => skip))
  | ((with_reducible refine' nw_go ?a1 ?a2); (case a1 => with_reducible assumption); (case' a2 => skip))
  | ((with_reducible refine' nw_kp ?a1 ?a2 ?a3); (case a1 => with_reducible assumption); (case a2 => walk_at "st"); (case' a3 => skip))
  | ((with_reducible refine' nw_set ?a1 ?a2); (case a1 => walk_at "lk"); (case' a2 => skip))
  | ((with_reducible refine' nw_set2 ?a1 ?a2 ?a3); (case a1 => with_reducible assumption); (case a2 => walk_at "fr"); (case' a3 => skip))
  | fail "fr1")
local macro_rules | `(tactic| walk_at "tb") => `(tactic| first
  | with_reducible assumption
  | (walk_at "tb1"; walk_at "tb")
  | fail "tb")
local macro_rules | `(tactic| walk_at "tb1") => `(tactic| first
  | ((with_reducible refine' tabs_new ?a1 ?a2); (case a1 => with_reducible assumption); (case' a2 => skip))
  | ((with_reducible refine' tabs_same ?a1 ?a2); (case a1 => with_reducible assumption); (case' a2 => skip))
  | ((with_reducible refine' tabs_go ?a1 ?a2); (case a1 => with_reducible assumption); (case' a2 => skip))
  | ((with_reducible refine' tabs_kp ?a1 ?a2 ?a3); (case a1 => with_reducible assumption); (case a2 => walk_at "st"); (case' a3 => skip))
  | ((with_reducible refine' tabs_set ?a1 ?a2); (case a1 => walk_at "lk"); (case' a2 => skip))
  | fail "tb1")
local macro_rules | `(tactic| walk_at "dg") => `(tactic| first
  | assumption
  | (refine' dp_ext ?a1 ?a2; (case a1 => assumption); (case a2 => walk_at "fr"))
  | (refine' dn_use ?a1 ?a2; (case a1 => assumption); (case a2 => walk_at "fr"))
  | fail "dg")
local macro_rules | `(tactic| walk_at "dp") => `(tactic| first
  | assumption
  | exact .str _
  | exact .int _
  | exact .bl _
  | exact .non
  | (refine' Dp.lst (SqL.of ?a1) ?a2; (case a1 => walk_at "lk"); (case a2 => walk_at "dpa"))
  | (refine' Dp.tup (SqT.of ?a1) ?a2; (case a1 => walk_at "lk"); (case a2 => walk_at "dpa"))
  | (walk_at "dg")
  | fail "dp")
local macro_rules | `(tactic| walk_at "dpa") => `(tactic| first
  | assumption
  | exact .nil
  | (refine' DpAll.cons ?a1 ?a2; (case a1 => walk_at "dp"); (case a2 => walk_at "dpa"))
  | fail "dpa")
local macro_rules | `(tactic| walk_at "dx") => `(tactic| first
  | assumption
  | exact .str _
  | exact .int _
  | exact .bl _
  | exact .non
  | (refine' Dx.lst (SqL.of ?a1) ?a2; (case a1 => walk_at "lk"); (case a2 => walk_at "dxa"))
  | (refine' Dx.tup (SqT.of ?a1) ?a2; (case a1 => walk_at "lk"); (case a2 => walk_at "dxa"))
  | (refine' Dx.dct (.inl ?a1) ?a2; (case a1 => walk_at "lk"); (case a2 => exact .nil))
  | (refine' dx_ext ?a1 ?a2; (case a1 => assumption); (case a2 => walk_at "fr"))
  | fail "dx")
local macro_rules | `(tactic| walk_at "dxa") => `(tactic| first
  | assumption
  | exact .nil
  | (refine' DxAll.cons ?a1 ?a2; (case a1 => walk_at "dx"); (case a2 => walk_at "dxa"))
  | fail "dxa")
local macro_rules | `(tactic| walk_at "ty") => `(tactic| first
  | assumption
  | (refine' ty_ext ?a1 ?a2; (case a1 => assumption); (case a2 => walk_at "fr"))
  | fail "ty")
local macro_rules | `(tactic| walk_at "shp") => `(tactic| first
  | assumption
  | (simp only [SeqAt.shaped, lay_l, lay_t, lay_i, lay_b, lay_n, lay_c, lay_e, PyData.depth, PyData.depthAll, Bool.and_true, Bool.true_and, Bool.and_eq_true, decide_eq_true_eq]
     repeat' (first | assumption | (refine And.intro ?_ ?_) | (exact rfl) | (decide +kernel) | omega))
  | decide +kernel)
local macro_rules | `(tactic| walk_at "side") => `(tactic| first
  | assumption
  | (intros; trivial)
  | omega
  | (walk_at "lk")
  | (walk_at "st")
  | (walk_at "sz")
  | (walk_at "tb")
  | (walk_at "fr"))
local macro_rules | `(tactic| walk_at "cl") => `(tactic| ((repeat' (apply Exists.intro)); refine And.intro rfl ?_; repeat (refine And.intro (by walk_at "side") ?_)))
local macro_rules | `(tactic| walk_at "eqd") => `(tactic| (refine ⟨_, _, by walk_at "dp", by walk_at "dp", by walk_at "shp", by walk_at "shp", ?_⟩; rw [eqv_same (by walk_at "shp")]))
local macro_rules | `(tactic| walk_at "new") => `(tactic| refine fun (p : Addr) (hp : (_ : Hp) p = none) => ?_)
local macro_rules | `(tactic| walk_at "rdn") => `(tactic| (repeat' (first | walk_at "rd" | walk_at "new")))
section
variable {P : Program} {w : World} {K : PySem.W.Frag} {mg : Str → Option Value} {base : Heap}
theorem ok__law_right (T : Tx P w K mg base) (G__law_made : FnOk P w K mg base CX0 3 T.d__law_made.f T.d__law_made.fd ["one", "other"] (sp__law_made T.L)) (G__law_fields : FnOk P w K mg base CX0 1 T.d__law_fields.f T.d__law_fields.fd ["some"] (sp__law_fields T.L)) (G__law_kinds : FnOk P w K mg base CX0 1 T.d__law_kinds.f T.d__law_kinds.fd ["error"] (sp__law_kinds T.L)) (G__law_bases : FnOk P w K mg base CX0 1 T.d__law_bases.f T.d__law_bases.fd ["error"] (sp__law_bases T.L)) : Mx.FnG P w K mg base CX0 4 T.d__law_right.f T.d__law_right.fd ["one", "other"] (sp__law_right K) := by
  have sc := sc__law_right
  refine Mx.okG (CX := CX0) T.d__law_right.F sc (fun vs H Q E h => ?_) (fun cdv A outer s H vs Q E hr h => ?_)
  · obtain ⟨one, other, d1, d2, rfl, hd1, hd2, g1, g2, q⟩ := h
    rfl
  · obtain ⟨one, other, d1, d2, rfl, hd1, hd2, g1, g2, q⟩ := h
    refine ⟨_, (pss_cons (ps_set (i := 2) sc.nd rfl (Or.inl rfl) (pe_call G__law_made (hr.r.mono (by decide)) rfl T.d__law_made.m T.d__law_made.F.kp T.d__law_made.b .nil pass0 (pa_cons (pv 0) (pa_cons (pv 1) pa_nil))))
      (pss_cons (ps_set (i := 3) sc.nd rfl (Or.inl rfl) (pe_op op_catR (pe_op op_catR (pe_op op_catR (pe_op op_rep (pe_lst (pa_cons (pv 0) pa_nil)) pe_int) (pe_op op_rep (pe_lst (pa_cons (pv 0) (pa_cons (pv 1) pa_nil))) pe_int)) (pe_op op_rep (pe_lst (pa_cons (pv 0) pa_nil)) pe_int)) (pe_lst (pa_cons (pv 0) (pa_cons (pv 1) pa_nil)))))
      (pss_cons (ps_if (pt_cmpR op_ne (pe_callB (call_reprX hr) (by rfl) T.n_repr (by decide +kernel) (pa_cons (pe_call G__law_fields (hr.r.mono (by decide)) rfl T.d__law_fields.m T.d__law_fields.F.kp T.d__law_fields.b .nil pass0 (pa_cons (pv 2) pa_nil)) pa_nil)) (pe_callB (call_reprX hr) (by rfl) T.n_repr (by decide +kernel) (pa_cons (pv 3) pa_nil)) (nomark _)) (pss_one (ps_ret pe_bl)) pss_nil)
      (pss_cons (ps_for (passes_of rfl) rfl (pi_enum (by rfl) T.n_enumerate (pa_cons (pv 2) pa_nil)) (pg_tup (by rfl) (pgs_cons (pg_name (i := 4) sc.nd rfl (Or.inr rfl)) (pgs_cons (pg_name (i := 5) sc.nd rfl (Or.inl rfl)) pgs_nil))) (pss_cons (ps_if (pt_cmpR (op_neD hr.r.units) (pe_call G__law_kinds (hr.r.mono (by decide)) rfl T.d__law_kinds.m T.d__law_kinds.F.kp T.d__law_kinds.b .nil pass0 (pa_cons (pv 5) pa_nil)) (pe_lc (own := [("at", 7)]) (g := gName 7) (tt := tYes) rfl sc.nd (pi_range1 rfl T.n_range (pa_cons pe_int pa_nil)) (blkOk_by (own := [("at", 7)]) (N := ["one", "other", "some", "due", "k", "error", "base", "at"]) (sc := defScope s__law_right) (by decide +kernel)) (fun _ _ _ _ _ => pg_name (i := 7) sc.nd rfl (Or.inl rfl)) (fun _ _ _ _ _ => pts_nil) (fun _ _ _ _ _ => pe_cmpR op_eq (pv 7) (pv 4) (nomark _))) (nomark _)) (pss_one (ps_ret pe_bl)) pss_nil)
      (pss_cons (ps_set (i := 6) sc.nd rfl (Or.inr rfl) (pe_ifExp (pt_cmpR op_lt (pv 4) pe_int (nomark _)) pe_int (pe_ifExp (pt_cmpR op_lt (pv 4) pe_int (nomark _)) pe_int pe_int)))
      (pss_one (ps_if (pt_cmpR (op_neD hr.r.units) (pe_call G__law_bases (hr.r.mono (by decide)) rfl T.d__law_bases.m T.d__law_bases.F.kp T.d__law_bases.b .nil pass0 (pa_cons (pv 5) pa_nil)) (pe_op op_catR (pe_lc (own := [("at", 7)]) (g := gName 7) (tt := tYes) rfl sc.nd (pi_tup (pe_tup (pa_cons pe_int (pa_cons pe_int (pa_cons pe_int (pa_cons pe_int (pa_cons pe_int (pa_cons pe_int pa_nil)))))))) (blkOk_by (own := [("at", 7)]) (N := ["one", "other", "some", "due", "k", "error", "base", "at"]) (sc := defScope s__law_right) (by decide +kernel)) (fun _ _ _ _ _ => pg_name (i := 7) sc.nd rfl (Or.inl rfl)) (fun _ _ _ _ _ => pts_nil) (fun _ _ _ _ _ => pe_cmpR op_eq (pv 6) (pv 7) (nomark _))) (pe_lst (pa_cons pe_bl (pa_cons pe_bl pa_nil)))) (nomark _)) (pss_one (ps_ret pe_bl)) pss_nil)))))
      (pss_one (ps_ret pe_bl)))))), ?_⟩
    walk_at "rds"
    refine ⟨one, other, rfl, fun p as H1 s1 hp hx => ?_⟩
    walk_at "rds"
    intro l1 hl1
    walk_at "rds"
    refine ⟨l1, 15, _, rfl, rfl, upd_same, by decide, by decide, Nat.le_of_ble_eq_true rfl, fun r1 hr1 => ?_⟩
    walk_at "rds"
    intro l2 hl2
    walk_at "rds"
    refine ⟨l2, 3, _, rfl, rfl, upd_same, by decide, by decide, Nat.le_of_ble_eq_true rfl, fun r2 hr2 => ?_⟩
    walk_at "rds"
    refine ⟨_, _, _, _, rfl, rfl, .of (by walk_at "lk"), .of upd_same, Nat.le_of_ble_eq_true rfl, fun c2 hc2 => ?_⟩
    walk_at "rds"
    intro l3 hl3
    walk_at "rds"
    refine ⟨l3, 4, _, rfl, rfl, upd_same, by decide, by decide, Nat.le_of_ble_eq_true rfl, fun r3 hr3 => ?_⟩
    walk_at "rds"
    refine ⟨_, _, _, _, rfl, rfl, .of (by walk_at "lk"), .of upd_same, Nat.le_of_ble_eq_true rfl, fun c3 hc3 => ?_⟩
    walk_at "rds"
    intro l4 hl4
    walk_at "rds"
    refine ⟨_, _, _, _, rfl, rfl, .of (by walk_at "lk"), .of upd_same, Nat.le_of_ble_eq_true rfl, fun c4 hc4 => ?_⟩
    walk_at "rds"
    have s2 : Same H1 (upd (upd (upd (upd (upd (upd (upd (upd (upd (upd H1 l1 (.lst [one])) r1 (.lst (List.replicate (15 : Int).toNat [one]).flatten)) l2 (.lst [one, other])) r2 (.lst (List.replicate (3 : Int).toNat [one, other]).flatten)) c2 (.lst ((List.replicate (15 : Int).toNat [one]).flatten ++ (List.replicate (3 : Int).toNat [one, other]).flatten))) l3 (.lst [one])) r3 (.lst (List.replicate (4 : Int).toNat [one]).flatten)) c3 (.lst (((List.replicate (15 : Int).toNat [one]).flatten ++ (List.replicate (3 : Int).toNat [one, other]).flatten) ++ (List.replicate (4 : Int).toNat [one]).flatten))) l4 (.lst [one, other])) c4 (.lst ((((List.replicate (15 : Int).toNat [one]).flatten ++ (List.replicate (3 : Int).toNat [one, other]).flatten) ++ (List.replicate (4 : Int).toNat [one]).flatten) ++ [one, other]))) := by walk_at "fr"
    have e2 : (upd (upd (upd (upd (upd (upd (upd (upd (upd (upd H1 l1 (.lst [one])) r1 (.lst (List.replicate (15 : Int).toNat [one]).flatten)) l2 (.lst [one, other])) r2 (.lst (List.replicate (3 : Int).toNat [one, other]).flatten)) c2 (.lst ((List.replicate (15 : Int).toNat [one]).flatten ++ (List.replicate (3 : Int).toNat [one, other]).flatten))) l3 (.lst [one])) r3 (.lst (List.replicate (4 : Int).toNat [one]).flatten)) c3 (.lst (((List.replicate (15 : Int).toNat [one]).flatten ++ (List.replicate (3 : Int).toNat [one, other]).flatten) ++ (List.replicate (4 : Int).toNat [one]).flatten))) l4 (.lst [one, other])) c4 (.lst ((((List.replicate (15 : Int).toNat [one]).flatten ++ (List.replicate (3 : Int).toNat [one, other]).flatten) ++ (List.replicate (4 : Int).toNat [one]).flatten) ++ [one, other]))) c4 = some (.lst (fieldsV one other)) := upd_same
    generalize (upd (upd (upd (upd (upd (upd (upd (upd (upd (upd H1 l1 (.lst [one])) r1 (.lst (List.replicate (15 : Int).toNat [one]).flatten)) l2 (.lst [one, other])) r2 (.lst (List.replicate (3 : Int).toNat [one, other]).flatten)) c2 (.lst ((List.replicate (15 : Int).toNat [one]).flatten ++ (List.replicate (3 : Int).toNat [one, other]).flatten))) l3 (.lst [one])) r3 (.lst (List.replicate (4 : Int).toNat [one]).flatten)) c3 (.lst (((List.replicate (15 : Int).toNat [one]).flatten ++ (List.replicate (3 : Int).toNat [one, other]).flatten) ++ (List.replicate (4 : Int).toNat [one]).flatten))) l4 (.lst [one, other])) c4 (.lst ((((List.replicate (15 : Int).toNat [one]).flatten ++ (List.replicate (3 : Int).toNat [one, other]).flatten) ++ (List.replicate (4 : Int).toNat [one]).flatten) ++ [one, other]))) = H2 at *
    clear hl4 hl3 hl2 hl1
    walk_at "rds"
    have hp2 : H2 p = some (.lst (as.map V.ref)) := s2 _ _ hp
    refine ⟨p, as, one, other, rfl, hp2, hx.same s2, fun r H3 s3 hr => ?_⟩
    have s03 : Same H H3 := (s1.trans s2).trans s3
    have x1 : Dx K H3 one d1 := Dx.ext (.of s03) hd1
    have x2 : Dx K H3 other d2 := Dx.ext (.of s03) hd2
    obtain ⟨f1, f2, f3⟩ := fieldsD_ok g1 g2
    walk_at "rds"
    refine ⟨r, fieldsD d1 d2, rfl, .lst (SqL.of hr) (fieldsD_dx x1 x2), f1, f2, f3, ?_⟩
    generalize hsh : (PyData.list (fieldsD d1 d2)).shown = sh at *
    walk_at "rds"
    refine ⟨c4, fieldsD d1 d2, rfl, .lst (SqL.of (s3 _ _ e2)) (fieldsD_dx x1 x2), f1, f2, by rw [hsh]; exact f3, ?_⟩
    rw [hsh]
    refine ⟨rfl, _, rfl, itF (notF (decide_eq_true rfl)) ?_⟩
    walk_at "rds"
    have hp3 : H3 p = some (.lst (as.map V.ref)) := s3 _ _ hp2
    refine ⟨p, as.map V.ref, rfl, SqL.of hp3, ?_⟩
    have hx3 : Xs H3 as (due T.L one other) := (hx.same s2).same s3
    have l24 : as.length = 24 := hx3.len
    refine for_it (walk_enum (xs := as.map V.ref)) (fun i σ H' => (∃ v4 v5 v6 v7, σ = [some one, some other, some (.ref p), some (.ref c4), v4, v5, v6, v7]) ∧ Same H3 H') ⟨⟨_, _, _, _, rfl⟩, Same.refl _⟩ (fun i σ H' _ hv => SqL.of (hv.2 _ _ hp3)) ?_ ?_
    · rintro i x σ H4 H5 hi ⟨⟨v4, v5, v6, v7, rfl⟩, s4⟩ ⟨t, y1, y2, rfl, ht, rfl, e4, e5⟩
      obtain rfl := Option.some.inj e4
      rw [List.length_map, l24] at hi
      replace e5 : (as.map V.ref)[i]? = some y2 := e5
      rw [List.getElem?_map] at e5
      obtain ⟨a, ea, rfl⟩ := Option.map_eq_some_iff.mp e5
      obtain ⟨C, fs, hC, hxa⟩ := hx3.at ea
      have hi2 := due_at hC
      show gTup _ _ _ _ _ (upd H4 t (.tup [.int (i : Int), .ref a])) _
      have s5 : Same H3 (upd H4 t (.tup [.int (i : Int), .ref a])) := Same.new s4 ht
      have f5 : upd H4 t (.tup [.int (i : Int), .ref a]) t = some (.tup [.int (i : Int), .ref a]) := upd_same
      generalize upd H4 t (.tup [.int (i : Int), .ref a]) = H5 at *
      refine ⟨t, [.int (i : Int), .ref a], rfl, SqT.of f5, rfl, ?_⟩
      refine ⟨_, _, rfl, ?_⟩
      refine ⟨_, _, rfl, ?_⟩
      walk_at "rds"
      refine ⟨a, C, fs, i, rfl, hi2, hxa.same s5, fun kp H6 s6 hk => ?_⟩
      walk_at "rds"
      intro D hD
      refine lc_flt (walk_range (lo := (0 : Int)) (n := 24)) (fun _ => true) (fun j => .bl (decide (i = j))) hD (by decide) (fun _ _ => trivial) (fun i H1 x H2 y => y.1 ▸ Same.refl _) ?_ ?_
      · rintro j x H7 H8 Nx Mx hj sm ⟨rfl, rfl⟩ k1 k2
        refine ⟨rfl, ?_⟩
        walk_at "rds"
        have e : decide (V.int (0 + (j : Int)) = V.int (i : Int)) = decide (i = j) := decide_eq_decide.mpr ⟨fun h => by injection h with h; omega, fun h => by rw [h]; simp⟩
        show Nx (V.bl (decide (V.int (0 + (j : Int)) = V.int (i : Int)))) _
        rw [e]
        exact k1 rfl _ (Same.refl _)
      · intro H7 sm hl
        rw [picked_all] at hl
        have hl2 : H7 D = some (.lst ((kindsV i).map V.bl)) := by rw [hl]; unfold kindsV; rw [List.map_map]; rfl
        have s7 : Same H3 H7 := (s5.trans s6).trans sm
        refine ⟨_, _, .lst (SqL.of (sm _ _ hk)) (dpa_bl _), .lst (SqL.of hl2) (dpa_bl _), shp_bl _, shp_bl _, ?_⟩
        rw [eqv_same (shp_bl _)]
        clear hl hl2 hk hD f5
        walk_at "rds"
        all_goals
          refine ⟨a, C, fs, i, rfl, hi2, hxa.same s7, fun bp H8 s8 hb => ?_⟩
          walk_at "rds"
          intro tp htp
          walk_at "rds"
          refine ⟨⟨_, SqT.of upd_same⟩, ?_⟩
          intro D hD
          refine lc_flt (walk_tup (xs := [.int 0, .int 1, .int 2, .int 0, .int 1, .int 2])) (fun _ => true) (fun j => .bl (isBase i j)) hD (by decide) (fun H h => SqT.of (h _ _ upd_same)) (fun i H1 x H2 y => y.1 ▸ Same.refl _) ?_ ?_
          · rintro j x H9 H10 Nx Mx hj sm ⟨rfl, hxj⟩ k1 k2
            refine ⟨rfl, ?_⟩
            walk_at "rds"
            have hj6 : j < 6 := hj
            rcases (by omega : j = 0 ∨ j = 1 ∨ j = 2 ∨ j = 3 ∨ j = 4 ∨ j = 5) with rfl | rfl | rfl | rfl | rfl | rfl
            all_goals
              obtain rfl := Option.some.inj hxj
              walk_at "rds"
              refine cast (congrArg (fun z => Nx (V.bl z) H10) ?_) (k1 rfl _ (Same.refl _))
              clear k1 k2
              try simp only [decide_eq_false_iff_not, decide_eq_true_eq] at *
              first | (rw [isBase_lo (by omega)]; first | rfl | decide) | (rw [isBase_mid (by omega) (by omega)]; first | rfl | decide) | (rw [isBase_hi (by omega)]; first | rfl | decide)
          · intro H9 sm9 hl9
            rw [picked_all] at hl9
            walk_at "rds"
            intro wp hwp
            walk_at "rds"
            refine ⟨_, _, _, _, rfl, rfl, .of (by walk_at "lk"), .of upd_same, Nat.le_of_ble_eq_true rfl, fun zp hzp => ?_⟩
            walk_at "rds"
            refine ⟨_, _, .lst (SqL.of (by walk_at "lk")) (dpa_bl (basesV i)), .lst (SqL.of (xs := (basesV i).map V.bl) upd_same) (dpa_bl (basesV i)), shp_bl _, shp_bl _, ?_⟩
            rw [eqv_same (shp_bl _)]
            walk_at "rds"
            exact ⟨⟨_, _, _, _, rfl⟩, by walk_at "fr"⟩
    · rintro σ H4 ⟨⟨v4, v5, v6, v7, rfl⟩, s4⟩
      walk_at "rds"
      exact q _ (s03.trans s4)

end
end K1

namespace K1
open PySem PySem.Spec PyProof.Rows L2 Mx
def sp_law (K : PySem.W.Frag) : Sp := fun vs H Q _ => ∃ (a : Addr) (ns : List Int), vs = [.ref a] ∧ LsX K H a (ns.map V.int) ∧ ns.length ≤ 63 ∧ ∀ H', Q (.bl true) H'
theorem nat_shown {m : Nat} (h : m < 10 ^ 30) : (Str.ofString (toString (Int.ofNat m))).length ≤ 30 := by
  rw [text_ofNat]
  show ((Nat.toDigits 10 m).map Char.toNat).toArray.size ≤ 30
  rw [List.size_toArray, List.length_map]
  exact toDigits_len_pow (by decide) (by decide) h
instance (d : PyData) : Decidable (Gd d) := by
  unfold Gd
  infer_instance
theorem ne_of_some_st {p st : Addr} {c : Int} {H : Hp} {u : HO} (h : H p = some u) (sa : StAt st c H) (n : NL u) : p ≠ st := fun e => by
  obtain ⟨_, _, _, e2, _⟩ := sa
  rw [e, e2] at h
  exact n _ (Option.some.inj h).symm
theorem gd_nat {m : Nat} (h : m < 10 ^ 30) : Gd (.int (m : Int)) := by
  refine ⟨?_, by simp [PyData.depth], ?_⟩
  · simp only [PyData.showable, decide_eq_true_eq, Int.natAbs_natCast]
    by_cases h0 : m = 0
    · subst h0; decide
    · rw [Nat.log2_lt h0]
      exact Nat.lt_trans h (by decide +kernel)
  · exact Nat.le_trans (nat_shown h) (by decide)
theorem gd_neg {m : Nat} (h : m < 10 ^ 30) : Gd (.int (0 - (m : Int))) := by
  cases m with
  | zero => exact gd_nat (m := 0) h
  | succ k =>
    have e : (0 - ((k + 1 : Nat) : Int)) = Int.negSucc k := by rw [Int.negSucc_eq]; omega
    rw [e]
    refine ⟨?_, by simp [PyData.depth], ?_⟩
    · simp only [PyData.showable, decide_eq_true_eq]
      show (k + 1).log2 < 1920
      rw [Nat.log2_lt (by omega)]
      exact Nat.lt_trans h (by decide +kernel)
    · have h1 : PyData.shown (.int (Int.negSucc k)) = Str.ofString ("-" ++ toString (k + 1)) := rfl
      have h2 := nat_shown h
      have h3 : ∀ x : String, (Str.ofString ("-" ++ x)).length = 1 + (Str.ofString x).length := fun x => by
        rw [Str.ofString_eq_toList, Str.ofString_eq_toList]
        show (("-" ++ x).toList.map Char.toNat).toArray.size = 1 + (x.toList.map Char.toNat).toArray.size
        simp only [List.size_toArray, List.length_map, String.toList_append, List.length_append]
        rfl
      rw [h1, h3]
      have h4 : (Str.ofString (toString (k + 1))).length ≤ 30 := h2
      omega
end K1

namespace K1
open PySem PySem.Spec PyProof.Rows L2 Mx
local macro_rules | `(tactic| walk_at "sz") => `(tactic| first | assumption | decide | omega | (unfold sizeLine; omega) | exact Nat.le_of_ble_eq_true rfl)
local macro_rules | `(tactic| walk_at "hp") => `(tactic| (first | assumption | exact upd_same | (rw [upd_ne (by assumption)]; assumption)))
local macro_rules | `(tactic| walk_at "rd") => `(tactic| (first
  | refine ⟨_, rfl, ?_⟩
  | (refine ⟨_, _, rfl, rfl, ?rdc, ?_⟩; (case rdc => first | (show (0 : Int) < _; omega) | (exact ⟨by omega, by omega⟩) | (exact .inl ⟨by omega, by omega⟩) | (exact .inr ⟨by omega, by omega⟩) | exact ⟨by decide, by decide, by decide⟩))
  | refine ⟨_, _, rfl, rfl, ?_⟩
  | refine .inl ⟨_, rfl, ?_⟩
  | refine ⟨rfl, ?_⟩
  | refine ⟨⟨_, rfl⟩, ?_⟩
  | refine ⟨⟨_, SqL.of (by walk_at "hp")⟩, ?_⟩
  | refine ⟨_, _, _, _, rfl, rfl, SqL.of (by walk_at "hp"), (by rfl), ?_⟩
  | refine ⟨_, _, _, _, rfl, rfl, (by walk_at "hp"), (by rfl), ?_⟩
  | refine ⟨_, _, rfl, ⟨by walk_at "sz", rfl⟩, ?_⟩
  | refine ⟨_, _, _, rfl, rfl, by walk_at "sz", by assumption, ?_⟩
  | refine And.intro (by walk_at "sz") ?_
  | refine itT rfl ?_
  | refine itF rfl ?_
  | refine itT (by assumption) ?_
  | refine itF (by assumption) ?_
  | refine itT (decide_eq_true (by omega)) ?_
  | refine itF (decide_eq_false (by omega)) ?_
  | refine itT (dVi (by omega)) ?_
  | refine itF (dViN (by omega)) ?_
  | refine itT (notT (by assumption)) ?_
  | refine itF (notF (by assumption)) ?_
  | refine itT (notT (dViN (by omega))) ?_
  | refine itF (notF (dVi (by omega))) ?_
  | refine itT (decide_eq_true rfl) ?_
  | refine itF (notF (decide_eq_true rfl)) ?_
  | refine ite2 (fun _ => ?_) (fun _ => ?_)
  | with_reducible refine tC_ ?_
  | with_reducible refine tNext_ ?_
  | with_reducible refine tNil_ ?_
  | with_reducible refine tYes_ ?_))
local macro_rules | `(tactic| walk_at "rds") => `(tactic| repeat' (walk_at "rd"))
local macro_rules | `(tactic| walk_at "lk") => `(tactic| first
  | with_reducible assumption
  | with_reducible exact upd_same
  | (walk_at "lk1"; walk_at "lk")
  | fail "lk")
local macro_rules | `(tactic| walk_at "lk1") => `(tactic| first
  | ((with_reducible refine' lk_new ?a1 ?a2); (case a1 => with_reducible assumption); (case' a2 => skip))
  | ((with_reducible refine' lk_ne ?a1 ?a2); (case a1 => with_reducible assumption); (case' a2 => skip))
  | ((with_reducible refine' lk_neN ?a1 ?a2 ?a3); (case a1 => with_reducible assumption); (case a2 => walk_at "lk"); (case' a3 => skip))
  | ((with_reducible refine' lk_neN' ?a1 ?a2 ?a3); (case a1 => with_reducible assumption); (case a2 => walk_at "lk"); (case' a3 => skip))
  | ((with_reducible refine' lk_same ?a1 ?a2); (case a1 => with_reducible assumption); (case' a2 => skip))
  | ((with_reducible refine' lk_go ?a1 ?a2 ?a3); (case a1 => with_reducible assumption); (case a2 => walk_at "nt"); (case' a3 => skip))
  | ((with_reducible refine' lk_kp_nl ?a1 ?a2 ?a3 ?a4); (case a1 => with_reducible assumption); (case a2 => walk_at "st"); (case a3 => walk_at "nl"); (case' a4 => skip))
  | ((with_reducible refine' lk_kp ?a1 ?a2 ?a3); (case a1 => with_reducible assumption); (case a2 => walk_at "ne"); (case' a3 => skip))
  | fail "lk1")
local macro_rules | `(tactic| walk_at "nt") => `(tactic| first
  | (intro _ z; cases z)
  | fail "nt")
local macro_rules | `(tactic| walk_at "nl") => `(tactic| first
  | (intro _ z; cases z)
  | fail "nl")
local macro_rules | `(tactic| walk_at "ne") => `(tactic| first
  | with_reducible assumption
  | ((with_reducible refine' ne_st ?a1 ?a2); (case a1 => with_reducible assumption); (case a2 => walk_at "st"))
  | fail "ne")
local macro_rules | `(tactic| walk_at "st") => `(tactic| first
  | with_reducible assumption
  | with_reducible exact st_new (by with_reducible assumption) (by walk_at "st")
  | with_reducible exact st_same (by with_reducible assumption) (by walk_at "st")
  | with_reducible exact st_go (by with_reducible assumption) (by walk_at "st")
  | with_reducible exact st_ne (by walk_at "ns") (by walk_at "st")
  | fail "st")
local macro_rules | `(tactic| walk_at "ns") => `(tactic| first
  | with_reducible assumption
  | with_reducible exact Ne.symm (by with_reducible assumption)
  | with_reducible exact Ne.symm (ne_st (by with_reducible assumption) (by walk_at "st"))
  | fail "ns")
local macro_rules | `(tactic| walk_at "fr") => `(tactic| first
  | with_reducible assumption
  | with_reducible exact Same.refl _
  | with_reducible exact Go.refl _ _
  | with_reducible exact Kp.refl _ _
  | with_reducible exact LamX.ExtN.refl _
  | with_reducible exact nw_refl
  | (walk_at "fr1"; walk_at "fr")
  | fail "fr")
local macro_rules | `(tactic| walk_at "fr1") => `(tactic| first
  | ((with_reducible refine' fr_new ?a1 ?a2); (case a1 => with_reducible assumption); (case' a2 => skip))
  | ((with_reducible refine' go_new ?a1 ?a2); (case a1 => with_reducible assumption); (case' a2 => skip))
  | ((with_reducible refine' kp_new ?a1 ?a2); (case a1 => with_reducible assumption); (case' a2 => skip))
  | ((with_reducible refine' fr_same ?a1 ?a2); (case a1 => with_reducible assumption); (case' a2 => skip))
  | ((with_reducible refine' go_same ?a1 ?a2); (case a1 => with_reducible assumption); (case' a2 => skip))
  | ((with_reducible refine' kp_same ?a1 ?a2); (case a1 => with_reducible assumption); (case' a2 => skip))
  | ((with_reducible refine' go_go ?a1 ?a2); (case a1 => with_reducible assumption); (case' a2 => skip))
  | ((with_reducible refine' go_kp ?a1 ?a2 ?a3 ?a4); (case a1 => with_reducible assumption); (case a2 => with_reducible assumption); (case a3 => walk_at "st"); (case' a4 => skip))
  | ((with_reducible refine' kp_kp ?a1 ?a2); (case a1 => with_reducible assumption); (case' a2 => skip))
  | ((with_reducible refine' kp_upd ?a1); (case' a1 => skip))
  | ((with_reducible refine' go_set2 ?a1 ?a2 ?a3 ?a4); (case a1 => walk_at "lk"); (case a2 => with_reducible assumption); (case a3 => walk_at "fr"); (case' a4 => skip))
  | ((with_reducible refine' fr_set2 ?a1 ?a2 ?a3); (case a1 => with_reducible assumption); (case a2 => walk_at "fr"); (case' a3 => skip))
  | ((with_reducible refine' en_new ?a1 ?a2); (case a1 => with_reducible assumption); (case' a2 => skip))
  | ((with_reducible refine' en_same ?a1 ?a2); (case a1 => with_reducible assumption); (case' a2 => skip))
  | ((with_reducible refine' en_go ?a1 ?a2); (case a1 => with_reducible assumption); (case' a2 => skip))
  | ((with_reducible refine' en_set2 ?a1 ?a2 ?a3); (case a1 => with_reducible assumption); (case a2 => walk_at "fr"); (case' a3 => skip))
  | ((with_reducible refine' en_kp ?a1 ?a2 ?a3 ?a4); (case a1 => with_reducible assumption); (case a2 => with_reducible assumption); (case a3 => walk_at "fr"); (case' a4 => skip))
  | ((with_reducible refine' nw_new ?a1 ?a2); (case a1 => with_reducible assumption); (case' a2 => skip))
  | ((with_reducible refine' nw_same ?a1 ?a2); (case a1 => with_reducible assumption); (case' a2 => skip))
  | ((with_reducible refine' nw_go ?a1 ?a2); (case a1 => with_reducible assumption); (case' a2 => skip))
  | ((with_reducible refine' nw_kp ?a1 ?a2 ?a3); (case a1 => with_reducible assumption); (case a2 => walk_at "st"); (case' a3 => skip))
  | ((with_reducible refine' nw_set ?a1 ?a2); (case a1 => walk_at "lk"); (case' a2 => skip))
  | ((with_reducible refine' nw_set2 ?a1 ?a2 ?a3); (case a1 => with_reducible assumption); (case a2 => walk_at "fr"); (case' a3 => skip))
  | fail "fr1")
local macro_rules | `(tactic| walk_at "tb") => `(tactic| first
  | with_reducible assumption
  | (walk_at "tb1"; walk_at "tb")
  | fail "tb")
local macro_rules | `(tactic| walk_at "tb1") => `(tactic| first
  | ((with_reducible refine' tabs_new ?a1 ?a2); (case a1 => with_reducible assumption); (case' a2 => skip))
  | ((with_reducible refine' tabs_same ?a1 ?a2); (case a1 => with_reducible assumption); (case' a2 => skip))
  | ((with_reducible refine' tabs_go ?a1 ?a2); (case a1 => with_reducible assumption); (case' a2 => skip))
  | ((with_reducible refine' tabs_kp ?a1 ?a2 ?a3); (case a1 => with_reducible assumption); (case a2 => walk_at "st"); (case' a3 => skip))
  | ((with_reducible refine' tabs_set ?a1 ?a2); (case a1 => walk_at "lk"); (case' a2 => skip))
  | fail "tb1")
local macro_rules | `(tactic| walk_at "dg") => `(tactic| first
  | assumption
  | (refine' dp_ext ?a1 ?a2; (case a1 => assumption); (case a2 => walk_at "fr"))
  | (refine' dn_use ?a1 ?a2; (case a1 => assumption); (case a2 => walk_at "fr"))
  | fail "dg")
local macro_rules | `(tactic| walk_at "dp") => `(tactic| first
  | assumption
  | exact .str _
  | exact .int _
  | exact .bl _
  | exact .non
  | (refine' Dp.lst (SqL.of ?a1) ?a2; (case a1 => walk_at "lk"); (case a2 => walk_at "dpa"))
  | (refine' Dp.tup (SqT.of ?a1) ?a2; (case a1 => walk_at "lk"); (case a2 => walk_at "dpa"))
  | (walk_at "dg")
  | fail "dp")
local macro_rules | `(tactic| walk_at "dpa") => `(tactic| first
  | assumption
  | exact .nil
  | (refine' DpAll.cons ?a1 ?a2; (case a1 => walk_at "dp"); (case a2 => walk_at "dpa"))
  | fail "dpa")
local macro_rules | `(tactic| walk_at "dx") => `(tactic| first
  | assumption
  | exact .str _
  | exact .int _
  | exact .bl _
  | exact .non
  | (refine' Dx.lst (SqL.of ?a1) ?a2; (case a1 => walk_at "lk"); (case a2 => walk_at "dxa"))
  | (refine' Dx.tup (SqT.of ?a1) ?a2; (case a1 => walk_at "lk"); (case a2 => walk_at "dxa"))
  | (refine' Dx.dct (.inl ?a1) ?a2; (case a1 => walk_at "lk"); (case a2 => exact .nil))
  | (refine' dx_ext ?a1 ?a2; (case a1 => assumption); (case a2 => walk_at "fr"))
  | fail "dx")
local macro_rules | `(tactic| walk_at "dxa") => `(tactic| first
  | assumption
  | exact .nil
  | (refine' DxAll.cons ?a1 ?a2; (case a1 => walk_at "dx"); (case a2 => walk_at "dxa"))
  | fail "dxa")
local macro_rules | `(tactic| walk_at "ty") => `(tactic| first
  | assumption
  | (refine' ty_ext ?a1 ?a2; (case a1 => assumption); (case a2 => walk_at "fr"))
  | fail "ty")
local macro_rules | `(tactic| walk_at "shp") => `(tactic| first
  | assumption
  | (simp only [SeqAt.shaped, lay_l, lay_t, lay_i, lay_b, lay_n, lay_c, lay_e, PyData.depth, PyData.depthAll, Bool.and_true, Bool.true_and, Bool.and_eq_true, decide_eq_true_eq]
     repeat' (first | assumption | (refine And.intro ?_ ?_) | (exact rfl) | (decide +kernel) | omega))
  | decide +kernel)
local macro_rules | `(tactic| walk_at "side") => `(tactic| first
  | assumption
  | (intros; trivial)
  | omega
  | (walk_at "lk")
  | (walk_at "st")
  | (walk_at "sz")
  | (walk_at "tb")
  | (walk_at "fr"))
local macro_rules | `(tactic| walk_at "cl") => `(tactic| ((repeat' (apply Exists.intro)); refine And.intro rfl ?_; repeat (refine And.intro (by walk_at "side") ?_)))
local macro_rules | `(tactic| walk_at "eqd") => `(tactic| (refine ⟨_, _, by walk_at "dp", by walk_at "dp", by walk_at "shp", by walk_at "shp", ?_⟩; rw [eqv_same (by walk_at "shp")]))
local macro_rules | `(tactic| walk_at "new") => `(tactic| refine fun (p : Addr) (hp : (_ : Hp) p = none) => ?_)
local macro_rules | `(tactic| walk_at "rdn") => `(tactic| (repeat' (first | walk_at "rd" | walk_at "new")))
section
variable {P : Program} {w : World} {K : PySem.W.Frag} {mg : Str → Option Value} {base : Heap}
theorem ok_law (T : Tx P w K mg base) {f : Addr} {fd : FuncData} (F : Fun K "law" "law" s_law f fd) (G__law_stream : FnOk P w K mg base CX0 2 T.d__law_stream.f T.d__law_stream.fd ["item", "k"] sp__law_stream) (G__law_pick : FnOk P w K mg base CX0 3 T.d__law_pick.f T.d__law_pick.fd ["stream", "some"] sp__law_pick) (G__law_right : Mx.FnG P w K mg base CX0 4 T.d__law_right.f T.d__law_right.fd ["one", "other"] (sp__law_right K)) : FnG P w K mg base CX0 10 f fd ["script"] (sp_law K) := by
  have sc := sc_law
  refine okG (CX := CX0) F sc (fun vs H Q E h => ?_) (fun cdv A outer s H vs Q E hr h => ?_)
  · obtain ⟨a, ns, rfl, hs, hn, q⟩ := h
    rfl
  · obtain ⟨a, ns, rfl, hs, hn, q⟩ := h
    refine ⟨_, (pss_cons (ps_for (passes_of rfl) rfl (pi_enum (by rfl) T.n_enumerate (pa_cons (pe_slice sl_list (pe_op op_catR (pv 0) (pe_lst (pa_cons pe_int pa_nil))) po_none (po_some pe_int)) pa_nil)) (pg_tup (by rfl) (pgs_cons (pg_name (i := 1) sc.nd rfl (Or.inl rfl)) (pgs_cons (pg_name (i := 2) sc.nd rfl (Or.inl rfl)) pgs_nil))) (pss_cons (ps_set (i := 3) sc.nd rfl (Or.inl rfl) (pe_call G__law_stream (hr.r.mono (by decide)) rfl T.d__law_stream.m T.d__law_stream.F.kp T.d__law_stream.b .nil pass0 (pa_cons (pv 2) (pa_cons (pv 1) pa_nil))))
      (pss_cons (ps_set (i := 4) sc.nd rfl (Or.inl rfl) (pe_op op_mod (pe_callTy call_int1 (by rfl) T.n_int (by decide +kernel) (pa_cons (pv 2) pa_nil)) (pe_op op_pow pe_int pe_int)))
      (pss_cons (ps_set (i := 5) sc.nd rfl (Or.inl rfl) (pe_lst (pa_cons pe_non (pa_cons pe_bl (pa_cons pe_int (pa_cons pe_str (pa_cons pe_str (pa_cons (pe_tup (pa_cons pe_str (pa_cons pe_int pa_nil))) (pa_cons (pe_lst (pa_cons pe_int (pa_cons pe_str pa_nil))) (pa_cons (pe_disp (pps_cons pe_str pe_int pps_nil) rfl rfl (by simp) (by decide)) (pa_cons (pe_op op_sub pe_int (pv 4)) (pa_cons (pe_tup pa_nil) pa_nil))))))))))))
      (pss_cons (ps_par (i := 6) (j := 7) (by rfl) sc.nd rfl rfl (by decide) rfl rfl (pa_cons (pe_call G__law_pick (hr.r.mono (by decide)) rfl T.d__law_pick.m T.d__law_pick.F.kp T.d__law_pick.b .nil pass0 (pa_cons (pv 3) (pa_cons (pv 5) pa_nil))) (pa_cons (pe_call G__law_pick (hr.r.mono (by decide)) rfl T.d__law_pick.m T.d__law_pick.F.kp T.d__law_pick.b .nil pass0 (pa_cons (pv 3) (pa_cons (pv 5) pa_nil))) pa_nil)) (by rfl))
      (pss_one (ps_if (PW.pt (pw_or (pt_not (pt_val (pg_call G__law_right (hr.mono (by decide)) rfl T.d__law_right.m T.d__law_right.F.kp T.d__law_right.b .nil pass0 (pa_cons (pv 6) (pa_cons (pv 7) pa_nil))))) (pw_or1 (pt_not (pt_val (pg_call G__law_right (hr.mono (by decide)) rfl T.d__law_right.m T.d__law_right.F.kp T.d__law_right.b .nil pass0 (pa_cons pe_str (pa_cons (pv 4) pa_nil)))))))) (pss_one (ps_ret pe_bl)) pss_nil)))))))
      (pss_one (ps_ret pe_bl))), ?_⟩
    walk_at "rds"
    intro p1 hp1
    walk_at "rds"
    refine ⟨a, p1, _, _, rfl, rfl, lsx_ext hs (by walk_at "fr"), .of upd_same, by rw [List.length_map]; unfold sizeLine; show ns.length + 1 ≤ _; omega, fun p2 hp2 => ?_⟩
    walk_at "rds"
    refine ⟨p2, _, rfl, SqL.of upd_same, fun p3 hp3 => ?_⟩
    have hx : ∀ x ∈ cutV (ns.map V.int ++ [.int 0]) none (some 8), ∃ z, x = .int z := fun x h => ints_mem (cutV_mem h)
    have hl : (cutV (ns.map V.int ++ [.int 0]) none (some 8)).length ≤ 8 := cutV_front _ 8
    generalize cutV (ns.map V.int ++ [.int 0]) none (some 8) = xs at *
    have e3 : (upd (upd (upd H p1 (.lst [.int 0])) p2 (.lst (ns.map V.int ++ [.int 0]))) p3 (.lst xs)) p3 = some (.lst xs) := upd_same
    generalize (upd (upd (upd H p1 (.lst [.int 0])) p2 (.lst (ns.map V.int ++ [.int 0]))) p3 (.lst xs)) = H3 at *
    clear hp1 hp2 hp3 hs
    walk_at "rds"
    refine ⟨p3, xs, rfl, SqL.of e3, ?_⟩
    refine for_it (walk_enum (xs := xs)) (fun i σ H' => (∃ v1 v2 v3 v4 v5 v6 v7, σ = [some (.ref a), v1, v2, v3, v4, v5, v6, v7]) ∧ Go ([] : List (Addr × Str)) H3 H') ⟨⟨_, _, _, _, _, _, _, rfl⟩, Go.refl _ _⟩ (fun i σ H' _ hv => SqL.of (hv.2.lst e3)) ?_ ?_
    · rintro i x σ H4 H5 hi ⟨⟨v1, v2, v3, v4, v5, v6, v7, rfl⟩, g4⟩ ⟨t, y1, y2, rfl, ht, rfl, e4, e5⟩
      obtain rfl := Option.some.inj e4
      obtain ⟨z, rfl⟩ := hx _ (List.mem_of_getElem? e5)
      show gTup _ _ _ _ _ (upd H4 t (.tup [.int (i : Int), .int z])) _
      have gB : Go ([] : List (Addr × Str)) H3 (upd H4 t (.tup [.int (i : Int), .int z])) := by walk_at "fr"
      have f5 : upd H4 t (.tup [.int (i : Int), .int z]) t = some (.tup [.int (i : Int), .int z]) := upd_same
      generalize upd H4 t (.tup [.int (i : Int), .int z]) = HB at *
      clear g4 ht
      refine ⟨t, [.int (i : Int), .int z], rfl, SqT.of f5, rfl, ?_⟩
      refine ⟨_, _, rfl, ?_⟩
      refine ⟨_, _, rfl, ?_⟩
      walk_at "rds"
      refine ⟨z, i, rfl, by omega, by omega, fun st H6 hst s6 sa => ?_⟩
      have g6 : Go ([] : List (Addr × Str)) HB H6 := Go.same s6
      walk_at "rds"
      have hT : (0 : Int) < (10 : Int) ^ Int.toNat 30 := by decide +kernel
      refine ⟨hT, ?_⟩
      obtain ⟨m, hm⟩ := Int.eq_ofNat_of_zero_le (Int.emod_nonneg z (Int.ne_of_gt hT))
      have hm1 : m < 10 ^ 30 := by
        have h := Int.emod_lt_of_pos z hT
        rw [hm] at h
        exact Int.ofNat_lt.mp h
      show gName 4 (V.int (z % (10 : Int) ^ Int.toNat 30)) _ _ _
      rw [hm]
      walk_at "rds"
      intro pa hpa
      walk_at "rds"
      intro pb hpb
      walk_at "rds"
      intro pc hpc
      walk_at "rds"
      refine ⟨upd_same, [(.inr "a", .int 1)], rfl, by decide, ?_⟩
      show tCons _ _ _ (upd (upd (upd (upd H6 pa (.tup [.str "a", .int 1])) pb (.lst [.int 1, .str "x"])) pc (.dK [])) pc (.dK [(.inr "a", .int 1)])) _
      walk_at "rds"
      intro pd hpd
      walk_at "rds"
      intro L hL
      walk_at "rds"
      have npc : pc ≠ st := ne_st hpc (by walk_at "st")
      have sC : StAt st 0 (upd (upd (upd (upd H6 pa (.tup [.str "a", .int 1])) pb (.lst [.int 1, .str "x"])) pc (.dK [])) pc (.dK [(.inr "a", .int 1)])) := st_ne (Ne.symm npc) (by walk_at "st")
      have nL : L ≠ st := ne_st hL (st_new hpd sC)
      have nB : pb ≠ st := ne_st hpb (by walk_at "st")
      have fpc : (upd (upd (upd (upd (upd (upd H6 pa (.tup [.str "a", .int 1])) pb (.lst [.int 1, .str "x"])) pc (.dK [])) pc (.dK [(.inr "a", .int 1)])) pd (.tup [])) L (.lst [.non, .bl true, .int 0, .str "", .str "a:b", .ref pa, .ref pb, .ref pc, .int (0 - ((m : Nat) : Int)), .ref pd])) pc = some (.dK [(.inr "a", .int 1)]) := lk_new hL (lk_new hpd upd_same)
      have fpd : (upd (upd (upd (upd (upd (upd H6 pa (.tup [.str "a", .int 1])) pb (.lst [.int 1, .str "x"])) pc (.dK [])) pc (.dK [(.inr "a", .int 1)])) pd (.tup [])) L (.lst [.non, .bl true, .int 0, .str "", .str "a:b", .ref pa, .ref pb, .ref pc, .int (0 - ((m : Nat) : Int)), .ref pd])) pd = some (.tup []) := lk_new hL upd_same
      have nab : pa ≠ pc := fun e => ne_of_none (show (upd (upd H6 pa (.tup [.str "a", .int 1])) pb (.lst [.int 1, .str "x"])) _ = some _ from by walk_at "lk") hpc e
      have fpa : (upd (upd (upd (upd (upd (upd H6 pa (.tup [.str "a", .int 1])) pb (.lst [.int 1, .str "x"])) pc (.dK [])) pc (.dK [(.inr "a", .int 1)])) pd (.tup [])) L (.lst [.non, .bl true, .int 0, .str "", .str "a:b", .ref pa, .ref pb, .ref pc, .int (0 - ((m : Nat) : Int)), .ref pd])) pa = some (.tup [.str "a", .int 1]) := lk_new hL (lk_new hpd (lk_ne nab (by walk_at "lk")))
      have nbb : pb ≠ pc := fun e => ne_of_none (show (upd (upd H6 pa (.tup [.str "a", .int 1])) pb (.lst [.int 1, .str "x"])) _ = some _ from by walk_at "lk") hpc e
      have fpb : (upd (upd (upd (upd (upd (upd H6 pa (.tup [.str "a", .int 1])) pb (.lst [.int 1, .str "x"])) pc (.dK [])) pc (.dK [(.inr "a", .int 1)])) pd (.tup [])) L (.lst [.non, .bl true, .int 0, .str "", .str "a:b", .ref pa, .ref pb, .ref pc, .int (0 - ((m : Nat) : Int)), .ref pd])) pb = some (.lst [.int 1, .str "x"]) := lk_new hL (lk_new hpd (lk_ne nbb (by walk_at "lk")))
      have fL : (upd (upd (upd (upd (upd (upd H6 pa (.tup [.str "a", .int 1])) pb (.lst [.int 1, .str "x"])) pc (.dK [])) pc (.dK [(.inr "a", .int 1)])) pd (.tup [])) L (.lst [.non, .bl true, .int 0, .str "", .str "a:b", .ref pa, .ref pb, .ref pc, .int (0 - ((m : Nat) : Int)), .ref pd])) L = some (.lst [.non, .bl true, .int 0, .str "", .str "a:b", .ref pa, .ref pb, .ref pc, .int (0 - ((m : Nat) : Int)), .ref pd]) := upd_same
      have saL : StAt st 0 (upd (upd (upd (upd (upd (upd H6 pa (.tup [.str "a", .int 1])) pb (.lst [.int 1, .str "x"])) pc (.dK [])) pc (.dK [(.inr "a", .int 1)])) pd (.tup [])) L (.lst [.non, .bl true, .int 0, .str "", .str "a:b", .ref pa, .ref pb, .ref pc, .int (0 - ((m : Nat) : Int)), .ref pd])) := st_new hL (st_new hpd sC)
      have s5 : Same HB (upd (upd (upd (upd (upd (upd H6 pa (.tup [.str "a", .int 1])) pb (.lst [.int 1, .str "x"])) pc (.dK [])) pc (.dK [(.inr "a", .int 1)])) pd (.tup [])) L (.lst [.non, .bl true, .int 0, .str "", .str "a:b", .ref pa, .ref pb, .ref pc, .int (0 - ((m : Nat) : Int)), .ref pd])) := Same.new (Same.new (fr_set2 hpc (Same.new (Same.new s6 hpa) hpb) (Same.new (Same.new (Same.new s6 hpa) hpb) hpc)) hpd) hL
      generalize (upd (upd (upd (upd (upd (upd H6 pa (.tup [.str "a", .int 1])) pb (.lst [.int 1, .str "x"])) pc (.dK [])) pc (.dK [(.inr "a", .int 1)])) pd (.tup [])) L (.lst [.non, .bl true, .int 0, .str "", .str "a:b", .ref pa, .ref pb, .ref pc, .int (0 - ((m : Nat) : Int)), .ref pd])) = H7 at *
      clear hpa hpb hpc hpd hL sC s6 sa npc nab nbb
      have hv : ∀ (j : Nat) (x : V) (H' : Hp), ([.non, .bl true, .int 0, .str "", .str "a:b", .ref pa, .ref pb, .ref pc, .int (0 - ((m : Nat) : Int)), .ref pd] : List V)[j]? = some x → Kp st H7 H' → ∃ d, Dx K H' x d ∧ Gd d := by
        intro j x H' hj kp
        have hmem := List.mem_of_getElem? hj
        simp only [List.mem_cons, List.not_mem_nil, or_false] at hmem
        have na : H' pa = some (.tup [.str "a", .int 1]) := kp _ _ (ne_of_some_st fpa saL nl_tup) fpa
        have nc : H' pc = some (.dK [(.inr "a", .int 1)]) := kp _ _ (ne_of_some_st fpc saL nl_dK) fpc
        have nd : H' pd = some (.tup []) := kp _ _ (ne_of_some_st fpd saL nl_tup) fpd
        have nb : H' pb = some (.lst [.int 1, .str "x"]) := kp _ _ nB fpb
        rcases hmem with rfl | rfl | rfl | rfl | rfl | rfl | rfl | rfl | rfl | rfl
        · exact ⟨_, .non, by decide +kernel⟩
        · exact ⟨_, .bl _, by decide +kernel⟩
        · exact ⟨_, .int _, by decide +kernel⟩
        · exact ⟨_, .str _, by decide +kernel⟩
        · exact ⟨_, .str _, by decide +kernel⟩
        · exact ⟨_, .tup (SqT.of na) (.cons (.str _) (.cons (.int _) .nil)), by decide +kernel⟩
        · exact ⟨_, .lst (SqL.of nb) (.cons (.int _) (.cons (.str _) .nil)), by decide +kernel⟩
        · exact ⟨_, .dct (.inl nc) (.cons (.int _) .nil), by decide +kernel⟩
        · exact ⟨_, .int _, gd_neg hm1⟩
        · exact ⟨_, .tup (SqT.of nd) .nil, by decide +kernel⟩
      refine ⟨st, _, .ref L, rfl, saL, by omega, .inl ⟨L, _, rfl, nL, fL, Nat.succ_pos _, (by show 10 < 1000000; decide), fun j1 x H8 hj1 kp8 sa8 => ?_⟩⟩
      walk_at "rds"
      refine ⟨st, _, .ref L, rfl, sa8, by omega, .inl ⟨L, _, rfl, nL, kp8 _ _ nL fL, Nat.succ_pos _, (by show 10 < 1000000; decide), fun j2 y H9 hj2 kp9 sa9 => ?_⟩⟩
      obtain ⟨d1, dx1, gd1⟩ := hv _ _ _ hj1 (kp8.trans kp9)
      obtain ⟨d2, dx2, gd2⟩ := hv _ _ _ hj2 (kp8.trans kp9)
      have g9 : Go ([] : List (Addr × Str)) HB H9 := go_kp kp9 hst sa8 (go_kp kp8 hst saL (Go.same s5))
      refine ⟨_, _, rfl, ?_⟩
      walk_at "rds"
      refine ⟨x, y, d1, d2, rfl, dx1, dx2, gd1, gd2, fun H10 s10 => ?_⟩
      walk_at "rds"
      refine ⟨.str "one", .int ((m : Nat) : Int), .str "one", .int ((m : Nat) : Int), rfl, .str _, .int _, by decide +kernel, gd_nat hm1, fun H11 s11 => ?_⟩
      walk_at "rds"
      exact ⟨⟨_, _, _, _, _, _, _, rfl⟩, gB.trans ((g9.trans (.same s10)).trans (.same s11))⟩
    · rintro σ H4 ⟨⟨v1, v2, v3, v4, v5, v6, v7, rfl⟩, g4⟩
      walk_at "rds"
      exact q _

end
end K1

namespace K1
open PySem PySem.Spec PyProof.Rows L2 Mx
local macro_rules | `(tactic| walk_at "sz") => `(tactic| first | assumption | decide | omega | (unfold sizeLine; omega) | exact Nat.le_of_ble_eq_true rfl)
local macro_rules | `(tactic| walk_at "hp") => `(tactic| (first | assumption | exact upd_same | (rw [upd_ne (by assumption)]; assumption)))
local macro_rules | `(tactic| walk_at "rd") => `(tactic| (first
  | refine ⟨_, rfl, ?_⟩
  | (refine ⟨_, _, rfl, rfl, ?rdc, ?_⟩; (case rdc => first | (show (0 : Int) < _; omega) | (exact ⟨by omega, by omega⟩) | (exact .inl ⟨by omega, by omega⟩) | (exact .inr ⟨by omega, by omega⟩) | exact ⟨by decide, by decide, by decide⟩))
  | refine ⟨_, _, rfl, rfl, ?_⟩
  | refine .inl ⟨_, rfl, ?_⟩
  | refine ⟨rfl, ?_⟩
  | refine ⟨⟨_, rfl⟩, ?_⟩
  | refine ⟨⟨_, SqL.of (by walk_at "hp")⟩, ?_⟩
  | refine ⟨_, _, _, _, rfl, rfl, SqL.of (by walk_at "hp"), (by rfl), ?_⟩
  | refine ⟨_, _, _, _, rfl, rfl, (by walk_at "hp"), (by rfl), ?_⟩
  | refine ⟨_, _, rfl, ⟨by walk_at "sz", rfl⟩, ?_⟩
  | refine ⟨_, _, _, rfl, rfl, by walk_at "sz", by assumption, ?_⟩
  | refine And.intro (by walk_at "sz") ?_
  | refine itT rfl ?_
  | refine itF rfl ?_
  | refine itT (by assumption) ?_
  | refine itF (by assumption) ?_
  | refine itT (decide_eq_true (by omega)) ?_
  | refine itF (decide_eq_false (by omega)) ?_
  | refine itT (dVi (by omega)) ?_
  | refine itF (dViN (by omega)) ?_
  | refine itT (notT (by assumption)) ?_
  | refine itF (notF (by assumption)) ?_
  | refine itT (notT (dViN (by omega))) ?_
  | refine itF (notF (dVi (by omega))) ?_
  | refine itT (decide_eq_true rfl) ?_
  | refine itF (notF (decide_eq_true rfl)) ?_
  | refine ite2 (fun _ => ?_) (fun _ => ?_)
  | with_reducible refine tC_ ?_
  | with_reducible refine tNext_ ?_
  | with_reducible refine tNil_ ?_
  | with_reducible refine tYes_ ?_))
local macro_rules | `(tactic| walk_at "rds") => `(tactic| repeat' (walk_at "rd"))

local macro_rules | `(tactic| walk_at "lk") => `(tactic| first
  | with_reducible assumption
  | with_reducible exact upd_same
  | (walk_at "lk1"; walk_at "lk")
  | fail "lk")
local macro_rules | `(tactic| walk_at "lk1") => `(tactic| first
  | ((with_reducible refine' lk_new ?a1 ?a2); (case a1 => with_reducible assumption); (case' a2 => skip))
  | ((with_reducible refine' lk_ne ?a1 ?a2); (case a1 => with_reducible assumption); (case' a2 => skip))
  | ((with_reducible refine' lk_neN ?a1 ?a2 ?a3); (case a1 => with_reducible assumption); (case a2 => walk_at "lk"); (case' a3 => skip))
  | ((with_reducible refine' lk_neN' ?a1 ?a2 ?a3); (case a1 => with_reducible assumption); (case a2 => walk_at "lk"); (case' a3 => skip))
  | ((with_reducible refine' lk_same ?a1 ?a2); (case a1 => with_reducible assumption); (case' a2 => skip))
  | ((with_reducible refine' lk_go ?a1 ?a2 ?a3); (case a1 => with_reducible assumption); (case a2 => walk_at "nt"); (case' a3 => skip))
  | ((with_reducible refine' lk_kp_nl ?a1 ?a2 ?a3 ?a4); (case a1 => with_reducible assumption); (case a2 => walk_at "st"); (case a3 => walk_at "nl"); (case' a4 => skip))
  | ((with_reducible refine' lk_kp ?a1 ?a2 ?a3); (case a1 => with_reducible assumption); (case a2 => walk_at "ne"); (case' a3 => skip))
  | fail "lk1")
local macro_rules | `(tactic| walk_at "nt") => `(tactic| first
  | (intro _ z; cases z)
  | fail "nt")
local macro_rules | `(tactic| walk_at "nl") => `(tactic| first
  | (intro _ z; cases z)
  | fail "nl")
local macro_rules | `(tactic| walk_at "ne") => `(tactic| first
  | with_reducible assumption
  | ((with_reducible refine' ne_st ?a1 ?a2); (case a1 => with_reducible assumption); (case a2 => walk_at "st"))
  | fail "ne")
local macro_rules | `(tactic| walk_at "st") => `(tactic| first
  | with_reducible assumption
  | with_reducible exact st_new (by with_reducible assumption) (by walk_at "st")
  | with_reducible exact st_same (by with_reducible assumption) (by walk_at "st")
  | with_reducible exact st_go (by with_reducible assumption) (by walk_at "st")
  | with_reducible exact st_ne (by walk_at "ns") (by walk_at "st")
  | fail "st")
local macro_rules | `(tactic| walk_at "ns") => `(tactic| first
  | with_reducible assumption
  | with_reducible exact Ne.symm (by with_reducible assumption)
  | with_reducible exact Ne.symm (ne_st (by with_reducible assumption) (by walk_at "st"))
  | fail "ns")
local macro_rules | `(tactic| walk_at "fr") => `(tactic| first
  | with_reducible assumption
  | with_reducible exact Same.refl _
  | with_reducible exact Go.refl _ _
  | with_reducible exact Kp.refl _ _
  | with_reducible exact LamX.ExtN.refl _
  | with_reducible exact nw_refl
  | (walk_at "fr1"; walk_at "fr")
  | fail "fr")
local macro_rules | `(tactic| walk_at "fr1") => `(tactic| first
  | ((with_reducible refine' fr_new ?a1 ?a2); (case a1 => with_reducible assumption); (case' a2 => skip))
  | ((with_reducible refine' go_new ?a1 ?a2); (case a1 => with_reducible assumption); (case' a2 => skip))
  | ((with_reducible refine' kp_new ?a1 ?a2); (case a1 => with_reducible assumption); (case' a2 => skip))
  | ((with_reducible refine' fr_same ?a1 ?a2); (case a1 => with_reducible assumption); (case' a2 => skip))
  | ((with_reducible refine' go_same ?a1 ?a2); (case a1 => with_reducible assumption); (case' a2 => skip))
  | ((with_reducible refine' kp_same ?a1 ?a2); (case a1 => with_reducible assumption); (case' a2 => skip))
  | ((with_reducible refine' go_go ?a1 ?a2); (case a1 => with_reducible assumption); (case' a2 => skip))
  | ((with_reducible refine' go_kp ?a1 ?a2 ?a3 ?a4); (case a1 => with_reducible assumption); (case a2 => with_reducible assumption); (case a3 => walk_at "st"); (case' a4 => skip))
  | ((with_reducible refine' kp_kp ?a1 ?a2); (case a1 => with_reducible assumption); (case' a2 => skip))
  | ((with_reducible refine' kp_upd ?a1); (case' a1 => skip))
  | ((with_reducible refine' go_set2 ?a1 ?a2 ?a3 ?a4); (case a1 => walk_at "lk"); (case a2 => with_reducible assumption); (case a3 => walk_at "fr"); (case' a4 => skip))
  | ((with_reducible refine' fr_set2 ?a1 ?a2 ?a3); (case a1 => with_reducible assumption); (case a2 => walk_at "fr"); (case' a3 => skip))
  | ((with_reducible refine' en_new ?a1 ?a2); (case a1 => with_reducible assumption); (case' a2 => skip))
  | ((with_reducible refine' en_same ?a1 ?a2); (case a1 => with_reducible assumption); (case' a2 => skip))
  | ((with_reducible refine' en_go ?a1 ?a2); (case a1 => with_reducible assumption); (case' a2 => skip))
  | ((with_reducible refine' en_set2 ?a1 ?a2 ?a3); (case a1 => with_reducible assumption); (case a2 => walk_at "fr"); (case' a3 => skip))
  | ((with_reducible refine' en_kp ?a1 ?a2 ?a3 ?a4); (case a1 => with_reducible assumption); (case a2 => with_reducible assumption); (case a3 => walk_at "fr"); (case' a4 => skip))
  | ((with_reducible refine' nw_new ?a1 ?a2); (case a1 => with_reducible assumption); (case' a2 => skip))
  | ((with_reducible refine' nw_same ?a1 ?a2); (case a1 => with_reducible assumption); (case' a2 => skip))
  | ((with_reducible refine' nw_go ?a1 ?a2); (case a1 => with_reducible assumption); (case' a2 => skip))
  | ((with_reducible refine' nw_kp ?a1 ?a2 ?a3); (case a1 => with_reducible assumption); (case a2 => walk_at "st"); (case' a3 => skip))
  | ((with_reducible refine' nw_set ?a1 ?a2); (case a1 => walk_at "lk"); (case' a2 => skip))
  | ((with_reducible refine' nw_set2 ?a1 ?a2 ?a3); (case a1 => with_reducible assumption); (case a2 => walk_at "fr"); (case' a3 => skip))
  | fail "fr1")
local macro_rules | `(tactic| walk_at "tb") => `(tactic| first
  | with_reducible assumption
  | (walk_at "tb1"; walk_at "tb")
  | fail "tb")
local macro_rules | `(tactic| walk_at "tb1") => `(tactic| first
  | ((with_reducible refine' tabs_new ?a1 ?a2); (case a1 => with_reducible assumption); (case' a2 => skip))
  | ((with_reducible refine' tabs_same ?a1 ?a2); (case a1 => with_reducible assumption); (case' a2 => skip))
  | ((with_reducible refine' tabs_go ?a1 ?a2); (case a1 => with_reducible assumption); (case' a2 => skip))
  | ((with_reducible refine' tabs_kp ?a1 ?a2 ?a3); (case a1 => with_reducible assumption); (case a2 => walk_at "st"); (case' a3 => skip))
  | ((with_reducible refine' tabs_set ?a1 ?a2); (case a1 => walk_at "lk"); (case' a2 => skip))
  | fail "tb1")
local macro_rules | `(tactic| walk_at "dg") => `(tactic| first
  | assumption
  | (refine' dp_ext ?a1 ?a2; (case a1 => assumption); (case a2 => walk_at "fr"))
  | (refine' dn_use ?a1 ?a2; (case a1 => assumption); (case a2 => walk_at "fr"))
  | fail "dg")
local macro_rules | `(tactic| walk_at "dp") => `(tactic| first
  | assumption
  | exact .str _
  | exact .int _
  | exact .bl _
  | exact .non
  | (refine' Dp.lst (SqL.of ?a1) ?a2; (case a1 => walk_at "lk"); (case a2 => walk_at "dpa"))
  | (refine' Dp.tup (SqT.of ?a1) ?a2; (case a1 => walk_at "lk"); (case a2 => walk_at "dpa"))
  | (walk_at "dg")
  | fail "dp")
local macro_rules | `(tactic| walk_at "dpa") => `(tactic| first
  | assumption
  | exact .nil
  | (refine' DpAll.cons ?a1 ?a2; (case a1 => walk_at "dp"); (case a2 => walk_at "dpa"))
  | fail "dpa")
local macro_rules | `(tactic| walk_at "dx") => `(tactic| first
  | assumption
  | exact .str _
  | exact .int _
  | exact .bl _
  | exact .non
  | (refine' Dx.lst (SqL.of ?a1) ?a2; (case a1 => walk_at "lk"); (case a2 => walk_at "dxa"))
  | (refine' Dx.tup (SqT.of ?a1) ?a2; (case a1 => walk_at "lk"); (case a2 => walk_at "dxa"))
  | (refine' Dx.dct (.inl ?a1) ?a2; (case a1 => walk_at "lk"); (case a2 => exact .nil))
  | (refine' dx_ext ?a1 ?a2; (case a1 => assumption); (case a2 => walk_at "fr"))
  | fail "dx")
local macro_rules | `(tactic| walk_at "dxa") => `(tactic| first
  | assumption
  | exact .nil
  | (refine' DxAll.cons ?a1 ?a2; (case a1 => walk_at "dx"); (case a2 => walk_at "dxa"))
  | fail "dxa")
local macro_rules | `(tactic| walk_at "ty") => `(tactic| first
  | assumption
  | (refine' ty_ext ?a1 ?a2; (case a1 => assumption); (case a2 => walk_at "fr"))
  | fail "ty")
local macro_rules | `(tactic| walk_at "shp") => `(tactic| first
  | assumption
  | (simp only [SeqAt.shaped, lay_l, lay_t, lay_i, lay_b, lay_n, lay_c, lay_e, PyData.depth, PyData.depthAll, Bool.and_true, Bool.true_and, Bool.and_eq_true, decide_eq_true_eq]
     repeat' (first | assumption | (refine And.intro ?_ ?_) | (exact rfl) | (decide +kernel) | omega))
  | decide +kernel)
local macro_rules | `(tactic| walk_at "side") => `(tactic| first
  | assumption
  | (intros; trivial)
  | omega
  | (walk_at "lk")
  | (walk_at "st")
  | (walk_at "sz")
  | (walk_at "tb")
  | (walk_at "fr"))
local macro_rules | `(tactic| walk_at "cl") => `(tactic| ((repeat' (apply Exists.intro)); refine And.intro rfl ?_; repeat (refine And.intro (by walk_at "side") ?_)))
local macro_rules | `(tactic| walk_at "eqd") => `(tactic| (refine ⟨_, _, by walk_at "dp", by walk_at "dp", by walk_at "shp", by walk_at "shp", ?_⟩; rw [eqv_same (by walk_at "shp")]))
local macro_rules | `(tactic| walk_at "new") => `(tactic| refine fun (p : Addr) (hp : (_ : Hp) p = none) => ?_)
local macro_rules | `(tactic| walk_at "rdn") => `(tactic| (repeat' (first | walk_at "rd" | walk_at "new")))

def clB (K : PySem.W.Frag) (C : Addr) (fs : List Str) : Bool :=
  (PySem.W.clsIn K C).isSome && decide (PySem.W.findIn K (.ref C) "__getattribute__" = some (some (.builtin "BaseException.__getattribute__"))) && decide (PySem.W.findIn K (.ref C) "__getattr__" = some none) &&
  decide (PySem.W.subIn K (.ref C) (.type "BaseException") = some true) && decide (PySem.W.findIn K (.ref C) "__class__" = some (some (.builtin "object.__class__"))) && decide (PySem.W.mroIn K C (.type "object") = some true) &&
  PySem.W.hasDictIn K C && decide (PySem.W.findIn K (.ref C) "__setattr__" = some (some (.builtin "object.__setattr__"))) && PySem.W.keepIn K (.ref C) && fs.all fun f => decide (PySem.W.findIn K (.ref C) f = some none)
structure ClB (K : PySem.W.Frag) (C : Addr) (fs : List Str) : Prop where
  h1 : (PySem.W.clsIn K C).isSome = true
  h2 : PySem.W.findIn K (.ref C) "__getattribute__" = some (some (.builtin "BaseException.__getattribute__"))
  h3 : PySem.W.findIn K (.ref C) "__getattr__" = some none
  h4 : PySem.W.subIn K (.ref C) (.type "BaseException") = some true
  h5 : PySem.W.findIn K (.ref C) "__class__" = some (some (.builtin "object.__class__"))
  h6 : PySem.W.mroIn K C (.type "object") = some true
  h7 : PySem.W.hasDictIn K C = true
  h8 : PySem.W.findIn K (.ref C) "__setattr__" = some (some (.builtin "object.__setattr__"))
  h9 : PySem.W.keepIn K (.ref C) = true
  hf : ∀ f ∈ fs, PySem.W.findIn K (.ref C) f = some none
theorem clB_ok {K : PySem.W.Frag} {C : Addr} {fs : List Str} (h : clB K C fs = true) : ClB K C fs := by
  unfold clB at h
  simp only [Bool.and_eq_true, decide_eq_true_eq, List.all_eq_true] at h
  obtain ⟨⟨⟨⟨⟨⟨⟨⟨⟨a1, a2⟩, a3⟩, a4⟩, a5⟩, a6⟩, a7⟩, a8⟩, a9⟩, a10⟩ := h
  exact ⟨a1, a2, a3, a4, a5, a6, a7, a8, a9, a10⟩
theorem ClB.xc {K : PySem.W.Frag} {C : Addr} {fs : List Str} (x : ClB K C fs) (u1 : PySem.W.specialIn K (.builtin "object.__class__") "__get__" = some (some (.builtin "getset_descriptor.__get__"))) (u2 : PySem.W.takesIn K (.builtin "object.__class__") = some true) : XcC K C :=
  ⟨x.h1, x.h2, x.h3, x.h4, x.h5, u1, u2, x.h6, x.h7⟩
def kitL (K : PySem.W.Frag) (L : List Addr) (us : List Value) (f : Nat → Nat → Bool) : Bool := L.zipIdx.all fun c => us.zipIdx.all fun d => decide (PySem.W.kitOne K (.ref c.1) d.1 = some (f c.2 d.2))
theorem kitL_ok {K : PySem.W.Frag} {L : List Addr} {us : List Value} {f : Nat → Nat → Bool} (h : kitL K L us f = true) {i j : Nat} {C : Addr} {u : Value} (hi : L[i]? = some C) (hj : us[j]? = some u) : PySem.W.kitOne K (.ref C) u = some (f i j) := by
  unfold kitL at h
  have h1 := List.all_eq_true.mp h (C, i) (List.mem_zipIdx_iff_getElem?.mpr hi)
  have h2 := List.all_eq_true.mp h1 (u, j) (List.mem_zipIdx_iff_getElem?.mpr hj)
  exact of_decide_eq_true h2

section
variable {P : Program} {w : World} {K : PySem.W.Frag} {mg : Str → Option Value} {base : Heap}

theorem ok_IllFormed___init__ {CM C fI : Addr} {fd : FuncData} (B : BaseG K mg ebV "MarkupError" CM) (F : Fun K "__init__" "IllFormed.__init__" s_IllFormed___init__ fI fd) (ox : OexG K ebV C) (fn0 : PySem.W.findIn K (.ref C) "position" = some none) : FnOk P w K mg base CX0 1 fI fd ["self", "position"] (spIn C ["position"]) := by
  have sc := sc_IllFormed___init__
  refine F.ok sc (fun vs H Q E h => ?_) (fun cdv A outer s H vs Q E hr h => ?_)
  · obtain ⟨a, ys, rfl, hl, _⟩ := h
    rw [List.length_cons, hl]
    rfl
  · obtain ⟨a, ys, rfl, hl, ha, q⟩ := h
    match ys, hl with
    | [y0], _ =>
    refine ⟨_, (pss_cons (ps_expr (pe_minitG B rfl (pa_cons (pv 0) (pa_cons pe_str pa_nil))))
      (pss_one (ps_osG (b := ebV) (pv 0) (pv 1)))), ?_⟩
    walk_at "rds"
    refine ⟨a, C, _, rfl, (by show 1 ≤ 1000; decide), ox, ha, ?_⟩
    walk_at "rds"
    exact ⟨a, C, rfl, ox, fn0, .inl ⟨ha, fun dx h1 h2 => q _ (((Kp.refl _ _).new h1).upd) (.inl ⟨dx, upd_same, by rw [upd_ne h2]; exact upd_same⟩)⟩⟩

theorem ok_InvalidText___init__ {CM C fI : Addr} {fd : FuncData} (B : BaseG K mg ebV "MarkupError" CM) (F : Fun K "__init__" "InvalidText.__init__" s_InvalidText___init__ fI fd) (ox : OexG K ebV C) (fn0 : PySem.W.findIn K (.ref C) "index" = some none) : FnOk P w K mg base CX0 1 fI fd ["self", "index"] (spIn C ["index"]) := by
  have sc := sc_InvalidText___init__
  refine F.ok sc (fun vs H Q E h => ?_) (fun cdv A outer s H vs Q E hr h => ?_)
  · obtain ⟨a, ys, rfl, hl, _⟩ := h
    rw [List.length_cons, hl]
    rfl
  · obtain ⟨a, ys, rfl, hl, ha, q⟩ := h
    match ys, hl with
    | [y0], _ =>
    refine ⟨_, (pss_cons (ps_expr (pe_minitG B rfl (pa_cons (pv 0) (pa_cons pe_str pa_nil))))
      (pss_one (ps_osG (b := ebV) (pv 0) (pv 1)))), ?_⟩
    walk_at "rds"
    refine ⟨a, C, _, rfl, (by show 1 ≤ 1000; decide), ox, ha, ?_⟩
    walk_at "rds"
    exact ⟨a, C, rfl, ox, fn0, .inl ⟨ha, fun dx h1 h2 => q _ (((Kp.refl _ _).new h1).upd) (.inl ⟨dx, upd_same, by rw [upd_ne h2]; exact upd_same⟩)⟩⟩

theorem ok_InvalidName___init__ {CM C fI : Addr} {fd : FuncData} (B : BaseG K mg ebV "MarkupError" CM) (F : Fun K "__init__" "InvalidName.__init__" s_InvalidName___init__ fI fd) (ox : OexG K ebV C) (fn0 : PySem.W.findIn K (.ref C) "given" = some none) : FnOk P w K mg base CX0 1 fI fd ["self", "given"] (spIn C ["given"]) := by
  have sc := sc_InvalidName___init__
  refine F.ok sc (fun vs H Q E h => ?_) (fun cdv A outer s H vs Q E hr h => ?_)
  · obtain ⟨a, ys, rfl, hl, _⟩ := h
    rw [List.length_cons, hl]
    rfl
  · obtain ⟨a, ys, rfl, hl, ha, q⟩ := h
    match ys, hl with
    | [y0], _ =>
    refine ⟨_, (pss_cons (ps_expr (pe_minitG B rfl (pa_cons (pv 0) (pa_cons pe_str pa_nil))))
      (pss_one (ps_osG (b := ebV) (pv 0) (pv 1)))), ?_⟩
    walk_at "rds"
    refine ⟨a, C, _, rfl, (by show 1 ≤ 1000; decide), ox, ha, ?_⟩
    walk_at "rds"
    exact ⟨a, C, rfl, ox, fn0, .inl ⟨ha, fun dx h1 h2 => q _ (((Kp.refl _ _).new h1).upd) (.inl ⟨dx, upd_same, by rw [upd_ne h2]; exact upd_same⟩)⟩⟩

theorem ok_InvalidKind___init__ {CM C fI : Addr} {fd : FuncData} (B : BaseG K mg ebV "MarkupError" CM) (F : Fun K "__init__" "InvalidKind.__init__" s_InvalidKind___init__ fI fd) (ox : OexG K ebV C) (fn0 : PySem.W.findIn K (.ref C) "kind" = some none) : FnOk P w K mg base CX0 1 fI fd ["self", "kind"] (spIn C ["kind"]) := by
  have sc := sc_InvalidKind___init__
  refine F.ok sc (fun vs H Q E h => ?_) (fun cdv A outer s H vs Q E hr h => ?_)
  · obtain ⟨a, ys, rfl, hl, _⟩ := h
    rw [List.length_cons, hl]
    rfl
  · obtain ⟨a, ys, rfl, hl, ha, q⟩ := h
    match ys, hl with
    | [y0], _ =>
    refine ⟨_, (pss_cons (ps_expr (pe_minitG B rfl (pa_cons (pv 0) (pa_cons pe_str pa_nil))))
      (pss_one (ps_osG (b := ebV) (pv 0) (pv 1)))), ?_⟩
    walk_at "rds"
    refine ⟨a, C, _, rfl, (by show 1 ≤ 1000; decide), ox, ha, ?_⟩
    walk_at "rds"
    exact ⟨a, C, rfl, ox, fn0, .inl ⟨ha, fun dx h1 h2 => q _ (((Kp.refl _ _).new h1).upd) (.inl ⟨dx, upd_same, by rw [upd_ne h2]; exact upd_same⟩)⟩⟩

theorem ok_InvalidNumber___init__ {CM C fI : Addr} {fd : FuncData} (B : BaseG K mg ebV "MarkupError" CM) (F : Fun K "__init__" "InvalidNumber.__init__" s_InvalidNumber___init__ fI fd) (ox : OexG K ebV C) (fn0 : PySem.W.findIn K (.ref C) "number" = some none) : FnOk P w K mg base CX0 1 fI fd ["self", "number"] (spIn C ["number"]) := by
  have sc := sc_InvalidNumber___init__
  refine F.ok sc (fun vs H Q E h => ?_) (fun cdv A outer s H vs Q E hr h => ?_)
  · obtain ⟨a, ys, rfl, hl, _⟩ := h
    rw [List.length_cons, hl]
    rfl
  · obtain ⟨a, ys, rfl, hl, ha, q⟩ := h
    match ys, hl with
    | [y0], _ =>
    refine ⟨_, (pss_cons (ps_expr (pe_minitG B rfl (pa_cons (pv 0) (pa_cons pe_str pa_nil))))
      (pss_one (ps_osG (b := ebV) (pv 0) (pv 1)))), ?_⟩
    walk_at "rds"
    refine ⟨a, C, _, rfl, (by show 1 ≤ 1000; decide), ox, ha, ?_⟩
    walk_at "rds"
    exact ⟨a, C, rfl, ox, fn0, .inl ⟨ha, fun dx h1 h2 => q _ (((Kp.refl _ _).new h1).upd) (.inl ⟨dx, upd_same, by rw [upd_ne h2]; exact upd_same⟩)⟩⟩

theorem ok_InvalidPlace___init__ {CM C fI : Addr} {fd : FuncData} (B : BaseG K mg ebV "MarkupError" CM) (F : Fun K "__init__" "InvalidPlace.__init__" s_InvalidPlace___init__ fI fd) (ox : OexG K ebV C) (fn0 : PySem.W.findIn K (.ref C) "given" = some none) : FnOk P w K mg base CX0 1 fI fd ["self", "given"] (spIn C ["given"]) := by
  have sc := sc_InvalidPlace___init__
  refine F.ok sc (fun vs H Q E h => ?_) (fun cdv A outer s H vs Q E hr h => ?_)
  · obtain ⟨a, ys, rfl, hl, _⟩ := h
    rw [List.length_cons, hl]
    rfl
  · obtain ⟨a, ys, rfl, hl, ha, q⟩ := h
    match ys, hl with
    | [y0], _ =>
    refine ⟨_, (pss_cons (ps_expr (pe_minitG B rfl (pa_cons (pv 0) (pa_cons pe_str pa_nil))))
      (pss_one (ps_osG (b := ebV) (pv 0) (pv 1)))), ?_⟩
    walk_at "rds"
    refine ⟨a, C, _, rfl, (by show 1 ≤ 1000; decide), ox, ha, ?_⟩
    walk_at "rds"
    exact ⟨a, C, rfl, ox, fn0, .inl ⟨ha, fun dx h1 h2 => q _ (((Kp.refl _ _).new h1).upd) (.inl ⟨dx, upd_same, by rw [upd_ne h2]; exact upd_same⟩)⟩⟩

theorem ok_InvalidMark___init__ {CM C fI : Addr} {fd : FuncData} (B : BaseG K mg ebV "MarkupError" CM) (F : Fun K "__init__" "InvalidMark.__init__" s_InvalidMark___init__ fI fd) (ox : OexG K ebV C) (fn0 : PySem.W.findIn K (.ref C) "given" = some none) : FnOk P w K mg base CX0 1 fI fd ["self", "given"] (spIn C ["given"]) := by
  have sc := sc_InvalidMark___init__
  refine F.ok sc (fun vs H Q E h => ?_) (fun cdv A outer s H vs Q E hr h => ?_)
  · obtain ⟨a, ys, rfl, hl, _⟩ := h
    rw [List.length_cons, hl]
    rfl
  · obtain ⟨a, ys, rfl, hl, ha, q⟩ := h
    match ys, hl with
    | [y0], _ =>
    refine ⟨_, (pss_cons (ps_expr (pe_minitG B rfl (pa_cons (pv 0) (pa_cons pe_str pa_nil))))
      (pss_one (ps_osG (b := ebV) (pv 0) (pv 1)))), ?_⟩
    walk_at "rds"
    refine ⟨a, C, _, rfl, (by show 1 ≤ 1000; decide), ox, ha, ?_⟩
    walk_at "rds"
    exact ⟨a, C, rfl, ox, fn0, .inl ⟨ha, fun dx h1 h2 => q _ (((Kp.refl _ _).new h1).upd) (.inl ⟨dx, upd_same, by rw [upd_ne h2]; exact upd_same⟩)⟩⟩

theorem ok_InvalidAttributes___init__ {CM C fI : Addr} {fd : FuncData} (B : BaseG K mg ebV "MarkupError" CM) (F : Fun K "__init__" "InvalidAttributes.__init__" s_InvalidAttributes___init__ fI fd) (ox : OexG K ebV C) (fn0 : PySem.W.findIn K (.ref C) "index" = some none) : FnOk P w K mg base CX0 1 fI fd ["self", "index"] (spIn C ["index"]) := by
  have sc := sc_InvalidAttributes___init__
  refine F.ok sc (fun vs H Q E h => ?_) (fun cdv A outer s H vs Q E hr h => ?_)
  · obtain ⟨a, ys, rfl, hl, _⟩ := h
    rw [List.length_cons, hl]
    rfl
  · obtain ⟨a, ys, rfl, hl, ha, q⟩ := h
    match ys, hl with
    | [y0], _ =>
    refine ⟨_, (pss_cons (ps_expr (pe_minitG B rfl (pa_cons (pv 0) (pa_cons pe_str pa_nil))))
      (pss_one (ps_osG (b := ebV) (pv 0) (pv 1)))), ?_⟩
    walk_at "rds"
    refine ⟨a, C, _, rfl, (by show 1 ≤ 1000; decide), ox, ha, ?_⟩
    walk_at "rds"
    exact ⟨a, C, rfl, ox, fn0, .inl ⟨ha, fun dx h1 h2 => q _ (((Kp.refl _ _).new h1).upd) (.inl ⟨dx, upd_same, by rw [upd_ne h2]; exact upd_same⟩)⟩⟩

theorem ok_InvalidNode___init__ {CM C fI : Addr} {fd : FuncData} (B : BaseG K mg ebV "MarkupError" CM) (F : Fun K "__init__" "InvalidNode.__init__" s_InvalidNode___init__ fI fd) (ox : OexG K ebV C) (fn0 : PySem.W.findIn K (.ref C) "given" = some none) : FnOk P w K mg base CX0 1 fI fd ["self", "given"] (spIn C ["given"]) := by
  have sc := sc_InvalidNode___init__
  refine F.ok sc (fun vs H Q E h => ?_) (fun cdv A outer s H vs Q E hr h => ?_)
  · obtain ⟨a, ys, rfl, hl, _⟩ := h
    rw [List.length_cons, hl]
    rfl
  · obtain ⟨a, ys, rfl, hl, ha, q⟩ := h
    match ys, hl with
    | [y0], _ =>
    refine ⟨_, (pss_cons (ps_expr (pe_minitG B rfl (pa_cons (pv 0) (pa_cons pe_str pa_nil))))
      (pss_one (ps_osG (b := ebV) (pv 0) (pv 1)))), ?_⟩
    walk_at "rds"
    refine ⟨a, C, _, rfl, (by show 1 ≤ 1000; decide), ox, ha, ?_⟩
    walk_at "rds"
    exact ⟨a, C, rfl, ox, fn0, .inl ⟨ha, fun dx h1 h2 => q _ (((Kp.refl _ _).new h1).upd) (.inl ⟨dx, upd_same, by rw [upd_ne h2]; exact upd_same⟩)⟩⟩

theorem ok_InvalidPath___init__ {CM C fI : Addr} {fd : FuncData} (B : BaseG K mg ebV "MarkupError" CM) (F : Fun K "__init__" "InvalidPath.__init__" s_InvalidPath___init__ fI fd) (ox : OexG K ebV C) (fn0 : PySem.W.findIn K (.ref C) "given" = some none) : FnOk P w K mg base CX0 1 fI fd ["self", "given"] (spIn C ["given"]) := by
  have sc := sc_InvalidPath___init__
  refine F.ok sc (fun vs H Q E h => ?_) (fun cdv A outer s H vs Q E hr h => ?_)
  · obtain ⟨a, ys, rfl, hl, _⟩ := h
    rw [List.length_cons, hl]
    rfl
  · obtain ⟨a, ys, rfl, hl, ha, q⟩ := h
    match ys, hl with
    | [y0], _ =>
    refine ⟨_, (pss_cons (ps_expr (pe_minitG B rfl (pa_cons (pv 0) (pa_cons pe_str pa_nil))))
      (pss_one (ps_osG (b := ebV) (pv 0) (pv 1)))), ?_⟩
    walk_at "rds"
    refine ⟨a, C, _, rfl, (by show 1 ≤ 1000; decide), ox, ha, ?_⟩
    walk_at "rds"
    exact ⟨a, C, rfl, ox, fn0, .inl ⟨ha, fun dx h1 h2 => q _ (((Kp.refl _ _).new h1).upd) (.inl ⟨dx, upd_same, by rw [upd_ne h2]; exact upd_same⟩)⟩⟩

theorem ok_InvalidEvents___init__ {CM C fI : Addr} {fd : FuncData} (B : BaseG K mg ebV "MarkupError" CM) (F : Fun K "__init__" "InvalidEvents.__init__" s_InvalidEvents___init__ fI fd) (ox : OexG K ebV C) (fn0 : PySem.W.findIn K (.ref C) "index" = some none) : FnOk P w K mg base CX0 1 fI fd ["self", "index"] (spIn C ["index"]) := by
  have sc := sc_InvalidEvents___init__
  refine F.ok sc (fun vs H Q E h => ?_) (fun cdv A outer s H vs Q E hr h => ?_)
  · obtain ⟨a, ys, rfl, hl, _⟩ := h
    rw [List.length_cons, hl]
    rfl
  · obtain ⟨a, ys, rfl, hl, ha, q⟩ := h
    match ys, hl with
    | [y0], _ =>
    refine ⟨_, (pss_cons (ps_expr (pe_minitG B rfl (pa_cons (pv 0) (pa_cons pe_str pa_nil))))
      (pss_one (ps_osG (b := ebV) (pv 0) (pv 1)))), ?_⟩
    walk_at "rds"
    refine ⟨a, C, _, rfl, (by show 1 ≤ 1000; decide), ox, ha, ?_⟩
    walk_at "rds"
    exact ⟨a, C, rfl, ox, fn0, .inl ⟨ha, fun dx h1 h2 => q _ (((Kp.refl _ _).new h1).upd) (.inl ⟨dx, upd_same, by rw [upd_ne h2]; exact upd_same⟩)⟩⟩

theorem ok_InvalidEdit___init__ {CM C fI : Addr} {fd : FuncData} (B : BaseG K mg ebV "MarkupError" CM) (F : Fun K "__init__" "InvalidEdit.__init__" s_InvalidEdit___init__ fI fd) (ox : OexG K ebV C) (fn0 : PySem.W.findIn K (.ref C) "index" = some none) : FnOk P w K mg base CX0 1 fI fd ["self", "index"] (spIn C ["index"]) := by
  have sc := sc_InvalidEdit___init__
  refine F.ok sc (fun vs H Q E h => ?_) (fun cdv A outer s H vs Q E hr h => ?_)
  · obtain ⟨a, ys, rfl, hl, _⟩ := h
    rw [List.length_cons, hl]
    rfl
  · obtain ⟨a, ys, rfl, hl, ha, q⟩ := h
    match ys, hl with
    | [y0], _ =>
    refine ⟨_, (pss_cons (ps_expr (pe_minitG B rfl (pa_cons (pv 0) (pa_cons pe_str pa_nil))))
      (pss_one (ps_osG (b := ebV) (pv 0) (pv 1)))), ?_⟩
    walk_at "rds"
    refine ⟨a, C, _, rfl, (by show 1 ≤ 1000; decide), ox, ha, ?_⟩
    walk_at "rds"
    exact ⟨a, C, rfl, ox, fn0, .inl ⟨ha, fun dx h1 h2 => q _ (((Kp.refl _ _).new h1).upd) (.inl ⟨dx, upd_same, by rw [upd_ne h2]; exact upd_same⟩)⟩⟩

theorem ok_InvalidQuery___init__ {CM C fI : Addr} {fd : FuncData} (B : BaseG K mg ebV "MarkupError" CM) (F : Fun K "__init__" "InvalidQuery.__init__" s_InvalidQuery___init__ fI fd) (ox : OexG K ebV C) (fn0 : PySem.W.findIn K (.ref C) "position" = some none) : FnOk P w K mg base CX0 1 fI fd ["self", "position"] (spIn C ["position"]) := by
  have sc := sc_InvalidQuery___init__
  refine F.ok sc (fun vs H Q E h => ?_) (fun cdv A outer s H vs Q E hr h => ?_)
  · obtain ⟨a, ys, rfl, hl, _⟩ := h
    rw [List.length_cons, hl]
    rfl
  · obtain ⟨a, ys, rfl, hl, ha, q⟩ := h
    match ys, hl with
    | [y0], _ =>
    refine ⟨_, (pss_cons (ps_expr (pe_minitG B rfl (pa_cons (pv 0) (pa_cons pe_str pa_nil))))
      (pss_one (ps_osG (b := ebV) (pv 0) (pv 1)))), ?_⟩
    walk_at "rds"
    refine ⟨a, C, _, rfl, (by show 1 ≤ 1000; decide), ox, ha, ?_⟩
    walk_at "rds"
    exact ⟨a, C, rfl, ox, fn0, .inl ⟨ha, fun dx h1 h2 => q _ (((Kp.refl _ _).new h1).upd) (.inl ⟨dx, upd_same, by rw [upd_ne h2]; exact upd_same⟩)⟩⟩

theorem ok_InvalidPlan___init__ {CM C fI : Addr} {fd : FuncData} (B : BaseG K mg ebV "MarkupError" CM) (F : Fun K "__init__" "InvalidPlan.__init__" s_InvalidPlan___init__ fI fd) (ox : OexG K ebV C) (fn0 : PySem.W.findIn K (.ref C) "index" = some none) : FnOk P w K mg base CX0 1 fI fd ["self", "index"] (spIn C ["index"]) := by
  have sc := sc_InvalidPlan___init__
  refine F.ok sc (fun vs H Q E h => ?_) (fun cdv A outer s H vs Q E hr h => ?_)
  · obtain ⟨a, ys, rfl, hl, _⟩ := h
    rw [List.length_cons, hl]
    rfl
  · obtain ⟨a, ys, rfl, hl, ha, q⟩ := h
    match ys, hl with
    | [y0], _ =>
    refine ⟨_, (pss_cons (ps_expr (pe_minitG B rfl (pa_cons (pv 0) (pa_cons pe_str pa_nil))))
      (pss_one (ps_osG (b := ebV) (pv 0) (pv 1)))), ?_⟩
    walk_at "rds"
    refine ⟨a, C, _, rfl, (by show 1 ≤ 1000; decide), ox, ha, ?_⟩
    walk_at "rds"
    exact ⟨a, C, rfl, ox, fn0, .inl ⟨ha, fun dx h1 h2 => q _ (((Kp.refl _ _).new h1).upd) (.inl ⟨dx, upd_same, by rw [upd_ne h2]; exact upd_same⟩)⟩⟩

theorem ok_UnknownMark___init__ {CM C fI : Addr} {fd : FuncData} (B : BaseG K mg ebV "MarkupError" CM) (F : Fun K "__init__" "UnknownMark.__init__" s_UnknownMark___init__ fI fd) (ox : OexG K ebV C) (fn0 : PySem.W.findIn K (.ref C) "given" = some none) : FnOk P w K mg base CX0 1 fI fd ["self", "given"] (spIn C ["given"]) := by
  have sc := sc_UnknownMark___init__
  refine F.ok sc (fun vs H Q E h => ?_) (fun cdv A outer s H vs Q E hr h => ?_)
  · obtain ⟨a, ys, rfl, hl, _⟩ := h
    rw [List.length_cons, hl]
    rfl
  · obtain ⟨a, ys, rfl, hl, ha, q⟩ := h
    match ys, hl with
    | [y0], _ =>
    refine ⟨_, (pss_cons (ps_expr (pe_minitG B rfl (pa_cons (pv 0) (pa_cons pe_str pa_nil))))
      (pss_one (ps_osG (b := ebV) (pv 0) (pv 1)))), ?_⟩
    walk_at "rds"
    refine ⟨a, C, _, rfl, (by show 1 ≤ 1000; decide), ox, ha, ?_⟩
    walk_at "rds"
    exact ⟨a, C, rfl, ox, fn0, .inl ⟨ha, fun dx h1 h2 => q _ (((Kp.refl _ _).new h1).upd) (.inl ⟨dx, upd_same, by rw [upd_ne h2]; exact upd_same⟩)⟩⟩

theorem ok_BadBinding___init__ {CM C fI : Addr} {fd : FuncData} (B : BaseG K mg ebV "MarkupError" CM) (F : Fun K "__init__" "BadBinding.__init__" s_BadBinding___init__ fI fd) (ox : OexG K ebV C) (fn0 : PySem.W.findIn K (.ref C) "spelling" = some none) (fn1 : PySem.W.findIn K (.ref C) "place" = some none) : FnOk P w K mg base CX0 1 fI fd ["self", "spelling", "place"] (spIn C ["spelling", "place"]) := by
  have sc := sc_BadBinding___init__
  refine F.ok sc (fun vs H Q E h => ?_) (fun cdv A outer s H vs Q E hr h => ?_)
  · obtain ⟨a, ys, rfl, hl, _⟩ := h
    rw [List.length_cons, hl]
    rfl
  · obtain ⟨a, ys, rfl, hl, ha, q⟩ := h
    match ys, hl with
    | [y0, y1], _ =>
    refine ⟨_, (pss_cons (ps_expr (pe_minitG B rfl (pa_cons (pv 0) (pa_cons pe_str pa_nil))))
      (pss_one (ps_asg (pe_tup (pa_cons (pv 1) (pa_cons (pv 2) pa_nil))) (pg_tup (by rfl) (pgs_cons (pg_osG (b := ebV) (pv 0)) (pgs_cons (pg_osG (b := ebV) (pv 0)) pgs_nil)))))), ?_⟩
    walk_at "rds"
    refine ⟨a, C, _, rfl, (by show 1 ≤ 1000; decide), ox, ha, ?_⟩
    walk_at "rds"
    intro p hp
    walk_at "rds"
    refine ⟨p, [y0, y1], rfl, SqT.of upd_same, rfl, ?_⟩
    refine ⟨_, _, rfl, _, rfl, a, C, rfl, ox, fn0, .inl ⟨lk_new hp ha, fun dx h1 h2 => ?_⟩⟩
    refine ⟨_, _, rfl, _, rfl, a, C, rfl, ox, fn1, .inr ⟨dx, _, upd_same, by rw [upd_ne h2]; exact upd_same, Nat.le_of_ble_eq_true rfl, ?_⟩⟩
    refine ⟨rfl, ?_⟩
    show Q .non (upd (upd (upd (upd H p (.tup [y0, y1])) dx (exd dx [("spelling", y0)])) a (exo a C (some dx))) dx (exd dx [("place", y1), ("spelling", y0)]))
    refine q _ (fun b u hb e => ?_) (.inl ⟨dx, by rw [upd_ne (Ne.symm h2)]; exact upd_same, upd_same⟩)
    have e1 : upd H p (.tup [y0, y1]) b = some u := lk_new hp e
    have nb : b ≠ dx := ne_of_none e1 h1
    rw [upd_ne nb, upd_ne hb, upd_ne nb]
    exact e1

theorem ok_Unbound___init__ {CM C fI : Addr} {fd : FuncData} (B : BaseG K mg ebV "MarkupError" CM) (F : Fun K "__init__" "Unbound.__init__" s_Unbound___init__ fI fd) (ox : OexG K ebV C) (fn0 : PySem.W.findIn K (.ref C) "spelling" = some none) (fn1 : PySem.W.findIn K (.ref C) "place" = some none) : FnOk P w K mg base CX0 1 fI fd ["self", "spelling", "place"] (spIn C ["spelling", "place"]) := by
  have sc := sc_Unbound___init__
  refine F.ok sc (fun vs H Q E h => ?_) (fun cdv A outer s H vs Q E hr h => ?_)
  · obtain ⟨a, ys, rfl, hl, _⟩ := h
    rw [List.length_cons, hl]
    rfl
  · obtain ⟨a, ys, rfl, hl, ha, q⟩ := h
    match ys, hl with
    | [y0, y1], _ =>
    refine ⟨_, (pss_cons (ps_expr (pe_minitG B rfl (pa_cons (pv 0) (pa_cons pe_str pa_nil))))
      (pss_one (ps_asg (pe_tup (pa_cons (pv 1) (pa_cons (pv 2) pa_nil))) (pg_tup (by rfl) (pgs_cons (pg_osG (b := ebV) (pv 0)) (pgs_cons (pg_osG (b := ebV) (pv 0)) pgs_nil)))))), ?_⟩
    walk_at "rds"
    refine ⟨a, C, _, rfl, (by show 1 ≤ 1000; decide), ox, ha, ?_⟩
    walk_at "rds"
    intro p hp
    walk_at "rds"
    refine ⟨p, [y0, y1], rfl, SqT.of upd_same, rfl, ?_⟩
    refine ⟨_, _, rfl, _, rfl, a, C, rfl, ox, fn0, .inl ⟨lk_new hp ha, fun dx h1 h2 => ?_⟩⟩
    refine ⟨_, _, rfl, _, rfl, a, C, rfl, ox, fn1, .inr ⟨dx, _, upd_same, by rw [upd_ne h2]; exact upd_same, Nat.le_of_ble_eq_true rfl, ?_⟩⟩
    refine ⟨rfl, ?_⟩
    show Q .non (upd (upd (upd (upd H p (.tup [y0, y1])) dx (exd dx [("spelling", y0)])) a (exo a C (some dx))) dx (exd dx [("place", y1), ("spelling", y0)]))
    refine q _ (fun b u hb e => ?_) (.inl ⟨dx, by rw [upd_ne (Ne.symm h2)]; exact upd_same, upd_same⟩)
    have e1 : upd H p (.tup [y0, y1]) b = some u := lk_new hp e
    have nb : b ≠ dx := ne_of_none e1 h1
    rw [upd_ne nb, upd_ne hb, upd_ne nb]
    exact e1

theorem ok_Repeated___init__ {CM C fI : Addr} {fd : FuncData} (B : BaseG K mg ebV "MarkupError" CM) (F : Fun K "__init__" "Repeated.__init__" s_Repeated___init__ fI fd) (ox : OexG K ebV C) (fn0 : PySem.W.findIn K (.ref C) "spelling" = some none) (fn1 : PySem.W.findIn K (.ref C) "place" = some none) : FnOk P w K mg base CX0 1 fI fd ["self", "spelling", "place"] (spIn C ["spelling", "place"]) := by
  have sc := sc_Repeated___init__
  refine F.ok sc (fun vs H Q E h => ?_) (fun cdv A outer s H vs Q E hr h => ?_)
  · obtain ⟨a, ys, rfl, hl, _⟩ := h
    rw [List.length_cons, hl]
    rfl
  · obtain ⟨a, ys, rfl, hl, ha, q⟩ := h
    match ys, hl with
    | [y0, y1], _ =>
    refine ⟨_, (pss_cons (ps_expr (pe_minitG B rfl (pa_cons (pv 0) (pa_cons pe_str pa_nil))))
      (pss_one (ps_asg (pe_tup (pa_cons (pv 1) (pa_cons (pv 2) pa_nil))) (pg_tup (by rfl) (pgs_cons (pg_osG (b := ebV) (pv 0)) (pgs_cons (pg_osG (b := ebV) (pv 0)) pgs_nil)))))), ?_⟩
    walk_at "rds"
    refine ⟨a, C, _, rfl, (by show 1 ≤ 1000; decide), ox, ha, ?_⟩
    walk_at "rds"
    intro p hp
    walk_at "rds"
    refine ⟨p, [y0, y1], rfl, SqT.of upd_same, rfl, ?_⟩
    refine ⟨_, _, rfl, _, rfl, a, C, rfl, ox, fn0, .inl ⟨lk_new hp ha, fun dx h1 h2 => ?_⟩⟩
    refine ⟨_, _, rfl, _, rfl, a, C, rfl, ox, fn1, .inr ⟨dx, _, upd_same, by rw [upd_ne h2]; exact upd_same, Nat.le_of_ble_eq_true rfl, ?_⟩⟩
    refine ⟨rfl, ?_⟩
    show Q .non (upd (upd (upd (upd H p (.tup [y0, y1])) dx (exd dx [("spelling", y0)])) a (exo a C (some dx))) dx (exd dx [("place", y1), ("spelling", y0)]))
    refine q _ (fun b u hb e => ?_) (.inl ⟨dx, by rw [upd_ne (Ne.symm h2)]; exact upd_same, upd_same⟩)
    have e1 : upd H p (.tup [y0, y1]) b = some u := lk_new hp e
    have nb : b ≠ dx := ne_of_none e1 h1
    rw [upd_ne nb, upd_ne hb, upd_ne nb]
    exact e1

theorem ok_NoEntity___init__ {CM C fI : Addr} {fd : FuncData} (B : BaseG K mg ebR "MarkupStateError" CM) (F : Fun K "__init__" "NoEntity.__init__" s_NoEntity___init__ fI fd) (ox : OexG K ebR C) (fn0 : PySem.W.findIn K (.ref C) "given" = some none) : FnOk P w K mg base CX0 1 fI fd ["self", "given"] (spIn C ["given"]) := by
  have sc := sc_NoEntity___init__
  refine F.ok sc (fun vs H Q E h => ?_) (fun cdv A outer s H vs Q E hr h => ?_)
  · obtain ⟨a, ys, rfl, hl, _⟩ := h
    rw [List.length_cons, hl]
    rfl
  · obtain ⟨a, ys, rfl, hl, ha, q⟩ := h
    match ys, hl with
    | [y0], _ =>
    refine ⟨_, (pss_cons (ps_expr (pe_minitG B rfl (pa_cons (pv 0) (pa_cons pe_str pa_nil))))
      (pss_one (ps_osG (b := ebR) (pv 0) (pv 1)))), ?_⟩
    walk_at "rds"
    refine ⟨a, C, _, rfl, (by show 1 ≤ 1000; decide), ox, ha, ?_⟩
    walk_at "rds"
    exact ⟨a, C, rfl, ox, fn0, .inl ⟨ha, fun dx h1 h2 => q _ (((Kp.refl _ _).new h1).upd) (.inl ⟨dx, upd_same, by rw [upd_ne h2]; exact upd_same⟩)⟩⟩

theorem ok_NotPlain___init__ {CM C fI : Addr} {fd : FuncData} (B : BaseG K mg ebR "MarkupStateError" CM) (F : Fun K "__init__" "NotPlain.__init__" s_NotPlain___init__ fI fd) (ox : OexG K ebR C) (fn0 : PySem.W.findIn K (.ref C) "given" = some none) : FnOk P w K mg base CX0 1 fI fd ["self", "given"] (spIn C ["given"]) := by
  have sc := sc_NotPlain___init__
  refine F.ok sc (fun vs H Q E h => ?_) (fun cdv A outer s H vs Q E hr h => ?_)
  · obtain ⟨a, ys, rfl, hl, _⟩ := h
    rw [List.length_cons, hl]
    rfl
  · obtain ⟨a, ys, rfl, hl, ha, q⟩ := h
    match ys, hl with
    | [y0], _ =>
    refine ⟨_, (pss_cons (ps_expr (pe_minitG B rfl (pa_cons (pv 0) (pa_cons pe_str pa_nil))))
      (pss_one (ps_osG (b := ebR) (pv 0) (pv 1)))), ?_⟩
    walk_at "rds"
    refine ⟨a, C, _, rfl, (by show 1 ≤ 1000; decide), ox, ha, ?_⟩
    walk_at "rds"
    exact ⟨a, C, rfl, ox, fn0, .inl ⟨ha, fun dx h1 h2 => q _ (((Kp.refl _ _).new h1).upd) (.inl ⟨dx, upd_same, by rw [upd_ne h2]; exact upd_same⟩)⟩⟩

theorem ok_NotPossible___init__ {CM C fI : Addr} {fd : FuncData} (B : BaseG K mg ebR "MarkupStateError" CM) (F : Fun K "__init__" "NotPossible.__init__" s_NotPossible___init__ fI fd) (ox : OexG K ebR C) (fn0 : PySem.W.findIn K (.ref C) "given" = some none) : FnOk P w K mg base CX0 1 fI fd ["self", "given"] (spIn C ["given"]) := by
  have sc := sc_NotPossible___init__
  refine F.ok sc (fun vs H Q E h => ?_) (fun cdv A outer s H vs Q E hr h => ?_)
  · obtain ⟨a, ys, rfl, hl, _⟩ := h
    rw [List.length_cons, hl]
    rfl
  · obtain ⟨a, ys, rfl, hl, ha, q⟩ := h
    match ys, hl with
    | [y0], _ =>
    refine ⟨_, (pss_cons (ps_expr (pe_minitG B rfl (pa_cons (pv 0) (pa_cons pe_str pa_nil))))
      (pss_one (ps_osG (b := ebR) (pv 0) (pv 1)))), ?_⟩
    walk_at "rds"
    refine ⟨a, C, _, rfl, (by show 1 ≤ 1000; decide), ox, ha, ?_⟩
    walk_at "rds"
    exact ⟨a, C, rfl, ox, fn0, .inl ⟨ha, fun dx h1 h2 => q _ (((Kp.refl _ _).new h1).upd) (.inl ⟨dx, upd_same, by rw [upd_ne h2]; exact upd_same⟩)⟩⟩

theorem ok_OutOfPlace___init__ {CM C fI : Addr} {fd : FuncData} (B : BaseG K mg ebR "MarkupStateError" CM) (F : Fun K "__init__" "OutOfPlace.__init__" s_OutOfPlace___init__ fI fd) (ox : OexG K ebR C) (fn0 : PySem.W.findIn K (.ref C) "kind" = some none) : FnOk P w K mg base CX0 1 fI fd ["self", "kind"] (spIn C ["kind"]) := by
  have sc := sc_OutOfPlace___init__
  refine F.ok sc (fun vs H Q E h => ?_) (fun cdv A outer s H vs Q E hr h => ?_)
  · obtain ⟨a, ys, rfl, hl, _⟩ := h
    rw [List.length_cons, hl]
    rfl
  · obtain ⟨a, ys, rfl, hl, ha, q⟩ := h
    match ys, hl with
    | [y0], _ =>
    refine ⟨_, (pss_cons (ps_expr (pe_minitG B rfl (pa_cons (pv 0) (pa_cons pe_str pa_nil))))
      (pss_one (ps_osG (b := ebR) (pv 0) (pv 1)))), ?_⟩
    walk_at "rds"
    refine ⟨a, C, _, rfl, (by show 1 ≤ 1000; decide), ox, ha, ?_⟩
    walk_at "rds"
    exact ⟨a, C, rfl, ox, fn0, .inl ⟨ha, fun dx h1 h2 => q _ (((Kp.refl _ _).new h1).upd) (.inl ⟨dx, upd_same, by rw [upd_ne h2]; exact upd_same⟩)⟩⟩

theorem ok_NothingToUndo___init__ {CM C fI : Addr} {fd : FuncData} (B : BaseG K mg ebR "MarkupStateError" CM) (F : Fun K "__init__" "NothingToUndo.__init__" s_NothingToUndo___init__ fI fd) (ox : OexG K ebR C)  : FnOk P w K mg base CX0 1 fI fd ["self"] (spIn C []) := by
  have sc := sc_NothingToUndo___init__
  refine F.ok sc (fun vs H Q E h => ?_) (fun cdv A outer s H vs Q E hr h => ?_)
  · obtain ⟨a, ys, rfl, hl, _⟩ := h
    rw [List.length_cons, hl]
    rfl
  · obtain ⟨a, ys, rfl, hl, ha, q⟩ := h
    match ys, hl with
    | [], _ =>
    refine ⟨_, (pss_one (ps_expr (pe_minitG B rfl (pa_cons (pv 0) (pa_cons pe_str pa_nil))))), ?_⟩
    walk_at "rds"
    refine ⟨a, C, _, rfl, (by show 1 ≤ 1000; decide), ox, ha, ?_⟩
    exact q H (Kp.refl _ _) (.inr ⟨ha, rfl⟩)

theorem ok_TooLarge___init__ {CM C fI : Addr} {fd : FuncData} (B : BaseG K mg ebO "LimitError" CM) (F : Fun K "__init__" "TooLarge.__init__" s_TooLarge___init__ fI fd) (ox : OexG K ebO C) (fn0 : PySem.W.findIn K (.ref C) "limit" = some none) (fn1 : PySem.W.findIn K (.ref C) "position" = some none) : FnOk P w K mg base CX0 1 fI fd ["self", "limit", "position"] (spIn C ["limit", "position"]) := by
  have sc := sc_TooLarge___init__
  refine F.ok sc (fun vs H Q E h => ?_) (fun cdv A outer s H vs Q E hr h => ?_)
  · obtain ⟨a, ys, rfl, hl, _⟩ := h
    rw [List.length_cons, hl]
    rfl
  · obtain ⟨a, ys, rfl, hl, ha, q⟩ := h
    match ys, hl with
    | [y0, y1], _ =>
    refine ⟨_, (pss_cons (ps_expr (pe_minitG B rfl (pa_cons (pv 0) (pa_cons pe_str pa_nil))))
      (pss_one (ps_asg (pe_tup (pa_cons (pv 1) (pa_cons (pv 2) pa_nil))) (pg_tup (by rfl) (pgs_cons (pg_osG (b := ebO) (pv 0)) (pgs_cons (pg_osG (b := ebO) (pv 0)) pgs_nil)))))), ?_⟩
    walk_at "rds"
    refine ⟨a, C, _, rfl, (by show 1 ≤ 1000; decide), ox, ha, ?_⟩
    walk_at "rds"
    intro p hp
    walk_at "rds"
    refine ⟨p, [y0, y1], rfl, SqT.of upd_same, rfl, ?_⟩
    refine ⟨_, _, rfl, _, rfl, a, C, rfl, ox, fn0, .inl ⟨lk_new hp ha, fun dx h1 h2 => ?_⟩⟩
    refine ⟨_, _, rfl, _, rfl, a, C, rfl, ox, fn1, .inr ⟨dx, _, upd_same, by rw [upd_ne h2]; exact upd_same, Nat.le_of_ble_eq_true rfl, ?_⟩⟩
    refine ⟨rfl, ?_⟩
    show Q .non (upd (upd (upd (upd H p (.tup [y0, y1])) dx (exd dx [("limit", y0)])) a (exo a C (some dx))) dx (exd dx [("position", y1), ("limit", y0)]))
    refine q _ (fun b u hb e => ?_) (.inl ⟨dx, by rw [upd_ne (Ne.symm h2)]; exact upd_same, upd_same⟩)
    have e1 : upd H p (.tup [y0, y1]) b = some u := lk_new hp e
    have nb : b ≠ dx := ne_of_none e1 h1
    rw [upd_ne nb, upd_ne hb, upd_ne nb]
    exact e1
end
end K1

namespace K1
open PySem PySem.Spec PyProof.Rows L2 Mx
theorem all_mk {l : PySem.W.OpenLaw} {w : World} {K : PySem.W.Frag} {h : Heap} {mg : Str → Option Value} {fa : Addr} (X : K.In h) (G : h.Ns mainGlobals mg) (hfa : mg "law" = some (.ref fa))
    {f__law_mixed : Addr} {od__law_mixed an__law_mixed : Option Addr} {sl__law_mixed : Array (Option Value)} {oc__law_mixed kV__law_mixed dc__law_mixed pm__law_mixed cd__law_mixed ct__law_mixed : Value}
    {f__law_stream : Addr} {od__law_stream an__law_stream : Option Addr} {sl__law_stream : Array (Option Value)} {oc__law_stream kV__law_stream dc__law_stream pm__law_stream cd__law_stream ct__law_stream : Value}
    {f__law_draw : Addr} {od__law_draw an__law_draw : Option Addr} {sl__law_draw : Array (Option Value)} {oc__law_draw kV__law_draw dc__law_draw pm__law_draw cd__law_draw ct__law_draw : Value}
    {f__law_pick : Addr} {od__law_pick an__law_pick : Option Addr} {sl__law_pick : Array (Option Value)} {oc__law_pick kV__law_pick dc__law_pick pm__law_pick cd__law_pick ct__law_pick : Value}
    {f__law_made : Addr} {od__law_made an__law_made : Option Addr} {sl__law_made : Array (Option Value)} {oc__law_made kV__law_made dc__law_made pm__law_made cd__law_made ct__law_made : Value}
    {f__law_kinds : Addr} {od__law_kinds an__law_kinds : Option Addr} {sl__law_kinds : Array (Option Value)} {oc__law_kinds kV__law_kinds dc__law_kinds pm__law_kinds cd__law_kinds ct__law_kinds : Value}
    {f__law_bases : Addr} {od__law_bases an__law_bases : Option Addr} {sl__law_bases : Array (Option Value)} {oc__law_bases kV__law_bases dc__law_bases pm__law_bases cd__law_bases ct__law_bases : Value}
    {f__law_fields : Addr} {od__law_fields an__law_fields : Option Addr} {sl__law_fields : Array (Option Value)} {oc__law_fields kV__law_fields dc__law_fields pm__law_fields cd__law_fields ct__law_fields : Value}
    {f__law_right : Addr} {od__law_right an__law_right : Option Addr} {sl__law_right : Array (Option Value)} {oc__law_right kV__law_right dc__law_right pm__law_right cd__law_right ct__law_right : Value}
    {f_law : Addr} {od_law an_law : Option Addr} {sl_law : Array (Option Value)} {oc_law kV_law dc_law pm_law cd_law ct_law : Value}
    {C_MarkupError : Addr}
    {C_MarkupStateError : Addr}
    {C_LimitError : Addr}
    {C_IllFormed : Addr}
    {C_InvalidText : Addr}
    {C_InvalidName : Addr}
    {C_InvalidKind : Addr}
    {C_InvalidNumber : Addr}
    {C_InvalidPlace : Addr}
    {C_InvalidMark : Addr}
    {C_InvalidAttributes : Addr}
    {C_InvalidNode : Addr}
    {C_InvalidPath : Addr}
    {C_InvalidEvents : Addr}
    {C_InvalidEdit : Addr}
    {C_InvalidQuery : Addr}
    {C_InvalidPlan : Addr}
    {C_UnknownMark : Addr}
    {C_BadBinding : Addr}
    {C_Unbound : Addr}
    {C_Repeated : Addr}
    {C_NoEntity : Addr}
    {C_NotPlain : Addr}
    {C_NotPossible : Addr}
    {C_OutOfPlace : Addr}
    {C_NothingToUndo : Addr}
    {C_TooLarge : Addr}
    {nmE_IllFormed : _} {qnE_IllFormed : _} {NSE_IllFormed : _} {bsE_IllFormed : _} {snE_IllFormed : _} {subE_IllFormed : _} {abE_IllFormed : _} {colE_IllFormed : _} {ddE_IllFormed : _} {k0E_IllFormed : _} {k1E_IllFormed : _} {k2E_IllFormed : _} {k3E_IllFormed : _} {k5E_IllFormed : _}
    {I_IllFormed : Addr} {odI_IllFormed anI_IllFormed : Option Addr} {slI_IllFormed : Array (Option Value)} {ocI_IllFormed kVI_IllFormed dcI_IllFormed pmI_IllFormed cdI_IllFormed ctI_IllFormed : Value}
    {nmE_InvalidText : _} {qnE_InvalidText : _} {NSE_InvalidText : _} {bsE_InvalidText : _} {snE_InvalidText : _} {subE_InvalidText : _} {abE_InvalidText : _} {colE_InvalidText : _} {ddE_InvalidText : _} {k0E_InvalidText : _} {k1E_InvalidText : _} {k2E_InvalidText : _} {k3E_InvalidText : _} {k5E_InvalidText : _}
    {I_InvalidText : Addr} {odI_InvalidText anI_InvalidText : Option Addr} {slI_InvalidText : Array (Option Value)} {ocI_InvalidText kVI_InvalidText dcI_InvalidText pmI_InvalidText cdI_InvalidText ctI_InvalidText : Value}
    {nmE_InvalidName : _} {qnE_InvalidName : _} {NSE_InvalidName : _} {bsE_InvalidName : _} {snE_InvalidName : _} {subE_InvalidName : _} {abE_InvalidName : _} {colE_InvalidName : _} {ddE_InvalidName : _} {k0E_InvalidName : _} {k1E_InvalidName : _} {k2E_InvalidName : _} {k3E_InvalidName : _} {k5E_InvalidName : _}
    {I_InvalidName : Addr} {odI_InvalidName anI_InvalidName : Option Addr} {slI_InvalidName : Array (Option Value)} {ocI_InvalidName kVI_InvalidName dcI_InvalidName pmI_InvalidName cdI_InvalidName ctI_InvalidName : Value}
    {nmE_InvalidKind : _} {qnE_InvalidKind : _} {NSE_InvalidKind : _} {bsE_InvalidKind : _} {snE_InvalidKind : _} {subE_InvalidKind : _} {abE_InvalidKind : _} {colE_InvalidKind : _} {ddE_InvalidKind : _} {k0E_InvalidKind : _} {k1E_InvalidKind : _} {k2E_InvalidKind : _} {k3E_InvalidKind : _} {k5E_InvalidKind : _}
    {I_InvalidKind : Addr} {odI_InvalidKind anI_InvalidKind : Option Addr} {slI_InvalidKind : Array (Option Value)} {ocI_InvalidKind kVI_InvalidKind dcI_InvalidKind pmI_InvalidKind cdI_InvalidKind ctI_InvalidKind : Value}
    {nmE_InvalidNumber : _} {qnE_InvalidNumber : _} {NSE_InvalidNumber : _} {bsE_InvalidNumber : _} {snE_InvalidNumber : _} {subE_InvalidNumber : _} {abE_InvalidNumber : _} {colE_InvalidNumber : _} {ddE_InvalidNumber : _} {k0E_InvalidNumber : _} {k1E_InvalidNumber : _} {k2E_InvalidNumber : _} {k3E_InvalidNumber : _} {k5E_InvalidNumber : _}
    {I_InvalidNumber : Addr} {odI_InvalidNumber anI_InvalidNumber : Option Addr} {slI_InvalidNumber : Array (Option Value)} {ocI_InvalidNumber kVI_InvalidNumber dcI_InvalidNumber pmI_InvalidNumber cdI_InvalidNumber ctI_InvalidNumber : Value}
    {nmE_InvalidPlace : _} {qnE_InvalidPlace : _} {NSE_InvalidPlace : _} {bsE_InvalidPlace : _} {snE_InvalidPlace : _} {subE_InvalidPlace : _} {abE_InvalidPlace : _} {colE_InvalidPlace : _} {ddE_InvalidPlace : _} {k0E_InvalidPlace : _} {k1E_InvalidPlace : _} {k2E_InvalidPlace : _} {k3E_InvalidPlace : _} {k5E_InvalidPlace : _}
    {I_InvalidPlace : Addr} {odI_InvalidPlace anI_InvalidPlace : Option Addr} {slI_InvalidPlace : Array (Option Value)} {ocI_InvalidPlace kVI_InvalidPlace dcI_InvalidPlace pmI_InvalidPlace cdI_InvalidPlace ctI_InvalidPlace : Value}
    {nmE_InvalidMark : _} {qnE_InvalidMark : _} {NSE_InvalidMark : _} {bsE_InvalidMark : _} {snE_InvalidMark : _} {subE_InvalidMark : _} {abE_InvalidMark : _} {colE_InvalidMark : _} {ddE_InvalidMark : _} {k0E_InvalidMark : _} {k1E_InvalidMark : _} {k2E_InvalidMark : _} {k3E_InvalidMark : _} {k5E_InvalidMark : _}
    {I_InvalidMark : Addr} {odI_InvalidMark anI_InvalidMark : Option Addr} {slI_InvalidMark : Array (Option Value)} {ocI_InvalidMark kVI_InvalidMark dcI_InvalidMark pmI_InvalidMark cdI_InvalidMark ctI_InvalidMark : Value}
    {nmE_InvalidAttributes : _} {qnE_InvalidAttributes : _} {NSE_InvalidAttributes : _} {bsE_InvalidAttributes : _} {snE_InvalidAttributes : _} {subE_InvalidAttributes : _} {abE_InvalidAttributes : _} {colE_InvalidAttributes : _} {ddE_InvalidAttributes : _} {k0E_InvalidAttributes : _} {k1E_InvalidAttributes : _} {k2E_InvalidAttributes : _} {k3E_InvalidAttributes : _} {k5E_InvalidAttributes : _}
    {I_InvalidAttributes : Addr} {odI_InvalidAttributes anI_InvalidAttributes : Option Addr} {slI_InvalidAttributes : Array (Option Value)} {ocI_InvalidAttributes kVI_InvalidAttributes dcI_InvalidAttributes pmI_InvalidAttributes cdI_InvalidAttributes ctI_InvalidAttributes : Value}
    {nmE_InvalidNode : _} {qnE_InvalidNode : _} {NSE_InvalidNode : _} {bsE_InvalidNode : _} {snE_InvalidNode : _} {subE_InvalidNode : _} {abE_InvalidNode : _} {colE_InvalidNode : _} {ddE_InvalidNode : _} {k0E_InvalidNode : _} {k1E_InvalidNode : _} {k2E_InvalidNode : _} {k3E_InvalidNode : _} {k5E_InvalidNode : _}
    {I_InvalidNode : Addr} {odI_InvalidNode anI_InvalidNode : Option Addr} {slI_InvalidNode : Array (Option Value)} {ocI_InvalidNode kVI_InvalidNode dcI_InvalidNode pmI_InvalidNode cdI_InvalidNode ctI_InvalidNode : Value}
    {nmE_InvalidPath : _} {qnE_InvalidPath : _} {NSE_InvalidPath : _} {bsE_InvalidPath : _} {snE_InvalidPath : _} {subE_InvalidPath : _} {abE_InvalidPath : _} {colE_InvalidPath : _} {ddE_InvalidPath : _} {k0E_InvalidPath : _} {k1E_InvalidPath : _} {k2E_InvalidPath : _} {k3E_InvalidPath : _} {k5E_InvalidPath : _}
    {I_InvalidPath : Addr} {odI_InvalidPath anI_InvalidPath : Option Addr} {slI_InvalidPath : Array (Option Value)} {ocI_InvalidPath kVI_InvalidPath dcI_InvalidPath pmI_InvalidPath cdI_InvalidPath ctI_InvalidPath : Value}
    {nmE_InvalidEvents : _} {qnE_InvalidEvents : _} {NSE_InvalidEvents : _} {bsE_InvalidEvents : _} {snE_InvalidEvents : _} {subE_InvalidEvents : _} {abE_InvalidEvents : _} {colE_InvalidEvents : _} {ddE_InvalidEvents : _} {k0E_InvalidEvents : _} {k1E_InvalidEvents : _} {k2E_InvalidEvents : _} {k3E_InvalidEvents : _} {k5E_InvalidEvents : _}
    {I_InvalidEvents : Addr} {odI_InvalidEvents anI_InvalidEvents : Option Addr} {slI_InvalidEvents : Array (Option Value)} {ocI_InvalidEvents kVI_InvalidEvents dcI_InvalidEvents pmI_InvalidEvents cdI_InvalidEvents ctI_InvalidEvents : Value}
    {nmE_InvalidEdit : _} {qnE_InvalidEdit : _} {NSE_InvalidEdit : _} {bsE_InvalidEdit : _} {snE_InvalidEdit : _} {subE_InvalidEdit : _} {abE_InvalidEdit : _} {colE_InvalidEdit : _} {ddE_InvalidEdit : _} {k0E_InvalidEdit : _} {k1E_InvalidEdit : _} {k2E_InvalidEdit : _} {k3E_InvalidEdit : _} {k5E_InvalidEdit : _}
    {I_InvalidEdit : Addr} {odI_InvalidEdit anI_InvalidEdit : Option Addr} {slI_InvalidEdit : Array (Option Value)} {ocI_InvalidEdit kVI_InvalidEdit dcI_InvalidEdit pmI_InvalidEdit cdI_InvalidEdit ctI_InvalidEdit : Value}
    {nmE_InvalidQuery : _} {qnE_InvalidQuery : _} {NSE_InvalidQuery : _} {bsE_InvalidQuery : _} {snE_InvalidQuery : _} {subE_InvalidQuery : _} {abE_InvalidQuery : _} {colE_InvalidQuery : _} {ddE_InvalidQuery : _} {k0E_InvalidQuery : _} {k1E_InvalidQuery : _} {k2E_InvalidQuery : _} {k3E_InvalidQuery : _} {k5E_InvalidQuery : _}
    {I_InvalidQuery : Addr} {odI_InvalidQuery anI_InvalidQuery : Option Addr} {slI_InvalidQuery : Array (Option Value)} {ocI_InvalidQuery kVI_InvalidQuery dcI_InvalidQuery pmI_InvalidQuery cdI_InvalidQuery ctI_InvalidQuery : Value}
    {nmE_InvalidPlan : _} {qnE_InvalidPlan : _} {NSE_InvalidPlan : _} {bsE_InvalidPlan : _} {snE_InvalidPlan : _} {subE_InvalidPlan : _} {abE_InvalidPlan : _} {colE_InvalidPlan : _} {ddE_InvalidPlan : _} {k0E_InvalidPlan : _} {k1E_InvalidPlan : _} {k2E_InvalidPlan : _} {k3E_InvalidPlan : _} {k5E_InvalidPlan : _}
    {I_InvalidPlan : Addr} {odI_InvalidPlan anI_InvalidPlan : Option Addr} {slI_InvalidPlan : Array (Option Value)} {ocI_InvalidPlan kVI_InvalidPlan dcI_InvalidPlan pmI_InvalidPlan cdI_InvalidPlan ctI_InvalidPlan : Value}
    {nmE_UnknownMark : _} {qnE_UnknownMark : _} {NSE_UnknownMark : _} {bsE_UnknownMark : _} {snE_UnknownMark : _} {subE_UnknownMark : _} {abE_UnknownMark : _} {colE_UnknownMark : _} {ddE_UnknownMark : _} {k0E_UnknownMark : _} {k1E_UnknownMark : _} {k2E_UnknownMark : _} {k3E_UnknownMark : _} {k5E_UnknownMark : _}
    {I_UnknownMark : Addr} {odI_UnknownMark anI_UnknownMark : Option Addr} {slI_UnknownMark : Array (Option Value)} {ocI_UnknownMark kVI_UnknownMark dcI_UnknownMark pmI_UnknownMark cdI_UnknownMark ctI_UnknownMark : Value}
    {nmE_BadBinding : _} {qnE_BadBinding : _} {NSE_BadBinding : _} {bsE_BadBinding : _} {snE_BadBinding : _} {subE_BadBinding : _} {abE_BadBinding : _} {colE_BadBinding : _} {ddE_BadBinding : _} {k0E_BadBinding : _} {k1E_BadBinding : _} {k2E_BadBinding : _} {k3E_BadBinding : _} {k5E_BadBinding : _}
    {I_BadBinding : Addr} {odI_BadBinding anI_BadBinding : Option Addr} {slI_BadBinding : Array (Option Value)} {ocI_BadBinding kVI_BadBinding dcI_BadBinding pmI_BadBinding cdI_BadBinding ctI_BadBinding : Value}
    {nmE_Unbound : _} {qnE_Unbound : _} {NSE_Unbound : _} {bsE_Unbound : _} {snE_Unbound : _} {subE_Unbound : _} {abE_Unbound : _} {colE_Unbound : _} {ddE_Unbound : _} {k0E_Unbound : _} {k1E_Unbound : _} {k2E_Unbound : _} {k3E_Unbound : _} {k5E_Unbound : _}
    {I_Unbound : Addr} {odI_Unbound anI_Unbound : Option Addr} {slI_Unbound : Array (Option Value)} {ocI_Unbound kVI_Unbound dcI_Unbound pmI_Unbound cdI_Unbound ctI_Unbound : Value}
    {nmE_Repeated : _} {qnE_Repeated : _} {NSE_Repeated : _} {bsE_Repeated : _} {snE_Repeated : _} {subE_Repeated : _} {abE_Repeated : _} {colE_Repeated : _} {ddE_Repeated : _} {k0E_Repeated : _} {k1E_Repeated : _} {k2E_Repeated : _} {k3E_Repeated : _} {k5E_Repeated : _}
    {I_Repeated : Addr} {odI_Repeated anI_Repeated : Option Addr} {slI_Repeated : Array (Option Value)} {ocI_Repeated kVI_Repeated dcI_Repeated pmI_Repeated cdI_Repeated ctI_Repeated : Value}
    {nmE_NoEntity : _} {qnE_NoEntity : _} {NSE_NoEntity : _} {bsE_NoEntity : _} {snE_NoEntity : _} {subE_NoEntity : _} {abE_NoEntity : _} {colE_NoEntity : _} {ddE_NoEntity : _} {k0E_NoEntity : _} {k1E_NoEntity : _} {k2E_NoEntity : _} {k3E_NoEntity : _} {k5E_NoEntity : _}
    {I_NoEntity : Addr} {odI_NoEntity anI_NoEntity : Option Addr} {slI_NoEntity : Array (Option Value)} {ocI_NoEntity kVI_NoEntity dcI_NoEntity pmI_NoEntity cdI_NoEntity ctI_NoEntity : Value}
    {nmE_NotPlain : _} {qnE_NotPlain : _} {NSE_NotPlain : _} {bsE_NotPlain : _} {snE_NotPlain : _} {subE_NotPlain : _} {abE_NotPlain : _} {colE_NotPlain : _} {ddE_NotPlain : _} {k0E_NotPlain : _} {k1E_NotPlain : _} {k2E_NotPlain : _} {k3E_NotPlain : _} {k5E_NotPlain : _}
    {I_NotPlain : Addr} {odI_NotPlain anI_NotPlain : Option Addr} {slI_NotPlain : Array (Option Value)} {ocI_NotPlain kVI_NotPlain dcI_NotPlain pmI_NotPlain cdI_NotPlain ctI_NotPlain : Value}
    {nmE_NotPossible : _} {qnE_NotPossible : _} {NSE_NotPossible : _} {bsE_NotPossible : _} {snE_NotPossible : _} {subE_NotPossible : _} {abE_NotPossible : _} {colE_NotPossible : _} {ddE_NotPossible : _} {k0E_NotPossible : _} {k1E_NotPossible : _} {k2E_NotPossible : _} {k3E_NotPossible : _} {k5E_NotPossible : _}
    {I_NotPossible : Addr} {odI_NotPossible anI_NotPossible : Option Addr} {slI_NotPossible : Array (Option Value)} {ocI_NotPossible kVI_NotPossible dcI_NotPossible pmI_NotPossible cdI_NotPossible ctI_NotPossible : Value}
    {nmE_OutOfPlace : _} {qnE_OutOfPlace : _} {NSE_OutOfPlace : _} {bsE_OutOfPlace : _} {snE_OutOfPlace : _} {subE_OutOfPlace : _} {abE_OutOfPlace : _} {colE_OutOfPlace : _} {ddE_OutOfPlace : _} {k0E_OutOfPlace : _} {k1E_OutOfPlace : _} {k2E_OutOfPlace : _} {k3E_OutOfPlace : _} {k5E_OutOfPlace : _}
    {I_OutOfPlace : Addr} {odI_OutOfPlace anI_OutOfPlace : Option Addr} {slI_OutOfPlace : Array (Option Value)} {ocI_OutOfPlace kVI_OutOfPlace dcI_OutOfPlace pmI_OutOfPlace cdI_OutOfPlace ctI_OutOfPlace : Value}
    {nmE_NothingToUndo : _} {qnE_NothingToUndo : _} {NSE_NothingToUndo : _} {bsE_NothingToUndo : _} {snE_NothingToUndo : _} {subE_NothingToUndo : _} {abE_NothingToUndo : _} {colE_NothingToUndo : _} {ddE_NothingToUndo : _} {k0E_NothingToUndo : _} {k1E_NothingToUndo : _} {k2E_NothingToUndo : _} {k3E_NothingToUndo : _} {k5E_NothingToUndo : _}
    {I_NothingToUndo : Addr} {odI_NothingToUndo anI_NothingToUndo : Option Addr} {slI_NothingToUndo : Array (Option Value)} {ocI_NothingToUndo kVI_NothingToUndo dcI_NothingToUndo pmI_NothingToUndo cdI_NothingToUndo ctI_NothingToUndo : Value}
    {nmE_TooLarge : _} {qnE_TooLarge : _} {NSE_TooLarge : _} {bsE_TooLarge : _} {snE_TooLarge : _} {subE_TooLarge : _} {abE_TooLarge : _} {colE_TooLarge : _} {ddE_TooLarge : _} {k0E_TooLarge : _} {k1E_TooLarge : _} {k2E_TooLarge : _} {k3E_TooLarge : _} {k5E_TooLarge : _}
    {I_TooLarge : Addr} {odI_TooLarge anI_TooLarge : Option Addr} {slI_TooLarge : Array (Option Value)} {ocI_TooLarge kVI_TooLarge dcI_TooLarge pmI_TooLarge cdI_TooLarge ctI_TooLarge : Value}
    (a__law_mixed : PySem.W.nsIn K mainGlobals "_law_mixed" = some (some (.ref f__law_mixed)))
    (l__law_mixed : K.lookup f__law_mixed = some ⟨oc__law_mixed, od__law_mixed, .func (PySem.W.fnOf "_law_mixed" "_law_mixed" (defArgs s__law_mixed) (defBody s__law_mixed) (defScope s__law_mixed) .none kV__law_mixed dc__law_mixed pm__law_mixed an__law_mixed cd__law_mixed ct__law_mixed), sl__law_mixed⟩)
    (c__law_mixed : PySem.W.codeIn K cd__law_mixed "_law_mixed" = true)
    (k__law_mixed : PySem.W.keepIn K (.ref f__law_mixed) = true)
    (a__law_stream : PySem.W.nsIn K mainGlobals "_law_stream" = some (some (.ref f__law_stream)))
    (l__law_stream : K.lookup f__law_stream = some ⟨oc__law_stream, od__law_stream, .func (PySem.W.fnOf "_law_stream" "_law_stream" (defArgs s__law_stream) (defBody s__law_stream) (defScope s__law_stream) .none kV__law_stream dc__law_stream pm__law_stream an__law_stream cd__law_stream ct__law_stream), sl__law_stream⟩)
    (c__law_stream : PySem.W.codeIn K cd__law_stream "_law_stream" = true)
    (k__law_stream : PySem.W.keepIn K (.ref f__law_stream) = true)
    (a__law_draw : PySem.W.nsIn K mainGlobals "_law_draw" = some (some (.ref f__law_draw)))
    (l__law_draw : K.lookup f__law_draw = some ⟨oc__law_draw, od__law_draw, .func (PySem.W.fnOf "_law_draw" "_law_draw" (defArgs s__law_draw) (defBody s__law_draw) (defScope s__law_draw) .none kV__law_draw dc__law_draw pm__law_draw an__law_draw cd__law_draw ct__law_draw), sl__law_draw⟩)
    (c__law_draw : PySem.W.codeIn K cd__law_draw "_law_draw" = true)
    (k__law_draw : PySem.W.keepIn K (.ref f__law_draw) = true)
    (a__law_pick : PySem.W.nsIn K mainGlobals "_law_pick" = some (some (.ref f__law_pick)))
    (l__law_pick : K.lookup f__law_pick = some ⟨oc__law_pick, od__law_pick, .func (PySem.W.fnOf "_law_pick" "_law_pick" (defArgs s__law_pick) (defBody s__law_pick) (defScope s__law_pick) .none kV__law_pick dc__law_pick pm__law_pick an__law_pick cd__law_pick ct__law_pick), sl__law_pick⟩)
    (c__law_pick : PySem.W.codeIn K cd__law_pick "_law_pick" = true)
    (k__law_pick : PySem.W.keepIn K (.ref f__law_pick) = true)
    (a__law_made : PySem.W.nsIn K mainGlobals "_law_made" = some (some (.ref f__law_made)))
    (l__law_made : K.lookup f__law_made = some ⟨oc__law_made, od__law_made, .func (PySem.W.fnOf "_law_made" "_law_made" (defArgs s__law_made) (defBody s__law_made) (defScope s__law_made) .none kV__law_made dc__law_made pm__law_made an__law_made cd__law_made ct__law_made), sl__law_made⟩)
    (c__law_made : PySem.W.codeIn K cd__law_made "_law_made" = true)
    (k__law_made : PySem.W.keepIn K (.ref f__law_made) = true)
    (a__law_kinds : PySem.W.nsIn K mainGlobals "_law_kinds" = some (some (.ref f__law_kinds)))
    (l__law_kinds : K.lookup f__law_kinds = some ⟨oc__law_kinds, od__law_kinds, .func (PySem.W.fnOf "_law_kinds" "_law_kinds" (defArgs s__law_kinds) (defBody s__law_kinds) (defScope s__law_kinds) .none kV__law_kinds dc__law_kinds pm__law_kinds an__law_kinds cd__law_kinds ct__law_kinds), sl__law_kinds⟩)
    (c__law_kinds : PySem.W.codeIn K cd__law_kinds "_law_kinds" = true)
    (k__law_kinds : PySem.W.keepIn K (.ref f__law_kinds) = true)
    (a__law_bases : PySem.W.nsIn K mainGlobals "_law_bases" = some (some (.ref f__law_bases)))
    (l__law_bases : K.lookup f__law_bases = some ⟨oc__law_bases, od__law_bases, .func (PySem.W.fnOf "_law_bases" "_law_bases" (defArgs s__law_bases) (defBody s__law_bases) (defScope s__law_bases) .none kV__law_bases dc__law_bases pm__law_bases an__law_bases cd__law_bases ct__law_bases), sl__law_bases⟩)
    (c__law_bases : PySem.W.codeIn K cd__law_bases "_law_bases" = true)
    (k__law_bases : PySem.W.keepIn K (.ref f__law_bases) = true)
    (a__law_fields : PySem.W.nsIn K mainGlobals "_law_fields" = some (some (.ref f__law_fields)))
    (l__law_fields : K.lookup f__law_fields = some ⟨oc__law_fields, od__law_fields, .func (PySem.W.fnOf "_law_fields" "_law_fields" (defArgs s__law_fields) (defBody s__law_fields) (defScope s__law_fields) .none kV__law_fields dc__law_fields pm__law_fields an__law_fields cd__law_fields ct__law_fields), sl__law_fields⟩)
    (c__law_fields : PySem.W.codeIn K cd__law_fields "_law_fields" = true)
    (k__law_fields : PySem.W.keepIn K (.ref f__law_fields) = true)
    (a__law_right : PySem.W.nsIn K mainGlobals "_law_right" = some (some (.ref f__law_right)))
    (l__law_right : K.lookup f__law_right = some ⟨oc__law_right, od__law_right, .func (PySem.W.fnOf "_law_right" "_law_right" (defArgs s__law_right) (defBody s__law_right) (defScope s__law_right) .none kV__law_right dc__law_right pm__law_right an__law_right cd__law_right ct__law_right), sl__law_right⟩)
    (c__law_right : PySem.W.codeIn K cd__law_right "_law_right" = true)
    (k__law_right : PySem.W.keepIn K (.ref f__law_right) = true)
    (a_law : PySem.W.nsIn K mainGlobals "law" = some (some (.ref f_law)))
    (l_law : K.lookup f_law = some ⟨oc_law, od_law, .func (PySem.W.fnOf "law" "law" (defArgs s_law) (defBody s_law) (defScope s_law) .none kV_law dc_law pm_law an_law cd_law ct_law), sl_law⟩)
    (c_law : PySem.W.codeIn K cd_law "law" = true)
    (k_law : PySem.W.keepIn K (.ref f_law) = true)
    (n_isinstance : PySem.W.nsIn K mainGlobals "isinstance" = some none)
    (n_len : PySem.W.nsIn K mainGlobals "len" = some none)
    (n_int : PySem.W.nsIn K mainGlobals "int" = some none)
    (n_enumerate : PySem.W.nsIn K mainGlobals "enumerate" = some none)
    (n_range : PySem.W.nsIn K mainGlobals "range" = some none)
    (n_repr : PySem.W.nsIn K mainGlobals "repr" = some none)
    (n_ValueError : PySem.W.nsIn K mainGlobals "ValueError" = some none)
    (n_RuntimeError : PySem.W.nsIn K mainGlobals "RuntimeError" = some none)
    (n_OverflowError : PySem.W.nsIn K mainGlobals "OverflowError" = some none)
    (n_LookupError : PySem.W.nsIn K mainGlobals "LookupError" = some none)
    (n_NotImplementedError : PySem.W.nsIn K mainGlobals "NotImplementedError" = some none)
    (b_MarkupError : PySem.W.nsIn K mainGlobals "MarkupError" = some (some (.ref C_MarkupError)))
    (b_MarkupStateError : PySem.W.nsIn K mainGlobals "MarkupStateError" = some (some (.ref C_MarkupStateError)))
    (b_LimitError : PySem.W.nsIn K mainGlobals "LimitError" = some (some (.ref C_LimitError)))
    (b_IllFormed : PySem.W.nsIn K mainGlobals "IllFormed" = some (some (.ref C_IllFormed)))
    (b_InvalidText : PySem.W.nsIn K mainGlobals "InvalidText" = some (some (.ref C_InvalidText)))
    (b_InvalidName : PySem.W.nsIn K mainGlobals "InvalidName" = some (some (.ref C_InvalidName)))
    (b_InvalidKind : PySem.W.nsIn K mainGlobals "InvalidKind" = some (some (.ref C_InvalidKind)))
    (b_InvalidNumber : PySem.W.nsIn K mainGlobals "InvalidNumber" = some (some (.ref C_InvalidNumber)))
    (b_InvalidPlace : PySem.W.nsIn K mainGlobals "InvalidPlace" = some (some (.ref C_InvalidPlace)))
    (b_InvalidMark : PySem.W.nsIn K mainGlobals "InvalidMark" = some (some (.ref C_InvalidMark)))
    (b_InvalidAttributes : PySem.W.nsIn K mainGlobals "InvalidAttributes" = some (some (.ref C_InvalidAttributes)))
    (b_InvalidNode : PySem.W.nsIn K mainGlobals "InvalidNode" = some (some (.ref C_InvalidNode)))
    (b_InvalidPath : PySem.W.nsIn K mainGlobals "InvalidPath" = some (some (.ref C_InvalidPath)))
    (b_InvalidEvents : PySem.W.nsIn K mainGlobals "InvalidEvents" = some (some (.ref C_InvalidEvents)))
    (b_InvalidEdit : PySem.W.nsIn K mainGlobals "InvalidEdit" = some (some (.ref C_InvalidEdit)))
    (b_InvalidQuery : PySem.W.nsIn K mainGlobals "InvalidQuery" = some (some (.ref C_InvalidQuery)))
    (b_InvalidPlan : PySem.W.nsIn K mainGlobals "InvalidPlan" = some (some (.ref C_InvalidPlan)))
    (b_UnknownMark : PySem.W.nsIn K mainGlobals "UnknownMark" = some (some (.ref C_UnknownMark)))
    (b_BadBinding : PySem.W.nsIn K mainGlobals "BadBinding" = some (some (.ref C_BadBinding)))
    (b_Unbound : PySem.W.nsIn K mainGlobals "Unbound" = some (some (.ref C_Unbound)))
    (b_Repeated : PySem.W.nsIn K mainGlobals "Repeated" = some (some (.ref C_Repeated)))
    (b_NoEntity : PySem.W.nsIn K mainGlobals "NoEntity" = some (some (.ref C_NoEntity)))
    (b_NotPlain : PySem.W.nsIn K mainGlobals "NotPlain" = some (some (.ref C_NotPlain)))
    (b_NotPossible : PySem.W.nsIn K mainGlobals "NotPossible" = some (some (.ref C_NotPossible)))
    (b_OutOfPlace : PySem.W.nsIn K mainGlobals "OutOfPlace" = some (some (.ref C_OutOfPlace)))
    (b_NothingToUndo : PySem.W.nsIn K mainGlobals "NothingToUndo" = some (some (.ref C_NothingToUndo)))
    (b_TooLarge : PySem.W.nsIn K mainGlobals "TooLarge" = some (some (.ref C_TooLarge)))
    (m1_MarkupError : PySem.W.readsIn K C_MarkupError (.type "type") = true)
    (m2_MarkupError : PySem.W.specialIn K (.ref C_MarkupError) "__getattribute__" = some (some (.builtin "type.__getattribute__")))
    (m3_MarkupError : PySem.W.findCls K (.ref C_MarkupError) (.type "type") "__init__" = some (.val (.builtin "ValueError.__init__")))
    (m1_MarkupStateError : PySem.W.readsIn K C_MarkupStateError (.type "type") = true)
    (m2_MarkupStateError : PySem.W.specialIn K (.ref C_MarkupStateError) "__getattribute__" = some (some (.builtin "type.__getattribute__")))
    (m3_MarkupStateError : PySem.W.findCls K (.ref C_MarkupStateError) (.type "type") "__init__" = some (.val (.builtin "RuntimeError.__init__")))
    (m1_LimitError : PySem.W.readsIn K C_LimitError (.type "type") = true)
    (m2_LimitError : PySem.W.specialIn K (.ref C_LimitError) "__getattribute__" = some (some (.builtin "type.__getattribute__")))
    (m3_LimitError : PySem.W.findCls K (.ref C_LimitError) (.type "type") "__init__" = some (.val (.builtin "OverflowError.__init__")))
    (u1 : PySem.W.specialIn K (.builtin "object.__class__") "__get__" = some (some (.builtin "getset_descriptor.__get__")))
    (u2 : PySem.W.takesIn K (.builtin "object.__class__") = some true)
    (o1_IllFormed : K.lookup C_IllFormed = some (excClassObj nmE_IllFormed qnE_IllFormed C_IllFormed NSE_IllFormed bsE_IllFormed [.ref C_MarkupError, .type "ValueError", .type "Exception", .type "BaseException", .type "object"] true snE_IllFormed subE_IllFormed abE_IllFormed colE_IllFormed ddE_IllFormed k0E_IllFormed k1E_IllFormed k2E_IllFormed k3E_IllFormed k5E_IllFormed "ValueError.__new__"))
    (i1_IllFormed : PySem.W.findIn K (.ref C_IllFormed) "__init__" = some (some (.ref I_IllFormed)))
    (i2_IllFormed : PySem.W.typeIn K (.ref I_IllFormed) = some (.type "function"))
    (i3_IllFormed : K.lookup I_IllFormed = some ⟨ocI_IllFormed, odI_IllFormed, .func (PySem.W.fnOf "__init__" "IllFormed.__init__" (defArgs s_IllFormed___init__) (defBody s_IllFormed___init__) (defScope s_IllFormed___init__) .none kVI_IllFormed dcI_IllFormed pmI_IllFormed anI_IllFormed cdI_IllFormed ctI_IllFormed), slI_IllFormed⟩)
    (i4_IllFormed : PySem.W.codeIn K cdI_IllFormed "IllFormed.__init__" = true)
    (i5_IllFormed : PySem.W.keepIn K (.ref I_IllFormed) = true)
    (q1_IllFormed : clB K C_IllFormed ["position"] = true)
    (o1_InvalidText : K.lookup C_InvalidText = some (excClassObj nmE_InvalidText qnE_InvalidText C_InvalidText NSE_InvalidText bsE_InvalidText [.ref C_MarkupError, .type "ValueError", .type "Exception", .type "BaseException", .type "object"] true snE_InvalidText subE_InvalidText abE_InvalidText colE_InvalidText ddE_InvalidText k0E_InvalidText k1E_InvalidText k2E_InvalidText k3E_InvalidText k5E_InvalidText "ValueError.__new__"))
    (i1_InvalidText : PySem.W.findIn K (.ref C_InvalidText) "__init__" = some (some (.ref I_InvalidText)))
    (i2_InvalidText : PySem.W.typeIn K (.ref I_InvalidText) = some (.type "function"))
    (i3_InvalidText : K.lookup I_InvalidText = some ⟨ocI_InvalidText, odI_InvalidText, .func (PySem.W.fnOf "__init__" "InvalidText.__init__" (defArgs s_InvalidText___init__) (defBody s_InvalidText___init__) (defScope s_InvalidText___init__) .none kVI_InvalidText dcI_InvalidText pmI_InvalidText anI_InvalidText cdI_InvalidText ctI_InvalidText), slI_InvalidText⟩)
    (i4_InvalidText : PySem.W.codeIn K cdI_InvalidText "InvalidText.__init__" = true)
    (i5_InvalidText : PySem.W.keepIn K (.ref I_InvalidText) = true)
    (q1_InvalidText : clB K C_InvalidText ["index"] = true)
    (o1_InvalidName : K.lookup C_InvalidName = some (excClassObj nmE_InvalidName qnE_InvalidName C_InvalidName NSE_InvalidName bsE_InvalidName [.ref C_MarkupError, .type "ValueError", .type "Exception", .type "BaseException", .type "object"] true snE_InvalidName subE_InvalidName abE_InvalidName colE_InvalidName ddE_InvalidName k0E_InvalidName k1E_InvalidName k2E_InvalidName k3E_InvalidName k5E_InvalidName "ValueError.__new__"))
    (i1_InvalidName : PySem.W.findIn K (.ref C_InvalidName) "__init__" = some (some (.ref I_InvalidName)))
    (i2_InvalidName : PySem.W.typeIn K (.ref I_InvalidName) = some (.type "function"))
    (i3_InvalidName : K.lookup I_InvalidName = some ⟨ocI_InvalidName, odI_InvalidName, .func (PySem.W.fnOf "__init__" "InvalidName.__init__" (defArgs s_InvalidName___init__) (defBody s_InvalidName___init__) (defScope s_InvalidName___init__) .none kVI_InvalidName dcI_InvalidName pmI_InvalidName anI_InvalidName cdI_InvalidName ctI_InvalidName), slI_InvalidName⟩)
    (i4_InvalidName : PySem.W.codeIn K cdI_InvalidName "InvalidName.__init__" = true)
    (i5_InvalidName : PySem.W.keepIn K (.ref I_InvalidName) = true)
    (q1_InvalidName : clB K C_InvalidName ["given"] = true)
    (o1_InvalidKind : K.lookup C_InvalidKind = some (excClassObj nmE_InvalidKind qnE_InvalidKind C_InvalidKind NSE_InvalidKind bsE_InvalidKind [.ref C_MarkupError, .type "ValueError", .type "Exception", .type "BaseException", .type "object"] true snE_InvalidKind subE_InvalidKind abE_InvalidKind colE_InvalidKind ddE_InvalidKind k0E_InvalidKind k1E_InvalidKind k2E_InvalidKind k3E_InvalidKind k5E_InvalidKind "ValueError.__new__"))
    (i1_InvalidKind : PySem.W.findIn K (.ref C_InvalidKind) "__init__" = some (some (.ref I_InvalidKind)))
    (i2_InvalidKind : PySem.W.typeIn K (.ref I_InvalidKind) = some (.type "function"))
    (i3_InvalidKind : K.lookup I_InvalidKind = some ⟨ocI_InvalidKind, odI_InvalidKind, .func (PySem.W.fnOf "__init__" "InvalidKind.__init__" (defArgs s_InvalidKind___init__) (defBody s_InvalidKind___init__) (defScope s_InvalidKind___init__) .none kVI_InvalidKind dcI_InvalidKind pmI_InvalidKind anI_InvalidKind cdI_InvalidKind ctI_InvalidKind), slI_InvalidKind⟩)
    (i4_InvalidKind : PySem.W.codeIn K cdI_InvalidKind "InvalidKind.__init__" = true)
    (i5_InvalidKind : PySem.W.keepIn K (.ref I_InvalidKind) = true)
    (q1_InvalidKind : clB K C_InvalidKind ["kind"] = true)
    (o1_InvalidNumber : K.lookup C_InvalidNumber = some (excClassObj nmE_InvalidNumber qnE_InvalidNumber C_InvalidNumber NSE_InvalidNumber bsE_InvalidNumber [.ref C_MarkupError, .type "ValueError", .type "Exception", .type "BaseException", .type "object"] true snE_InvalidNumber subE_InvalidNumber abE_InvalidNumber colE_InvalidNumber ddE_InvalidNumber k0E_InvalidNumber k1E_InvalidNumber k2E_InvalidNumber k3E_InvalidNumber k5E_InvalidNumber "ValueError.__new__"))
    (i1_InvalidNumber : PySem.W.findIn K (.ref C_InvalidNumber) "__init__" = some (some (.ref I_InvalidNumber)))
    (i2_InvalidNumber : PySem.W.typeIn K (.ref I_InvalidNumber) = some (.type "function"))
    (i3_InvalidNumber : K.lookup I_InvalidNumber = some ⟨ocI_InvalidNumber, odI_InvalidNumber, .func (PySem.W.fnOf "__init__" "InvalidNumber.__init__" (defArgs s_InvalidNumber___init__) (defBody s_InvalidNumber___init__) (defScope s_InvalidNumber___init__) .none kVI_InvalidNumber dcI_InvalidNumber pmI_InvalidNumber anI_InvalidNumber cdI_InvalidNumber ctI_InvalidNumber), slI_InvalidNumber⟩)
    (i4_InvalidNumber : PySem.W.codeIn K cdI_InvalidNumber "InvalidNumber.__init__" = true)
    (i5_InvalidNumber : PySem.W.keepIn K (.ref I_InvalidNumber) = true)
    (q1_InvalidNumber : clB K C_InvalidNumber ["number"] = true)
    (o1_InvalidPlace : K.lookup C_InvalidPlace = some (excClassObj nmE_InvalidPlace qnE_InvalidPlace C_InvalidPlace NSE_InvalidPlace bsE_InvalidPlace [.ref C_MarkupError, .type "ValueError", .type "Exception", .type "BaseException", .type "object"] true snE_InvalidPlace subE_InvalidPlace abE_InvalidPlace colE_InvalidPlace ddE_InvalidPlace k0E_InvalidPlace k1E_InvalidPlace k2E_InvalidPlace k3E_InvalidPlace k5E_InvalidPlace "ValueError.__new__"))
    (i1_InvalidPlace : PySem.W.findIn K (.ref C_InvalidPlace) "__init__" = some (some (.ref I_InvalidPlace)))
    (i2_InvalidPlace : PySem.W.typeIn K (.ref I_InvalidPlace) = some (.type "function"))
    (i3_InvalidPlace : K.lookup I_InvalidPlace = some ⟨ocI_InvalidPlace, odI_InvalidPlace, .func (PySem.W.fnOf "__init__" "InvalidPlace.__init__" (defArgs s_InvalidPlace___init__) (defBody s_InvalidPlace___init__) (defScope s_InvalidPlace___init__) .none kVI_InvalidPlace dcI_InvalidPlace pmI_InvalidPlace anI_InvalidPlace cdI_InvalidPlace ctI_InvalidPlace), slI_InvalidPlace⟩)
    (i4_InvalidPlace : PySem.W.codeIn K cdI_InvalidPlace "InvalidPlace.__init__" = true)
    (i5_InvalidPlace : PySem.W.keepIn K (.ref I_InvalidPlace) = true)
    (q1_InvalidPlace : clB K C_InvalidPlace ["given"] = true)
    (o1_InvalidMark : K.lookup C_InvalidMark = some (excClassObj nmE_InvalidMark qnE_InvalidMark C_InvalidMark NSE_InvalidMark bsE_InvalidMark [.ref C_MarkupError, .type "ValueError", .type "Exception", .type "BaseException", .type "object"] true snE_InvalidMark subE_InvalidMark abE_InvalidMark colE_InvalidMark ddE_InvalidMark k0E_InvalidMark k1E_InvalidMark k2E_InvalidMark k3E_InvalidMark k5E_InvalidMark "ValueError.__new__"))
    (i1_InvalidMark : PySem.W.findIn K (.ref C_InvalidMark) "__init__" = some (some (.ref I_InvalidMark)))
    (i2_InvalidMark : PySem.W.typeIn K (.ref I_InvalidMark) = some (.type "function"))
    (i3_InvalidMark : K.lookup I_InvalidMark = some ⟨ocI_InvalidMark, odI_InvalidMark, .func (PySem.W.fnOf "__init__" "InvalidMark.__init__" (defArgs s_InvalidMark___init__) (defBody s_InvalidMark___init__) (defScope s_InvalidMark___init__) .none kVI_InvalidMark dcI_InvalidMark pmI_InvalidMark anI_InvalidMark cdI_InvalidMark ctI_InvalidMark), slI_InvalidMark⟩)
    (i4_InvalidMark : PySem.W.codeIn K cdI_InvalidMark "InvalidMark.__init__" = true)
    (i5_InvalidMark : PySem.W.keepIn K (.ref I_InvalidMark) = true)
    (q1_InvalidMark : clB K C_InvalidMark ["given"] = true)
    (o1_InvalidAttributes : K.lookup C_InvalidAttributes = some (excClassObj nmE_InvalidAttributes qnE_InvalidAttributes C_InvalidAttributes NSE_InvalidAttributes bsE_InvalidAttributes [.ref C_MarkupError, .type "ValueError", .type "Exception", .type "BaseException", .type "object"] true snE_InvalidAttributes subE_InvalidAttributes abE_InvalidAttributes colE_InvalidAttributes ddE_InvalidAttributes k0E_InvalidAttributes k1E_InvalidAttributes k2E_InvalidAttributes k3E_InvalidAttributes k5E_InvalidAttributes "ValueError.__new__"))
    (i1_InvalidAttributes : PySem.W.findIn K (.ref C_InvalidAttributes) "__init__" = some (some (.ref I_InvalidAttributes)))
    (i2_InvalidAttributes : PySem.W.typeIn K (.ref I_InvalidAttributes) = some (.type "function"))
    (i3_InvalidAttributes : K.lookup I_InvalidAttributes = some ⟨ocI_InvalidAttributes, odI_InvalidAttributes, .func (PySem.W.fnOf "__init__" "InvalidAttributes.__init__" (defArgs s_InvalidAttributes___init__) (defBody s_InvalidAttributes___init__) (defScope s_InvalidAttributes___init__) .none kVI_InvalidAttributes dcI_InvalidAttributes pmI_InvalidAttributes anI_InvalidAttributes cdI_InvalidAttributes ctI_InvalidAttributes), slI_InvalidAttributes⟩)
    (i4_InvalidAttributes : PySem.W.codeIn K cdI_InvalidAttributes "InvalidAttributes.__init__" = true)
    (i5_InvalidAttributes : PySem.W.keepIn K (.ref I_InvalidAttributes) = true)
    (q1_InvalidAttributes : clB K C_InvalidAttributes ["index"] = true)
    (o1_InvalidNode : K.lookup C_InvalidNode = some (excClassObj nmE_InvalidNode qnE_InvalidNode C_InvalidNode NSE_InvalidNode bsE_InvalidNode [.ref C_MarkupError, .type "ValueError", .type "Exception", .type "BaseException", .type "object"] true snE_InvalidNode subE_InvalidNode abE_InvalidNode colE_InvalidNode ddE_InvalidNode k0E_InvalidNode k1E_InvalidNode k2E_InvalidNode k3E_InvalidNode k5E_InvalidNode "ValueError.__new__"))
    (i1_InvalidNode : PySem.W.findIn K (.ref C_InvalidNode) "__init__" = some (some (.ref I_InvalidNode)))
    (i2_InvalidNode : PySem.W.typeIn K (.ref I_InvalidNode) = some (.type "function"))
    (i3_InvalidNode : K.lookup I_InvalidNode = some ⟨ocI_InvalidNode, odI_InvalidNode, .func (PySem.W.fnOf "__init__" "InvalidNode.__init__" (defArgs s_InvalidNode___init__) (defBody s_InvalidNode___init__) (defScope s_InvalidNode___init__) .none kVI_InvalidNode dcI_InvalidNode pmI_InvalidNode anI_InvalidNode cdI_InvalidNode ctI_InvalidNode), slI_InvalidNode⟩)
    (i4_InvalidNode : PySem.W.codeIn K cdI_InvalidNode "InvalidNode.__init__" = true)
    (i5_InvalidNode : PySem.W.keepIn K (.ref I_InvalidNode) = true)
    (q1_InvalidNode : clB K C_InvalidNode ["given"] = true)
    (o1_InvalidPath : K.lookup C_InvalidPath = some (excClassObj nmE_InvalidPath qnE_InvalidPath C_InvalidPath NSE_InvalidPath bsE_InvalidPath [.ref C_MarkupError, .type "ValueError", .type "Exception", .type "BaseException", .type "object"] true snE_InvalidPath subE_InvalidPath abE_InvalidPath colE_InvalidPath ddE_InvalidPath k0E_InvalidPath k1E_InvalidPath k2E_InvalidPath k3E_InvalidPath k5E_InvalidPath "ValueError.__new__"))
    (i1_InvalidPath : PySem.W.findIn K (.ref C_InvalidPath) "__init__" = some (some (.ref I_InvalidPath)))
    (i2_InvalidPath : PySem.W.typeIn K (.ref I_InvalidPath) = some (.type "function"))
    (i3_InvalidPath : K.lookup I_InvalidPath = some ⟨ocI_InvalidPath, odI_InvalidPath, .func (PySem.W.fnOf "__init__" "InvalidPath.__init__" (defArgs s_InvalidPath___init__) (defBody s_InvalidPath___init__) (defScope s_InvalidPath___init__) .none kVI_InvalidPath dcI_InvalidPath pmI_InvalidPath anI_InvalidPath cdI_InvalidPath ctI_InvalidPath), slI_InvalidPath⟩)
    (i4_InvalidPath : PySem.W.codeIn K cdI_InvalidPath "InvalidPath.__init__" = true)
    (i5_InvalidPath : PySem.W.keepIn K (.ref I_InvalidPath) = true)
    (q1_InvalidPath : clB K C_InvalidPath ["given"] = true)
    (o1_InvalidEvents : K.lookup C_InvalidEvents = some (excClassObj nmE_InvalidEvents qnE_InvalidEvents C_InvalidEvents NSE_InvalidEvents bsE_InvalidEvents [.ref C_MarkupError, .type "ValueError", .type "Exception", .type "BaseException", .type "object"] true snE_InvalidEvents subE_InvalidEvents abE_InvalidEvents colE_InvalidEvents ddE_InvalidEvents k0E_InvalidEvents k1E_InvalidEvents k2E_InvalidEvents k3E_InvalidEvents k5E_InvalidEvents "ValueError.__new__"))
    (i1_InvalidEvents : PySem.W.findIn K (.ref C_InvalidEvents) "__init__" = some (some (.ref I_InvalidEvents)))
    (i2_InvalidEvents : PySem.W.typeIn K (.ref I_InvalidEvents) = some (.type "function"))
    (i3_InvalidEvents : K.lookup I_InvalidEvents = some ⟨ocI_InvalidEvents, odI_InvalidEvents, .func (PySem.W.fnOf "__init__" "InvalidEvents.__init__" (defArgs s_InvalidEvents___init__) (defBody s_InvalidEvents___init__) (defScope s_InvalidEvents___init__) .none kVI_InvalidEvents dcI_InvalidEvents pmI_InvalidEvents anI_InvalidEvents cdI_InvalidEvents ctI_InvalidEvents), slI_InvalidEvents⟩)
    (i4_InvalidEvents : PySem.W.codeIn K cdI_InvalidEvents "InvalidEvents.__init__" = true)
    (i5_InvalidEvents : PySem.W.keepIn K (.ref I_InvalidEvents) = true)
    (q1_InvalidEvents : clB K C_InvalidEvents ["index"] = true)
    (o1_InvalidEdit : K.lookup C_InvalidEdit = some (excClassObj nmE_InvalidEdit qnE_InvalidEdit C_InvalidEdit NSE_InvalidEdit bsE_InvalidEdit [.ref C_MarkupError, .type "ValueError", .type "Exception", .type "BaseException", .type "object"] true snE_InvalidEdit subE_InvalidEdit abE_InvalidEdit colE_InvalidEdit ddE_InvalidEdit k0E_InvalidEdit k1E_InvalidEdit k2E_InvalidEdit k3E_InvalidEdit k5E_InvalidEdit "ValueError.__new__"))
    (i1_InvalidEdit : PySem.W.findIn K (.ref C_InvalidEdit) "__init__" = some (some (.ref I_InvalidEdit)))
    (i2_InvalidEdit : PySem.W.typeIn K (.ref I_InvalidEdit) = some (.type "function"))
    (i3_InvalidEdit : K.lookup I_InvalidEdit = some ⟨ocI_InvalidEdit, odI_InvalidEdit, .func (PySem.W.fnOf "__init__" "InvalidEdit.__init__" (defArgs s_InvalidEdit___init__) (defBody s_InvalidEdit___init__) (defScope s_InvalidEdit___init__) .none kVI_InvalidEdit dcI_InvalidEdit pmI_InvalidEdit anI_InvalidEdit cdI_InvalidEdit ctI_InvalidEdit), slI_InvalidEdit⟩)
    (i4_InvalidEdit : PySem.W.codeIn K cdI_InvalidEdit "InvalidEdit.__init__" = true)
    (i5_InvalidEdit : PySem.W.keepIn K (.ref I_InvalidEdit) = true)
    (q1_InvalidEdit : clB K C_InvalidEdit ["index"] = true)
    (o1_InvalidQuery : K.lookup C_InvalidQuery = some (excClassObj nmE_InvalidQuery qnE_InvalidQuery C_InvalidQuery NSE_InvalidQuery bsE_InvalidQuery [.ref C_MarkupError, .type "ValueError", .type "Exception", .type "BaseException", .type "object"] true snE_InvalidQuery subE_InvalidQuery abE_InvalidQuery colE_InvalidQuery ddE_InvalidQuery k0E_InvalidQuery k1E_InvalidQuery k2E_InvalidQuery k3E_InvalidQuery k5E_InvalidQuery "ValueError.__new__"))
    (i1_InvalidQuery : PySem.W.findIn K (.ref C_InvalidQuery) "__init__" = some (some (.ref I_InvalidQuery)))
    (i2_InvalidQuery : PySem.W.typeIn K (.ref I_InvalidQuery) = some (.type "function"))
    (i3_InvalidQuery : K.lookup I_InvalidQuery = some ⟨ocI_InvalidQuery, odI_InvalidQuery, .func (PySem.W.fnOf "__init__" "InvalidQuery.__init__" (defArgs s_InvalidQuery___init__) (defBody s_InvalidQuery___init__) (defScope s_InvalidQuery___init__) .none kVI_InvalidQuery dcI_InvalidQuery pmI_InvalidQuery anI_InvalidQuery cdI_InvalidQuery ctI_InvalidQuery), slI_InvalidQuery⟩)
    (i4_InvalidQuery : PySem.W.codeIn K cdI_InvalidQuery "InvalidQuery.__init__" = true)
    (i5_InvalidQuery : PySem.W.keepIn K (.ref I_InvalidQuery) = true)
    (q1_InvalidQuery : clB K C_InvalidQuery ["position"] = true)
    (o1_InvalidPlan : K.lookup C_InvalidPlan = some (excClassObj nmE_InvalidPlan qnE_InvalidPlan C_InvalidPlan NSE_InvalidPlan bsE_InvalidPlan [.ref C_MarkupError, .type "ValueError", .type "Exception", .type "BaseException", .type "object"] true snE_InvalidPlan subE_InvalidPlan abE_InvalidPlan colE_InvalidPlan ddE_InvalidPlan k0E_InvalidPlan k1E_InvalidPlan k2E_InvalidPlan k3E_InvalidPlan k5E_InvalidPlan "ValueError.__new__"))
    (i1_InvalidPlan : PySem.W.findIn K (.ref C_InvalidPlan) "__init__" = some (some (.ref I_InvalidPlan)))
    (i2_InvalidPlan : PySem.W.typeIn K (.ref I_InvalidPlan) = some (.type "function"))
    (i3_InvalidPlan : K.lookup I_InvalidPlan = some ⟨ocI_InvalidPlan, odI_InvalidPlan, .func (PySem.W.fnOf "__init__" "InvalidPlan.__init__" (defArgs s_InvalidPlan___init__) (defBody s_InvalidPlan___init__) (defScope s_InvalidPlan___init__) .none kVI_InvalidPlan dcI_InvalidPlan pmI_InvalidPlan anI_InvalidPlan cdI_InvalidPlan ctI_InvalidPlan), slI_InvalidPlan⟩)
    (i4_InvalidPlan : PySem.W.codeIn K cdI_InvalidPlan "InvalidPlan.__init__" = true)
    (i5_InvalidPlan : PySem.W.keepIn K (.ref I_InvalidPlan) = true)
    (q1_InvalidPlan : clB K C_InvalidPlan ["index"] = true)
    (o1_UnknownMark : K.lookup C_UnknownMark = some (excClassObj nmE_UnknownMark qnE_UnknownMark C_UnknownMark NSE_UnknownMark bsE_UnknownMark [.ref C_MarkupError, .type "ValueError", .type "Exception", .type "BaseException", .type "object"] true snE_UnknownMark subE_UnknownMark abE_UnknownMark colE_UnknownMark ddE_UnknownMark k0E_UnknownMark k1E_UnknownMark k2E_UnknownMark k3E_UnknownMark k5E_UnknownMark "ValueError.__new__"))
    (i1_UnknownMark : PySem.W.findIn K (.ref C_UnknownMark) "__init__" = some (some (.ref I_UnknownMark)))
    (i2_UnknownMark : PySem.W.typeIn K (.ref I_UnknownMark) = some (.type "function"))
    (i3_UnknownMark : K.lookup I_UnknownMark = some ⟨ocI_UnknownMark, odI_UnknownMark, .func (PySem.W.fnOf "__init__" "UnknownMark.__init__" (defArgs s_UnknownMark___init__) (defBody s_UnknownMark___init__) (defScope s_UnknownMark___init__) .none kVI_UnknownMark dcI_UnknownMark pmI_UnknownMark anI_UnknownMark cdI_UnknownMark ctI_UnknownMark), slI_UnknownMark⟩)
    (i4_UnknownMark : PySem.W.codeIn K cdI_UnknownMark "UnknownMark.__init__" = true)
    (i5_UnknownMark : PySem.W.keepIn K (.ref I_UnknownMark) = true)
    (q1_UnknownMark : clB K C_UnknownMark ["given"] = true)
    (o1_BadBinding : K.lookup C_BadBinding = some (excClassObj nmE_BadBinding qnE_BadBinding C_BadBinding NSE_BadBinding bsE_BadBinding [.ref C_MarkupError, .type "ValueError", .type "Exception", .type "BaseException", .type "object"] true snE_BadBinding subE_BadBinding abE_BadBinding colE_BadBinding ddE_BadBinding k0E_BadBinding k1E_BadBinding k2E_BadBinding k3E_BadBinding k5E_BadBinding "ValueError.__new__"))
    (i1_BadBinding : PySem.W.findIn K (.ref C_BadBinding) "__init__" = some (some (.ref I_BadBinding)))
    (i2_BadBinding : PySem.W.typeIn K (.ref I_BadBinding) = some (.type "function"))
    (i3_BadBinding : K.lookup I_BadBinding = some ⟨ocI_BadBinding, odI_BadBinding, .func (PySem.W.fnOf "__init__" "BadBinding.__init__" (defArgs s_BadBinding___init__) (defBody s_BadBinding___init__) (defScope s_BadBinding___init__) .none kVI_BadBinding dcI_BadBinding pmI_BadBinding anI_BadBinding cdI_BadBinding ctI_BadBinding), slI_BadBinding⟩)
    (i4_BadBinding : PySem.W.codeIn K cdI_BadBinding "BadBinding.__init__" = true)
    (i5_BadBinding : PySem.W.keepIn K (.ref I_BadBinding) = true)
    (q1_BadBinding : clB K C_BadBinding ["spelling", "place"] = true)
    (o1_Unbound : K.lookup C_Unbound = some (excClassObj nmE_Unbound qnE_Unbound C_Unbound NSE_Unbound bsE_Unbound [.ref C_MarkupError, .type "ValueError", .type "Exception", .type "BaseException", .type "object"] true snE_Unbound subE_Unbound abE_Unbound colE_Unbound ddE_Unbound k0E_Unbound k1E_Unbound k2E_Unbound k3E_Unbound k5E_Unbound "ValueError.__new__"))
    (i1_Unbound : PySem.W.findIn K (.ref C_Unbound) "__init__" = some (some (.ref I_Unbound)))
    (i2_Unbound : PySem.W.typeIn K (.ref I_Unbound) = some (.type "function"))
    (i3_Unbound : K.lookup I_Unbound = some ⟨ocI_Unbound, odI_Unbound, .func (PySem.W.fnOf "__init__" "Unbound.__init__" (defArgs s_Unbound___init__) (defBody s_Unbound___init__) (defScope s_Unbound___init__) .none kVI_Unbound dcI_Unbound pmI_Unbound anI_Unbound cdI_Unbound ctI_Unbound), slI_Unbound⟩)
    (i4_Unbound : PySem.W.codeIn K cdI_Unbound "Unbound.__init__" = true)
    (i5_Unbound : PySem.W.keepIn K (.ref I_Unbound) = true)
    (q1_Unbound : clB K C_Unbound ["spelling", "place"] = true)
    (o1_Repeated : K.lookup C_Repeated = some (excClassObj nmE_Repeated qnE_Repeated C_Repeated NSE_Repeated bsE_Repeated [.ref C_MarkupError, .type "ValueError", .type "Exception", .type "BaseException", .type "object"] true snE_Repeated subE_Repeated abE_Repeated colE_Repeated ddE_Repeated k0E_Repeated k1E_Repeated k2E_Repeated k3E_Repeated k5E_Repeated "ValueError.__new__"))
    (i1_Repeated : PySem.W.findIn K (.ref C_Repeated) "__init__" = some (some (.ref I_Repeated)))
    (i2_Repeated : PySem.W.typeIn K (.ref I_Repeated) = some (.type "function"))
    (i3_Repeated : K.lookup I_Repeated = some ⟨ocI_Repeated, odI_Repeated, .func (PySem.W.fnOf "__init__" "Repeated.__init__" (defArgs s_Repeated___init__) (defBody s_Repeated___init__) (defScope s_Repeated___init__) .none kVI_Repeated dcI_Repeated pmI_Repeated anI_Repeated cdI_Repeated ctI_Repeated), slI_Repeated⟩)
    (i4_Repeated : PySem.W.codeIn K cdI_Repeated "Repeated.__init__" = true)
    (i5_Repeated : PySem.W.keepIn K (.ref I_Repeated) = true)
    (q1_Repeated : clB K C_Repeated ["spelling", "place"] = true)
    (o1_NoEntity : K.lookup C_NoEntity = some (excClassObj nmE_NoEntity qnE_NoEntity C_NoEntity NSE_NoEntity bsE_NoEntity [.ref C_MarkupStateError, .type "RuntimeError", .type "Exception", .type "BaseException", .type "object"] true snE_NoEntity subE_NoEntity abE_NoEntity colE_NoEntity ddE_NoEntity k0E_NoEntity k1E_NoEntity k2E_NoEntity k3E_NoEntity k5E_NoEntity "RuntimeError.__new__"))
    (i1_NoEntity : PySem.W.findIn K (.ref C_NoEntity) "__init__" = some (some (.ref I_NoEntity)))
    (i2_NoEntity : PySem.W.typeIn K (.ref I_NoEntity) = some (.type "function"))
    (i3_NoEntity : K.lookup I_NoEntity = some ⟨ocI_NoEntity, odI_NoEntity, .func (PySem.W.fnOf "__init__" "NoEntity.__init__" (defArgs s_NoEntity___init__) (defBody s_NoEntity___init__) (defScope s_NoEntity___init__) .none kVI_NoEntity dcI_NoEntity pmI_NoEntity anI_NoEntity cdI_NoEntity ctI_NoEntity), slI_NoEntity⟩)
    (i4_NoEntity : PySem.W.codeIn K cdI_NoEntity "NoEntity.__init__" = true)
    (i5_NoEntity : PySem.W.keepIn K (.ref I_NoEntity) = true)
    (q1_NoEntity : clB K C_NoEntity ["given"] = true)
    (o1_NotPlain : K.lookup C_NotPlain = some (excClassObj nmE_NotPlain qnE_NotPlain C_NotPlain NSE_NotPlain bsE_NotPlain [.ref C_MarkupStateError, .type "RuntimeError", .type "Exception", .type "BaseException", .type "object"] true snE_NotPlain subE_NotPlain abE_NotPlain colE_NotPlain ddE_NotPlain k0E_NotPlain k1E_NotPlain k2E_NotPlain k3E_NotPlain k5E_NotPlain "RuntimeError.__new__"))
    (i1_NotPlain : PySem.W.findIn K (.ref C_NotPlain) "__init__" = some (some (.ref I_NotPlain)))
    (i2_NotPlain : PySem.W.typeIn K (.ref I_NotPlain) = some (.type "function"))
    (i3_NotPlain : K.lookup I_NotPlain = some ⟨ocI_NotPlain, odI_NotPlain, .func (PySem.W.fnOf "__init__" "NotPlain.__init__" (defArgs s_NotPlain___init__) (defBody s_NotPlain___init__) (defScope s_NotPlain___init__) .none kVI_NotPlain dcI_NotPlain pmI_NotPlain anI_NotPlain cdI_NotPlain ctI_NotPlain), slI_NotPlain⟩)
    (i4_NotPlain : PySem.W.codeIn K cdI_NotPlain "NotPlain.__init__" = true)
    (i5_NotPlain : PySem.W.keepIn K (.ref I_NotPlain) = true)
    (q1_NotPlain : clB K C_NotPlain ["given"] = true)
    (o1_NotPossible : K.lookup C_NotPossible = some (excClassObj nmE_NotPossible qnE_NotPossible C_NotPossible NSE_NotPossible bsE_NotPossible [.ref C_MarkupStateError, .type "RuntimeError", .type "Exception", .type "BaseException", .type "object"] true snE_NotPossible subE_NotPossible abE_NotPossible colE_NotPossible ddE_NotPossible k0E_NotPossible k1E_NotPossible k2E_NotPossible k3E_NotPossible k5E_NotPossible "RuntimeError.__new__"))
    (i1_NotPossible : PySem.W.findIn K (.ref C_NotPossible) "__init__" = some (some (.ref I_NotPossible)))
    (i2_NotPossible : PySem.W.typeIn K (.ref I_NotPossible) = some (.type "function"))
    (i3_NotPossible : K.lookup I_NotPossible = some ⟨ocI_NotPossible, odI_NotPossible, .func (PySem.W.fnOf "__init__" "NotPossible.__init__" (defArgs s_NotPossible___init__) (defBody s_NotPossible___init__) (defScope s_NotPossible___init__) .none kVI_NotPossible dcI_NotPossible pmI_NotPossible anI_NotPossible cdI_NotPossible ctI_NotPossible), slI_NotPossible⟩)
    (i4_NotPossible : PySem.W.codeIn K cdI_NotPossible "NotPossible.__init__" = true)
    (i5_NotPossible : PySem.W.keepIn K (.ref I_NotPossible) = true)
    (q1_NotPossible : clB K C_NotPossible ["given"] = true)
    (o1_OutOfPlace : K.lookup C_OutOfPlace = some (excClassObj nmE_OutOfPlace qnE_OutOfPlace C_OutOfPlace NSE_OutOfPlace bsE_OutOfPlace [.ref C_MarkupStateError, .type "RuntimeError", .type "Exception", .type "BaseException", .type "object"] true snE_OutOfPlace subE_OutOfPlace abE_OutOfPlace colE_OutOfPlace ddE_OutOfPlace k0E_OutOfPlace k1E_OutOfPlace k2E_OutOfPlace k3E_OutOfPlace k5E_OutOfPlace "RuntimeError.__new__"))
    (i1_OutOfPlace : PySem.W.findIn K (.ref C_OutOfPlace) "__init__" = some (some (.ref I_OutOfPlace)))
    (i2_OutOfPlace : PySem.W.typeIn K (.ref I_OutOfPlace) = some (.type "function"))
    (i3_OutOfPlace : K.lookup I_OutOfPlace = some ⟨ocI_OutOfPlace, odI_OutOfPlace, .func (PySem.W.fnOf "__init__" "OutOfPlace.__init__" (defArgs s_OutOfPlace___init__) (defBody s_OutOfPlace___init__) (defScope s_OutOfPlace___init__) .none kVI_OutOfPlace dcI_OutOfPlace pmI_OutOfPlace anI_OutOfPlace cdI_OutOfPlace ctI_OutOfPlace), slI_OutOfPlace⟩)
    (i4_OutOfPlace : PySem.W.codeIn K cdI_OutOfPlace "OutOfPlace.__init__" = true)
    (i5_OutOfPlace : PySem.W.keepIn K (.ref I_OutOfPlace) = true)
    (q1_OutOfPlace : clB K C_OutOfPlace ["kind"] = true)
    (o1_NothingToUndo : K.lookup C_NothingToUndo = some (excClassObj nmE_NothingToUndo qnE_NothingToUndo C_NothingToUndo NSE_NothingToUndo bsE_NothingToUndo [.ref C_MarkupStateError, .type "RuntimeError", .type "Exception", .type "BaseException", .type "object"] true snE_NothingToUndo subE_NothingToUndo abE_NothingToUndo colE_NothingToUndo ddE_NothingToUndo k0E_NothingToUndo k1E_NothingToUndo k2E_NothingToUndo k3E_NothingToUndo k5E_NothingToUndo "RuntimeError.__new__"))
    (i1_NothingToUndo : PySem.W.findIn K (.ref C_NothingToUndo) "__init__" = some (some (.ref I_NothingToUndo)))
    (i2_NothingToUndo : PySem.W.typeIn K (.ref I_NothingToUndo) = some (.type "function"))
    (i3_NothingToUndo : K.lookup I_NothingToUndo = some ⟨ocI_NothingToUndo, odI_NothingToUndo, .func (PySem.W.fnOf "__init__" "NothingToUndo.__init__" (defArgs s_NothingToUndo___init__) (defBody s_NothingToUndo___init__) (defScope s_NothingToUndo___init__) .none kVI_NothingToUndo dcI_NothingToUndo pmI_NothingToUndo anI_NothingToUndo cdI_NothingToUndo ctI_NothingToUndo), slI_NothingToUndo⟩)
    (i4_NothingToUndo : PySem.W.codeIn K cdI_NothingToUndo "NothingToUndo.__init__" = true)
    (i5_NothingToUndo : PySem.W.keepIn K (.ref I_NothingToUndo) = true)
    (q1_NothingToUndo : clB K C_NothingToUndo [] = true)
    (o1_TooLarge : K.lookup C_TooLarge = some (excClassObj nmE_TooLarge qnE_TooLarge C_TooLarge NSE_TooLarge bsE_TooLarge [.ref C_LimitError, .type "OverflowError", .type "ArithmeticError", .type "Exception", .type "BaseException", .type "object"] true snE_TooLarge subE_TooLarge abE_TooLarge colE_TooLarge ddE_TooLarge k0E_TooLarge k1E_TooLarge k2E_TooLarge k3E_TooLarge k5E_TooLarge "OverflowError.__new__"))
    (i1_TooLarge : PySem.W.findIn K (.ref C_TooLarge) "__init__" = some (some (.ref I_TooLarge)))
    (i2_TooLarge : PySem.W.typeIn K (.ref I_TooLarge) = some (.type "function"))
    (i3_TooLarge : K.lookup I_TooLarge = some ⟨ocI_TooLarge, odI_TooLarge, .func (PySem.W.fnOf "__init__" "TooLarge.__init__" (defArgs s_TooLarge___init__) (defBody s_TooLarge___init__) (defScope s_TooLarge___init__) .none kVI_TooLarge dcI_TooLarge pmI_TooLarge anI_TooLarge cdI_TooLarge ctI_TooLarge), slI_TooLarge⟩)
    (i4_TooLarge : PySem.W.codeIn K cdI_TooLarge "TooLarge.__init__" = true)
    (i5_TooLarge : PySem.W.keepIn K (.ref I_TooLarge) = true)
    (q1_TooLarge : clB K C_TooLarge ["limit", "position"] = true)
    (q1_kit : kitL K [C_IllFormed, C_InvalidText, C_InvalidName, C_InvalidKind, C_InvalidNumber, C_InvalidPlace, C_InvalidMark, C_InvalidAttributes, C_InvalidNode, C_InvalidPath, C_InvalidEvents, C_InvalidEdit, C_InvalidQuery, C_InvalidPlan, C_UnknownMark, C_BadBinding, C_Unbound, C_Repeated, C_NoEntity, C_NotPlain, C_NotPossible, C_OutOfPlace, C_NothingToUndo, C_TooLarge] ([C_IllFormed, C_InvalidText, C_InvalidName, C_InvalidKind, C_InvalidNumber, C_InvalidPlace, C_InvalidMark, C_InvalidAttributes, C_InvalidNode, C_InvalidPath, C_InvalidEvents, C_InvalidEdit, C_InvalidQuery, C_InvalidPlan, C_UnknownMark, C_BadBinding, C_Unbound, C_Repeated, C_NoEntity, C_NotPlain, C_NotPossible, C_OutOfPlace, C_NothingToUndo, C_TooLarge].map Value.ref) (fun i j => decide (i = j)) = true)
    (q1_kitB : kitL K [C_IllFormed, C_InvalidText, C_InvalidName, C_InvalidKind, C_InvalidNumber, C_InvalidPlace, C_InvalidMark, C_InvalidAttributes, C_InvalidNode, C_InvalidPath, C_InvalidEvents, C_InvalidEdit, C_InvalidQuery, C_InvalidPlan, C_UnknownMark, C_BadBinding, C_Unbound, C_Repeated, C_NoEntity, C_NotPlain, C_NotPossible, C_OutOfPlace, C_NothingToUndo, C_TooLarge] [.ref C_MarkupError, .ref C_MarkupStateError, .ref C_LimitError, .type "ValueError", .type "RuntimeError", .type "OverflowError", .type "LookupError", .type "NotImplementedError"] isBase = true) :
    LawG l w K CX0 10 63 "script" mg fa h := by
  have e := hfa.symm.trans (PySem.W.mg_of X G a_law)
  cases e
  refine ⟨PySem.W.fnOf "law" "law" (defArgs s_law) (defBody s_law) (defScope s_law) .none kV_law dc_law pm_law an_law cd_law ct_law, [], sp_law K, fun p hp => absurd hp (by simp), fun p hp => absurd hp (by simp), fun p hp => absurd hp (by simp), fun s v => .of_eq rfl, fun H a ns hn _ _ hs => ⟨a, ns, rfl, hs, hn, fun _ => rfl⟩, ?_⟩
  intro base inB nsB tabB
  have F__law_mixed := fun_mk (st := s__law_mixed) l__law_mixed c__law_mixed k__law_mixed
  have B__law_mixed := F__law_mixed.binds (ps := ["number", "k"]) fun _ _ _ _ _ _ us hl => match us, hl with | [_, _], _ => rfl
  have F__law_stream := fun_mk (st := s__law_stream) l__law_stream c__law_stream k__law_stream
  have B__law_stream := F__law_stream.binds (ps := ["item", "k"]) fun _ _ _ _ _ _ us hl => match us, hl with | [_, _], _ => rfl
  have F__law_draw := fun_mk (st := s__law_draw) l__law_draw c__law_draw k__law_draw
  have B__law_draw := F__law_draw.binds (ps := ["stream", "top"]) fun _ _ _ _ _ _ us hl => match us, hl with | [_, _], _ => rfl
  have F__law_pick := fun_mk (st := s__law_pick) l__law_pick c__law_pick k__law_pick
  have B__law_pick := F__law_pick.binds (ps := ["stream", "some"]) fun _ _ _ _ _ _ us hl => match us, hl with | [_, _], _ => rfl
  have F__law_made := fun_mk (st := s__law_made) l__law_made c__law_made k__law_made
  have B__law_made := F__law_made.binds (ps := ["one", "other"]) fun _ _ _ _ _ _ us hl => match us, hl with | [_, _], _ => rfl
  have F__law_kinds := fun_mk (st := s__law_kinds) l__law_kinds c__law_kinds k__law_kinds
  have B__law_kinds := F__law_kinds.binds (ps := ["error"]) fun _ _ _ _ _ _ us hl => match us, hl with | [_], _ => rfl
  have F__law_bases := fun_mk (st := s__law_bases) l__law_bases c__law_bases k__law_bases
  have B__law_bases := F__law_bases.binds (ps := ["error"]) fun _ _ _ _ _ _ us hl => match us, hl with | [_], _ => rfl
  have F__law_fields := fun_mk (st := s__law_fields) l__law_fields c__law_fields k__law_fields
  have B__law_fields := F__law_fields.binds (ps := ["some"]) fun _ _ _ _ _ _ us hl => match us, hl with | [_], _ => rfl
  have F__law_right := fun_mk (st := s__law_right) l__law_right c__law_right k__law_right
  have B__law_right := F__law_right.binds (ps := ["one", "other"]) fun _ _ _ _ _ _ us hl => match us, hl with | [_, _], _ => rfl
  have F_law := fun_mk (st := s_law) l_law c_law k_law
  have BM_V : BaseG K mg ebV "MarkupError" C_MarkupError := ⟨PySem.W.mg_of X G b_MarkupError, m1_MarkupError, m2_MarkupError, m3_MarkupError, by decide +kernel⟩
  have BM_R : BaseG K mg ebR "MarkupStateError" C_MarkupStateError := ⟨PySem.W.mg_of X G b_MarkupStateError, m1_MarkupStateError, m2_MarkupStateError, m3_MarkupStateError, by decide +kernel⟩
  have BM_O : BaseG K mg ebO "LimitError" C_LimitError := ⟨PySem.W.mg_of X G b_LimitError, m1_LimitError, m2_LimitError, m3_LimitError, by decide +kernel⟩
  have X_IllFormed := clB_ok q1_IllFormed
  have FI_IllFormed := fun_mk (st := s_IllFormed___init__) i3_IllFormed i4_IllFormed i5_IllFormed
  have OX_IllFormed : OexG K ebV C_IllFormed := ⟨ebV_ok, ⟨_, _, _, _, [C_MarkupError], _, _, _, _, _, _, _, _, _, _, o1_IllFormed⟩, X_IllFormed.h8, X_IllFormed.h9⟩
  have X_InvalidText := clB_ok q1_InvalidText
  have FI_InvalidText := fun_mk (st := s_InvalidText___init__) i3_InvalidText i4_InvalidText i5_InvalidText
  have OX_InvalidText : OexG K ebV C_InvalidText := ⟨ebV_ok, ⟨_, _, _, _, [C_MarkupError], _, _, _, _, _, _, _, _, _, _, o1_InvalidText⟩, X_InvalidText.h8, X_InvalidText.h9⟩
  have X_InvalidName := clB_ok q1_InvalidName
  have FI_InvalidName := fun_mk (st := s_InvalidName___init__) i3_InvalidName i4_InvalidName i5_InvalidName
  have OX_InvalidName : OexG K ebV C_InvalidName := ⟨ebV_ok, ⟨_, _, _, _, [C_MarkupError], _, _, _, _, _, _, _, _, _, _, o1_InvalidName⟩, X_InvalidName.h8, X_InvalidName.h9⟩
  have X_InvalidKind := clB_ok q1_InvalidKind
  have FI_InvalidKind := fun_mk (st := s_InvalidKind___init__) i3_InvalidKind i4_InvalidKind i5_InvalidKind
  have OX_InvalidKind : OexG K ebV C_InvalidKind := ⟨ebV_ok, ⟨_, _, _, _, [C_MarkupError], _, _, _, _, _, _, _, _, _, _, o1_InvalidKind⟩, X_InvalidKind.h8, X_InvalidKind.h9⟩
  have X_InvalidNumber := clB_ok q1_InvalidNumber
  have FI_InvalidNumber := fun_mk (st := s_InvalidNumber___init__) i3_InvalidNumber i4_InvalidNumber i5_InvalidNumber
  have OX_InvalidNumber : OexG K ebV C_InvalidNumber := ⟨ebV_ok, ⟨_, _, _, _, [C_MarkupError], _, _, _, _, _, _, _, _, _, _, o1_InvalidNumber⟩, X_InvalidNumber.h8, X_InvalidNumber.h9⟩
  have X_InvalidPlace := clB_ok q1_InvalidPlace
  have FI_InvalidPlace := fun_mk (st := s_InvalidPlace___init__) i3_InvalidPlace i4_InvalidPlace i5_InvalidPlace
  have OX_InvalidPlace : OexG K ebV C_InvalidPlace := ⟨ebV_ok, ⟨_, _, _, _, [C_MarkupError], _, _, _, _, _, _, _, _, _, _, o1_InvalidPlace⟩, X_InvalidPlace.h8, X_InvalidPlace.h9⟩
  have X_InvalidMark := clB_ok q1_InvalidMark
  have FI_InvalidMark := fun_mk (st := s_InvalidMark___init__) i3_InvalidMark i4_InvalidMark i5_InvalidMark
  have OX_InvalidMark : OexG K ebV C_InvalidMark := ⟨ebV_ok, ⟨_, _, _, _, [C_MarkupError], _, _, _, _, _, _, _, _, _, _, o1_InvalidMark⟩, X_InvalidMark.h8, X_InvalidMark.h9⟩
  have X_InvalidAttributes := clB_ok q1_InvalidAttributes
  have FI_InvalidAttributes := fun_mk (st := s_InvalidAttributes___init__) i3_InvalidAttributes i4_InvalidAttributes i5_InvalidAttributes
  have OX_InvalidAttributes : OexG K ebV C_InvalidAttributes := ⟨ebV_ok, ⟨_, _, _, _, [C_MarkupError], _, _, _, _, _, _, _, _, _, _, o1_InvalidAttributes⟩, X_InvalidAttributes.h8, X_InvalidAttributes.h9⟩
  have X_InvalidNode := clB_ok q1_InvalidNode
  have FI_InvalidNode := fun_mk (st := s_InvalidNode___init__) i3_InvalidNode i4_InvalidNode i5_InvalidNode
  have OX_InvalidNode : OexG K ebV C_InvalidNode := ⟨ebV_ok, ⟨_, _, _, _, [C_MarkupError], _, _, _, _, _, _, _, _, _, _, o1_InvalidNode⟩, X_InvalidNode.h8, X_InvalidNode.h9⟩
  have X_InvalidPath := clB_ok q1_InvalidPath
  have FI_InvalidPath := fun_mk (st := s_InvalidPath___init__) i3_InvalidPath i4_InvalidPath i5_InvalidPath
  have OX_InvalidPath : OexG K ebV C_InvalidPath := ⟨ebV_ok, ⟨_, _, _, _, [C_MarkupError], _, _, _, _, _, _, _, _, _, _, o1_InvalidPath⟩, X_InvalidPath.h8, X_InvalidPath.h9⟩
  have X_InvalidEvents := clB_ok q1_InvalidEvents
  have FI_InvalidEvents := fun_mk (st := s_InvalidEvents___init__) i3_InvalidEvents i4_InvalidEvents i5_InvalidEvents
  have OX_InvalidEvents : OexG K ebV C_InvalidEvents := ⟨ebV_ok, ⟨_, _, _, _, [C_MarkupError], _, _, _, _, _, _, _, _, _, _, o1_InvalidEvents⟩, X_InvalidEvents.h8, X_InvalidEvents.h9⟩
  have X_InvalidEdit := clB_ok q1_InvalidEdit
  have FI_InvalidEdit := fun_mk (st := s_InvalidEdit___init__) i3_InvalidEdit i4_InvalidEdit i5_InvalidEdit
  have OX_InvalidEdit : OexG K ebV C_InvalidEdit := ⟨ebV_ok, ⟨_, _, _, _, [C_MarkupError], _, _, _, _, _, _, _, _, _, _, o1_InvalidEdit⟩, X_InvalidEdit.h8, X_InvalidEdit.h9⟩
  have X_InvalidQuery := clB_ok q1_InvalidQuery
  have FI_InvalidQuery := fun_mk (st := s_InvalidQuery___init__) i3_InvalidQuery i4_InvalidQuery i5_InvalidQuery
  have OX_InvalidQuery : OexG K ebV C_InvalidQuery := ⟨ebV_ok, ⟨_, _, _, _, [C_MarkupError], _, _, _, _, _, _, _, _, _, _, o1_InvalidQuery⟩, X_InvalidQuery.h8, X_InvalidQuery.h9⟩
  have X_InvalidPlan := clB_ok q1_InvalidPlan
  have FI_InvalidPlan := fun_mk (st := s_InvalidPlan___init__) i3_InvalidPlan i4_InvalidPlan i5_InvalidPlan
  have OX_InvalidPlan : OexG K ebV C_InvalidPlan := ⟨ebV_ok, ⟨_, _, _, _, [C_MarkupError], _, _, _, _, _, _, _, _, _, _, o1_InvalidPlan⟩, X_InvalidPlan.h8, X_InvalidPlan.h9⟩
  have X_UnknownMark := clB_ok q1_UnknownMark
  have FI_UnknownMark := fun_mk (st := s_UnknownMark___init__) i3_UnknownMark i4_UnknownMark i5_UnknownMark
  have OX_UnknownMark : OexG K ebV C_UnknownMark := ⟨ebV_ok, ⟨_, _, _, _, [C_MarkupError], _, _, _, _, _, _, _, _, _, _, o1_UnknownMark⟩, X_UnknownMark.h8, X_UnknownMark.h9⟩
  have X_BadBinding := clB_ok q1_BadBinding
  have FI_BadBinding := fun_mk (st := s_BadBinding___init__) i3_BadBinding i4_BadBinding i5_BadBinding
  have OX_BadBinding : OexG K ebV C_BadBinding := ⟨ebV_ok, ⟨_, _, _, _, [C_MarkupError], _, _, _, _, _, _, _, _, _, _, o1_BadBinding⟩, X_BadBinding.h8, X_BadBinding.h9⟩
  have X_Unbound := clB_ok q1_Unbound
  have FI_Unbound := fun_mk (st := s_Unbound___init__) i3_Unbound i4_Unbound i5_Unbound
  have OX_Unbound : OexG K ebV C_Unbound := ⟨ebV_ok, ⟨_, _, _, _, [C_MarkupError], _, _, _, _, _, _, _, _, _, _, o1_Unbound⟩, X_Unbound.h8, X_Unbound.h9⟩
  have X_Repeated := clB_ok q1_Repeated
  have FI_Repeated := fun_mk (st := s_Repeated___init__) i3_Repeated i4_Repeated i5_Repeated
  have OX_Repeated : OexG K ebV C_Repeated := ⟨ebV_ok, ⟨_, _, _, _, [C_MarkupError], _, _, _, _, _, _, _, _, _, _, o1_Repeated⟩, X_Repeated.h8, X_Repeated.h9⟩
  have X_NoEntity := clB_ok q1_NoEntity
  have FI_NoEntity := fun_mk (st := s_NoEntity___init__) i3_NoEntity i4_NoEntity i5_NoEntity
  have OX_NoEntity : OexG K ebR C_NoEntity := ⟨ebR_ok, ⟨_, _, _, _, [C_MarkupStateError], _, _, _, _, _, _, _, _, _, _, o1_NoEntity⟩, X_NoEntity.h8, X_NoEntity.h9⟩
  have X_NotPlain := clB_ok q1_NotPlain
  have FI_NotPlain := fun_mk (st := s_NotPlain___init__) i3_NotPlain i4_NotPlain i5_NotPlain
  have OX_NotPlain : OexG K ebR C_NotPlain := ⟨ebR_ok, ⟨_, _, _, _, [C_MarkupStateError], _, _, _, _, _, _, _, _, _, _, o1_NotPlain⟩, X_NotPlain.h8, X_NotPlain.h9⟩
  have X_NotPossible := clB_ok q1_NotPossible
  have FI_NotPossible := fun_mk (st := s_NotPossible___init__) i3_NotPossible i4_NotPossible i5_NotPossible
  have OX_NotPossible : OexG K ebR C_NotPossible := ⟨ebR_ok, ⟨_, _, _, _, [C_MarkupStateError], _, _, _, _, _, _, _, _, _, _, o1_NotPossible⟩, X_NotPossible.h8, X_NotPossible.h9⟩
  have X_OutOfPlace := clB_ok q1_OutOfPlace
  have FI_OutOfPlace := fun_mk (st := s_OutOfPlace___init__) i3_OutOfPlace i4_OutOfPlace i5_OutOfPlace
  have OX_OutOfPlace : OexG K ebR C_OutOfPlace := ⟨ebR_ok, ⟨_, _, _, _, [C_MarkupStateError], _, _, _, _, _, _, _, _, _, _, o1_OutOfPlace⟩, X_OutOfPlace.h8, X_OutOfPlace.h9⟩
  have X_NothingToUndo := clB_ok q1_NothingToUndo
  have FI_NothingToUndo := fun_mk (st := s_NothingToUndo___init__) i3_NothingToUndo i4_NothingToUndo i5_NothingToUndo
  have OX_NothingToUndo : OexG K ebR C_NothingToUndo := ⟨ebR_ok, ⟨_, _, _, _, [C_MarkupStateError], _, _, _, _, _, _, _, _, _, _, o1_NothingToUndo⟩, X_NothingToUndo.h8, X_NothingToUndo.h9⟩
  have X_TooLarge := clB_ok q1_TooLarge
  have FI_TooLarge := fun_mk (st := s_TooLarge___init__) i3_TooLarge i4_TooLarge i5_TooLarge
  have OX_TooLarge : OexG K ebO C_TooLarge := ⟨ebO_ok, ⟨_, _, _, _, [C_LimitError], _, _, _, _, _, _, _, _, _, _, o1_TooLarge⟩, X_TooLarge.h8, X_TooLarge.h9⟩
  have T : Tx l.prog w K mg base := {
    d__law_mixed := ⟨_, _, F__law_mixed, PySem.W.mg_of X G a__law_mixed, B__law_mixed⟩
    d__law_stream := ⟨_, _, F__law_stream, PySem.W.mg_of X G a__law_stream, B__law_stream⟩
    d__law_draw := ⟨_, _, F__law_draw, PySem.W.mg_of X G a__law_draw, B__law_draw⟩
    d__law_pick := ⟨_, _, F__law_pick, PySem.W.mg_of X G a__law_pick, B__law_pick⟩
    d__law_made := ⟨_, _, F__law_made, PySem.W.mg_of X G a__law_made, B__law_made⟩
    d__law_kinds := ⟨_, _, F__law_kinds, PySem.W.mg_of X G a__law_kinds, B__law_kinds⟩
    d__law_bases := ⟨_, _, F__law_bases, PySem.W.mg_of X G a__law_bases, B__law_bases⟩
    d__law_fields := ⟨_, _, F__law_fields, PySem.W.mg_of X G a__law_fields, B__law_fields⟩
    d__law_right := ⟨_, _, F__law_right, PySem.W.mg_of X G a__law_right, B__law_right⟩
    n_isinstance := PySem.W.mg_none_of X G n_isinstance
    n_len := PySem.W.mg_none_of X G n_len
    n_int := PySem.W.mg_none_of X G n_int
    n_enumerate := PySem.W.mg_none_of X G n_enumerate
    n_range := PySem.W.mg_none_of X G n_range
    n_repr := PySem.W.mg_none_of X G n_repr
    n_ValueError := PySem.W.mg_none_of X G n_ValueError
    n_RuntimeError := PySem.W.mg_none_of X G n_RuntimeError
    n_OverflowError := PySem.W.mg_none_of X G n_OverflowError
    n_LookupError := PySem.W.mg_none_of X G n_LookupError
    n_NotImplementedError := PySem.W.mg_none_of X G n_NotImplementedError
    a_MarkupError := C_MarkupError
    m_MarkupError := PySem.W.mg_of X G b_MarkupError
    a_MarkupStateError := C_MarkupStateError
    m_MarkupStateError := PySem.W.mg_of X G b_MarkupStateError
    a_LimitError := C_LimitError
    m_LimitError := PySem.W.mg_of X G b_LimitError
    a_IllFormed := C_IllFormed
    i_IllFormed := I_IllFormed
    fd_IllFormed := _
    x_IllFormed := ⟨OX_IllFormed, PySem.W.mg_of X G b_IllFormed, i1_IllFormed, i2_IllFormed, ok_IllFormed___init__ BM_V FI_IllFormed OX_IllFormed (X_IllFormed.hf _ (by simp)), FI_IllFormed.binds (ps := ["self", "position"]) fun _ _ _ _ _ _ us hl => match us, hl with | [_, _], _ => rfl⟩
    f_IllFormed_position := X_IllFormed.hf _ (by simp)
    a_InvalidText := C_InvalidText
    i_InvalidText := I_InvalidText
    fd_InvalidText := _
    x_InvalidText := ⟨OX_InvalidText, PySem.W.mg_of X G b_InvalidText, i1_InvalidText, i2_InvalidText, ok_InvalidText___init__ BM_V FI_InvalidText OX_InvalidText (X_InvalidText.hf _ (by simp)), FI_InvalidText.binds (ps := ["self", "index"]) fun _ _ _ _ _ _ us hl => match us, hl with | [_, _], _ => rfl⟩
    f_InvalidText_index := X_InvalidText.hf _ (by simp)
    a_InvalidName := C_InvalidName
    i_InvalidName := I_InvalidName
    fd_InvalidName := _
    x_InvalidName := ⟨OX_InvalidName, PySem.W.mg_of X G b_InvalidName, i1_InvalidName, i2_InvalidName, ok_InvalidName___init__ BM_V FI_InvalidName OX_InvalidName (X_InvalidName.hf _ (by simp)), FI_InvalidName.binds (ps := ["self", "given"]) fun _ _ _ _ _ _ us hl => match us, hl with | [_, _], _ => rfl⟩
    f_InvalidName_given := X_InvalidName.hf _ (by simp)
    a_InvalidKind := C_InvalidKind
    i_InvalidKind := I_InvalidKind
    fd_InvalidKind := _
    x_InvalidKind := ⟨OX_InvalidKind, PySem.W.mg_of X G b_InvalidKind, i1_InvalidKind, i2_InvalidKind, ok_InvalidKind___init__ BM_V FI_InvalidKind OX_InvalidKind (X_InvalidKind.hf _ (by simp)), FI_InvalidKind.binds (ps := ["self", "kind"]) fun _ _ _ _ _ _ us hl => match us, hl with | [_, _], _ => rfl⟩
    f_InvalidKind_kind := X_InvalidKind.hf _ (by simp)
    a_InvalidNumber := C_InvalidNumber
    i_InvalidNumber := I_InvalidNumber
    fd_InvalidNumber := _
    x_InvalidNumber := ⟨OX_InvalidNumber, PySem.W.mg_of X G b_InvalidNumber, i1_InvalidNumber, i2_InvalidNumber, ok_InvalidNumber___init__ BM_V FI_InvalidNumber OX_InvalidNumber (X_InvalidNumber.hf _ (by simp)), FI_InvalidNumber.binds (ps := ["self", "number"]) fun _ _ _ _ _ _ us hl => match us, hl with | [_, _], _ => rfl⟩
    f_InvalidNumber_number := X_InvalidNumber.hf _ (by simp)
    a_InvalidPlace := C_InvalidPlace
    i_InvalidPlace := I_InvalidPlace
    fd_InvalidPlace := _
    x_InvalidPlace := ⟨OX_InvalidPlace, PySem.W.mg_of X G b_InvalidPlace, i1_InvalidPlace, i2_InvalidPlace, ok_InvalidPlace___init__ BM_V FI_InvalidPlace OX_InvalidPlace (X_InvalidPlace.hf _ (by simp)), FI_InvalidPlace.binds (ps := ["self", "given"]) fun _ _ _ _ _ _ us hl => match us, hl with | [_, _], _ => rfl⟩
    f_InvalidPlace_given := X_InvalidPlace.hf _ (by simp)
    a_InvalidMark := C_InvalidMark
    i_InvalidMark := I_InvalidMark
    fd_InvalidMark := _
    x_InvalidMark := ⟨OX_InvalidMark, PySem.W.mg_of X G b_InvalidMark, i1_InvalidMark, i2_InvalidMark, ok_InvalidMark___init__ BM_V FI_InvalidMark OX_InvalidMark (X_InvalidMark.hf _ (by simp)), FI_InvalidMark.binds (ps := ["self", "given"]) fun _ _ _ _ _ _ us hl => match us, hl with | [_, _], _ => rfl⟩
    f_InvalidMark_given := X_InvalidMark.hf _ (by simp)
    a_InvalidAttributes := C_InvalidAttributes
    i_InvalidAttributes := I_InvalidAttributes
    fd_InvalidAttributes := _
    x_InvalidAttributes := ⟨OX_InvalidAttributes, PySem.W.mg_of X G b_InvalidAttributes, i1_InvalidAttributes, i2_InvalidAttributes, ok_InvalidAttributes___init__ BM_V FI_InvalidAttributes OX_InvalidAttributes (X_InvalidAttributes.hf _ (by simp)), FI_InvalidAttributes.binds (ps := ["self", "index"]) fun _ _ _ _ _ _ us hl => match us, hl with | [_, _], _ => rfl⟩
    f_InvalidAttributes_index := X_InvalidAttributes.hf _ (by simp)
    a_InvalidNode := C_InvalidNode
    i_InvalidNode := I_InvalidNode
    fd_InvalidNode := _
    x_InvalidNode := ⟨OX_InvalidNode, PySem.W.mg_of X G b_InvalidNode, i1_InvalidNode, i2_InvalidNode, ok_InvalidNode___init__ BM_V FI_InvalidNode OX_InvalidNode (X_InvalidNode.hf _ (by simp)), FI_InvalidNode.binds (ps := ["self", "given"]) fun _ _ _ _ _ _ us hl => match us, hl with | [_, _], _ => rfl⟩
    f_InvalidNode_given := X_InvalidNode.hf _ (by simp)
    a_InvalidPath := C_InvalidPath
    i_InvalidPath := I_InvalidPath
    fd_InvalidPath := _
    x_InvalidPath := ⟨OX_InvalidPath, PySem.W.mg_of X G b_InvalidPath, i1_InvalidPath, i2_InvalidPath, ok_InvalidPath___init__ BM_V FI_InvalidPath OX_InvalidPath (X_InvalidPath.hf _ (by simp)), FI_InvalidPath.binds (ps := ["self", "given"]) fun _ _ _ _ _ _ us hl => match us, hl with | [_, _], _ => rfl⟩
    f_InvalidPath_given := X_InvalidPath.hf _ (by simp)
    a_InvalidEvents := C_InvalidEvents
    i_InvalidEvents := I_InvalidEvents
    fd_InvalidEvents := _
    x_InvalidEvents := ⟨OX_InvalidEvents, PySem.W.mg_of X G b_InvalidEvents, i1_InvalidEvents, i2_InvalidEvents, ok_InvalidEvents___init__ BM_V FI_InvalidEvents OX_InvalidEvents (X_InvalidEvents.hf _ (by simp)), FI_InvalidEvents.binds (ps := ["self", "index"]) fun _ _ _ _ _ _ us hl => match us, hl with | [_, _], _ => rfl⟩
    f_InvalidEvents_index := X_InvalidEvents.hf _ (by simp)
    a_InvalidEdit := C_InvalidEdit
    i_InvalidEdit := I_InvalidEdit
    fd_InvalidEdit := _
    x_InvalidEdit := ⟨OX_InvalidEdit, PySem.W.mg_of X G b_InvalidEdit, i1_InvalidEdit, i2_InvalidEdit, ok_InvalidEdit___init__ BM_V FI_InvalidEdit OX_InvalidEdit (X_InvalidEdit.hf _ (by simp)), FI_InvalidEdit.binds (ps := ["self", "index"]) fun _ _ _ _ _ _ us hl => match us, hl with | [_, _], _ => rfl⟩
    f_InvalidEdit_index := X_InvalidEdit.hf _ (by simp)
    a_InvalidQuery := C_InvalidQuery
    i_InvalidQuery := I_InvalidQuery
    fd_InvalidQuery := _
    x_InvalidQuery := ⟨OX_InvalidQuery, PySem.W.mg_of X G b_InvalidQuery, i1_InvalidQuery, i2_InvalidQuery, ok_InvalidQuery___init__ BM_V FI_InvalidQuery OX_InvalidQuery (X_InvalidQuery.hf _ (by simp)), FI_InvalidQuery.binds (ps := ["self", "position"]) fun _ _ _ _ _ _ us hl => match us, hl with | [_, _], _ => rfl⟩
    f_InvalidQuery_position := X_InvalidQuery.hf _ (by simp)
    a_InvalidPlan := C_InvalidPlan
    i_InvalidPlan := I_InvalidPlan
    fd_InvalidPlan := _
    x_InvalidPlan := ⟨OX_InvalidPlan, PySem.W.mg_of X G b_InvalidPlan, i1_InvalidPlan, i2_InvalidPlan, ok_InvalidPlan___init__ BM_V FI_InvalidPlan OX_InvalidPlan (X_InvalidPlan.hf _ (by simp)), FI_InvalidPlan.binds (ps := ["self", "index"]) fun _ _ _ _ _ _ us hl => match us, hl with | [_, _], _ => rfl⟩
    f_InvalidPlan_index := X_InvalidPlan.hf _ (by simp)
    a_UnknownMark := C_UnknownMark
    i_UnknownMark := I_UnknownMark
    fd_UnknownMark := _
    x_UnknownMark := ⟨OX_UnknownMark, PySem.W.mg_of X G b_UnknownMark, i1_UnknownMark, i2_UnknownMark, ok_UnknownMark___init__ BM_V FI_UnknownMark OX_UnknownMark (X_UnknownMark.hf _ (by simp)), FI_UnknownMark.binds (ps := ["self", "given"]) fun _ _ _ _ _ _ us hl => match us, hl with | [_, _], _ => rfl⟩
    f_UnknownMark_given := X_UnknownMark.hf _ (by simp)
    a_BadBinding := C_BadBinding
    i_BadBinding := I_BadBinding
    fd_BadBinding := _
    x_BadBinding := ⟨OX_BadBinding, PySem.W.mg_of X G b_BadBinding, i1_BadBinding, i2_BadBinding, ok_BadBinding___init__ BM_V FI_BadBinding OX_BadBinding (X_BadBinding.hf _ (by simp)) (X_BadBinding.hf _ (by simp)), FI_BadBinding.binds (ps := ["self", "spelling", "place"]) fun _ _ _ _ _ _ us hl => match us, hl with | [_, _, _], _ => rfl⟩
    f_BadBinding_spelling := X_BadBinding.hf _ (by simp)
    f_BadBinding_place := X_BadBinding.hf _ (by simp)
    a_Unbound := C_Unbound
    i_Unbound := I_Unbound
    fd_Unbound := _
    x_Unbound := ⟨OX_Unbound, PySem.W.mg_of X G b_Unbound, i1_Unbound, i2_Unbound, ok_Unbound___init__ BM_V FI_Unbound OX_Unbound (X_Unbound.hf _ (by simp)) (X_Unbound.hf _ (by simp)), FI_Unbound.binds (ps := ["self", "spelling", "place"]) fun _ _ _ _ _ _ us hl => match us, hl with | [_, _, _], _ => rfl⟩
    f_Unbound_spelling := X_Unbound.hf _ (by simp)
    f_Unbound_place := X_Unbound.hf _ (by simp)
    a_Repeated := C_Repeated
    i_Repeated := I_Repeated
    fd_Repeated := _
    x_Repeated := ⟨OX_Repeated, PySem.W.mg_of X G b_Repeated, i1_Repeated, i2_Repeated, ok_Repeated___init__ BM_V FI_Repeated OX_Repeated (X_Repeated.hf _ (by simp)) (X_Repeated.hf _ (by simp)), FI_Repeated.binds (ps := ["self", "spelling", "place"]) fun _ _ _ _ _ _ us hl => match us, hl with | [_, _, _], _ => rfl⟩
    f_Repeated_spelling := X_Repeated.hf _ (by simp)
    f_Repeated_place := X_Repeated.hf _ (by simp)
    a_NoEntity := C_NoEntity
    i_NoEntity := I_NoEntity
    fd_NoEntity := _
    x_NoEntity := ⟨OX_NoEntity, PySem.W.mg_of X G b_NoEntity, i1_NoEntity, i2_NoEntity, ok_NoEntity___init__ BM_R FI_NoEntity OX_NoEntity (X_NoEntity.hf _ (by simp)), FI_NoEntity.binds (ps := ["self", "given"]) fun _ _ _ _ _ _ us hl => match us, hl with | [_, _], _ => rfl⟩
    f_NoEntity_given := X_NoEntity.hf _ (by simp)
    a_NotPlain := C_NotPlain
    i_NotPlain := I_NotPlain
    fd_NotPlain := _
    x_NotPlain := ⟨OX_NotPlain, PySem.W.mg_of X G b_NotPlain, i1_NotPlain, i2_NotPlain, ok_NotPlain___init__ BM_R FI_NotPlain OX_NotPlain (X_NotPlain.hf _ (by simp)), FI_NotPlain.binds (ps := ["self", "given"]) fun _ _ _ _ _ _ us hl => match us, hl with | [_, _], _ => rfl⟩
    f_NotPlain_given := X_NotPlain.hf _ (by simp)
    a_NotPossible := C_NotPossible
    i_NotPossible := I_NotPossible
    fd_NotPossible := _
    x_NotPossible := ⟨OX_NotPossible, PySem.W.mg_of X G b_NotPossible, i1_NotPossible, i2_NotPossible, ok_NotPossible___init__ BM_R FI_NotPossible OX_NotPossible (X_NotPossible.hf _ (by simp)), FI_NotPossible.binds (ps := ["self", "given"]) fun _ _ _ _ _ _ us hl => match us, hl with | [_, _], _ => rfl⟩
    f_NotPossible_given := X_NotPossible.hf _ (by simp)
    a_OutOfPlace := C_OutOfPlace
    i_OutOfPlace := I_OutOfPlace
    fd_OutOfPlace := _
    x_OutOfPlace := ⟨OX_OutOfPlace, PySem.W.mg_of X G b_OutOfPlace, i1_OutOfPlace, i2_OutOfPlace, ok_OutOfPlace___init__ BM_R FI_OutOfPlace OX_OutOfPlace (X_OutOfPlace.hf _ (by simp)), FI_OutOfPlace.binds (ps := ["self", "kind"]) fun _ _ _ _ _ _ us hl => match us, hl with | [_, _], _ => rfl⟩
    f_OutOfPlace_kind := X_OutOfPlace.hf _ (by simp)
    a_NothingToUndo := C_NothingToUndo
    i_NothingToUndo := I_NothingToUndo
    fd_NothingToUndo := _
    x_NothingToUndo := ⟨OX_NothingToUndo, PySem.W.mg_of X G b_NothingToUndo, i1_NothingToUndo, i2_NothingToUndo, ok_NothingToUndo___init__ BM_R FI_NothingToUndo OX_NothingToUndo , FI_NothingToUndo.binds (ps := ["self"]) fun _ _ _ _ _ _ us hl => match us, hl with | [_], _ => rfl⟩
    a_TooLarge := C_TooLarge
    i_TooLarge := I_TooLarge
    fd_TooLarge := _
    x_TooLarge := ⟨OX_TooLarge, PySem.W.mg_of X G b_TooLarge, i1_TooLarge, i2_TooLarge, ok_TooLarge___init__ BM_O FI_TooLarge OX_TooLarge (X_TooLarge.hf _ (by simp)) (X_TooLarge.hf _ (by simp)), FI_TooLarge.binds (ps := ["self", "limit", "position"]) fun _ _ _ _ _ _ us hl => match us, hl with | [_, _, _], _ => rfl⟩
    f_TooLarge_limit := X_TooLarge.hf _ (by simp)
    f_TooLarge_position := X_TooLarge.hf _ (by simp)
    xc := fun C hC => by
      simp only [List.mem_cons, List.not_mem_nil, or_false] at hC
      rcases hC with rfl | rfl | rfl | rfl | rfl | rfl | rfl | rfl | rfl | rfl | rfl | rfl | rfl | rfl | rfl | rfl | rfl | rfl | rfl | rfl | rfl | rfl | rfl | rfl
      · exact X_IllFormed.xc u1 u2
      · exact X_InvalidText.xc u1 u2
      · exact X_InvalidName.xc u1 u2
      · exact X_InvalidKind.xc u1 u2
      · exact X_InvalidNumber.xc u1 u2
      · exact X_InvalidPlace.xc u1 u2
      · exact X_InvalidMark.xc u1 u2
      · exact X_InvalidAttributes.xc u1 u2
      · exact X_InvalidNode.xc u1 u2
      · exact X_InvalidPath.xc u1 u2
      · exact X_InvalidEvents.xc u1 u2
      · exact X_InvalidEdit.xc u1 u2
      · exact X_InvalidQuery.xc u1 u2
      · exact X_InvalidPlan.xc u1 u2
      · exact X_UnknownMark.xc u1 u2
      · exact X_BadBinding.xc u1 u2
      · exact X_Unbound.xc u1 u2
      · exact X_Repeated.xc u1 u2
      · exact X_NoEntity.xc u1 u2
      · exact X_NotPlain.xc u1 u2
      · exact X_NotPossible.xc u1 u2
      · exact X_OutOfPlace.xc u1 u2
      · exact X_NothingToUndo.xc u1 u2
      · exact X_TooLarge.xc u1 u2
    kit := fun i j C D hi hj => kitL_ok q1_kit hi (by rw [List.getElem?_map, hj]; rfl)
    kitB := fun i j C u hi hj => kitL_ok q1_kitB hi hj }
  have G__law_mixed := ok__law_mixed T
  have G__law_stream := ok__law_stream T G__law_mixed
  have G__law_draw := ok__law_draw T G__law_mixed
  have G__law_pick := ok__law_pick T G__law_draw
  have G__law_made := ok__law_made T
  have G__law_kinds := ok__law_kinds T
  have G__law_bases := ok__law_bases T
  have G__law_fields := ok__law_fields T
  have G__law_right := ok__law_right T G__law_made G__law_fields G__law_kinds G__law_bases
  exact ok_law T F_law G__law_stream G__law_pick G__law_right
end K1
open PySem PySem.W PyProof.Rows
set_option maxHeartbeats 0
theorem PySem.Challenge.cw_markstream_k01_error_classes_holds : PySem.Challenge.rw_markstream_k01_error_classes.Holds := by
  w_on; o_law; k_head; (case hw => w_witness2)
  k_fill
  refine Mx.walkG (l := PySem.Challenge.rw_markstream_k01_error_classes) (n := 63) (k := 10) (x := "script") (CX := fun _ => L2.CX0) rfl (by decide) rfl ⟨⟨rfl, by decide, by decide⟩, rfl⟩ (fun w h Y => by first | exact PySem.W.km_in_of Y | exact PySem.W.kIn_of Y) ?F (fun _ _ _ _ _ z => z)
  case F =>
    rintro w mg mb fa h ⟨ls, mean, Tp⟩ Y KX G hmg
    refine' K1.all_mk KX G hmg ?a__law_mixed ?l__law_mixed ?c__law_mixed ?k__law_mixed ?a__law_stream ?l__law_stream ?c__law_stream ?k__law_stream ?a__law_draw ?l__law_draw ?c__law_draw ?k__law_draw ?a__law_pick ?l__law_pick ?c__law_pick ?k__law_pick ?a__law_made ?l__law_made ?c__law_made ?k__law_made ?a__law_kinds ?l__law_kinds ?c__law_kinds ?k__law_kinds ?a__law_bases ?l__law_bases ?c__law_bases ?k__law_bases ?a__law_fields ?l__law_fields ?c__law_fields ?k__law_fields ?a__law_right ?l__law_right ?c__law_right ?k__law_right ?a_law ?l_law ?c_law ?k_law ?n_isinstance ?n_len ?n_int ?n_enumerate ?n_range ?n_repr ?n_ValueError ?n_RuntimeError ?n_OverflowError ?n_LookupError ?n_NotImplementedError ?b_MarkupError ?b_MarkupStateError ?b_LimitError ?b_IllFormed ?b_InvalidText ?b_InvalidName ?b_InvalidKind ?b_InvalidNumber ?b_InvalidPlace ?b_InvalidMark ?b_InvalidAttributes ?b_InvalidNode ?b_InvalidPath ?b_InvalidEvents ?b_InvalidEdit ?b_InvalidQuery ?b_InvalidPlan ?b_UnknownMark ?b_BadBinding ?b_Unbound ?b_Repeated ?b_NoEntity ?b_NotPlain ?b_NotPossible ?b_OutOfPlace ?b_NothingToUndo ?b_TooLarge ?m1_MarkupError ?m2_MarkupError ?m3_MarkupError ?m1_MarkupStateError ?m2_MarkupStateError ?m3_MarkupStateError ?m1_LimitError ?m2_LimitError ?m3_LimitError ?u1 ?u2 ?o1_IllFormed ?i1_IllFormed ?i2_IllFormed ?i3_IllFormed ?i4_IllFormed ?i5_IllFormed ?q1_IllFormed ?o1_InvalidText ?i1_InvalidText ?i2_InvalidText ?i3_InvalidText ?i4_InvalidText ?i5_InvalidText ?q1_InvalidText ?o1_InvalidName ?i1_InvalidName ?i2_InvalidName ?i3_InvalidName ?i4_InvalidName ?i5_InvalidName ?q1_InvalidName ?o1_InvalidKind ?i1_InvalidKind ?i2_InvalidKind ?i3_InvalidKind ?i4_InvalidKind ?i5_InvalidKind ?q1_InvalidKind ?o1_InvalidNumber ?i1_InvalidNumber ?i2_InvalidNumber ?i3_InvalidNumber ?i4_InvalidNumber ?i5_InvalidNumber ?q1_InvalidNumber ?o1_InvalidPlace ?i1_InvalidPlace ?i2_InvalidPlace ?i3_InvalidPlace ?i4_InvalidPlace ?i5_InvalidPlace ?q1_InvalidPlace ?o1_InvalidMark ?i1_InvalidMark ?i2_InvalidMark ?i3_InvalidMark ?i4_InvalidMark ?i5_InvalidMark ?q1_InvalidMark ?o1_InvalidAttributes ?i1_InvalidAttributes ?i2_InvalidAttributes ?i3_InvalidAttributes ?i4_InvalidAttributes ?i5_InvalidAttributes ?q1_InvalidAttributes ?o1_InvalidNode ?i1_InvalidNode ?i2_InvalidNode ?i3_InvalidNode ?i4_InvalidNode ?i5_InvalidNode ?q1_InvalidNode ?o1_InvalidPath ?i1_InvalidPath ?i2_InvalidPath ?i3_InvalidPath ?i4_InvalidPath ?i5_InvalidPath ?q1_InvalidPath ?o1_InvalidEvents ?i1_InvalidEvents ?i2_InvalidEvents ?i3_InvalidEvents ?i4_InvalidEvents ?i5_InvalidEvents ?q1_InvalidEvents ?o1_InvalidEdit ?i1_InvalidEdit ?i2_InvalidEdit ?i3_InvalidEdit ?i4_InvalidEdit ?i5_InvalidEdit ?q1_InvalidEdit ?o1_InvalidQuery ?i1_InvalidQuery ?i2_InvalidQuery ?i3_InvalidQuery ?i4_InvalidQuery ?i5_InvalidQuery ?q1_InvalidQuery ?o1_InvalidPlan ?i1_InvalidPlan ?i2_InvalidPlan ?i3_InvalidPlan ?i4_InvalidPlan ?i5_InvalidPlan ?q1_InvalidPlan ?o1_UnknownMark ?i1_UnknownMark ?i2_UnknownMark ?i3_UnknownMark ?i4_UnknownMark ?i5_UnknownMark ?q1_UnknownMark ?o1_BadBinding ?i1_BadBinding ?i2_BadBinding ?i3_BadBinding ?i4_BadBinding ?i5_BadBinding ?q1_BadBinding ?o1_Unbound ?i1_Unbound ?i2_Unbound ?i3_Unbound ?i4_Unbound ?i5_Unbound ?q1_Unbound ?o1_Repeated ?i1_Repeated ?i2_Repeated ?i3_Repeated ?i4_Repeated ?i5_Repeated ?q1_Repeated ?o1_NoEntity ?i1_NoEntity ?i2_NoEntity ?i3_NoEntity ?i4_NoEntity ?i5_NoEntity ?q1_NoEntity ?o1_NotPlain ?i1_NotPlain ?i2_NotPlain ?i3_NotPlain ?i4_NotPlain ?i5_NotPlain ?q1_NotPlain ?o1_NotPossible ?i1_NotPossible ?i2_NotPossible ?i3_NotPossible ?i4_NotPossible ?i5_NotPossible ?q1_NotPossible ?o1_OutOfPlace ?i1_OutOfPlace ?i2_OutOfPlace ?i3_OutOfPlace ?i4_OutOfPlace ?i5_OutOfPlace ?q1_OutOfPlace ?o1_NothingToUndo ?i1_NothingToUndo ?i2_NothingToUndo ?i3_NothingToUndo ?i4_NothingToUndo ?i5_NothingToUndo ?q1_NothingToUndo ?o1_TooLarge ?i1_TooLarge ?i2_TooLarge ?i3_TooLarge ?i4_TooLarge ?i5_TooLarge ?q1_TooLarge ?q1_kit ?q1_kitB
    (case a__law_mixed => k_is)
    (case l__law_mixed => k_is)
    (case c__law_mixed => k_is)
    (case k__law_mixed => k_is)
    (case a__law_stream => k_is)
    (case l__law_stream => k_is)
    (case c__law_stream => k_is)
    (case k__law_stream => k_is)
    (case a__law_draw => k_is)
    (case l__law_draw => k_is)
    (case c__law_draw => k_is)
    (case k__law_draw => k_is)
    (case a__law_pick => k_is)
    (case l__law_pick => k_is)
    (case c__law_pick => k_is)
    (case k__law_pick => k_is)
    (case a__law_made => k_is)
    (case l__law_made => k_is)
    (case c__law_made => k_is)
    (case k__law_made => k_is)
    (case a__law_kinds => k_is)
    (case l__law_kinds => k_is)
    (case c__law_kinds => k_is)
    (case k__law_kinds => k_is)
    (case a__law_bases => k_is)
    (case l__law_bases => k_is)
    (case c__law_bases => k_is)
    (case k__law_bases => k_is)
    (case a__law_fields => k_is)
    (case l__law_fields => k_is)
    (case c__law_fields => k_is)
    (case k__law_fields => k_is)
    (case a__law_right => k_is)
    (case l__law_right => k_is)
    (case c__law_right => k_is)
    (case k__law_right => k_is)
    (case a_law => k_is)
    (case l_law => k_is)
    (case c_law => k_is)
    (case k_law => k_is)
    (case n_isinstance => k_is)
    (case n_len => k_is)
    (case n_int => k_is)
    (case n_enumerate => k_is)
    (case n_range => k_is)
    (case n_repr => k_is)
    (case n_ValueError => k_is)
    (case n_RuntimeError => k_is)
    (case n_OverflowError => k_is)
    (case n_LookupError => k_is)
    (case n_NotImplementedError => k_is)
    (case b_MarkupError => k_is)
    (case b_MarkupStateError => k_is)
    (case b_LimitError => k_is)
    (case b_IllFormed => k_is)
    (case b_InvalidText => k_is)
    (case b_InvalidName => k_is)
    (case b_InvalidKind => k_is)
    (case b_InvalidNumber => k_is)
    (case b_InvalidPlace => k_is)
    (case b_InvalidMark => k_is)
    (case b_InvalidAttributes => k_is)
    (case b_InvalidNode => k_is)
    (case b_InvalidPath => k_is)
    (case b_InvalidEvents => k_is)
    (case b_InvalidEdit => k_is)
    (case b_InvalidQuery => k_is)
    (case b_InvalidPlan => k_is)
    (case b_UnknownMark => k_is)
    (case b_BadBinding => k_is)
    (case b_Unbound => k_is)
    (case b_Repeated => k_is)
    (case b_NoEntity => k_is)
    (case b_NotPlain => k_is)
    (case b_NotPossible => k_is)
    (case b_OutOfPlace => k_is)
    (case b_NothingToUndo => k_is)
    (case b_TooLarge => k_is)
    (case m1_MarkupError => k_is)
    (case m2_MarkupError => k_is)
    (case m3_MarkupError => k_is)
    (case m1_MarkupStateError => k_is)
    (case m2_MarkupStateError => k_is)
    (case m3_MarkupStateError => k_is)
    (case m1_LimitError => k_is)
    (case m2_LimitError => k_is)
    (case m3_LimitError => k_is)
    (case u1 => k_is)
    (case u2 => k_is)
    (case o1_IllFormed => k_is)
    (case i1_IllFormed => k_is)
    (case i2_IllFormed => k_is)
    (case i3_IllFormed => k_is)
    (case i4_IllFormed => k_is)
    (case i5_IllFormed => k_is)
    (case q1_IllFormed => kernel_rfl)
    (case o1_InvalidText => k_is)
    (case i1_InvalidText => k_is)
    (case i2_InvalidText => k_is)
    (case i3_InvalidText => k_is)
    (case i4_InvalidText => k_is)
    (case i5_InvalidText => k_is)
    (case q1_InvalidText => kernel_rfl)
    (case o1_InvalidName => k_is)
    (case i1_InvalidName => k_is)
    (case i2_InvalidName => k_is)
    (case i3_InvalidName => k_is)
    (case i4_InvalidName => k_is)
    (case i5_InvalidName => k_is)
    (case q1_InvalidName => kernel_rfl)
    (case o1_InvalidKind => k_is)
    (case i1_InvalidKind => k_is)
    (case i2_InvalidKind => k_is)
    (case i3_InvalidKind => k_is)
    (case i4_InvalidKind => k_is)
    (case i5_InvalidKind => k_is)
    (case q1_InvalidKind => kernel_rfl)
    (case o1_InvalidNumber => k_is)
    (case i1_InvalidNumber => k_is)
    (case i2_InvalidNumber => k_is)
    (case i3_InvalidNumber => k_is)
    (case i4_InvalidNumber => k_is)
    (case i5_InvalidNumber => k_is)
    (case q1_InvalidNumber => kernel_rfl)
    (case o1_InvalidPlace => k_is)
    (case i1_InvalidPlace => k_is)
    (case i2_InvalidPlace => k_is)
    (case i3_InvalidPlace => k_is)
    (case i4_InvalidPlace => k_is)
    (case i5_InvalidPlace => k_is)
    (case q1_InvalidPlace => kernel_rfl)
    (case o1_InvalidMark => k_is)
    (case i1_InvalidMark => k_is)
    (case i2_InvalidMark => k_is)
    (case i3_InvalidMark => k_is)
    (case i4_InvalidMark => k_is)
    (case i5_InvalidMark => k_is)
    (case q1_InvalidMark => kernel_rfl)
    (case o1_InvalidAttributes => k_is)
    (case i1_InvalidAttributes => k_is)
    (case i2_InvalidAttributes => k_is)
    (case i3_InvalidAttributes => k_is)
    (case i4_InvalidAttributes => k_is)
    (case i5_InvalidAttributes => k_is)
    (case q1_InvalidAttributes => kernel_rfl)
    (case o1_InvalidNode => k_is)
    (case i1_InvalidNode => k_is)
    (case i2_InvalidNode => k_is)
    (case i3_InvalidNode => k_is)
    (case i4_InvalidNode => k_is)
    (case i5_InvalidNode => k_is)
    (case q1_InvalidNode => kernel_rfl)
    (case o1_InvalidPath => k_is)
    (case i1_InvalidPath => k_is)
    (case i2_InvalidPath => k_is)
    (case i3_InvalidPath => k_is)
    (case i4_InvalidPath => k_is)
    (case i5_InvalidPath => k_is)
    (case q1_InvalidPath => kernel_rfl)
    (case o1_InvalidEvents => k_is)
    (case i1_InvalidEvents => k_is)
    (case i2_InvalidEvents => k_is)
    (case i3_InvalidEvents => k_is)
    (case i4_InvalidEvents => k_is)
    (case i5_InvalidEvents => k_is)
    (case q1_InvalidEvents => kernel_rfl)
    (case o1_InvalidEdit => k_is)
    (case i1_InvalidEdit => k_is)
    (case i2_InvalidEdit => k_is)
    (case i3_InvalidEdit => k_is)
    (case i4_InvalidEdit => k_is)
    (case i5_InvalidEdit => k_is)
    (case q1_InvalidEdit => kernel_rfl)
    (case o1_InvalidQuery => k_is)
    (case i1_InvalidQuery => k_is)
    (case i2_InvalidQuery => k_is)
    (case i3_InvalidQuery => k_is)
    (case i4_InvalidQuery => k_is)
    (case i5_InvalidQuery => k_is)
    (case q1_InvalidQuery => kernel_rfl)
    (case o1_InvalidPlan => k_is)
    (case i1_InvalidPlan => k_is)
    (case i2_InvalidPlan => k_is)
    (case i3_InvalidPlan => k_is)
    (case i4_InvalidPlan => k_is)
    (case i5_InvalidPlan => k_is)
    (case q1_InvalidPlan => kernel_rfl)
    (case o1_UnknownMark => k_is)
    (case i1_UnknownMark => k_is)
    (case i2_UnknownMark => k_is)
    (case i3_UnknownMark => k_is)
    (case i4_UnknownMark => k_is)
    (case i5_UnknownMark => k_is)
    (case q1_UnknownMark => kernel_rfl)
    (case o1_BadBinding => k_is)
    (case i1_BadBinding => k_is)
    (case i2_BadBinding => k_is)
    (case i3_BadBinding => k_is)
    (case i4_BadBinding => k_is)
    (case i5_BadBinding => k_is)
    (case q1_BadBinding => kernel_rfl)
    (case o1_Unbound => k_is)
    (case i1_Unbound => k_is)
    (case i2_Unbound => k_is)
    (case i3_Unbound => k_is)
    (case i4_Unbound => k_is)
    (case i5_Unbound => k_is)
    (case q1_Unbound => kernel_rfl)
    (case o1_Repeated => k_is)
    (case i1_Repeated => k_is)
    (case i2_Repeated => k_is)
    (case i3_Repeated => k_is)
    (case i4_Repeated => k_is)
    (case i5_Repeated => k_is)
    (case q1_Repeated => kernel_rfl)
    (case o1_NoEntity => k_is)
    (case i1_NoEntity => k_is)
    (case i2_NoEntity => k_is)
    (case i3_NoEntity => k_is)
    (case i4_NoEntity => k_is)
    (case i5_NoEntity => k_is)
    (case q1_NoEntity => kernel_rfl)
    (case o1_NotPlain => k_is)
    (case i1_NotPlain => k_is)
    (case i2_NotPlain => k_is)
    (case i3_NotPlain => k_is)
    (case i4_NotPlain => k_is)
    (case i5_NotPlain => k_is)
    (case q1_NotPlain => kernel_rfl)
    (case o1_NotPossible => k_is)
    (case i1_NotPossible => k_is)
    (case i2_NotPossible => k_is)
    (case i3_NotPossible => k_is)
    (case i4_NotPossible => k_is)
    (case i5_NotPossible => k_is)
    (case q1_NotPossible => kernel_rfl)
    (case o1_OutOfPlace => k_is)
    (case i1_OutOfPlace => k_is)
    (case i2_OutOfPlace => k_is)
    (case i3_OutOfPlace => k_is)
    (case i4_OutOfPlace => k_is)
    (case i5_OutOfPlace => k_is)
    (case q1_OutOfPlace => kernel_rfl)
    (case o1_NothingToUndo => k_is)
    (case i1_NothingToUndo => k_is)
    (case i2_NothingToUndo => k_is)
    (case i3_NothingToUndo => k_is)
    (case i4_NothingToUndo => k_is)
    (case i5_NothingToUndo => k_is)
    (case q1_NothingToUndo => kernel_rfl)
    (case o1_TooLarge => k_is)
    (case i1_TooLarge => k_is)
    (case i2_TooLarge => k_is)
    (case i3_TooLarge => k_is)
    (case i4_TooLarge => k_is)
    (case i5_TooLarge => k_is)
    (case q1_TooLarge => kernel_rfl)
    (case q1_kit => kernel_rfl)
    (case q1_kitB => kernel_rfl)
