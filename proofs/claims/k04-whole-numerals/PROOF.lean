import PyProof.Rows.All
import Wide.All
import OpenK.AllK
import Wide.FinOn
import HandS.ForMost
import HandS.ForExc
import HandS.Lambda
import HandS.IsInst
import HandS.Defaults
import HandS.ExcInit
import HandS.TryMany
import HandS.StrMore
import PyProof.ReprRoads
import PyProof.Draws
import KE.KExcIs
import HandS.EndTab
import HandS.Walk
import HandS.BoundDict
import HandS.Small
import KE.GoesMore
import HandS.HeadHook2
import PySem.Challenge.RW_markstream_k04_whole_numerals
set_option Elab.async false
set_option linter.all false
set_option maxRecDepth 100000
set_option maxHeartbeats 4000000
namespace Mx
open PySem PySem.Spec PyProof.Rows L2

/-! ### promises that may lean on an empty list of guards (repr) -/
structure RmG (k : Nat) (A : Around) : Prop where
  r : Room k A
  g : A.guards = some []
theorem RmG.mono {j k : Nat} {A : Around} (h : RmG k A) (l : j ≤ k) : RmG j A := ⟨h.r.mono l, h.g⟩
theorem RmG.deeper {k : Nat} {A : Around} (h : RmG (k + 1) A) (env : Env) : RmG k (A.deeper env) := ⟨h.r.deeper env, h.g⟩

structure FnG (P : Program) (w : World) (K : PySem.W.Frag) (mg : Str → Option Value) (base : Heap) (CX : CXT) (k : Nat) (f : Addr) (fd : FuncData) (ps : List Str) (sp : Sp) : Prop where
  len : ∀ vs H Q E, sp vs H Q E → vs.length = ps.length
  run : ∀ (A : Around) (outer : List Env) (s : Shared) (H : Hp) (args : Args) (us : List Value) (vs : List V) (Q : VK) (E : XK),
    RmG k A → Env0 P w K mg base A outer s H → BindsTo s fd args (ps.zip us) → Vals vs us → sp vs H Q E →
    codeAny (model P w) A (.call (.ref f) args) (CR CX outer P w H s Q E) s
theorem FnG.of {P : Program} {w : World} {K : PySem.W.Frag} {mg : Str → Option Value} {base : Heap} {CX : CXT} {j k : Nat} {f : Addr} {fd : FuncData} {ps : List Str} {sp : Sp}
    (F : FnOk P w K mg base CX j f fd ps sp) (h : j ≤ k) : FnG P w K mg base CX k f fd ps sp :=
  ⟨F.len, fun A o s H as us vs Q E hr => F.run A o s H as us vs Q E (hr.r.mono h)⟩
theorem FnG.mono {P : Program} {w : World} {K : PySem.W.Frag} {mg : Str → Option Value} {base : Heap} {CX : CXT} {j k : Nat} {f : Addr} {fd : FuncData} {ps : List Str} {sp : Sp}
    (F : FnG P w K mg base CX j f fd ps sp) (h : j ≤ k) : FnG P w K mg base CX k f fd ps sp :=
  ⟨F.len, fun A o s H as us vs Q E hr => F.run A o s H as us vs Q E (hr.mono h)⟩

section
variable {X : Cx} {CX : CXT} {k : Nat} {f C : Addr} {fd : FuncData} {ps ks : List Str} {sp : Sp} {dvs : List V} {ds : List Value} {E : XK} {x m : Str} {p pos apos : Pos} {e o : Expr} {es : List Expr} {kws : List Keyword} {ta : TE} {t tk : TA}
  {g : List Value → List Value → List Value} {gV : List V → List V → List V}
/-- the answer of a callee's run, for the caller -/
theorem back {pins : List (Addr × Obj)} {σ : L2.St} {H : Hp} {s : Shared} {Q : VK} (hx : Passes CX X E) (I : Inv X pins σ H s) :
    ∀ (r : Result) (s' : Shared), CR CX X.stack X.prog X.w H s Q E r s' → (match r with | .ok (.ret u) => EP X pins σ Q u s' | .ok _ => False | .error e => X.xe e s')
  | .error _, _, h => hx _ _ _ _ _ _ I h
  | .ok (.ret _), _, h => I.after h
  | .ok .next, _, h => h
  | .ok .brk, _, h => h
  | .ok .cont, _, h => h
theorem runKW {pins : List (Addr × Obj)} {σ : L2.St} {H : Hp} {s : Shared} {Q : VK} {us ws : List Value} {vs zs : List V} (F : FnG X.prog X.w X.K X.mg X.base CX k f fd ps sp)
    (hr : RmG k X.A) (hb : KBinds X.K fd ps ks g gV) (hx : Passes CX X E) (I : Inv X pins σ H s) (r : Vals vs us) (rz : Vals zs ws) (h : sp (gV vs zs) H Q E) :
    wpAny (model X.prog X.w) X.A (call (.ref f) us (ks.zip ws)) (EP X pins σ Q) X.xe s := by
  have r2 := hb.rel r rz
  have hl : (g us ws).length = ps.length := r2.length.symm.trans (F.len _ _ _ _ h)
  refine wpAny_call (codeAny_mono (F.run _ _ _ _ _ _ _ _ _ hr I.env0 (hb.to s us ws I.kIn hl) r2 h) fun q s' hq => ?_)
  exact back hx I q s' hq
theorem runPos {pins : List (Addr × Obj)} {σ : L2.St} {H : Hp} {s : Shared} {Q : VK} {us : List Value} {vs : List V} (F : FnG X.prog X.w X.K X.mg X.base CX k f fd ps sp)
    (hr : RmG k X.A) (hb : Binds X.K fd ps ds) (hd : Vals dvs ds) (hx : Passes CX X E) (I : Inv X pins σ H s) (r : Vals vs us) (h : sp (vs ++ dvs) H Q E) :
    wpAny (model X.prog X.w) X.A (call (.ref f) us) (EP X pins σ Q) X.xe s := by
  have r2 : Vals (vs ++ dvs) (us ++ ds) := r.append hd
  have hl : (us ++ ds).length = ps.length := r2.length.symm.trans (F.len _ _ _ _ h)
  refine wpAny_call (codeAny_mono (F.run _ _ _ _ _ _ _ _ _ hr I.env0 (hb s us I.kIn hl) r2 h) fun q s' hq => ?_)
  exact back hx I q s' hq
/-- f(e, ..) of such a def -/
theorem pg_call (F : FnG X.prog X.w X.K X.mg X.base CX k f fd ps sp) (hr : RmG k X.A) (hg : Gl X x) (hm : X.mg x = some (.ref f)) (hk : PySem.W.keepIn X.K (.ref f) = true)
    (hb : Binds X.K fd ps ds) (hd : Vals dvs ds) (hx : Passes CX X E) (ha : PA X (e :: es) t) (hdb : (x == ("__debug__" : Str)) = false := by decide)
    (he : starEach (e :: es) X.env = (false, eval e X.env) :: starEach es X.env := by rfl) (hpl : (backTo pos (starEach es X.env)).any (·.1) = false := by rfl) :
    PE X (.Call (.Name x p) (e :: es) [] pos) (tCall sp dvs E t) :=
  ⟨fun pins s σ H Q I h => wpAny_Call_Name_kw (ld_glob I hg hm (PySem.W.callWith_K (h₀ := X.base) I.ok.mod.kin hk
    (thn (ha.run pos pins s σ H _ I h) fun us s1 ⟨vs, H1, I1, r, q⟩ => ⟨I1.kIn, runPos F hr hb hd hx I1 r q⟩) he hpl) hdb)⟩
theorem pg_call0 (F : FnG X.prog X.w X.K X.mg X.base CX k f fd ps sp) (hr : RmG k X.A) (hg : Gl X x) (hm : X.mg x = some (.ref f)) (hk : PySem.W.keepIn X.K (.ref f) = true)
    (hb : Binds X.K fd ps ds) (hd : Vals dvs ds) (hx : Passes CX X E) (hdb : (x == ("__debug__" : Str)) = false := by decide) : PE X (.Call (.Name x p) [] [] pos) (tCall sp dvs E tNil) :=
  ⟨fun pins s σ H Q I h => wpAny_Call_Name_kw (ld_glob I hg hm (PySem.W.callWith_K0 I.kIn hk (runPos (us := []) F hr hb hd hx I .nil h)) hdb)⟩
/-- f(k = v, ..), no positional argument -/
theorem pe_kw0 (F : FnOk X.prog X.w X.K X.mg X.base CX k f fd ps sp) (hr : Room k X.A) (hg : Gl X x) (hm : X.mg x = some (.ref f)) (hk : PySem.W.keepIn X.K (.ref f) = true)
    (hb : KBinds X.K fd ps ks g gV) (hx : Passes CX X E) (hkw : PK X kws tk) (hall : (backToKw pos (keywordEach kws X.env)).all (·.1.isSome) = true := by rfl)
    (hks : (backToKw pos (keywordEach kws X.env)).filterMap (·.1) = ks := by rfl) (hdb : (x == ("__debug__" : Str)) = false := by decide)
    (hpl : ((backTo pos (starEach [] X.env)).any (·.1) || (backToKw pos (keywordEach kws X.env)).any (·.1.isNone)) = false := by rfl) :
    PE X (.Call (.Name x p) [] kws pos) (tCallK sp gV E tNil tk) :=
  ⟨fun pins s σ H Q I h => wpAny_Call_Name_kw (ld_glob I hg hm (PySem.W.callWith_KW0 (h₀ := X.base) I.ok.mod.kin hk hall
    (thn (hkw.run pos pins s σ H _ I h) fun ws s1 ⟨zs, H1, I1, rz, q⟩ => ⟨I1.kIn, by rw [hks]; exact run_fnk F hr hb hx I1 .nil rz q⟩) hpl) hdb)⟩
end

section
variable {P : Program} {w : World} {K : PySem.W.Frag} {mg : Str → Option Value} {base : Heap}
/-- a def by its body, with the guards told -/
theorem okG {CX : CXT} {x qual : Str} {st : Stmt} {f : Addr} {fd : FuncData} {N ps : List Str} {k : Nat} {sp : Sp} (F : Fun K x qual st f fd) (S : FnScope N ps (defScope st)) (len : ∀ vs H Q E, sp vs H Q E → vs.length = ps.length)
    (hbody : ∀ (cdv : Value) (A : Around) (outer : List Env) (s : Shared) (H : Hp) (vs : List V) (Q : VK) (E : XK), RmG k (A.deeper (envOfC qual (defScope st) s.heap.objs.size f cdv)) → sp vs H Q E →
      ∃ t, PSs (cxOf CX P w K mg base N qual (defScope st) f cdv A outer s H E) (defBody st) t ∧ t { nx := fun _ H' => Q .non H', rt := Q } (start N vs) H) : FnG P w K mg base CX (k + 1) f fd ps sp := by
  obtain ⟨oc, od, kV, doc, pm, an, cdv, ct, osl, rfl, lk, hcd⟩ := F.ex
  refine ⟨len, fun A outer s H args us vs Q E hr e0 hb r hsp => ?_⟩
  have KX : K.In s.heap := e0.mod.kin.keeps fun b o e => (e0.bs b o e).1
  have hk : ((ps.zip us).all fun y => (defScope st).names.lookup y.1 == some .local || (defScope st).names.lookup y.1 == some .cell) = true := List.all_eq_true.mpr fun y hy => by
    rcases S.par y.1 (List.of_mem_zip (a := y.1) (b := y.2) hy).1 with q | q <;> rw [q] <;> rfl
  refine Att.call_fn KX (e0.mod.nolimit.keeps fun b o e => (e0.bs b o e).1) lk hcd hr.r.depth hb hk (fun s1 x => ?_) S.co S.gen S.kind
  obtain ⟨t, ht, hq⟩ := hbody cdv A outer s H vs Q E (hr.deeper _) hsp
  have I := inv_start (CX := CX) (E := E) (f := f) (cd := cdv) (qual := qual) (outer := outer) S hr.r.hd e0 (len _ _ _ _ hsp) r x
  refine wpAny_mono (ht.run [] s1 _ H _ I hq) (fun fl s' hs => ?_) fun _ _ hs => hs
  cases fl with
  | ret u =>
    obtain ⟨v, _, H', J, rv, q⟩ := hs
    exact ⟨v, H', J.os, J.bare, J.base, J.hok, rv, q⟩
  | next =>
    obtain ⟨_, H', J, q⟩ := hs
    exact ⟨.non, H', J.os, J.bare, J.base, J.hok, rfl, q⟩
  | brk => exact hs.elim fun _ h => h.elim fun _ h => False.elim h.2
  | cont => exact hs.elim fun _ h => h.elim fun _ h => False.elim h.2
end
end Mx

namespace Mx
open PySem PySem.Spec PyProof.Rows L2

/-! ### operators -/
/-- a list that may be read, its object told whole -/
def LsX (K : PySem.W.Frag) (H : Hp) (a : Addr) (xs : List V) : Prop := Rd H a (.lst xs) ∨
  ∃ (its : List Value) (n : Nat), K.lookup a = some { cls := .type "list", data := .seq its.toArray n } ∧ xs.length ≤ sizeLine ∧ Vals xs its
theorem LsX.of {K : PySem.W.Frag} {H : Hp} {a : Addr} {xs : List V} (h : H a = some (.lst xs)) : LsX K H a xs := .inl (.inl h)
theorem LsX.sq {K : PySem.W.Frag} {H : Hp} {a : Addr} {xs : List V} (h : LsX K H a xs) : SqL K H a xs := by
  rcases h with h | ⟨its, n, h, z, r⟩
  · exact .inl h
  · exact .inr ⟨_, its.toArray, n, h, rfl, rfl, rfl, by rw [List.size_toArray, ← r.length]; exact z, by simpa using r⟩
theorem LsX.at {X : Cx} {pins : List (Addr × Obj)} {σ : L2.St} {H : Hp} {s : Shared} {a : Addr} {xs : List V} (I : Inv X pins σ H s) (h : LsX X.K H a xs) :
    ∃ (its : List Value) (n : Nat), Vals xs its ∧ xs.length ≤ sizeLine ∧ s.heap.get? a = some { cls := .type "list", data := .seq its.toArray n } := by
  rcases h with h | ⟨its, n, h, z, r⟩
  · obtain ⟨z, its, n, r, e⟩ := h.ok I.hok
    exact ⟨its, n, r, z, e⟩
  · exact ⟨its, n, r, z, I.kIn _ _ h⟩
theorem LsX.keep {K : PySem.W.Frag} {H H' : Hp} {a : Addr} {xs : List V} (h : LsX K H a xs) (e : ∀ o, H a = some o → H' a = some o) : LsX K H' a xs := by
  rcases h with (h | ⟨o, h⟩) | h
  · exact .inl (.inl (e _ h))
  · exact .inl (.inr ⟨o, e _ h⟩)
  · exact .inr h
/-- two lists, read alone, one behind the other -/
def rCatR (K : PySem.W.Frag) : R2 := fun x y H Q => ∃ a b xs ys, x = .ref a ∧ y = .ref b ∧ LsX K H a xs ∧ LsX K H b ys ∧ xs.length + ys.length ≤ sizeLine ∧
  ∀ p, H p = none → Q (.ref p) (upd H p (.lst (xs ++ ys)))
theorem op_catR {X : Cx} : OpR X (binaryOp .Add) (rCatR X.K) := by
  intro pins s σ H x y v u Q I rx ry h
  obtain ⟨a, b, xs, ys, rfl, rfl, hA, hB, hz, q⟩ := h
  cases rx
  cases ry
  obtain ⟨ia, na, ra, za, ea⟩ := hA.at I
  obtain ⟨ib, nb, rb, zb, eb⟩ := hB.at I
  refine PySem.P.add_list ea eb ?_ (by rw [List.size_toArray, List.size_toArray, ← ra.length, ← rb.length]; exact hz)
  rw [show ia.toArray ++ ib.toArray = (ia ++ ib).toArray from by simp]
  exact ⟨.ref _, _, I.lnew (t' := s.toks) (ra.append rb) (by rw [List.length_append]; exact hz), rfl, q _ I.fresh⟩

/-! ### repr of data -/
def rRepr (K : PySem.W.Frag) : List V → Hp → VK → Prop := fun xs H Q => ∃ (a : Addr) (d : PyData), xs = [.ref a] ∧ Dp K H (.ref a) d ∧ d.showable = true ∧ d.hasDict = false ∧ d.depth ≤ 60 ∧ d.shown.length ≤ sizeLine ∧ Q (.str d.shown) H
theorem call_repr {X : Cx} {k : Nat} (hr : RmG k X.A) : CallR X (.builtin "repr") (rRepr X.K) := by
  intro pins s σ H vs us Q I r h
  obtain ⟨a, d, rfl, hd, h1, h2, h3, h4, q⟩ := h
  cases r with
  | cons ra rn =>
    cases rn
    cases ra
    obtain ⟨as, hr2⟩ := Dp.reads I d _ _ hd rfl
    have hu := hr.r.un
    refine repr_of_reads' hr2 h1 (PyData.noDict_hsm h2) hr.g (by omega) (fun _ _ e => e) (fun h' u tk hk => ?_) h4
    exact ⟨.str d.shown, H, I.kept hk, ⟨u, rfl⟩, q⟩

/-! ### enumerate of a text -/
def Itet (x : Str) : It :=
  ⟨fun i _ => i < x.cps.size, fun i H v H' => ∃ T c, v = .ref T ∧ H T = none ∧ x.cps[i]? = some c ∧ H' = upd H T (.tup [.int (i : Nat), .str ⟨#[c]⟩]), fun i _ => i = x.cps.size⟩
def IsEt (x : Str) (t : Tok) (e it : Addr) (i : Nat) (h : Heap) : Prop :=
  (∃ old, IsEnum h e it ((i : Nat) : Int) old) ∧ h.IsStrIter it (strIterType x) x t i ∧ e ≠ it
theorem drawsS {prog : Program} {w : World} {A : Around} (hh : A.handled = none) (it : Addr) (x : Str) (t : Tok) :
    Draws prog w A it [it] x.cps.size (fun i v => ∃ c u, x.cps[i]? = some c ∧ v = .str ⟨#[c]⟩ u) (fun i h => h.IsStrIter it (strIterType x) x t i) := by
  have z : strIterType x = "str_ascii_iterator" ∨ strIterType x = "str_iterator" := by
    unfold strIterType
    split <;> simp
  rcases z with e | e <;> rw [e]
  · exact Draws.strAscii hh it x t
  · exact Draws.strWide hh it x t
theorem turn_et {P : Program} {w : World} {K : PySem.W.Frag} {elts : List Expr} {kk : Nat} {tpos : Pos} (x : Str) (t : Tok) (e it : Addr) :
    Turn P w K (.Tuple elts kk tpos) (Itet x) [e, it] e (IsEt x t e it) where
  mem := by simp
  obj := fun i h st b hb => by
    obtain ⟨⟨old, he⟩, ⟨o, ho, hc, hd⟩, _⟩ := st
    rcases List.mem_cons.mp hb with z | z
    · exact ⟨_, z ▸ he, fun v q => by cases q⟩
    · exact ⟨o, (List.mem_singleton.mp z) ▸ ho, fun v q => by rw [hd] at q; cases q⟩
  keep := fun i h h' st k => ⟨let ⟨old, he⟩ := st.1; ⟨old, k e (by simp) _ he⟩, let ⟨o, ho, r⟩ := st.2.1; ⟨o, k it (by simp) _ ho, r⟩, st.2.2⟩
  item := by
    intro X hP hw hK hc i pins s σ H E I hf st hg
    subst hP hw hK
    obtain ⟨⟨old, he⟩, hit, hne⟩ := st
    have le : e < s.heap.objs.size := Heap.lt_size he
    have li : it < s.heap.objs.size := by obtain ⟨_, q, _⟩ := id hit; exact Heap.lt_size q
    have D := drawsS (prog := X.prog) (w := X.w) (A := X.A.in1) (I.ok.hd hc) it x t
    refine wpAny_pyNext_enum_itemD D he hit hg hne (by simpa using hne) fun z h' tk hz ho hit' hT hsz hk => ?_
    obtain ⟨c, u, hcx, rfl⟩ := hz
    refine ⟨_, rfl, wpAny_letOwnedTupleGo_enum (s := { s with heap := h', toks := tk + 1 }) ho fun h'' he' sb => ?_⟩
    have hT2 : h''.get? s.heap.objs.size = some { cls := .type "tuple", data := .seq #[.int i tk, .str ⟨#[c]⟩ u] } := (sb.2 _ (Nat.ne_of_gt le)).trans hT
    have new : ObjOk X.prog X.w (upd H s.heap.objs.size (.tup [.int (i : Nat), .str ⟨#[c]⟩])) h'' s.heap.objs.size (.tup [.int (i : Nat), .str ⟨#[c]⟩]) :=
      ⟨(by decide : 2 ≤ sizeLine), _, .cons ⟨_, rfl⟩ (.cons ⟨_, rfl⟩ .nil), _, hT2, rfl, _, rfl⟩
    have J : Inv X pins σ (upd H s.heap.objs.size (.tup [.int (i : Nat), .str ⟨#[c]⟩])) { s with heap := h'', toks := tk + 1 } :=
      I.turnedNew (ch := [e, it]) (fun b ob hb q => (sb.2 b (fun y => hb (by simp [y]))).trans (hk b ob (fun y => hb (by simp [y])) (fun y => hb (by simp [y])) q)) hf (Nat.le_refl _) new
    refine ⟨.ref s.heap.objs.size, _, J, rfl, ⟨_, c, rfl, I.hok.fresh (Nat.le_refl _), hcx, rfl⟩, ⟨⟨.str ⟨#[c]⟩ u, ?_⟩, ?_, hne⟩, fun b hb => ?_⟩
    · have e1 : ((i + 1 : Nat) : Int) = (i : Int) + 1 := by omega
      rw [e1]
      exact he'
    · obtain ⟨o, q, r⟩ := hit'
      exact ⟨o, (sb.2 it (Ne.symm hne)).trans q, r⟩
    · have lb : b < s.heap.objs.size := by
        rcases List.mem_cons.mp hb with z | z
        · exact z ▸ le
        · exact (List.mem_singleton.mp z) ▸ li
      rw [upd_ne (Nat.ne_of_lt lb)]
      exact (hf b hb).1
  done := by
    intro X hP hw hK hc i pins s σ H E I hf st hg
    subst hP hw hK
    obtain ⟨⟨old, he⟩, hit, hne⟩ := st
    have hg' : i = x.cps.size := hg
    subst hg'
    obtain ⟨f0, f1, f2, f3, f4, f5⟩ := hf it (by simp)
    exact wpAny_pyNext_enum_endD (St := fun i h => h.IsStrIter it (strIterType x) x t i) (drawsS (A := X.A.in1) (I.ok.hd hc) it x t) he hit fun h' eb => ⟨rfl, I.turned (t' := s.toks) (fun b o hb q => eb b o hb q) f0 f1 f3 f4 f5⟩
  self := fun A i s Q E st h => let ⟨⟨_, he⟩, _⟩ := st; wpAny_pyIter_enum he h
def iEt (ta : TA) : TI := fun σ H R => ta σ H fun vs H1 => ∃ x, vs = [.str x] ∧ R (Itet x) H1
theorem pi_enumT {X : Cx} {e : Expr} {ta : TA} {p pos tpos : Pos} {elts : List Expr} {kk : Nat} (hg : Gl X "enumerate") (hm : X.mg "enumerate" = none) (ha : PA X [e] ta)
    (hs : starEach [e] X.env = [(false, eval e X.env)] := by rfl) : PI X (.Tuple elts kk tpos) (.Call (.Name "enumerate" p) [e] [] pos) (iEt ta) := by
  refine ⟨fun pins s σ H R I h => Call_ (ld_blt I hg hm boot_enumerate (PyProof.Rows.callWith_type1 (thn (ha.run pos pins s σ H _ I h) fun us s1 ⟨vs, H1, I1, r1, q1⟩ => ?_) hs rfl))⟩
  obtain ⟨x, ex, q⟩ := q1
  subst ex
  cases r1 with
  | cons r rr =>
    cases rr
    obtain ⟨t, rfl⟩ := r
    refine call_enumerate_str fun h' he hit hsz hk => wpAny_pyIter_enum he ?_
    have I2 : Inv X pins σ H1 { s1 with heap := h' } := I1.kept (t' := s1.toks) hk
    refine ⟨s1.heap.objs.size + 1, [s1.heap.objs.size + 1, s1.heap.objs.size], _, _, H1, rfl, I2, turn_et x t (s1.heap.objs.size + 1) s1.heap.objs.size, ⟨⟨.none, he⟩, hit, Nat.succ_ne_self _⟩, fun b hb => ?_, q⟩
    have le : s1.heap.objs.size ≤ b := by
      rcases List.mem_cons.mp hb with z | z
      · rw [z]; exact Nat.le_add_right _ _
      · rw [List.mem_singleton.mp z]; exact Nat.le_refl _
    exact I1.fpOk le (I1.hok.fresh le)
end Mx

namespace Mx
open PySem PySem.Spec PyProof.Rows L2

/-! ### exceptions whose __init__ calls that of their base by its name -/
/-- a base class over ValueError, read by its name -/
structure BaseT (K : PySem.W.Frag) (mg : Str → Option Value) (bn : Str) (CM : Addr) : Prop where
  mgM : mg bn = some (.ref CM)
  rd : PySem.W.readsIn K CM (.type "type") = true
  ga : PySem.W.specialIn K (.ref CM) "__getattribute__" = some (some (.builtin "type.__getattribute__"))
  at_ : PySem.W.findCls K (.ref CM) (.type "type") "__init__" = some (.val (.builtin "ValueError.__init__"))
section
variable {X : Cx} {o e : Expr} {es : List Expr} {ta : TA} {p1 p2 pos : Pos}
theorem pe_minit {bn : Str} {CM : Addr} {pl : Sem Bool} (T : BaseT X.K X.mg bn CM) (hg : Gl X bn) (ha : PA X (e :: es) ta)
    (hc : eval (.Call (.Attribute (.Name bn p1) "__init__" p2) (e :: es) [] pos) X.env = (do
      let ov ← eval (.Name bn p1) X.env
      standAt p2.atName
      let (f, first) ← holding [ov] (getMethod ov "__init__" pl)
      callWith pos f first (backTo pos (starEach (e :: es) X.env)) (backToKw pos (keywordEach [] X.env))) := by rfl)
    (he : starEach (e :: es) X.env = (false, eval e X.env) :: starEach es X.env := by rfl) (hpl : (backTo pos (starEach es X.env)).any (·.1) = false := by rfl)
    (hdb : (bn == ("__debug__" : Str)) = false := by decide) :
    PE X (.Call (.Attribute (.Name bn p1) "__init__" p2) (e :: es) [] pos) (tVeI X.K ta) := by
  refine ⟨fun pins s σ H Q I h => PySem.W.methodCall_KW (ld_glob I hg T.mgM ?_ hdb) hc⟩
  refine PySem.W.method_cls I.kIn T.ga (PySem.W.cls_value I.kIn T.rd T.at_ (by decide +kernel) ?_)
  refine PyProof.Rows.callWith_method1 (thn (ha.run pos pins _ σ H _ (I.tok _) h) fun us s1 ⟨vs, H1, I1, r1, a, C, ws, ev, hl, Tc, ea, q⟩ => ?_) he hpl
  subst ev
  cases r1 with
  | @cons _ u0 _ ur ra rw' =>
    obtain rfl : u0 = Value.ref a := ra
    have hz : ur.length ≤ sizeLine := by
      rw [← Paired.length rw']
      exact Nat.le_trans hl (by decide)
    exact oinit_ok Tc I1 ea hz fun s' J => ⟨.non, H1, J, rfl, q⟩
end
/-- what __init__(self, f) keeps -/
def spXI (K : PySem.W.Frag) (C : Addr) (f : Str) : Sp := fun vs H Q _ => ∃ (a : Addr) (y : V), vs = [.ref a, y] ∧ OexC K C ∧ H a = some (exo a C none) ∧
  ∀ dx, H dx = none → dx ≠ a → Q .non (upd (upd H dx (exd dx [(f, y)])) a (exo a C (some dx)))
/-- the facts of such a class with one field -/
structure ExT (P : Program) (w : World) (K : PySem.W.Frag) (mg : Str → Option Value) (base : Heap) (cn f : Str) (C fI : Addr) (fd : FuncData) (ps : List Str) : Prop where
  oex : OexC K C
  mgC : mg cn = some (.ref C)
  iC : PySem.W.findIn K (.ref C) "__init__" = some (some (.ref fI))
  tI : PySem.W.typeIn K (.ref fI) = some (.type "function")
  ok : FnOk P w K mg base CX0 1 fI fd ps (spXI K C f)
  bI : Binds K fd ps []
/-- C(e): the exception's class, its own dict -/
def tXM (C : Addr) (f : Str) (ta : TA) : L2.St → Hp → XK → Prop := fun σ H Q => ta σ H fun vs H1 => ∃ y, vs = [y] ∧ ∀ d, H1 d = none → Q (.ref C) (some d) (upd H1 d (.xd [(f, y)]))
/-- arguments, the wish made weaker behind them -/
def aMono (ta : TA) : TA := fun σ H Q => ∃ Q0 : List V → Hp → Prop, ta σ H Q0 ∧ ∀ vs H1, Q0 vs H1 → Q vs H1
theorem pa_mono {X : Cx} {es : List Expr} {ta : TA} (ha : PA X es ta) : PA X es (aMono ta) :=
  ⟨fun pos pins s σ H Q I ⟨Q0, h, k⟩ => wpAny_mono (ha.run pos pins s σ H Q0 I h) (fun _ _ ⟨vs, H1, I1, r, q⟩ => ⟨vs, H1, I1, r, k _ _ q⟩) fun _ _ z => z⟩
theorem pmk_x {X : Cx} {e : Expr} {ta : TA} {p pos : Pos} {cn f : Str} {C fI : Addr} {fd : FuncData} {ps : List Str} (T : ExT X.prog X.w X.K X.mg X.base cn f C fI fd ps) (hr : Room 2 X.A) (hg : Gl X cn) (ha : PA X [e] ta)
    (hdb : (cn == ("__debug__" : Str)) = false := by decide) (he : starEach [e] X.env = (false, eval e X.env) :: starEach [] X.env := by rfl) (hpl : (backTo pos (starEach [] X.env)).any (·.1) = false := by rfl) :
    PMk X (.Call (.Name cn p) [e] [] pos) (tXM C f ta) := by
  intro pins s σ H Q I h
  refine pmk_oex T.oex T.iC T.tI T.ok hr T.bI .nil pass0 hg T.mgC (pa_mono ha) hdb he hpl pins s σ H Q I ⟨_, h, fun vs H1 hq => ?_⟩
  obtain ⟨y, rfl, hq⟩ := hq
  refine ⟨(by show 1 ≤ 1000; omega), fun a ha => ⟨a, y, rfl, T.oex, upd_same, fun dx hx hn => ⟨rfl, dx, [(f, y)], upd_same, ?_, ?_, ?_⟩⟩⟩
  · rw [upd_ne hn, upd_same]
  · rw [upd_ne hn] at hx
    exact hx
  · rw [upd_ne hn] at hx
    have e1 : upd (L2.del (upd (upd (upd H1 a (exo a C none)) dx (exd dx [(f, y)])) a (exo a C (some dx))) a) dx (.xd [(f, y)]) = upd H1 dx (.xd [(f, y)]) := by
      funext b
      by_cases h1 : b = dx
      · rw [h1, upd_same, upd_same]
      · rw [upd_ne h1, upd_ne h1]
        by_cases h2 : b = a
        · rw [h2, del_same, ha]
        · rw [del_ne h2, upd_ne h2, upd_ne h1, upd_ne h2]
    rw [e1]
    exact hq dx hx
end Mx

namespace Mx
open PySem PySem.Spec PyProof.Rows L2

/-! ### a caught exception that is kept -/
/-- the object at a is an exception of the class cls, its dict at d -/
def xoO (a : Addr) (cls : Value) (d : Option Addr) : HO := .ext fun h => ∃ o vs, h.get? a = some o ∧ o.cls = cls ∧ o.dict = d ∧ o.data = .fields vs
theorem xo_at {P : Program} {w : World} {H : Hp} {h : Heap} {a : Addr} {cls : Value} {d : Option Addr} (hok : HOk P w H h) (e : H a = some (xoO a cls d)) :
    ∃ o vs, h.get? a = some o ∧ o.cls = cls ∧ o.dict = d ∧ o.data = .fields vs := by
  have x : ObjOk P w H h a (.ext fun h => ∃ o vs, h.get? a = some o ∧ o.cls = cls ∧ o.dict = d ∧ o.data = .fields vs) := hok a _ e
  exact x.1
theorem track {X : Cx} {pins : List (Addr × Obj)} {σ : L2.St} {H : Hp} {s : Shared} {a : Addr} {o : Obj} {vs : Array Value} {cls : Value} {d : Option Addr} (I : Inv X pins σ H s) (ho : s.heap.get? a = some o) (hz : Zc cls d o) (hd : o.data = .fields vs)
    (na : H a = none) (n0 : X.s_0.heap.get? a = none) (nL : a ≠ X.env.locals) (np : ∀ p ∈ X.pn ++ pins, p.1 ≠ a) : Inv X pins σ (upd H a (xoO a cls d)) s := by
  have ne : ∀ {b : Addr} {u : HO}, H b = some u → b ≠ a := fun {b u} e => ne_of_none e na
  have n0' : ∀ {b : Addr} {o : Obj}, X.s_0.heap.get? b = some o → b ≠ a := fun {b o} e z => by rw [z, n0] at e; cases e
  refine ⟨I.ok, I.os, I.bare, ⟨I.base.keep, I.base.slot, fun b ob e n hx => ?_, I.base.there, fun b xs e => ?_, fun b ob u e => ?_, fun b ps e => ?_⟩, I.loc, I.cell, ?_, fun x c e => ?_, fun p hp => ?_, fun b u e => ?_, I.len⟩
  · rw [upd_ne (n0' e)]
    exact I.base.free b ob e n hx
  · have q := I.base.tups b xs e
    rw [upd_ne (ne q)]
    exact q
  · have q := I.base.frzs b ob u e
    rw [upd_ne (ne q)]
    exact q
  · obtain ⟨m, q⟩ := I.base.tbls b ps e
    exact ⟨m, by rw [upd_ne (ne q)]; exact q⟩
  · rw [upd_ne (Ne.symm nL)]
    exact I.free
  · have hc : c ≠ a := fun z => by
      obtain ⟨v, oc, q, hv⟩ := I.cell x c e
      rw [z, ho] at q
      cases q
      rw [hd] at hv
      cases hv
    rw [upd_ne hc]
    exact I.freeC x c e
  · obtain ⟨e, n, r⟩ := I.pin p hp
    exact ⟨e, by rw [upd_ne (np p hp)]; exact n, r⟩
  · by_cases hb : b = a
    · subst hb
      rw [upd_same] at e
      cases e
      exact ⟨⟨o, vs, ho, hz.1, hz.2, hd⟩, ⟨o, ho⟩, fun h1 h2 z k => let ⟨o', vs', q, r⟩ := z; ⟨o', vs', k _ q, r⟩⟩
    · rw [upd_ne hb] at e
      exact (I.hok b u e).stay (fun _ _ _ q => q) (fun c q => by rw [upd_ne (ne q)]; exact q) fun c xs q => by rw [upd_ne (ne q)]; exact q

/-- what 'except (x1, x2, x3) as n' wishes: behind its suite the exception is told -/
def wT (K : PySem.W.Frag) (cs : List Value) (i : Nat) (ts : Addr → Value → Option Addr → TS) (Wout : WX) (D : Ends) : WX := fun cls d σ H =>
  ∃ b, PySem.W.exmAny K cls cs = some b ∧ (b = true → ∀ a, H a = none → ts a cls d { nx := fun σ' H' => D.nx (σ'.set i none) (upd H' a (xoO a cls d)), rt := fun _ _ => False, bk := fun _ _ => False, ct := fun _ _ => False } (σ.set i (some (.ref a))) H) ∧
    (b = false → Wout cls d σ H)
/-- a class of the text by its name -/
structure Nm (X : Cx) (x : Str) (c : Value) : Prop where
  g : Gl X x
  m : X.mg x = some c
  d : (x == ("__debug__" : Str)) = false
theorem ps_try_t3 {X : Cx} {x1 x2 x3 n : Str} {c1 c2 c3 : Value} {i kk : Nat} {body suite : List Stmt} {b₀ : Stmt} {q1 q2 q3 tp pos pos' : Pos} {tb : WX → TS} {ts : Addr → Value → Option Addr → TS} {Wout : WX}
    (hs : X.stack = X.env :: X.outer) (hf : X.env.frame = some X.env.locals) (hex : X.ex = []) (hN : X.N.Nodup) (hi : X.N[i]? = some n) (hln : X.env.kindOf n = some .local) (n1 : Nm X x1 c1) (n2 : Nm X x2 c2) (n3 : Nm X x3 c3) (tk : Takes X Wout)
    (hb : ∀ (W : WX) (pn : List (Addr × Obj)) (xe : Value → Shared → Prop), Takes (X.tr pn xe) W → PassesOwn (model X.prog X.w) X.A X.env xe → PSs (X.tr pn xe) body (tb W))
    (hsu : ∀ (a : Addr) (oe : Obj) (cls : Value) (d : Option Addr) (pn : List (Addr × Obj)), Zc cls d oe → (∃ vs, oe.data = .fields vs) → PSs (X.suite a ((a, oe) :: pn)) (b₀ :: suite) (ts a cls d)) :
    PS X (.Try body [.ExceptHandler (some (.Tuple [.Name x1 q1, .Name x2 q2, .Name x3 q3] kk tp)) (some n) (b₀ :: suite) pos'] [] [] pos) (fun D σ H => tb (wT X.K [c1, c2, c3] i ts Wout D) D σ H) := by
  refine ⟨fun pins s σ H D I h => wpAny_Try_except ?_⟩
  have ok := I.ok
  have hfr : X.A.frames = some (X.env :: X.outer) := ok.frames.trans (by rw [hs])
  refine wpAny_mono ((hb (wT X.K [c1, c2, c3] i ts Wout D) (X.pn ++ pins) (fun e s₁ => wpAny (model X.prog X.w) X.A (noteFrame e X.env) (fun _ s₂ => wpAny (model X.prog X.w) X.A (setFlight e none) (fun _ s₃ =>
    wpAny (model X.prog X.w) X.A (handleBy e X.env [.ExceptHandler (some (.Tuple [.Name x1 q1, .Name x2 q2, .Name x3 q3] kk tp)) (some n) (b₀ :: suite) pos']) (SP X pins D) X.xe s₃) X.xe s₂) X.xe s₁) (fun u s' xx => ?_) PassesOwn.looking).run [] s σ H D (I.toTry _) h) (fun f s1 hsp => ?_) (fun _ _ z => z)
  · obtain ⟨a, B, sI, pins', σ', H', cls, d, rfl, J', nb, up, sky, na, os, ag, b, hb1, hyes, hno⟩ := xx
    have J : Inv X pins σ' H' sI := J'.ofTry ok
    rw [show (X.tr (X.pn ++ pins) _).stack = X.env :: X.outer from hs] at sky
    show wpAny (model X.prog X.w) X.A (noteFrame (.ref a) X.env) _ _ _
    refine Sky.land Zc.steady hfr hf sky fun h3 fl3 up3 => ?_
    have J3 : Inv X pins σ' H' { s' with heap := h3 } := J.landed nb fl3.1 (up.trans up3) os ag
    obtain ⟨oe3, vs3, he3, hz3, hd3⟩ := fl3.there
    have nfr : a ∉ frs X.stack := fun hm => by
      rw [hs] at hm
      obtain ⟨_, o', e', hnf⟩ := fl3.2.2.1.mem hm
      rw [he3] at e'
      cases e'
      exact hnf _ hd3
    have nL : a ≠ X.env.locals := fun z => nfr (by rw [hs]; exact List.mem_filterMap.mpr ⟨X.env, List.mem_cons_self, by rw [hf, z]⟩)
    have nF : a ∉ X.fs := fun hm => nfr (by
      rw [hs]
      obtain ⟨e, he, q⟩ := List.mem_filterMap.mp hm
      exact List.mem_filterMap.mpr ⟨e, List.mem_cons_of_mem _ he, q⟩)
    have nI : sI.heap.get? a = none := by
      cases e : sI.heap.get? a with
      | none => rfl
      | some o =>
        have z := nb a o e nfr
        rw [fl3.2.1] at z
        cases z
    have n0 : X.s_0.heap.get? a = none := by
      cases e : X.s_0.heap.get? a with
      | none => rfl
      | some o =>
        obtain ⟨o', z⟩ := J.base.there a o e (by rw [hex]; simp)
        rw [nI] at z
        cases z
    have np : ∀ p ∈ X.pn ++ pins, p.1 ≠ a := fun p hp z => by
      have q := (J.pin p hp).1
      rw [z, nI] at q
      cases q
    have S3 := J3.suite he3 hd3 na nL nF
    refine wpAny_handleBy_cons (codeAny_handlers_test ?_) (by intro q; cases q)
    have nm : ∀ {x : Str} {c : Value} {q : Pos} {s2 : Shared} {Q E : Value → Shared → Prop}, Nm X x c → Inv (X.suite a ((a, oe3) :: (X.pn ++ pins))) [] σ' H' s2 → Q c s2 → wpAny (model X.prog X.w) (X.A.mark (some (.ref a))) (eval (.Name x q) X.env) Q E s2 :=
      fun {x c q s2 Q E} nx S z => ld_glob (X := X.suite a ((a, oe3) :: (X.pn ++ pins))) S nx.g nx.m z nx.d
    refine PyProof.Rows.Tuple_ (PyProof.Rows.spliced_more (nm n1 S3 (PyProof.Rows.spliced_more (nm n2 S3 (PyProof.Rows.spliced_more (nm n3 S3 (PyProof.Rows.spliced_none ?_)))))))
    refine wpAny_newObj_type ?_
    have kp : ∀ b o, h3.get? b = some o → (h3.push { cls := .type "tuple", dict := none, data := .seq [c1, c2, c3].toArray }).get? b = some o := fun b o e => Heap.get?_push_of_some _ e
    have LT : PySem.W.Looks (model X.prog X.w) (h3.push { cls := .type "tuple", dict := none, data := .seq [c1, c2, c3].toArray }) (typeOf (.ref a)) cls := fun A Q E s k q => wpAny_typeOf_ref (k _ _ (kp _ _ he3)) (by rw [hz3.1]; exact q)
    have LM := PySem.W.exm_tup3 (M := model X.prog X.w) (J3.kIn.keeps kp) LT (Heap.get?_push_size h3 rfl) hb1
    refine LM.here ?_
    have fl5 : HandSPX.FlyingZ B (X.env :: X.outer) a (Zc cls d) (h3.push { cls := .type "tuple", dict := none, data := .seq [c1, c2, c3].toArray }) := by
      obtain ⟨k1, k2, k3, oe, vs, T, oT, ts', he, hz, hd, h1, hr0, hr1, hr2, hr3⟩ := id fl3
      exact ⟨fun b o e => kp _ _ (k1 b o e), k2, Heap.FunFrames.of_keeps (fun b o e _ => ⟨o, kp b o e, rfl⟩) k3, oe, vs, T, oT, ts', kp _ _ he, hz, hd, h1, hr0, hr1, kp _ _ hr2, hr3⟩
    have up5 := (up.trans up3).trans (Heap.UpToSlots.of_keeps kp)
    cases b with
    | true =>
      refine codeAny_handlers_suite_as (HandSPX.lands_againZ fl5 fun h4 fl4 up4 => ?_)
      have J4 : Inv X pins σ' H' { s' with heap := h4 } := J.landed nb fl4.1 (up5.trans up4) os ag
      obtain ⟨oe4, vs4, he4, hz4, hd4⟩ := fl4.there
      refine store_ok (X := X.suite a ((a, oe4) :: (X.pn ++ pins))) (v := .ref a) (J4.suite he4 hd4 na nL nF) hN hi (.inl hln) rfl (fun s5 S5 => ?_) (.inr hln)
      refine wpAny_mono ((hsu a oe4 cls d (X.pn ++ pins) hz4 ⟨_, hd4⟩).run [] s5 _ H' _ S5 (hyes rfl a na)) (fun f s6 hsp => ?_) (fun _ _ z => False.elim z)
      cases f with
      | next =>
        obtain ⟨σ6, H6, S6, q6⟩ := hsp
        have p6 := S6.pin (a, oe4) (List.mem_append_left _ List.mem_cons_self)
        have I6 : Inv X ((a, oe4) :: pins) σ6 H6 s6 := (S6.unsuite ok).pins_of fun p hp => by
          rcases List.mem_cons.mp hp with e | h
          · rw [e]; exact p6
          · exact (S6.unsuite ok).pin p (List.mem_append_right _ h)
        exact gone_ok I6 hN hi hln fun s7 J7 => by
          have p7 := J7.pin (a, oe4) (List.mem_append_right _ List.mem_cons_self)
          have K7 : Inv X pins (σ6.set i none) H6 s7 := J7.pins_of fun p hp => J7.pin p (List.mem_append_right _ (List.mem_cons_of_mem _ hp))
          exact ⟨_, _, track K7 p7.1 hz4 hd4 p7.2.1 n0 nL np, q6⟩
      | brk => exact hsp.elim fun _ h => h.elim fun _ h => h.2.elim
      | cont => exact hsp.elim fun _ h => h.elim fun _ h => h.2.elim
      | ret u => exact hsp.elim fun _ h => h.elim fun _ h => h.elim fun _ h => h.2.2.elim
    | false =>
      show wpAny _ X.A (handleBy (.ref a) X.env []) _ _ _
      refine wpAny_handleBy_nil ?_
      obtain ⟨k1, k2, k3, oe, vs, T, oT, ts', he, hz, hd, h1, hr⟩ := id fl5
      unfold PySem.passOn
      refine wpAny_bind (wpAny_field he hd h1 ?_)
      rw [if_neg (show ¬ ((Value.ref T == Value.none) = true) from by simp)]
      have fin : ∀ {s5 : Shared}, s5 = { s' with heap := h3.push { cls := .type "tuple", dict := none, data := .seq [c1, c2, c3].toArray } } →
          wpAny (model X.prog X.w) X.A (setFlight (.ref a) X.env.frame) (fun _ s4 => wpAny (model X.prog X.w) X.A (throw (.ref a) : Sem Flow) (SP X pins D) X.xe s4) X.xe s5 := by
        intro s5 e5
        rw [hf, e5]
        exact HandSPX.setFlight_upZ fl5 fun h4 hh4 up4 => wpAny_throw (tk _ _ ⟨a, B, sI, pins, σ', H', cls, d, rfl, J, nb, up5.trans up4, .inr (.inr (by rw [hs]; exact hh4)), na, os, ag, hno rfl⟩)
      first
        | exact wpAny_bind (wpAny_pure (wpAny_bind (fin rfl)))
        | exact wpAny_bind (fin rfl)
  · cases f with
    | next =>
      obtain ⟨σ', H', J', q⟩ := hsp
      exact wpAny_execs_nil ⟨σ', H', J'.ofTry ok, q⟩
    | brk =>
      obtain ⟨σ', H', J', q⟩ := hsp
      exact ⟨σ', H', J'.ofTry ok, q⟩
    | cont =>
      obtain ⟨σ', H', J', q⟩ := hsp
      exact ⟨σ', H', J'.ofTry ok, q⟩
    | ret u =>
      obtain ⟨v, σ', H', J', r, q⟩ := hsp
      exact ⟨v, σ', H', J'.ofTry ok, r, q⟩
end Mx

namespace Mx
open PySem PySem.Spec PyProof.Rows L2

/-! ### a kept exception asked: isinstance, its fields -/
structure XcC (K : PySem.W.Frag) (C : Addr) : Prop where
  cl : (PySem.W.clsIn K C).isSome = true
  ga : PySem.W.findIn K (.ref C) "__getattribute__" = some (some (.builtin "BaseException.__getattribute__"))
  gt : PySem.W.findIn K (.ref C) "__getattr__" = some none
  sub : PySem.W.subIn K (.ref C) (.type "BaseException") = some true
  ha : PySem.W.findIn K (.ref C) "__class__" = some (some (.builtin "object.__class__"))
  hn : PySem.W.specialIn K (.builtin "object.__class__") "__get__" = some (some (.builtin "getset_descriptor.__get__"))
  tk : PySem.W.takesIn K (.builtin "object.__class__") = some true
  hm : PySem.W.mroIn K C (.type "object") = some true
  hd : PySem.W.hasDictIn K C = true
/-- an exception of the class at C, its fields -/
def XoAt (H : Hp) (a C : Addr) (fs : List (Str × V)) : Prop := ∃ d, H a = some (xoO a (.ref C) (some d)) ∧ H d = some (.xd fs)
theorem xo_inst {X : Cx} {pins : List (Addr × Obj)} {σ : L2.St} {H : Hp} {s : Shared} {a C : Addr} {fs : List (Str × V)} (I : Inv X pins σ H s) (h : XoAt H a C fs) :
    ∃ (ox od : Obj) (mA : Str → Option Value), PySem.W.InstAt s.heap a ox C (some od) ∧ (∀ f, PySem.W.lookIn f od = some (mA f)) ∧ ∀ f, RelO (fs.lookup f) (mA f) := by
  obtain ⟨d, h1, h2⟩ := h
  obtain ⟨o, vs, e1, e2, e3, e4⟩ := xo_at I.hok h1
  obtain ⟨mA, hns, hr⟩ : ObjOk X.prog X.w H s.heap d (.xd fs) := I.hok d _ h2
  obtain ⟨od, ho, hl⟩ := lookIn_ns hns
  exact ⟨o, od, mA, ⟨e1, e2, by unfold PySem.W.notCls; rw [e4] <;> rfl, by rw [e3]; exact ho⟩, hl, hr⟩
def rIsiX (K : PySem.W.Frag) : List V → Hp → VK → Prop := fun xs H Q => ∃ (a C : Addr) (fs : List (Str × V)) (c : V) (u : Value) (b : Bool), xs = [.ref a, c] ∧ ClsV c u ∧ XoAt H a C fs ∧ XcC K C ∧ PySem.W.kitOne K (.ref C) u = some b ∧ Q (.bl b) H
theorem call_isiX {X : Cx} : CallR X (.builtin "isinstance") (rIsiX X.K) := by
  intro pins s σ H xs us Q I r h
  obtain ⟨a, C, fs, c, u, b, rfl, k, hx, T, e, q⟩ := h
  obtain ⟨u1, u2, rfl, r1, r2⟩ := vals2 r
  have e2 := k.eq r2
  subst e2
  cases (show u1 = Value.ref a from r1)
  obtain ⟨ox, od, mA, J, _, _⟩ := xo_inst I hx
  exact PySem.W.kia_one (PySem.W.kitx_exc T.cl T.ga T.gt T.sub T.ha T.hn T.tk T.hm) I.kIn J e (fun z => by cases z) fun tk => ⟨.bl b, H, I.tok tk, rfl, q⟩
/-- e.f of a kept exception -/
def tXo (K : PySem.W.Frag) (f : Str) (te : TE) : TE := fun σ H Q => te σ H fun x H1 => ∃ (a C : Addr) (fs : List (Str × V)) (v : V), x = .ref a ∧ XoAt H1 a C fs ∧ XcC K C ∧ PySem.W.findIn K (.ref C) f = some none ∧ fs.lookup f = some v ∧ Q v H1
theorem pe_xo {X : Cx} {e : Expr} {te : TE} {pos : Pos} {f : Str} (he : PE X e te) (hb : attributeBase e f X.env (eval e X.env) = eval e X.env := by rfl) : PE X (.Attribute e f pos) (tXo X.K f te) := by
  refine ⟨fun pins s σ H Q I h => attr_of hb (thn (he.run pins s σ H _ I h) fun u s1 hh => ?_)⟩
  obtain ⟨x, H1, I1, rx, a, C, fs, v, ex, hx, T, hno, l, q⟩ := hh
  subst ex
  cases (show u = Value.ref a from rx)
  obtain ⟨ox, od, mA, J, hl, hr⟩ := xo_inst I1 hx
  obtain ⟨u, hu, ru⟩ := RelO.some_of (v := v) (o := mA f) (by rw [← l]; exact hr f)
  exact HandSPX.exc_get I1.kIn J T.ga T.gt T.sub (PySem.W.findObj_own T.hd hno rfl (by rw [hl, hu])) (handed_of ru) ⟨v, H1, I1.tok _, ru, q⟩
end Mx

namespace Mx
open PySem PySem.Spec PyProof.Rows L2

/-- a def of the module: where it stands, its name, its parameters -/
structure DefT (K : PySem.W.Frag) (mg : Str → Option Value) (x : Str) (st : Stmt) (ps : List Str) : Type where
  f : Addr
  fd : FuncData
  F : Fun K x x st f fd
  m : mg x = some (.ref f)
  b : Binds K fd ps []

/-! ### heaps: all but a stays -/
def Kp (a : Addr) (H H' : Hp) : Prop := ∀ b o, b ≠ a → H b = some o → H' b = some o
theorem Kp.refl (a : Addr) (H : Hp) : Kp a H H := fun _ _ _ h => h
theorem Kp.trans {a : Addr} {H H1 H2 : Hp} (x : Kp a H H1) (y : Kp a H1 H2) : Kp a H H2 := fun b o n h => y b o n (x b o n h)
theorem Kp.upd {a : Addr} {H H1 : Hp} {o : HO} (x : Kp a H H1) : Kp a H (upd H1 a o) := fun b u n h => by rw [upd_ne n]; exact x b u n h
theorem Kp.new {a p : Addr} {H H1 : Hp} {o : HO} (x : Kp a H H1) (h : H1 p = none) : Kp a H (L2.upd H1 p o) := fun b u n e => by
  have q := x b u n e
  rw [upd_ne (ne_of_none q h)]
  exact q
theorem Kp.of {a : Addr} {H H1 : Hp} (x : Same H H1) : Kp a H H1 := fun b o _ h => x b o h
theorem Same.new {p : Addr} {H H1 : Hp} {o : HO} (x : Same H H1) (h : H1 p = none) : Same H (L2.upd H1 p o) := fun b u e => by
  have q := x b u e
  rw [upd_ne (ne_of_none q h)]
  exact q
/-! ### the law's draws: a stream is a list of three ints at a, the second counts -/
def StAt (a : Addr) (c : Int) (H : Hp) : Prop := ∃ x m n : Int, H a = some (.lst [.int x, .int n, .int m]) ∧ 0 ≤ n ∧ n ≤ c
theorem StAt.mono {a : Addr} {c d : Int} {H : Hp} (h : StAt a c H) (l : c ≤ d) : StAt a d H := let ⟨x, m, n, e, h1, h2⟩ := h; ⟨x, m, n, e, h1, by omega⟩
theorem StAt.same {a : Addr} {c : Int} {H H' : Hp} (h : StAt a c H) (e : Same H H') : StAt a c H' := let ⟨x, m, n, q, h1, h2⟩ := h; ⟨x, m, n, e _ _ q, h1, h2⟩
/-- a constant of the module -/
theorem pe_gc {X : Cx} {x : Str} {pos : Pos} {v : V} (hg : Gl X x) (h : ∃ u, X.mg x = some u ∧ RelV v u) (hd : (x == ("__debug__" : Str)) = false := by decide) : PE X (.Name x pos) (tC v) :=
  let ⟨_, e, r⟩ := h
  pe_glob hg e r hd
/-! ### a for over enumerate of a text -/
theorem for_et {x : Str} {g : TG} {tb : TS} {D : Ends} {σ : L2.St} {H : Hp} (Pv : Nat → L2.St → Hp → Prop) (h0 : Pv 0 σ H)
    (hs : ∀ (i c : Nat) (T : Addr) σ H, x.cps[i]? = some c → H T = none → Pv i σ H → g (.ref T) σ (upd H T (.tup [.int (i : Nat), .str ⟨#[c]⟩])) fun σ2 H2 => tb { D with nx := Pv (i + 1), ct := Pv (i + 1), bk := D.nx } σ2 H2)
    (hd : ∀ σ H, Pv x.cps.size σ H → D.nx σ H) :
    ∃ W : Nat → Nat → L2.St → Hp → Prop, (∃ m, W 0 m σ H) ∧ ∀ i m σ H, W i m σ H →
      ((Itet x).stop i H ∧ D.nx σ H) ∨ ((Itet x).go i H ∧ ∃ N : L2.St → Hp → Prop, (∀ σ' H', N σ' H' → ∃ m', m' < m ∧ W (i + 1) m' σ' H') ∧ ∀ v H', (Itet x).yld i H v H' → g v σ H' fun σ2 H2 => tb { D with nx := N, ct := N, bk := D.nx } σ2 H2) := by
  refine ⟨fun i m σ H => m = x.cps.size - i ∧ i ≤ x.cps.size ∧ Pv i σ H, ⟨x.cps.size, by simp, Nat.zero_le _, h0⟩, ?_⟩
  rintro i m σ H ⟨rfl, hi, p⟩
  by_cases hlt : i < x.cps.size
  · refine .inr ⟨hlt, Pv (i + 1), fun σ' H' p' => ⟨x.cps.size - (i + 1), by omega, rfl, hlt, p'⟩, fun v H' y => ?_⟩
    obtain ⟨T, c, rfl, hT, hc, rfl⟩ := y
    exact hs i c T σ H hc hT p
  · have e : i = x.cps.size := by omega
    subst e
    exact .inl ⟨rfl, hd σ H p⟩
/-! ### places -/
theorem at_int {α : Type} {xs : List α} {r : Int} (r0 : 0 ≤ r) (r1 : r < (xs.length : Int)) : ∃ (i : Nat) (x : α), xs[i]? = some x ∧ atI xs r = some x ∧ (i : Int) = r := by
  have h : r.toNat < xs.length := by omega
  obtain ⟨n, rfl⟩ := Int.eq_ofNat_of_zero_le r0
  have h2 : n < xs.length := by omega
  exact ⟨n, xs[n], List.getElem?_eq_getElem h2, atI_nat (List.getElem?_eq_getElem h2), rfl⟩
theorem at_text {z : Str} {r : Int} (r0 : 0 ≤ r) (r1 : r < (z.cps.size : Int)) : ∃ cp : Nat, cp ∈ z.cps.toList ∧ atI z.cps.toList r = some cp := by
  obtain ⟨i, x, h, e, _⟩ := at_int (xs := z.cps.toList) r0 (by simpa using r1)
  exact ⟨x, List.mem_of_getElem? h, e⟩
theorem size_add (x y : Str) : (x ++ y).cps.size = x.cps.size + y.cps.size := by
  show (x.cps ++ y.cps).size = _
  simp
theorem itT {c : Bool} {A B : Prop} (h : c = true) (a : A) : if c = true then A else B := by rw [if_pos h]; exact a
theorem itF {c : Bool} {A B : Prop} (h : c = false) (b : B) : if c = true then A else B := by rw [if_neg (by rw [h]; decide)]; exact b
theorem dVi {i j : Int} (h : i = j) : decide (V.int i = V.int j) = true := by subst h; simp
theorem dViN {i j : Int} (h : ¬ i = j) : decide (V.int i = V.int j) = false := by
  refine decide_eq_false fun e => ?_
  injection e with e
  exact h e
theorem notT {b : Bool} (h : b = false) : (!b) = true := by rw [h]; rfl
theorem notF {b : Bool} (h : b = true) : (!b) = false := by rw [h]; rfl
theorem mem_add {x y : Str} {c : Nat} (h : c ∈ (x ++ y).cps.toList) : c ∈ x.cps.toList ∨ c ∈ y.cps.toList := by
  have e : (x ++ y).cps.toList = x.cps.toList ++ y.cps.toList := by rw [Str.cps_append, Array.toList_append]
  rw [e] at h
  exact List.mem_append.mp h
/-! ### readings without a question -/
theorem tC_ {v : V} {σ : L2.St} {H : Hp} {Q : VK} (h : Q v H) : tC v σ H Q := h
theorem tNext_ {D : Ends} {σ : L2.St} {H : Hp} (h : D.nx σ H) : tNext D σ H := h
theorem tYes_ {σ : L2.St} {H : Hp} {Q : Bool → Hp → Prop} (h : Q true H) : tYes σ H Q := h
theorem tNil_ {σ : L2.St} {H : Hp} {Q : List V → Hp → Prop} (h : Q [] H) : tNil σ H Q := h
end Mx

namespace Mx
open PySem PySem.Spec PyProof.Rows L2
/-! ### comprehensions that pick -/
def picked {α : Type} (n : Nat) (f : Nat → Bool) (y : Nat → α) : List α := ((List.range n).filter f).map y
theorem picked_zero {α : Type} (f : Nat → Bool) (y : Nat → α) : picked 0 f y = [] := rfl
theorem picked_yes {α : Type} {n : Nat} {f : Nat → Bool} (y : Nat → α) (h : f n = true) : picked (n + 1) f y = picked n f y ++ [y n] := by
  unfold picked
  rw [List.range_succ, List.filter_append, List.map_append, List.filter_cons, if_pos h]
  rfl
theorem picked_no {α : Type} {n : Nat} {f : Nat → Bool} (y : Nat → α) (h : f n = false) : picked (n + 1) f y = picked n f y := by
  unfold picked
  rw [List.range_succ, List.filter_append, List.map_append, List.filter_cons, if_neg (by rw [h]; decide)]
  simp
theorem picked_len {α : Type} (n : Nat) (f : Nat → Bool) (y : Nat → α) : (picked n f y).length ≤ n := by
  unfold picked
  rw [List.length_map]
  have := List.length_filter_le f (List.range n)
  rw [List.length_range] at this
  exact this
theorem picked_map {α β : Type} (n : Nat) (f : Nat → Bool) (y : Nat → α) (g : α → β) : picked n f (fun i => g (y i)) = (picked n f y).map g := by
  unfold picked
  rw [List.map_map]
  rfl
theorem picked_empty {α : Type} (n : Nat) (f : Nat → Bool) (y : Nat → α) : (picked n f y).isEmpty = !(List.range n).any f := by
  unfold picked
  rw [Bool.eq_iff_iff]
  simp
theorem picked_mem {α : Type} {n : Nat} {f : Nat → Bool} {y : Nat → α} {v : α} (h : v ∈ picked n f y) : ∃ i, i < n ∧ f i = true ∧ v = y i := by
  unfold picked at h
  obtain ⟨i, hi, e⟩ := List.mem_map.mp h
  have := List.mem_filter.mp hi
  exact ⟨i, List.mem_range.mp this.1, this.2, e.symm⟩
theorem picked_in {α : Type} {n i : Nat} {f : Nat → Bool} {y : Nat → α} (hi : i < n) (hf : f i = true) : y i ∈ picked n f y := by
  unfold picked
  exact List.mem_map.mpr ⟨i, List.mem_filter.mpr ⟨List.mem_range.mpr hi, hf⟩, rfl⟩
theorem picked_all {α : Type} (n : Nat) (y : Nat → α) : picked n (fun _ => true) y = (List.range n).map y := by
  unfold picked
  rw [List.filter_eq_self.mpr (fun _ _ => rfl)]
theorem range_getD {α : Type} (l : List α) (d : α) : (List.range l.length).map (fun i => l.getD i d) = l := by
  refine List.ext_getElem? fun i => ?_
  rw [List.getElem?_map]
  by_cases h : i < l.length
  · rw [List.getElem?_range h, Option.map_some, List.getD_eq_getElem?_getD, List.getElem?_eq_getElem h]
    rfl
  · rw [List.getElem?_eq_none (by rw [List.length_range]; omega), List.getElem?_eq_none (by omega)]
    rfl
theorem picked_filter {α : Type} (l : List α) (d : α) (p : α → Bool) : picked l.length (fun i => p (l.getD i d)) (fun i => l.getD i d) = l.filter p := by
  unfold picked
  have e := List.filter_map (f := fun i => l.getD i d) (p := p) (l := List.range l.length)
  rw [range_getD] at e
  exact e.symm
theorem Kp.same {D : Addr} {H H' : Hp} (h : Kp D H H') (hD : H D = none) : Same H H' := fun b o e => h b o (fun z => by rw [z, hD] at e; cases e) e
section
variable {J : It} {n : Nat} {G : Hp → Prop} {Y : Nat → Hp → V → Hp → Prop}
/-- [te for g in J if tt]: turn i is kept where f i, and gives y i; all that was stays -/
theorem lc_flt (w : Walk J n G Y) {g : TG} {tt : TT} {te : TE} {vs : List Nat} {σ : L2.St} {H1 : Hp} {D : Addr} {Qd : Hp → Prop} (f : Nat → Bool) (y : Nat → V) (hD : H1 D = none) (hn : n ≤ 1000000)
    (hG : ∀ H, Same H1 H → G H) (hY : ∀ i H x H', Y i H x H' → Same H H')
    (hs : ∀ i x H H' (Nx : V → Hp → Prop) (Mx : Hp → Prop), i < n → Same H1 H → Y i H x H' → (f i = true → ∀ H4, Same H' H4 → Nx (y i) H4) → (f i = false → ∀ H3, Same H' H3 → Mx H3) →
      g x (wipe σ vs) H' fun σ2 H2 => wipe σ2 vs = wipe σ vs ∧ tt σ2 H2 fun b H3 => if b = true then te σ2 H3 Nx else Mx H3)
    (hd : ∀ H, Same H1 H → H D = some (.lst (picked n f y)) → Qd H) :
    ∃ W : Nat → Nat → Hp → Prop, (∃ m, W 0 m (upd H1 D (.lst []))) ∧ ∀ i m H, W i m H →
      (J.stop i H ∧ Qd H) ∨ (J.go i H ∧ ∃ Nx : Hp → Prop, (∀ H', Nx H' → ∃ m', m' < m ∧ W (i + 1) m' H') ∧ ∀ x H', J.yld i H x H' → g x (wipe σ vs) H' fun σ2 H2 => wipe σ2 vs = wipe σ vs ∧ tt σ2 H2 fun b H3 =>
        if b = true then te σ2 H3 fun y H4 => ∃ acc, H4 D = some (.lst acc) ∧ acc.length < sizeLine ∧ Nx (upd H4 D (.lst (acc ++ [y]))) else Nx H3) := by
  refine lc_it w (fun i H => i ≤ n ∧ Kp D H1 H ∧ H D = some (.lst (picked i f y))) ⟨Nat.zero_le _, (Kp.refl _ _).upd, upd_same⟩ (fun i H _ p => hG H (p.2.1.same hD)) ?_ (fun H p => hd H (p.2.1.same hD) p.2.2)
  rintro i x H H' hi ⟨_, kp, e⟩ yy
  have sm := hY i H x H' yy
  refine hs i x H H' _ _ hi (kp.same hD) yy (fun hf H4 s4 => ?_) (fun hf H3 s3 => ?_)
  · refine ⟨_, s4 _ _ (sm _ _ e), ?_, hi, ?_, ?_⟩
    · have := picked_len i f y
      unfold sizeLine
      omega
    · exact ((kp.trans (Kp.of sm)).trans (Kp.of s4)).upd
    · rw [upd_same, picked_yes y hf]
  · exact ⟨hi, (kp.trans (Kp.of sm)).trans (Kp.of s3), by rw [picked_no y hf]; exact s3 _ _ (sm _ _ e)⟩
end
/-! ### exceptions told with the slots' number; readings made weaker -/
theorem takes_len {X : Cx} {W : WX} (tk : Takes X W) : Takes X (fun cls d σ H => σ.length = X.N.length → W cls d σ H) :=
  fun u s' ⟨a, B, sI, pins, σ, H, cls, d, e, I, nb, up, sky, na, os, ag, w⟩ => tk u s' ⟨a, B, sI, pins, σ, H, cls, d, e, I, nb, up, sky, na, os, ag, w I.len⟩
def eMono (te : TE) : TE := fun σ H Q => ∃ Q0 : VK, te σ H Q0 ∧ ∀ v H1, Q0 v H1 → Q v H1
theorem pe_mono {X : Cx} {e : Expr} {te : TE} (h : PE X e te) : PE X e (eMono te) :=
  ⟨fun pins s σ H Q I ⟨Q0, hh, k⟩ => wpAny_mono (h.run pins s σ H Q0 I hh) (fun _ _ ⟨v, H1, I1, r, q⟩ => ⟨v, H1, I1, r, k _ _ q⟩) fun _ _ z => z⟩
theorem cutV_mem {xs : List V} {lo hi : Option Int} {x : V} (h : x ∈ cutV xs lo hi) : x ∈ xs := List.mem_of_mem_drop (List.mem_of_mem_take h)
theorem cutV_front (xs : List V) (n : Nat) : (cutV xs none (some (n : Int))).length ≤ n := by
  unfold cutV
  rw [List.length_take, HT.sIx_nat]
  have : HT.sIx xs.length 0 none = 0 := rfl
  omega
theorem ints_mem {ns : List Int} {x : V} (h : x ∈ ns.map V.int ++ [.int 0]) : ∃ z, x = .int z := by
  rcases List.mem_append.mp h with h | h
  · obtain ⟨z, _, rfl⟩ := List.mem_map.mp h
    exact ⟨z, rfl⟩
  · exact ⟨0, List.mem_singleton.mp h⟩
/-! ### lists of texts as data -/
theorem dp_strsAll {K : PySem.W.Frag} {H : Hp} : ∀ l : List Str, DpAll K H (l.map V.str) (l.map PyData.str)
  | [] => .nil
  | z :: l => .cons (.str z) (dp_strsAll l)
theorem dp_strs {K : PySem.W.Frag} {H : Hp} {a : Addr} {l : List Str} (h : SqL K H a (l.map V.str)) : Dp K H (.ref a) (.list (l.map PyData.str)) := .lst h (dp_strsAll l)
theorem lay_strs : ∀ l : List Str, (∀ z ∈ l, ∀ c ∈ z.cps.toList, c < 0x110000) → PyData.canLayAll0 (l.map PyData.str) = true ∧ PyData.depthAll (l.map PyData.str) = 0
  | [], _ => ⟨rfl, rfl⟩
  | z :: l, h => by
    obtain ⟨h1, h2⟩ := lay_strs l fun y hy => h y (List.mem_cons_of_mem _ hy)
    refine ⟨?_, ?_⟩
    · show (z.cps.all (· < 0x110000) && PyData.canLayAll0 (l.map PyData.str)) = true
      rw [h1, Bool.and_true]
      rw [Array.all_eq_true]
      intro i hi
      exact decide_eq_true (h z List.mem_cons_self _ (by simp))
    · show max 0 (PyData.depthAll (l.map PyData.str)) = 0
      rw [h2]
      rfl
theorem shaped_strs {l : List Str} (h : ∀ z ∈ l, ∀ c ∈ z.cps.toList, c < 0x110000) : SeqAt.shaped (.list (l.map PyData.str)) = true := by
  obtain ⟨h1, h2⟩ := lay_strs l h
  show (PyData.canLayAll0 _ && decide (PyData.depthAll _ + 1 ≤ 64)) = true
  rw [h1, h2]
  rfl
theorem eqv_nil : ∀ l : List Str, PyData.eqv (.list (l.map PyData.str)) (.list []) = l.isEmpty
  | [] => rfl
  | _ :: _ => rfl
/-- a list of texts against the empty list -/
theorem eq_nil {K : PySem.W.Frag} {H : Hp} {a b : Addr} {l : List Str} {Q : VK} (ha : SqL K H a (l.map V.str)) (hb : SqL K H b []) (h : ∀ z ∈ l, ∀ c ∈ z.cps.toList, c < 0x110000) (q : Q (.bl l.isEmpty) H) : rEqD K (.ref a) (.ref b) H Q :=
  ⟨_, _, dp_strs ha, .lst hb .nil, shaped_strs h, rfl, by rw [eqv_nil]; exact q⟩
end Mx

namespace Mx
open PySem PySem.Spec PyProof.Rows L2
/-! ### heaps of a law that makes lambdas: all but tables stays, the tables keep their word -/
def Go (Tb : List (Addr × Str)) (H H' : Hp) : Prop := LamX.ExtN H H' ∧ (LamX.Tabs Tb H → LamX.Tabs Tb H')
theorem Go.refl (Tb : List (Addr × Str)) (H : Hp) : Go Tb H H := ⟨LamX.ExtN.refl H, id⟩
theorem Go.trans {Tb : List (Addr × Str)} {H H1 H2 : Hp} (x : Go Tb H H1) (y : Go Tb H1 H2) : Go Tb H H2 := ⟨x.1.trans y.1, fun t => y.2 (x.2 t)⟩
theorem Go.same {Tb : List (Addr × Str)} {H H' : Hp} (x : Same H H') : Go Tb H H' := ⟨.of x, fun t => t.ext x⟩
theorem Go.new {Tb : List (Addr × Str)} {H H1 : Hp} {p : Addr} {o : HO} (x : Go Tb H H1) (h : H1 p = none) : Go Tb H (L2.upd H1 p o) := x.trans (.same (Same.new (Same.refl _) h))
theorem Go.kp {Tb : List (Addr × Str)} {H0 H H' : Hp} {a : Addr} {c : Int} (x : Go Tb H0 H) (n : H0 a = none) (st : StAt a c H) (k : Kp a H H') : Go Tb H0 H' := by
  obtain ⟨u, m, v, e, _, _⟩ := st
  refine ⟨fun b o h1 h2 => k b o (ne_of_none h1 n) (x.1 b o h1 h2), fun t p hp => ?_⟩
  obtain ⟨ps, e1, e2, e3⟩ := x.2 t p hp
  refine ⟨ps, k _ _ (fun z => by rw [z, e] at e1; cases e1) e1, e2, fun pos cv h => ?_⟩
  obtain ⟨c', rfl, e5⟩ := e3 pos cv h
  exact ⟨c', rfl, k _ _ (fun z => by rw [z, e] at e5; unfold LamX.CodeO at e5; cases e5) e5⟩
theorem Go.lst {Tb : List (Addr × Str)} {H H' : Hp} {p : Addr} {xs : List V} (x : Go Tb H H') (h : H p = some (.lst xs)) : H' p = some (.lst xs) := x.1 p _ h fun ps z => by cases z
theorem Go.tup {Tb : List (Addr × Str)} {H H' : Hp} {p : Addr} {xs : List V} (x : Go Tb H H') (h : H p = some (.tup xs)) : H' p = some (.tup xs) := x.1 p _ h fun ps z => by cases z
theorem TyOf_go {K : PySem.W.Frag} {H H' : Hp} {x : V} {t : Value} (g : LamX.ExtN H H') (h : TyOf K H x t) : TyOf K H' x t := by
  cases h with
  | non => exact .non
  | bl y => exact .bl y
  | int i => exact .int i
  | str y => exact .str y
  | flt y => exact .flt y
  | lst e => exact .lst (g _ _ e fun ps z => by cases z)
  | frz e => exact .frz (g _ _ e fun ps z => by cases z)
  | tup e => exact .tup (g _ _ e fun ps z => by cases z)
  | dK e => exact .dK (g _ _ e fun ps z => by cases z)
  | dT e => exact .dT (g _ _ e fun ps z => by cases z)
  | ins e a b c d f => exact .ins (g _ _ e fun ps z => by cases z) a b c d f
theorem TyX_go {K : PySem.W.Frag} {H H' : Hp} {x : V} {t : Value} (g : LamX.ExtN H H') (h : TyX K H x t) : TyX K H' x t := by
  cases h with
  | base b => exact .base (TyOf_go g b)
  | byt y => exact .byt y
  | set e => exact .set (g _ _ e fun ps z => by cases z)
  | kList e c => exact .kList e c
  | kTuple e c => exact .kTuple e c
  | kDict e c => exact .kDict e c
  | fTuple e => exact .fTuple (g _ _ e fun ps z => by cases z)
  | fDict e => exact .fDict (g _ _ e fun ps z => by cases z)
theorem picked_none {α : Type} (n : Nat) (y : Nat → α) : picked n (fun _ => false) y = [] := by
  unfold picked
  simp
/-! ### the law's def: its code object told, guards told -/
structure FunC (K : PySem.W.Frag) (x : Str) (st : Stmt) (f : Addr) (fd : FuncData) (c : Addr) : Prop where
  ex : ∃ (oc : Value) (od : Option Addr) (kV doc pm : Value) (an : Option Addr) (ct : Value) (osl : Array (Option Value)),
    fd = PySem.W.fnOf x x (defArgs st) (defBody st) (defScope st) .none kV doc pm an (.ref c) ct ∧ K.lookup f = some ⟨oc, od, .func fd, osl⟩ ∧ PySem.W.codeIn K (.ref c) x = true
section
variable {P : Program} {w : World} {K : PySem.W.Frag} {mg : Str → Option Value} {base : Heap}
theorem okGC {CX : CXT} {x : Str} {st : Stmt} {f c : Addr} {fd : FuncData} {N ps : List Str} {k : Nat} {sp : Sp} (F : FunC K x st f fd c) (S : FnScope N ps (defScope st)) (len : ∀ vs H Q E, sp vs H Q E → vs.length = ps.length)
    (body : ∀ (A : Around) (outer : List Env) (s : Shared) (H : Hp) (vs : List V) (Q : VK) (E : XK), RmG k (A.deeper (envOfC x (defScope st) s.heap.objs.size f (.ref c))) → sp vs H Q E →
      ∃ t, PSs (cxOf CX P w K mg base N x (defScope st) f (.ref c) A outer s H E) (defBody st) t ∧ t { nx := fun _ H' => Q .non H', rt := Q } (start N vs) H) : FnG P w K mg base CX (k + 1) f fd ps sp := by
  obtain ⟨oc, od, kV, doc, pm, an, ct, osl, rfl, look, code⟩ := F.ex
  constructor
  · exact len
  intro A outer s H args us vs Q E room e0 binds rel want
  have names : ((ps.zip us).all fun y => (defScope st).names.lookup y.1 == some .local || (defScope st).names.lookup y.1 == some .cell) = true := by
    rw [List.all_eq_true]
    rintro ⟨n, u⟩ mem
    rcases S.par n (List.of_mem_zip mem).1 with q | q <;> simp [q]
  have inK : K.In s.heap := e0.mod.kin.keeps fun b o z => (e0.bs b o z).1
  have limit : s.heap.NoLimit := e0.mod.nolimit.keeps fun b o z => (e0.bs b o z).1
  refine Att.call_fn inK limit look code room.r.depth binds names (fun s1 entered => ?_) S.co S.gen S.kind
  obtain ⟨t, term, read⟩ := body A outer s H vs Q E (room.deeper _) want
  have begin_ := inv_start (CX := CX) (E := E) (f := f) (cd := .ref c) (qual := x) (outer := outer) S room.r.hd e0 (len _ _ _ _ want) rel entered
  refine wpAny_mono (term.run [] s1 _ H _ begin_ read) (fun flow s2 out => ?_) fun _ _ z => z
  match flow, out with
  | .ret u, ⟨v, _, H2, J, r, q⟩ => exact ⟨v, H2, J.os, J.bare, J.base, J.hok, r, q⟩
  | .next, ⟨_, H2, J, q⟩ => exact ⟨.non, H2, J.os, J.bare, J.base, J.hok, rfl, q⟩
  | .brk, ⟨_, _, _, q⟩ => exact q.elim
  | .cont, ⟨_, _, _, q⟩ => exact q.elim
end
/-- keywords (and positional arguments) of a def without defaults -/
theorem kb_of {K : PySem.W.Frag} {x qual : Str} {st : Stmt} {f : Addr} {fd : FuncData} {ps ks : List Str} (F : Fun K x qual st f fd)
    (h : ∀ (kV doc pm : Value) (an : Option Addr) (cdv ct : Value) (us ws : List Value), (us ++ ws).length = ps.length → bindArgs (PySem.W.fnOf x qual (defArgs st) (defBody st) (defScope st) .none kV doc pm an cdv ct) ⟨us, ks.zip ws⟩ = pure (ps.zip (us ++ ws))) :
    KBinds K fd ps ks (fun us ws => us ++ ws) (fun vs zs => vs ++ zs) := by
  obtain ⟨oc, od, kV, doc, pm, an, cdv, ct, osl, rfl, look, code⟩ := F.ex
  exact ⟨fun s us ws _ hl => .of_eq (h kV doc pm an cdv ct us ws hl), fun a b => a.append b⟩
/-! ### the head: a script, tables of code objects -/
/-- what is tracked when the law is called: the tables (empty), and the script if K does not tell it -/
def lawH (K : PySem.W.Frag) (ts : List Addr) (a : Addr) (o : Obj) (xs : List V) : Hp := fun b =>
  if b ∈ ts then some (.tbl #[]) else if b = a then (if (K.lookup a).isNone = true then some (.frz o (.lst xs)) else none) else none
section
variable {K : PySem.W.Frag} {ts : List Addr} {a b : Addr} {o : Obj} {xs : List V}
theorem lawH_tab (h : b ∈ ts) : lawH K ts a o xs b = some (.tbl #[]) := if_pos h
theorem lawH_kinds {u : HO} (h : lawH K ts a o xs b = some u) : (b ∈ ts ∧ u = .tbl #[]) ∨ (b = a ∧ K.lookup a = none ∧ u = .frz o (.lst xs)) := by
  unfold lawH at h
  split at h
  · rename_i m
    exact .inl ⟨m, (Option.some.inj h).symm⟩
  · split at h
    · rename_i e
      split at h
      · rename_i n
        exact .inr ⟨e, Option.isNone_iff_eq_none.mp n, (Option.some.inj h).symm⟩
      · cases h
    · cases h
end
section
variable {P : Program} {w : World} {K : PySem.W.Frag} {mg mb : Str → Option Value} {CX : CXT} {k : Nat} {fa a : Addr} {cs : List (Addr × Addr)} {fd : FuncData} {x : Str} {sp : Sp} {s : Shared} {vs : List Value} {ns : List Int}
theorem lawRun (inK : K.In s.heap) (glob : s.heap.Ns mainGlobals mg) (blt : s.heap.Ns builtinsNs mb) (boot : ∀ y : Str, y ≠ "__name__" → mb y = bootBuiltins y) (limit : s.heap.NoLimit) (gens : s.gens = #[])
    (tabs : ∀ p ∈ cs, s.heap.get? p.2 = some { cls := .none, data := .fields #[] }) (notK : ∀ p ∈ cs, K.lookup p.2 = none) (heads : ∀ p ∈ cs, PySem.W.CodeHd s.heap p.1 p.2)
    (main : ∃ (bm : Addr) (ob : Obj), mg "__builtins__" = some (.ref bm) ∧ bm ≠ builtinsNs ∧ s.heap.get? bm = some ob ∧ ob.cls = .type "module" ∧ ob.dict = some builtinsNs ∧ ob.data = .plain)
    (script : s.heap.get? a = some { cls := .type "list", data := .seq vs.toArray }) (whole : IntsAre vs ns) (short : ns.length ≤ sizeLine) (room : RmG k callerA)
    (F : ∀ base : Heap, K.In base → base.Ns mainGlobals mg → (∀ p ∈ cs, LamX.TabB base mg p.1 p.2) → FnG P w K mg base CX k fa fd [x] sp) (bind : ∀ (s : Shared) (u : Value), BindsTo s fd ⟨[u], []⟩ [(x, u)])
    (want : ∀ H : Hp, (∀ p ∈ cs, H p.2 = some (.tbl #[])) → LsX K H a (ns.map V.int) → sp [.ref a] H (fun v _ => v = .bl true) fun _ _ _ => False)
    (none_ : ∀ H e s', CX [] H s (fun _ _ _ => False) e s' → False) :
    codeAny (model P w) callerA (.call (.ref fa) ⟨[.ref a], []⟩) (fun r s' => r = .ok (.ret (.bool true)) ∧ OldK s.heap s'.heap ∧ s'.os = s.os ∧ AllBare s'.gens) s := by
  have rel : Vals (ns.map V.int) vs := vals_ints whole
  have isTab : ∀ b ∈ cs.map Prod.snd, s.heap.get? b = some { cls := .none, data := .fields #[] } := by
    intro b mem
    obtain ⟨p, hp, rfl⟩ := List.mem_map.mp mem
    exact tabs p hp
  have ofTab : ∀ p ∈ cs, p.2 ∈ cs.map Prod.snd := fun p hp => List.mem_map_of_mem hp
  generalize hH : lawH K (cs.map Prod.snd) a { cls := .type "list", data := .seq vs.toArray } (ns.map V.int) = H
  have tracked : ∀ {b : Addr} {u : HO}, H b = some u → (b ∈ cs.map Prod.snd ∧ u = .tbl #[]) ∨ (b = a ∧ K.lookup a = none ∧ u = .frz { cls := .type "list", data := .seq vs.toArray } (.lst (ns.map V.int))) := fun {b u} e => lawH_kinds (by rw [hH]; exact e)
  have atTab : ∀ p ∈ cs, H p.2 = some (.tbl #[]) := fun p hp => by rw [← hH]; exact lawH_tab (ofTab p hp)
  -- an object that is neither a list nor an empty table is not tracked
  have plain : ∀ {b : Addr} {o : Obj}, s.heap.get? b = some o → o ≠ { cls := .none, data := .fields #[] } → o ≠ { cls := .type "list", data := .seq vs.toArray } → H b = none := by
    intro b o e n1 n2
    cases q : H b with
    | none => rfl
    | some u =>
      rcases tracked q with ⟨m, _⟩ | ⟨rfl, _⟩
      · exact absurd (Option.some.inj (e.symm.trans (isTab b m))) n1
      · exact absurd (Option.some.inj (e.symm.trans script)) n2
  have below : ∀ {b : Addr} {o : Obj}, s.heap.get? b = some o → o ≠ { cls := .none, data := .fields #[] } → o ≠ { cls := .type "list", data := .seq vs.toArray } → (hidT s.heap H).get? b = some o := fun e n1 n2 => hidT_get e (plain e n1 n2)
  have spaces : ∀ {b : Addr} {m : Str → Option Value}, s.heap.Ns b m → (hidT s.heap H).Ns b m := by
    rintro b m ⟨o, es, ep, e, d, r⟩
    exact ⟨o, es, ep, below e (fun z => by rw [z] at d; cases d) (fun z => by rw [z] at d; cases d), d, r⟩
  have inB : K.In (hidT s.heap H) := by
    intro b o e
    refine hidT_get (inK b o e) ?_
    cases q : H b with
    | none => rfl
    | some u =>
      rcases tracked q with ⟨m, _⟩ | ⟨rfl, n, _⟩
      · obtain ⟨p, hp, rfl⟩ := List.mem_map.mp m
        rw [notK p hp] at e
        cases e
      · rw [n] at e
        cases e
  have mod : L2.Mod K mg (hidT s.heap H) := ⟨inB, spaces glob, ⟨mb, spaces blt, boot⟩, let ⟨mc, l1, l2⟩ := limit; ⟨mc, spaces l1, l2⟩⟩
  have bases : ∀ p ∈ cs, LamX.TabB (hidT s.heap H) mg p.1 p.2 := by
    intro p hp
    have tp := tabs p hp
    constructor
    · obtain ⟨o, us, file, tf, flags, tg, inF, text, tt, e1, r1, r2, r3, rest⟩ := heads p hp
      refine ⟨o, us, file, tf, flags, tg, inF, text, tt, below e1 (fun z => ?_) (fun z => ?_), r1, r2, r3, rest⟩
      · rw [z] at r2
        cases r2
        simp at r3
      · rw [z] at r2
        cases r2
    · obtain ⟨bm, ob, b1, b2, b3, b4, b5, b6⟩ := main
      refine ⟨bm, ob, b1, b2, fun z => ?_, fun z => ?_, below b3 (fun z => by rw [z] at b6; cases b6) (fun z => by rw [z] at b6; cases b6), b4, b5, b6⟩
      · obtain ⟨o, es, ep, e, d, _⟩ := glob
        rw [z, e] at b3
        obtain rfl := Option.some.inj b3
        rw [d] at b6
        cases b6
      · rw [z, tp] at b3
        obtain rfl := Option.some.inj b3
        cases b6
    · intro z
      obtain ⟨o, es, ep, e, d, _⟩ := glob
      rw [z, tp] at e
      obtain rfl := Option.some.inj e
      cases d
  have reads : LsX K H a (ns.map V.int) := by
    cases q : K.lookup a with
    | some o =>
      have e1 := Option.some.inj ((inK a o q).symm.trans script)
      exact .inr ⟨vs, 0, by rw [q, e1], by rw [List.length_map]; exact short, rel⟩
    | none =>
      refine .inl (.inr ⟨{ cls := .type "list", data := .seq vs.toArray }, ?_⟩)
      have no : a ∉ cs.map Prod.snd := fun m => by
        have z := (isTab a m).symm.trans script
        cases Option.some.inj z
      rw [← hH]
      unfold lawH
      rw [if_neg no, if_pos rfl, if_pos (by rw [q]; rfl)]
  have hok : HOk P w H s.heap := by
    intro b u e
    rcases tracked e with ⟨m, rfl⟩ | ⟨rfl, _, rfl⟩
    · exact isTab b m
    · exact ⟨script, by rw [List.length_map]; exact short, vs, _, rel, script⟩
  have e0 : Env0 P w K mg (hidT s.heap H) callerA [] s H := ⟨rfl, mod, fun b o e => of_hidT e, Nat.le_of_eq (hidT_size _ _), trivial, (fun b m => by cases m), hok, .of_eq gens⟩
  refine codeAny_mono ((F _ inB (spaces glob) bases).run callerA [] s H ⟨[.ref a], []⟩ [.ref a] [.ref a] _ _ room e0 (bind s (.ref a)) (.cons rfl .nil) (want H atTab reads)) ?_
  intro r s' out
  match r, out with
  | .error e, z => exact (none_ H e s' z).elim
  | .ok .next, z => exact z.elim
  | .ok .brk, z => exact z.elim
  | .ok .cont, z => exact z.elim
  | .ok (.ret u), ⟨v, H', os, bare, un, hok', r', (q : v = .bl true)⟩ =>
    subst q
    have u1 : u = Value.bool true := r'
    subst u1
    have grown : ∀ b ∈ cs.map Prod.snd, ∃ more : Array Value, s'.heap.get? b = some { cls := .none, data := .fields more } := by
      intro b mem
      obtain ⟨p, hp, rfl⟩ := List.mem_map.mp mem
      obtain ⟨more, z⟩ := un.tbls p.2 #[] (atTab p hp)
      exact ⟨_, hok' _ _ z⟩
    have stays : ∀ b o, b ∉ cs.map Prod.snd → s.heap.get? b = some o → s'.heap.get? b = some o := by
      intro b o no e
      cases t : H b with
      | none => exact un.keep b o e t (fun z => by cases z) (fun z => by cases z)
      | some u =>
        rcases tracked t with ⟨m, _⟩ | ⟨rfl, _, rfl⟩
        · exact absurd m no
        · have z1 := (hok _ _ t).1
          have z2 := (hok' _ _ (un.frzs _ _ _ t)).1
          rw [← e]
          exact z2.trans z1.symm
    refine ⟨rfl, ⟨fun b o e => ?_, fun b o e => ?_⟩, os, bare⟩
    · by_cases mem : b ∈ cs.map Prod.snd
      · obtain ⟨more, z⟩ := grown b mem
        obtain ⟨p, hp, rfl⟩ := List.mem_map.mp mem
        obtain rfl := Option.some.inj (e.symm.trans (tabs p hp))
        exact .inr (.inl ⟨((heads p hp).tab (tabs p hp)).isCodeTable, rfl, #[], more, rfl, by rw [Array.empty_append]; exact z⟩)
      · exact .inl (stays b o mem e)
    · by_cases mem : b ∈ cs.map Prod.snd
      · obtain ⟨more, z⟩ := grown b mem
        exact ⟨_, z⟩
      · exact ⟨o, stays b o mem e⟩
end
/-- what is known of the law's promise behind the top -/
def LawG (l : PySem.W.OpenLaw) (w : World) (K : PySem.W.Frag) (CX : CXT) (k n : Nat) (x : Str) (mg : Str → Option Value) (fa : Addr) (h : Heap) : Prop :=
  ∃ (fd : FuncData) (cs : List (Addr × Addr)) (sp : Sp), (∀ p ∈ cs, h.get? p.2 = some { cls := .none, data := .fields #[] }) ∧ (∀ p ∈ cs, K.lookup p.2 = none) ∧ (∀ p ∈ cs, PySem.W.CodeHd h p.1 p.2) ∧ (∀ (s : Shared) (u : Value), BindsTo s fd ⟨[u], []⟩ [(x, u)]) ∧
    (∀ (H : Hp) (a : Addr) (ns : List Int), ns.length ≤ n → (∀ z ∈ ns, Builtin.Int.intBits z ≤ 1048576) → (∀ p ∈ cs, H p.2 = some (.tbl #[])) → LsX K H a (ns.map V.int) → sp [.ref a] H (fun v _ => v = .bl true) fun _ _ _ => False) ∧
    ∀ base : Heap, K.In base → base.Ns mainGlobals mg → (∀ p ∈ cs, LamX.TabB base mg p.1 p.2) → FnG l.prog w K mg base CX k fa fd [x] sp
theorem walkG {l : PySem.W.OpenLaw} {n k : Nat} {q : Program} {loose : List Str} {XP : (Str → Option Value) → Heap → Prop} {YP : World → Heap → Prop} {d : DefRec} {K : Params → PySem.W.Frag} {CX : World → CXT} {x : Str}
    (most : l.most = some n) (fits : n ≤ sizeLine) (bare : d.params.defaults = []) (room : RmG k callerA) (hY : ∀ (w : World) (h : Heap), YP w h → (K w.params).In h)
    (F : ∀ (w : World) (mg mb : Str → Option Value) (fa : Addr) (h : Heap), (∃ ls mean, PyProof.Rows.Top q ls mean mg mb h) → YP w h → (K w.params).In h → h.Ns mainGlobals mg → mg d.name = some (.ref fa) → LawG l w (K w.params) (CX w) k n x mg fa h)
    (none_ : ∀ (w : World) (H : Hp) (s : Shared) (e : Value) (s' : Shared), CX w [] H s (fun _ _ _ => False) e s' → False) :
    PySem.W.WalkO q loose XP YP l.row.toRowW d [] (fun f vs => PySem.call f vs) := by
  refine Att.attach_callB most bare ?_
  intro w s0 s mg mb fa o pm cd doc a vs ns G Y ho hd hcd hm script whole len bits gens
  have inK := hY w _ Y
  obtain ⟨fd, cs, sp, tabs, notK, heads, bind, want, run⟩ := F w mg mb fa _ ⟨_, _, G.T⟩ Y inK G.T.g hm
  exact lawRun inK G.T.g G.T.b G.T.builtins G.T.nolimit gens tabs notK heads G.T.bmain script whole (Nat.le_trans len fits) room run bind (fun H t r => want H a ns len bits t r) fun H e s' => none_ w H s e s'
end Mx

namespace Mx
open PySem PySem.Spec PyProof.Rows L2
/-! ### d.setdefault(k, v), called as a method -/
def tDSet (td ty tx : TE) : TE := fun σ H Q => td σ H fun x H1 => ∃ a, x = .ref a ∧ IsD H1 a ∧ ty σ H1 fun y H2 => tx σ H2 fun z H3 => rSetd (.ref a) [y, z] H3 Q
section
variable {X : Cx} {o e f : Expr} {apos cpos : Pos} {td ty tx : TE}
theorem pe_dset2 (ho : PE X o td) (he : PE X e ty) (hf : PE X f tx) (m : M2 X o "setdefault" apos e f cpos) : PE X (.Call (.Attribute o "setdefault" apos) [e, f] [] cpos) (tDSet td ty tx) := by
  constructor
  intro pins s σ H Q I h
  refine wpAny_Call_method m.base m.few m.line PySem.F.plainAttrs_dict PySem.F.slot_dict_setdefault PySem.F.type_dict_setdefault (thn (ho.run pins s σ H _ I h) ?_)
  rintro u s1 ⟨x, H1, I1, rx, a, rfl, d, q1⟩
  obtain rfl : u = Value.ref a := rx
  obtain ⟨t1, t2, _⟩ := isD_at I1 d
  refine ⟨t1, t2, ?_⟩
  rw [m.trees]
  refine Calls.callWith_builtin rfl (Calls.evalArgs_plain (Calls.spliced_cons (thn (he.run pins s1 σ H1 _ I1 q1) ?_)))
  rintro iv s2 ⟨y, H2, I2, ry, q2⟩
  refine Calls.spliced_cons (thn (hf.run pins s2 σ H2 _ I2 q2) ?_)
  rintro fv s3 ⟨z, H3, I3, rz, b, kvs, k, v, eb, ev, ea, hl, w1, w2⟩
  cases eb
  cases ev
  refine Calls.spliced_nil ?_
  obtain ⟨fits, notMods, vs0, rel, dd⟩ := dk_of I3.hok ea
  have small : vs0.length ≤ sizeLine := by rw [← rel.length]; exact fits
  refine call_meetsIn PySem.F.slot_dict_setdefault dd.typeIs PySem.F.entry_dict_setdefault (PySem.F.args_dict_setdefault_3 _ _ _) (kt_meets_setdefault (mixKind X.prog X.w) _ (kV_is ry) notMods _) ⟨vs0, dd, small, ?_, ?_⟩
  · intro u hu
    have there := rel.val k
    rw [hu] at there
    match hv : valV kvs k, there with
    | some x, there => exact ⟨x, H3, I3.tok _, there, w1 x hv⟩
    | none, there => exact there.elim
  · intro hn h' dd' hs
    have there := rel.val k
    rw [hn] at there
    match hv : valV kvs k, there with
    | some x, there => exact there.elim
    | none, there =>
      have grows : (putK kvs k z).length ≤ sizeLine := by have := length_putK kvs k z; omega
      exact ⟨z, _, d_write (t' := s3.toks + 1) I3 (by rw [ea]; exact True.intro) hs (let ⟨q, _, _, hq, _⟩ := dd'; ⟨q, hq⟩) (dk_new grows notMods (rel.put k rz) dd'), rz, w2 hv⟩
end
/-- a def with one default: where it stands, its name, its parameters, the default -/
structure DefD (K : PySem.W.Frag) (mg : Str → Option Value) (x : Str) (st : Stmt) (ps : List Str) (dv : V) : Type where
  f : Addr
  fd : FuncData
  F : FunD K x x (defArgs st) (defBody st) (defScope st) [dv] [] f fd
  m : mg x = some (.ref f)
  b : Binds K fd ps []
  ds : List Value
  hd : Vals [dv] ds
  b1 : Binds K fd ps ds
/-! ### a sign, n times -/
theorem rep_fold (c : Nat) : ∀ (m : Nat) (acc : Array Nat), ((List.replicate m (#[c] : Array Nat)).foldl (· ++ ·) acc).toList = acc.toList ++ List.replicate m c
  | 0, acc => by simp
  | m + 1, acc => by
    rw [List.replicate_succ, List.foldl_cons, rep_fold c m (acc ++ #[c]), List.replicate_succ]
    simp
theorem mul_one (c : Nat) (n : Int) (h : 0 ≤ n) : TL.tl (Txt.mul ⟨#[c]⟩ n) = List.replicate n.toNat c := by
  unfold Txt.mul
  by_cases h1 : n < 1
  · rw [if_pos h1]
    have : n = 0 := by omega
    subst this
    rfl
  · rw [if_neg h1]
    by_cases h2 : n = 1
    · subst h2
      rfl
    · rw [if_neg (by simp [Str.length]; exact h2)]
      show ((List.replicate n.toNat (#[c] : Array Nat)).foldl (· ++ ·) #[]).toList = _
      rw [rep_fold]
      rfl
theorem mul_ok (c : Nat) (n : Int) (h : 0 ≤ n) (h2 : n ≤ 1000) : MulOk ⟨#[c]⟩ n := by
  refine ⟨?_, ?_, ?_⟩
  · rw [decide_eq_false (by omega), decide_eq_false (by omega)]
    rfl
  · intro h1 _ h3
    have h4 : ((2 : Int) ^ 63 - 1) / n ≥ 1 := (Int.le_ediv_iff_mul_le (by omega)).mpr (by omega)
    have h5 : (((⟨#[c]⟩ : Str).length : Nat) : Int) = 1 := rfl
    omega
  · intro _ _
    exact short24 (by show 1 * n.toNat ≤ 16777216; omega)
theorem op_strMul {X : Cx} : OpR X (binaryOp .Mult) (fun x y H Q => ∃ (c : Nat) (n : Int), x = .str ⟨#[c]⟩ ∧ y = .int n ∧ (0 ≤ n ∧ n ≤ 1000) ∧ ∀ z : Str, TL.tl z = List.replicate n.toNat c → Q (.str z) H) := by
  intro pins s σ H x y v u Q I rx ry h
  obtain ⟨c, n, rfl, rfl, ⟨h1, h2⟩, q⟩ := h
  obtain ⟨t, rfl⟩ := rx
  obtain ⟨t', rfl⟩ := ry
  exact SB.mul (mul_ok c n h1 h2) fun t2 tk => ⟨.str _, H, I.tok _, ⟨_, rfl⟩, q _ (mul_one c n h1)⟩
end Mx

namespace Mx
open PySem PySem.Spec PyProof.Rows L2
/-! ### what stands, carried by rules that a tactic can chain backwards -/
section
variable {Tb : List (Addr × Str)} {H H0 H1 H' : Hp} {p q a : Addr} {o u : HO} {xs : List V} {c d : Int} {kvs : List (Key × V)}
theorem lk_new (hp : H p = none) (h : H q = some u) : upd H p o q = some u := by rw [upd_ne (ne_of_none h hp)]; exact h
theorem lk_ne (n : q ≠ p) (h : H q = some u) : upd H p o q = some u := by rw [upd_ne n]; exact h
theorem lk_same (s : Same H H') (h : H q = some u) : H' q = some u := s _ _ h
theorem lk_go_lst (g : Go Tb H H') (h : H q = some (.lst xs)) : H' q = some (.lst xs) := g.lst h
theorem lk_go_tup (g : Go Tb H H') (h : H q = some (.tup xs)) : H' q = some (.tup xs) := g.tup h
theorem lk_go_dK (g : Go Tb H H') (h : H q = some (.dK kvs)) : H' q = some (.dK kvs) := g.1 q _ h fun ps z => by cases z
theorem lk_kp (k : Kp a H H') (n : q ≠ a) (h : H q = some u) : H' q = some u := k _ _ n h
theorem lk_kp_tup (k : Kp a H H') (st : StAt a c H) (h : H q = some (.tup xs)) : H' q = some (.tup xs) := k _ _ (fun z => by obtain ⟨_, _, _, e, _⟩ := st; rw [z, e] at h; cases h) h
theorem lk_kp_dK (k : Kp a H H') (st : StAt a c H) (h : H q = some (.dK kvs)) : H' q = some (.dK kvs) := k _ _ (fun z => by obtain ⟨_, _, _, e, _⟩ := st; rw [z, e] at h; cases h) h
theorem ne_st (hp : H p = none) (st : StAt a c H) : p ≠ a := fun e => by
  obtain ⟨_, _, _, e2, _⟩ := st
  rw [e, e2] at hp
  cases hp
theorem st_new (hp : H p = none) (st : StAt a c H) : StAt a c (upd H p o) := st.same (Same.new (Same.refl _) hp)
theorem st_same (s : Same H H') (st : StAt a c H) : StAt a c H' := st.same s
theorem st_go (g : Go Tb H H') (st : StAt a c H) : StAt a c H' := let ⟨x, m, n, e, h1, h2⟩ := st; ⟨x, m, n, g.lst e, h1, h2⟩
theorem fr_new (hp : H p = none) (s : Same H0 H) : Same H0 (L2.upd H p o) := Same.new s hp
theorem fr_same (s : Same H H') (t : Same H0 H) : Same H0 H' := t.trans s
theorem go_new (hp : H p = none) (s : Go Tb H0 H) : Go Tb H0 (upd H p o) := s.new hp
theorem go_same (s : Same H H') (t : Go Tb H0 H) : Go Tb H0 H' := t.trans (.same s)
theorem go_go (s : Go Tb H H') (t : Go Tb H0 H) : Go Tb H0 H' := t.trans s
theorem go_kp (k : Kp a H H') (n : H0 a = none) (st : StAt a c H) (t : Go Tb H0 H) : Go Tb H0 H' := t.kp n st k
theorem go_set (n : H0 a = none) (h : H a = some (.lst xs)) (t : Go Tb H0 H) : Go Tb H0 (L2.upd H a o) := by
  refine ⟨fun b u h1 h2 => ?_, fun tb p hp => ?_⟩
  · rw [upd_ne (ne_of_none h1 n)]
    exact t.1 b u h1 h2
  · obtain ⟨ps, e1, e2, e3⟩ := t.2 tb p hp
    refine ⟨ps, ?_, e2, fun pos cv hc => ?_⟩
    · rw [upd_ne (fun z => by rw [z, h] at e1; cases e1)]
      exact e1
    · obtain ⟨c', rfl, e5⟩ := e3 pos cv hc
      refine ⟨c', rfl, ?_⟩
      rw [upd_ne (fun z => by rw [z, h] at e5; unfold LamX.CodeO at e5; cases e5)]
      exact e5
theorem fr_set (n : H0 a = none) (t : Same H0 H) : Same H0 (L2.upd H a o) := fun b u h1 => by
  rw [upd_ne (ne_of_none h1 n)]
  exact t b u h1
theorem none_same (t : Same H0 H) (n : H a = none) : H0 a = none := by
  cases e : H0 a with
  | none => rfl
  | some u => rw [t _ _ e] at n; cases n
theorem kp_new (hp : H p = none) (s : Kp a H0 H) : Kp a H0 (L2.upd H p o) := s.new hp
theorem kp_same (s : Same H H') (t : Kp a H0 H) : Kp a H0 H' := t.trans (.of s)
theorem kp_kp (s : Kp a H H') (t : Kp a H0 H) : Kp a H0 H' := t.trans s
theorem kp_upd (s : Kp a H0 H) : Kp a H0 (L2.upd H a o) := s.upd
end
theorem Go.tabs {Tb : List (Addr × Str)} {H0 H : Hp} (g : Go Tb H0 H) (t : LamX.Tabs Tb H0) : LamX.Tabs Tb H := g.2 t
theorem tCut {t u : TS} {D : Ends} {σ : L2.St} {H : Hp} (R : L2.St → Hp → Prop) (key : ∀ σ' H', R σ' H' → u D σ' H') (go : (∀ σ' H', R σ' H' → u D σ' H') → t { D with nx := u D } σ H) : tSeq t u D σ H := go key
theorem tCutIf {c : TT} {x y u : TS} {D : Ends} {σ : L2.St} {H : Hp} (R : L2.St → Hp → Prop) (key : ∀ σ' H', R σ' H' → u D σ' H') (go : (∀ σ' H', R σ' H' → u D σ' H') → tIfS c x y { D with nx := u D } σ H) : tSeq (tIfS c x y) u D σ H := go key
theorem str_ext {x y : Str} (h : x.cps.toList = y.cps.toList) : x = y := by
  cases x
  cases y
  congr 1
  exact Array.toList_inj.mp h
/-! ### data -/
theorem lay_str {z : Str} (h : ∀ c ∈ z.cps.toList, c < 0x110000) : PyData.canLay0 (.str z) = true := by
  rw [PyData.canLay0]
  show z.cps.all (fun c => decide (c < 0x110000)) = true
  rw [Array.all_eq_true]
  intro i hi
  exact decide_eq_true (h _ (Array.getElem_mem_toList hi))
theorem lay_str8 {z : Str} (h : ∀ c ∈ z.cps.toList, c < 128) : PyData.canLay0 (.str z) = true := lay_str fun c hc => Nat.lt_trans (h c hc) (by decide)
theorem lay_sign {c : Nat} (h : c < 128) : PyData.canLay0 (.str ⟨#[c]⟩) = true := lay_str8 fun d hd => by rw [List.mem_singleton.mp hd]; exact h
theorem lay_l (xs : List PyData) : PyData.canLay0 (.list xs) = PyData.canLayAll0 xs := by rw [PyData.canLay0]
theorem lay_t (xs : List PyData) : PyData.canLay0 (.tuple xs) = PyData.canLayAll0 xs := by rw [PyData.canLay0]
theorem lay_i (i : Int) : PyData.canLay0 (.int i) = true := by rw [PyData.canLay0]
theorem lay_b (i : Bool) : PyData.canLay0 (.bool i) = true := by rw [PyData.canLay0]
theorem lay_n : PyData.canLay0 .none = true := by rw [PyData.canLay0]
theorem lay_c (x : PyData) (xs : List PyData) : PyData.canLayAll0 (x :: xs) = (PyData.canLay0 x && PyData.canLayAll0 xs) := by rw [PyData.canLayAll0]
theorem lay_e : PyData.canLayAll0 [] = true := by rw [PyData.canLayAll0]
theorem eqv_same {d : PyData} (h : SeqAt.shaped d = true) : PyData.eqv d d = true := SeqAt.eqv_refl d (SeqAt.canLay_of_shaped h)
end Mx

namespace Mx
open PySem PySem.Spec PyProof.Rows L2
/-! ### enumerate of a tuple -/
theorem meets_enumT (l : Addr) (items : Array Value) :
    Meets (Builtin.«enumerate.__new__» ⟨[.type "enumerate", .ref l], []⟩) (fun _ R s => s.heap.IsTuple l items ∧
      R (.ok (.ret (.ref (s.heap.push { cls := .type "tuple_iterator", data := .fields #[.ref l, .int 0 0] }).objs.size)))
        { s with heap := (s.heap.push { cls := .type "tuple_iterator", data := .fields #[.ref l, .int 0 0] }).push { cls := .type "enumerate", data := .fields #[.none, .bool false, .ref s.heap.objs.size, rawInt 0, .none, .none] } }) :=
  .of_wp fun prog w A R s h => by
    obtain ⟨hp, g, d, tk, os⟩ := s; obtain ⟨hL, h⟩ := h
    have hsub := sub_enumerate
    obtain ⟨o, ho, hc, n, hd⟩ := id hL
    wp_walk using AutoSeq1.wpAny_loadPart' ho
    refine wpAny_stack_any fun st => wpAny_pure ?_
    split
    · rename_i c _ _ _ _ _
      cases (c == Value.type "enumerate")
      · wp_walk using AutoSeq1.wpAny_loadPart' ho, wpAny_pyIter_tuple hL
        exact ⟨_, rfl, h⟩
      · wp_walk using AutoSeq1.wpAny_loadPart' ho, wpAny_pyIter_tuple hL
        exact ⟨_, rfl, h⟩
    · wp_walk using AutoSeq1.wpAny_loadPart' ho, wpAny_pyIter_tuple hL
      exact ⟨_, rfl, h⟩
theorem call_enumT {prog : Program} {w : World} {A : Around} {E : Value → Shared → Prop} {s : Shared} {l : Addr} {items : Array Value} {Q : Value → Shared → Prop} (hL : s.heap.IsTuple l items)
    (h : ∀ h', IsEnum h' (s.heap.objs.size + 1) s.heap.objs.size 0 .none → h'.IsTupleIter s.heap.objs.size l 0 → h'.objs.size = s.heap.objs.size + 2 →
      (∀ b o, s.heap.get? b = some o → h'.get? b = some o) → Q (.ref (s.heap.objs.size + 1)) { s with heap := h' }) :
    wpAny (model prog w) A (call (.type "enumerate") [.ref l]) Q E s := by
  refine callType_new F.called_enumerate (by decide) (F.typeCall_enumerate_1 _) (F.newCall_enumerate_1 _) (fun obj => F.args_object_init_2 obj _) F.entry_enumerate_new
    (meets_enumT l items) ⟨hL, ?_⟩
  have hz : (s.heap.push { cls := .type "tuple_iterator", data := .fields #[.ref l, .int 0 0] }).objs.size = s.heap.objs.size + 1 := Heap.size_push ..
  show _ ∧ _
  rw [hz]
  have he : IsEnum ((s.heap.push { cls := .type "tuple_iterator", data := .fields #[.ref l, .int 0 0] }).push
      { cls := .type "enumerate", data := .fields #[.none, .bool false, .ref s.heap.objs.size, rawInt 0, .none, .none] }) (s.heap.objs.size + 1) s.heap.objs.size 0 .none := by
    have := Heap.get?_push_size (s.heap.push { cls := .type "tuple_iterator", data := .fields #[.ref l, .int 0 0] })
      (o := { cls := .type "enumerate", data := .fields #[.none, .bool false, .ref s.heap.objs.size, rawInt 0, .none, .none] }) rfl
    rw [hz] at this; exact this
  refine ⟨⟨_, he, rfl⟩, h _ he ⟨_, Heap.get?_push_of_some _ (Heap.get?_push_size _ rfl), rfl, rfl⟩ (by rw [Heap.size_push, hz]) fun b o x => Heap.get?_push_of_some _ (Heap.get?_push_of_some _ x)⟩
def Itu (K : PySem.W.Frag) (a : Addr) : It :=
  ⟨fun i H => ∃ (xs : List V) (x : V), SqT K H a xs ∧ xs[i]? = some x, fun i H v H' => ∃ T x, v = .ref T ∧ H T = none ∧ H' = upd H T (.tup [.int (i : Nat), x]) ∧ ∀ xs, SqT K H a xs → xs[i]? = some x, fun i H => ∃ xs : List V, SqT K H a xs ∧ xs.length = i⟩
theorem turn_enumT {P : Program} {w : World} {K : PySem.W.Frag} {elts : List Expr} {kk : Nat} {tpos : Pos} (a e it : Addr) :
    Turn P w K (.Tuple elts kk tpos) (Itu K a) [e, it] e (fun i h => (∃ old, IsEnum h e it ((i : Nat) : Int) old) ∧ h.IsTupleIter it a i ∧ e ≠ it) where
  mem := by simp
  obj := fun i h st b hb => by
    obtain ⟨⟨old, he⟩, ⟨o, ho, hc, hd⟩, _⟩ := st
    have e' : b = e ∨ b = it := by simpa using hb
    rcases e' with z | z
    · rw [z]; exact ⟨_, he, fun v q => nomatch q⟩
    · rw [z]; exact ⟨o, ho, fun v q => by rw [hd] at q; cases q⟩
  keep := fun i h h' st k => let ⟨⟨old, he⟩, hi, hne⟩ := st; ⟨⟨old, k e (by simp) _ he⟩, hi.at fun o q => k it (by simp) o q, hne⟩
  item := by
    intro X hP hw hK hc i pins s σ H E I hf st hg
    subst hP hw hK
    obtain ⟨⟨old, he⟩, hit, hne⟩ := st
    obtain ⟨xs, x, hq, hx⟩ := hg
    obtain ⟨its, rv, p, hz⟩ := I.tuple hq
    have p' : s.heap.IsTuple a its.toArray := p
    obtain ⟨u, hu, ru⟩ := rv.get hx
    have hel : e < s.heap.objs.size := Heap.lt_size he
    have hil : it < s.heap.objs.size := by obtain ⟨_, q, _⟩ := hit; exact Heap.lt_size q
    have hea : e ≠ a := fun z => by
      obtain ⟨o, ho, hcl, _⟩ := p'
      have he' := he
      unfold IsEnum at he'
      rw [z, ho] at he'
      obtain rfl := Option.some.inj he'
      injection hcl with hcl; exact absurd hcl (by decide)
    have hai : a ≠ it := fun z => by
      obtain ⟨o, ho, hcl, _⟩ := p'
      obtain ⟨o2, ho2, hc2, _⟩ := hit
      rw [← z, ho] at ho2
      obtain rfl := Option.some.inj ho2
      rw [hcl] at hc2
      injection hc2 with hc2; exact absurd hc2 (by decide)
    have D := Draws.tuple (prog := X.prog) (w := X.w) (A := X.A.in1) (I.ok.hd hc) it a hai its.toArray
    have hi : i < its.toArray.size := by
      have := (List.getElem?_eq_some_iff.mp hu).1
      simpa using this
    refine wpAny_pyNext_enum_itemD D he ⟨hit, p'⟩ hi hne (by simp [hne, hea]) fun z h' tk hz2 ho hst hT hsz hk => ?_
    have ezu : z = u := by
      have hz3 : its[i]? = some z := by simpa using hz2
      exact Option.some.inj (hz3.symm.trans hu)
    subst ezu
    refine ⟨_, rfl, wpAny_letOwnedTupleGo_enum (s := { s with heap := h', toks := tk + 1 }) ho fun h'' he' sb => ?_⟩
    have hT2 : h''.get? s.heap.objs.size = some { cls := .type "tuple", data := .seq #[.int i tk, z] } := (sb.2 _ (Nat.ne_of_gt hel)).trans hT
    have new : ObjOk X.prog X.w (upd H s.heap.objs.size (.tup [.int (i : Nat), x])) h'' s.heap.objs.size (.tup [.int (i : Nat), x]) :=
      ⟨by show 2 ≤ sizeLine; decide, [.int i tk, z], .cons ⟨_, rfl⟩ (.cons ru .nil), ⟨_, hT2, rfl, _, rfl⟩⟩
    have I1 : Inv X pins σ (upd H s.heap.objs.size (.tup [.int (i : Nat), x])) { s with heap := h'', toks := tk + 1 } :=
      I.turnedNew (ch := [e, it]) (fun b ob hb q => (sb.2 b (fun z => hb (by simp [z]))).trans (hk b ob (fun z => hb (by simp [z])) (fun z => hb (by simp [z])) q)) hf (Nat.le_refl _) new
    refine ⟨.ref s.heap.objs.size, _, I1, rfl, ⟨_, x, rfl, I.hok.fresh (Nat.le_refl _), rfl, fun ys hy => by rw [I.tuple_inj hy hq]; exact hx⟩, ⟨⟨z, ?_⟩, hst.1.at fun o q => (sb.2 it (Ne.symm hne)).trans q, hne⟩, fun b hb => ?_⟩
    · have e1 : ((i + 1 : Nat) : Int) = (i : Int) + 1 := by omega
      rw [e1]; exact he'
    · have hb' : b < s.heap.objs.size := by
        have e' : b = e ∨ b = it := by simpa using hb
        rcases e' with z | z
        · rw [z]; exact hel
        · rw [z]; exact hil
      rw [upd_ne (Nat.ne_of_lt hb')]
      exact (hf b hb).1
  done := by
    intro X hP hw hK hc i pins s σ H E I hf st hg
    subst hP hw hK
    obtain ⟨⟨old, he⟩, hit, hne⟩ := st
    obtain ⟨xs, hq, hx⟩ := hg
    obtain ⟨its, rv, p, hz⟩ := I.tuple hq
    have p' : s.heap.IsTuple a its.toArray := p
    have hai : a ≠ it := fun z => by
      obtain ⟨o, ho, hcl, _⟩ := p'
      obtain ⟨o2, ho2, hc2, _⟩ := hit
      rw [← z, ho] at ho2
      obtain rfl := Option.some.inj ho2
      rw [hcl] at hc2
      injection hc2 with hc2; exact absurd hc2 (by decide)
    have D := Draws.tuple (prog := X.prog) (w := X.w) (A := X.A.in1) (I.ok.hd hc) it a hai its.toArray
    obtain ⟨f0, f1, f2, f3, f4, f5⟩ := hf it (by simp)
    have hl := rv.length
    have hi : its.toArray.size = i := by rw [List.size_toArray, ← hl, hx]
    subst hi
    exact wpAny_pyNext_enum_endD D he ⟨hit, p'⟩ fun h' eb => ⟨rfl, I.turned (t' := s.toks) (fun b o hb q => eb b o hb q) f0 f1 f3 f4 f5⟩
  self := fun A i s Q E st h => let ⟨⟨_, he⟩, _⟩ := st; wpAny_pyIter_enum he h
def iEnumT (K : PySem.W.Frag) (ta : TA) : TI := fun σ H R => ta σ H fun vs H1 => ∃ a xs, vs = [.ref a] ∧ SqT K H1 a xs ∧ R (Itu K a) H1
theorem pi_enumTup {X : Cx} {e : Expr} {ta : TA} {p pos tpos : Pos} {elts : List Expr} {kk : Nat} (hg : Gl X "enumerate") (hm : X.mg "enumerate" = none) (ha : PA X [e] ta) (hs : starEach [e] X.env = [(false, eval e X.env)] := by rfl) :
    PI X (.Tuple elts kk tpos) (.Call (.Name "enumerate" p) [e] [] pos) (iEnumT X.K ta) := by
  refine ⟨fun pins s σ H R I h => ?_⟩
  refine Call_ (ld_blt I hg hm boot_enumerate (PyProof.Rows.callWith_type1 (thn (ha.run pos pins s σ H _ I h) fun us s1 ⟨vs, H1, I1, r1, q1⟩ => ?_) hs rfl))
  obtain ⟨a, xs, ex, hq, q⟩ := q1
  subst ex
  cases r1 with
  | cons r rr =>
    cases rr
    cases r
    obtain ⟨its, rv, p', hz⟩ := I1.tuple hq
    have p2 : s1.heap.IsTuple a its.toArray := p'
    refine call_enumT p2 fun h' he hit hsz hk => wpAny_pyIter_enum he ?_
    have I2 : Inv X pins σ H1 { s1 with heap := h' } := I1.kept (t' := s1.toks) hk
    refine ⟨s1.heap.objs.size + 1, [s1.heap.objs.size + 1, s1.heap.objs.size], _, _, H1, rfl, I2, turn_enumT a (s1.heap.objs.size + 1) s1.heap.objs.size, ⟨⟨.none, he⟩, hit, Nat.succ_ne_self _⟩, fun b hb => ?_, q⟩
    have e' : b = s1.heap.objs.size + 1 ∨ b = s1.heap.objs.size := by simpa using hb
    have hle : s1.heap.objs.size ≤ b := by
      rcases e' with z | z
      · rw [z]; exact Nat.le_add_right _ _
      · rw [z]; exact Nat.le_refl _
    exact I1.fpOk hle (I1.hok.fresh hle)
/-- for i, x in enumerate(t): a tuple that stands still -/
theorem for_eu {K : PySem.W.Frag} {a : Addr} {xs : List V} {g : TG} {tb : TS} {D : Ends} {σ : L2.St} {H : Hp} (Pv : Nat → L2.St → Hp → Prop) (h0 : Pv 0 σ H) (hl : ∀ i σ H, Pv i σ H → SqT K H a xs)
    (hs : ∀ (i : Nat) (x : V) (T : Addr) σ H, xs[i]? = some x → H T = none → Pv i σ H → g (.ref T) σ (upd H T (.tup [.int (i : Nat), x])) fun σ2 H2 => tb { D with nx := Pv (i + 1), ct := Pv (i + 1), bk := D.nx } σ2 H2)
    (hd : ∀ σ H, Pv xs.length σ H → D.nx σ H) :
    ∃ W : Nat → Nat → L2.St → Hp → Prop, (∃ m, W 0 m σ H) ∧ ∀ i m σ H, W i m σ H →
      ((Itu K a).stop i H ∧ D.nx σ H) ∨ ((Itu K a).go i H ∧ ∃ N : L2.St → Hp → Prop, (∀ σ' H', N σ' H' → ∃ m', m' < m ∧ W (i + 1) m' σ' H') ∧ ∀ v H', (Itu K a).yld i H v H' → g v σ H' fun σ2 H2 => tb { D with nx := N, ct := N, bk := D.nx } σ2 H2) := by
  refine ⟨fun i m σ H => m = xs.length - i ∧ i ≤ xs.length ∧ Pv i σ H, ⟨xs.length, by simp, Nat.zero_le _, h0⟩, ?_⟩
  rintro i m σ H ⟨rfl, hi, p⟩
  have hl' := hl i σ H p
  by_cases hlt : i < xs.length
  · have e : xs[i]? = some xs[i] := List.getElem?_eq_getElem hlt
    refine .inr ⟨⟨xs, xs[i], hl', e⟩, Pv (i + 1), fun σ' H' p' => ⟨xs.length - (i + 1), by omega, rfl, hlt, p'⟩, fun v H' y => ?_⟩
    obtain ⟨T, x, rfl, hT, rfl, hx⟩ := y
    exact hs i x T σ H (hx xs hl') hT p
  · have e : i = xs.length := by omega
    subst e
    exact .inl ⟨⟨xs, hl', rfl⟩, hd σ H p⟩
end Mx

namespace Mx
open PySem PySem.Spec PyProof.Rows L2
/-! ### data with dicts, read and shown -/
mutual
inductive Rs (h : Heap) : Value → PyData → Prop
  | none : Rs h .none .none
  | bool (b) : Rs h (.bool b) (.bool b)
  | int (i t) : Rs h (.int i t) (.int i)
  | str (x t) : Rs h (.str x t) (.str x)
  | list {a : Addr} {o : Obj} {vs : Array Value} {n : Nat} {xs : List PyData} : h.get? a = some o → o.cls = .type "list" → o.data = .seq vs n → RsAll h vs.toList xs → Rs h (.ref a) (.list xs)
  | tuple {a : Addr} {o : Obj} {vs : Array Value} {n : Nat} {xs : List PyData} : h.get? a = some o → o.cls = .type "tuple" → o.data = .seq vs n → RsAll h vs.toList xs → Rs h (.ref a) (.tuple xs)
  | dict {a : Addr} {o : Obj} {es : Array DictEntry} {n : Nat} {kvs : List (PyData × PyData)} : h.get? a = some o → o.cls = .type "dict" → o.data = .dict es n → (a == sysModules) = false → RsAll h (es.toList.map (·.key)) (kvs.map (·.1)) →
      RsAll h (es.toList.map (·.val)) (kvs.map (·.2)) → Rs h (.ref a) (.dict kvs)
inductive RsAll (h : Heap) : List Value → List PyData → Prop
  | nil : RsAll h [] []
  | cons {v : Value} {vs : List Value} {d : PyData} {ds : List PyData} : Rs h v d → RsAll h vs ds → RsAll h (v :: vs) (d :: ds)
end
mutual
theorem Rs.reads {h : Heap} : ∀ {v : Value} {d : PyData}, Rs h v d → ∃ as, Reads h v d as
  | _, _, .none => ⟨_, .none⟩
  | _, _, .bool b => ⟨_, .bool b⟩
  | _, _, .int i t => ⟨_, .int i t⟩
  | _, _, .str x t => ⟨_, .str x t⟩
  | _, _, .list a b c d => let ⟨_, r⟩ := RsAll.reads d; ⟨_, .list a b c r⟩
  | _, _, .tuple a b c d => let ⟨_, r⟩ := RsAll.reads d; ⟨_, .tuple a b c r⟩
  | _, _, .dict a b c _ d e => let ⟨_, r⟩ := RsAll.reads d; let ⟨_, q⟩ := RsAll.reads e; ⟨_, .dict a b c r q⟩
theorem RsAll.reads {h : Heap} : ∀ {vs : List Value} {ds : List PyData}, RsAll h vs ds → ∃ as, ReadsAll h vs ds as
  | _, _, .nil => ⟨_, .nil⟩
  | _, _, .cons a b => let ⟨_, r⟩ := Rs.reads a; let ⟨_, q⟩ := RsAll.reads b; ⟨_, .cons r q⟩
end
section
variable {prog : Program} {w : World} {h₀ : Heap}
mutual
theorem Rs.shown : ∀ {v : Value} {d : PyData}, Rs h₀ v d → d.showable = true → d.shown.length ≤ sizeLine → ∃ bs, ReadAtMost h₀ d.depth bs ∧ ReprK prog w bs h₀ d.depth v d.shown
  | _, _, .none, _, _ => ⟨[], (fun _ h => nomatch h), by simp only [PyData.shown]; exact .of_is ReprIs.none _ _ _⟩
  | _, _, .bool b, _, _ => ⟨[], (fun _ h => nomatch h), by simp only [PyData.shown]; exact .of_is (ReprIs.bool b) _ _ _⟩
  | _, _, .int i t, hs, _ => ⟨[], (fun _ h => nomatch h), by simp only [PyData.shown]; exact .of_is (ReprIs.int t (by simpa [PyData.showable] using hs)) _ _ _⟩
  | _, _, .str x t, _, hz => ⟨[], (fun _ h => nomatch h), by simp only [PyData.shown]; exact .of_is (ReprIs.str x t (by simpa only [PyData.shown] using hz)) _ _ _⟩
  | _, _, .list (a := a) (vs := vs) (xs := xs) h1 h2 h3 h4, hs, hz => by
    have hz' : (listText (PyData.shownAll xs)).length ≤ sizeLine := by simpa only [PyData.shown] using hz
    obtain ⟨bs, hb, hk⟩ := RsAll.shown h4 (by simpa [PyData.showable] using hs) (fun t ht => Nat.le_trans (listText_mem_le ht) hz')
    obtain ⟨as, r⟩ := Rs.reads (.list h1 h2 h3 h4)
    have hna : a ∉ bs := not_mem_of_deeper r (by simp only [PyData.depth]; omega) hb
    refine ⟨a :: bs, ReadAtMost.cons r (by simp only [PyData.depth]; omega) hb, ?_⟩
    simp only [PyData.depth, PyData.shown]
    obtain ⟨l⟩ := vs
    cases l with
    | nil =>
      have h4' : RsAll h₀ [] xs := h4
      cases h4'
      simp only [PyData.shownAll, listText_nil]
      exact ReprK.listEmpty h1 h2 h3
    | cons x l => exact ReprK.list h1 h2 h3 hna (by simpa using hk.length_eq) (fun i y e => hk.item i y (by simpa using e))
  | _, _, .tuple (a := a) (xs := xs) h1 h2 h3 h4, hs, hz => by
    have hz' : (tupleText (PyData.shownAll xs)).length ≤ sizeLine := by simpa only [PyData.shown] using hz
    obtain ⟨bs, hb, hk⟩ := RsAll.shown h4 (by simpa [PyData.showable] using hs) (fun t ht => Nat.le_trans (tupleText_mem_le ht) hz')
    obtain ⟨as, r⟩ := Rs.reads (.tuple h1 h2 h3 h4)
    have hna : a ∉ bs := not_mem_of_deeper r (by simp only [PyData.depth]; omega) hb
    refine ⟨a :: bs, ReadAtMost.cons r (by simp only [PyData.depth]; omega) hb, ?_⟩
    simp only [PyData.depth, PyData.shown]
    exact ReprK.tuple h1 h2 h3 hna hk
  | _, _, .dict (a := a) (es := es) (kvs := kvs) h1 h2 h3 h6 h4 h5, hs, hz => by
    have hz' : (dictText (PyData.shownKv kvs)).length ≤ sizeLine := by simpa only [PyData.shown] using hz
    obtain ⟨hs1, hs2⟩ := PyData.showableKv_split kvs (by simpa [PyData.showable] using hs)
    obtain ⟨b1, hb1, k1⟩ := RsAll.shown h4 hs1 (fun t ht => let ⟨p, hp, hl⟩ := PyData.shownKv_key_le kvs t ht; Nat.le_trans hl (Nat.le_trans (dictText_mem_le hp) hz'))
    obtain ⟨b2, hb2, k2⟩ := RsAll.shown h5 hs2 (fun t ht => let ⟨p, hp, hl⟩ := PyData.shownKv_val_le kvs t ht; Nat.le_trans hl (Nat.le_trans (dictText_mem_le hp) hz'))
    obtain ⟨as, r⟩ := Rs.reads (.dict h1 h2 h3 h6 h4 h5)
    have hb : ReadAtMost h₀ (PyData.depthKv kvs) (b1 ++ b2) := (hb1.mono (PyData.depthAll_keys_le kvs)).append (hb2.mono (PyData.depthAll_vals_le kvs))
    have hna : a ∉ b1 ++ b2 := not_mem_of_deeper r (by simp only [PyData.depth]; omega) hb
    refine ⟨a :: (b1 ++ b2), ReadAtMost.cons r (by simp only [PyData.depth]; omega) hb, ?_⟩
    simp only [PyData.depth, PyData.shown, PyData.shownKv_eq]
    exact ReprK.dict h1 h2 h3 h6 hna (ReprEntriesK.of_two es.toList _ _
      (k1.more_le (fun b hb => List.mem_append_left _ hb) (PyData.depthAll_keys_le kvs)) (k2.more_le (fun b hb => List.mem_append_right _ hb) (PyData.depthAll_vals_le kvs)))
theorem RsAll.shown : ∀ {vs : List Value} {ds : List PyData}, RsAll h₀ vs ds → PyData.showableAll ds = true → (∀ t ∈ PyData.shownAll ds, t.length ≤ sizeLine) →
    ∃ bs, ReadAtMost h₀ (PyData.depthAll ds) bs ∧ ReprAllK prog w bs h₀ (PyData.depthAll ds) vs (PyData.shownAll ds)
  | _, _, .nil, _, _ => ⟨[], (fun _ h => nomatch h), by simp only [PyData.shownAll]; exact .nil⟩
  | _, _, .cons (d := d) (ds := ds) r rs, hs, hz => by
    have hs' : d.showable = true ∧ PyData.showableAll ds = true := by simpa [PyData.showableAll] using hs
    obtain ⟨b1, hb1, k1⟩ := Rs.shown r hs'.1 (hz _ (by simp only [PyData.shownAll]; exact List.mem_cons_self ..))
    obtain ⟨b2, hb2, k2⟩ := RsAll.shown rs hs'.2 (fun t ht => hz t (by simp only [PyData.shownAll]; exact List.mem_cons_of_mem _ ht))
    refine ⟨b1 ++ b2, ?_, ?_⟩
    · intro b hm
      simp only [PyData.depthAll]
      rcases List.mem_append.mp hm with hm | hm
      · obtain ⟨d', as', r', hd'⟩ := hb1 b hm
        exact ⟨d', as', r', Nat.le_trans hd' (Nat.le_max_left _ _)⟩
      · obtain ⟨d', as', r', hd'⟩ := hb2 b hm
        exact ⟨d', as', r', Nat.le_trans hd' (Nat.le_max_right _ _)⟩
    · simp only [PyData.depthAll, PyData.shownAll]
      exact .cons ((k1.more fun b hb => List.mem_append_left _ hb).level_le (Nat.le_max_left _ _)) (k2.more_le (fun b hb => List.mem_append_right _ hb) (Nat.le_max_right _ _))
end
/-- repr of a list of data -/
theorem repr_list {a : Addr} {xs : List PyData} {A : Around} {E : Value → Shared → Prop} {s : Shared} {Q : Value → Shared → Prop} (r : Rs s.heap (.ref a) (.list xs)) (hs : (PyData.list xs).showable = true) (hg : A.guards = some []) (hu : A.units + ((PyData.list xs).depth + 1) < cLine)
    (hQ : ∀ h' u tk, (∀ b o, s.heap.get? b = some o → h'.get? b = some o) → Q (.str (PyData.list xs).shown u) { s with heap := h', toks := tk })
    (hsz : (PyData.list xs).shown.length ≤ sizeLine) : wpAny (model prog w) A (call (.builtin "repr") [.ref a]) Q E s := by
  generalize hd : PyData.list xs = d at r hs hu hQ hsz
  cases r with
  | tuple => cases hd
  | dict => cases hd
  | list h1 h2 h3 h4 =>
    rename_i o vs n xs'
    cases hd
    have hz' : (listText (PyData.shownAll xs)).length ≤ sizeLine := by simpa only [PyData.shown] using hsz
    obtain ⟨bs, hb, hk⟩ := RsAll.shown (prog := prog) (w := w) h4 (by simpa [PyData.showable] using hs) (fun t ht => Nat.le_trans (listText_mem_le ht) hz')
    obtain ⟨as, r⟩ := Rs.reads (.list h1 h2 h3 h4)
    have hna : a ∉ bs := not_mem_of_deeper r (by simp only [PyData.depth]; omega) hb
    refine call_repr_slot (by omega) ⟨o, h1, h2⟩ F.slot_list_repr.toG ?_
    have hu' : A.in1.units + (PyData.list xs).depth < cLine := by show A.units + 1 + _ < cLine; omega
    simp only [PyData.depth] at hu'
    have hQ' : ∀ h' u tk, (∀ b o, s.heap.get? b = some o → h'.get? b = some o) → ∃ x t, Value.str (PyData.list xs).shown u = .str x t ∧ Q (.str (PyData.list xs).shown u) { s with heap := h', toks := tk } := fun h' u tk k => ⟨_, _, rfl, hQ h' u tk k⟩
    simp only [PyData.shown] at hQ'
    obtain ⟨l⟩ := vs
    cases l with
    | nil =>
      have h4' : RsAll s.heap [] xs := h4
      cases h4'
      simp only [PyData.shownAll, listText_nil] at hQ'
      exact call_list_repr_empty ⟨o, h1, h2⟩ h1 h3 (hQ' s.heap _ _ fun _ _ e => e)
    | cons x l => exact call_list_reprK h1 h2 h3 hna (by simpa using hk.length_eq) (fun i y e => hk.item i y (by simpa using e)) hg (fun b _ => Clear.nil b) hu' (fun _ _ e => e) hQ' hz'
end
/-! ### the same over the abstract heap -/
def keyD : Key → PyData
  | .inl i => .int i
  | .inr x => .str x
mutual
inductive Dx (K : PySem.W.Frag) (H : Hp) : V → PyData → Prop
  | non : Dx K H .non .none
  | bl (b : Bool) : Dx K H (.bl b) (.bool b)
  | int (i : Int) : Dx K H (.int i) (.int i)
  | str (x : Str) : Dx K H (.str x) (.str x)
  | lst {a : Addr} {xs : List V} {ds : List PyData} : SqL K H a xs → DxAll K H xs ds → Dx K H (.ref a) (.list ds)
  | tup {a : Addr} {xs : List V} {ds : List PyData} : SqT K H a xs → DxAll K H xs ds → Dx K H (.ref a) (.tuple ds)
  | dct {a : Addr} {kvs : List (Key × V)} {ds : List (PyData × PyData)} : Rd H a (.dK kvs) → DxKv K H kvs ds → Dx K H (.ref a) (.dict ds)
inductive DxAll (K : PySem.W.Frag) (H : Hp) : List V → List PyData → Prop
  | nil : DxAll K H [] []
  | cons {v : V} {vs : List V} {d : PyData} {ds : List PyData} : Dx K H v d → DxAll K H vs ds → DxAll K H (v :: vs) (d :: ds)
inductive DxKv (K : PySem.W.Frag) (H : Hp) : List (Key × V) → List (PyData × PyData) → Prop
  | nil : DxKv K H [] []
  | cons {k : Key} {v : V} {vs : List (Key × V)} {d : PyData} {ds : List (PyData × PyData)} : Dx K H v d → DxKv K H vs ds → DxKv K H ((k, v) :: vs) ((keyD k, d) :: ds)
end
theorem rs_keys {P : Program} {w : World} {h : Heap} {K : PySem.W.Frag} {H : Hp} : ∀ {kvs : List (Key × V)} {ds : List (PyData × PyData)} {es : List DictEntry} {vs : List (Key × Value)}, DxKv K H kvs ds → Pairs (mixKind P w) es vs → KV kvs vs → RsAll h (es.map (·.key)) (ds.map (·.1))
  | _, _, _, _, .nil, p, r => by cases r; cases p; exact .nil
  | _, _, _, _, .cons (k := k) _ q, p, r => by
    cases r with
    | cons r1 r2 =>
      cases p with
      | cons p1 p2 p3 =>
        refine .cons ?_ (rs_keys q p3 r2)
        have hk := p1
        rw [← r1.1] at hk
        rcases keyIs_shape hk with ⟨i, t, e1, e2⟩ | ⟨x, t, e1, e2⟩
        · dsimp only at e1 e2 ⊢
          rw [e2, e1]
          exact .int i t
        · dsimp only at e1 e2 ⊢
          rw [e2, e1]
          exact .str x t
section
variable {X : Cx} {pins : List (Addr × Obj)} {σ : L2.St} {H : Hp} {s : Shared}
mutual
theorem Dx.rs (I : Inv X pins σ H s) : ∀ {v : V} {d : PyData} {u : Value}, Dx X.K H v d → RelV v u → Rs s.heap u d
  | _, _, _, .non, r => by cases r; exact .none
  | _, _, _, .bl b, r => by cases r; exact .bool b
  | _, _, _, .int i, r => by obtain ⟨t, rfl⟩ := r; exact .int i t
  | _, _, _, .str x, r => by obtain ⟨t, rfl⟩ := r; exact .str x t
  | _, _, _, .lst hs ha, r => by
    cases r
    obtain ⟨its, rv, ⟨o, n, ho, hc, _, hd⟩, _⟩ := I.list hs
    exact .list ho hc hd (DxAll.rs I ha rv)
  | _, _, _, .tup hs ha, r => by
    cases r
    obtain ⟨its, rv, ⟨o, ho, hc, n, hd⟩, _⟩ := I.tuple hs
    exact .tuple ho hc hd (DxAll.rs I ha rv)
  | _, _, _, .dct hs ha, r => by
    cases r
    obtain ⟨hz, hsm, vs, rel, o, es, ep, ho, hx, hd, _, ps, _⟩ := dk_rd I.hok hs
    exact .dict ho hx.1 hd hsm (rs_keys ha ps rel) (DxKv.rs I ha rel ps)
theorem DxAll.rs (I : Inv X pins σ H s) : ∀ {vs : List V} {ds : List PyData} {us : List Value}, DxAll X.K H vs ds → Vals vs us → RsAll s.heap us ds
  | _, _, _, .nil, r => by cases r; exact .nil
  | _, _, _, .cons h1 h2, r => by
    cases r with
    | cons r1 r2 => exact .cons (Dx.rs I h1 r1) (DxAll.rs I h2 r2)
theorem DxKv.rs (I : Inv X pins σ H s) : ∀ {kvs : List (Key × V)} {ds : List (PyData × PyData)} {vs : List (Key × Value)} {es : List DictEntry}, DxKv X.K H kvs ds → KV kvs vs → Pairs (mixKind X.prog X.w) es vs → RsAll s.heap (es.map (·.val)) (ds.map (·.2))
  | _, _, _, _, .nil, r, p => by cases r; cases p; exact .nil
  | _, _, _, _, .cons h1 h2, r, p => by
    cases r with
    | cons r1 r2 =>
      cases p with
      | cons p1 p2 p3 => exact .cons (by dsimp only; rw [p2]; exact Dx.rs I h1 r1.2) (DxKv.rs I h2 r2 p3)
end
end
def rReprX (K : PySem.W.Frag) : List V → Hp → VK → Prop := fun xs H Q => ∃ (a : Addr) (ds : List PyData), xs = [.ref a] ∧ Dx K H (.ref a) (.list ds) ∧ (PyData.list ds).showable = true ∧ (PyData.list ds).depth ≤ 60 ∧ (PyData.list ds).shown.length ≤ sizeLine ∧ Q (.str (PyData.list ds).shown) H
theorem call_reprX {X : Cx} {k : Nat} (hr : RmG k X.A) : CallR X (.builtin "repr") (rReprX X.K) := by
  intro pins s σ H vs us Q I r h
  obtain ⟨a, ds, rfl, hd, h1, h3, h4, q⟩ := h
  cases r with
  | cons ra rn =>
    cases rn
    cases ra
    have hu := hr.r.un
    refine repr_list (Dx.rs I hd rfl) h1 hr.g (by omega) (fun h' u tk hk => ?_) h4
    exact ⟨.str (PyData.list ds).shown, H, I.kept hk, ⟨u, rfl⟩, q⟩
/-! ### frames -/
section
variable {Tb : List (Addr × Str)} {K : PySem.W.Frag} {H H' : Hp}
theorem rd_ext {a : Addr} {u : HO} (g : LamX.ExtN H H') (n : ∀ ps, u ≠ .tbl ps) (h : Rd H a u) : Rd H' a u := by
  rcases h with h | ⟨o, h⟩
  · exact .inl (g _ _ h n)
  · exact .inr ⟨o, g _ _ h fun ps z => by cases z⟩
theorem sql_ext {a : Addr} {xs : List V} (g : LamX.ExtN H H') (h : SqL K H a xs) : SqL K H' a xs := h.imp (rd_ext g fun ps z => by cases z) id
theorem sqt_ext {a : Addr} {xs : List V} (g : LamX.ExtN H H') (h : SqT K H a xs) : SqT K H' a xs := h.imp (rd_ext g fun ps z => by cases z) id
mutual
theorem Dx.ext (g : LamX.ExtN H H') : ∀ {v : V} {d : PyData}, Dx K H v d → Dx K H' v d
  | _, _, .non => .non
  | _, _, .bl b => .bl b
  | _, _, .int i => .int i
  | _, _, .str x => .str x
  | _, _, .lst h r => .lst (sql_ext g h) (DxAll.ext g r)
  | _, _, .tup h r => .tup (sqt_ext g h) (DxAll.ext g r)
  | _, _, .dct h r => .dct (rd_ext g (fun ps z => by cases z) h) (DxKv.ext g r)
theorem DxAll.ext (g : LamX.ExtN H H') : ∀ {v : List V} {d : List PyData}, DxAll K H v d → DxAll K H' v d
  | _, _, .nil => .nil
  | _, _, .cons a b => .cons (Dx.ext g a) (DxAll.ext g b)
theorem DxKv.ext (g : LamX.ExtN H H') : ∀ {v : List (Key × V)} {d : List (PyData × PyData)}, DxKv K H v d → DxKv K H' v d
  | _, _, .nil => .nil
  | _, _, .cons a b => .cons (Dx.ext g a) (DxKv.ext g b)
end
mutual
theorem Dp.ext (g : LamX.ExtN H H') : ∀ {v : V} {d : PyData}, Dp K H v d → Dp K H' v d
  | _, _, .non => .non
  | _, _, .bl b => .bl b
  | _, _, .int i => .int i
  | _, _, .str x => .str x
  | _, _, .lst h r => .lst (sql_ext g h) (DpAll.ext g r)
  | _, _, .tup h r => .tup (sqt_ext g h) (DpAll.ext g r)
theorem DpAll.ext (g : LamX.ExtN H H') : ∀ {v : List V} {d : List PyData}, DpAll K H v d → DpAll K H' v d
  | _, _, .nil => .nil
  | _, _, .cons a b => .cons (Dp.ext g a) (DpAll.ext g b)
end
mutual
theorem Dx.dp : ∀ {v : V} {d : PyData}, Dp K H v d → Dx K H v d
  | _, _, .non => .non
  | _, _, .bl b => .bl b
  | _, _, .int i => .int i
  | _, _, .str x => .str x
  | _, _, .lst h r => .lst h (DxAll.dp r)
  | _, _, .tup h r => .tup h (DxAll.dp r)
theorem DxAll.dp : ∀ {v : List V} {d : List PyData}, DpAll K H v d → DxAll K H v d
  | _, _, .nil => .nil
  | _, _, .cons a b => .cons (Dx.dp a) (DxAll.dp b)
end
theorem dp_go {v : V} {d : PyData} (h : Dp K H v d) (g : Go Tb H H') : Dp K H' v d := Dp.ext g.1 h
theorem dp_same {v : V} {d : PyData} (h : Dp K H v d) (g : Same H H') : Dp K H' v d := Dp.ext (.of g) h
theorem dx_go {v : V} {d : PyData} (h : Dx K H v d) (g : Go Tb H H') : Dx K H' v d := Dx.ext g.1 h
theorem ty_go {v : V} {t : Value} (h : TyX K H v t) (g : Go Tb H H') : TyX K H' v t := TyX_go g.1 h
end
theorem vals_rev : ∀ {vs : List V} {us : List Value}, Vals vs us → Vals vs.reverse us.reverse
  | _, _, .nil => .nil
  | _, _, .cons r t => by rw [List.reverse_cons, List.reverse_cons]; exact (vals_rev t).append (.cons r .nil)
end Mx

namespace Mx
open PySem PySem.Spec PyProof.Rows L2
section
variable {Tb : List (Addr × Str)} {H H0 H1 H2 H' : Hp} {p q a : Addr} {o u : HO} {xs : List V}
theorem go_set2 (h : H a = some (.lst xs)) (n : H2 a = none) (g : Go Tb H0 H2) (t : Go Tb H0 H) : Go Tb H0 (L2.upd H a o) := by
  refine ⟨fun b u h1 h2 => ?_, fun tb p hp => ?_⟩
  · have hb : b ≠ a := fun z => by
      have e := g.1 b u h1 h2
      rw [z, n] at e
      cases e
    rw [upd_ne hb]
    exact t.1 b u h1 h2
  · obtain ⟨ps, e1, e2, e3⟩ := t.2 tb p hp
    refine ⟨ps, ?_, e2, fun pos cv hc => ?_⟩
    · rw [upd_ne (fun z => by rw [z, h] at e1; cases e1)]
      exact e1
    · obtain ⟨c', rfl, e5⟩ := e3 pos cv hc
      refine ⟨c', rfl, ?_⟩
      rw [upd_ne (fun z => by rw [z, h] at e5; unfold LamX.CodeO at e5; cases e5)]
      exact e5
theorem fr_set2 (n : H2 a = none) (g : Same H0 H2) (t : Same H0 H) : Same H0 (L2.upd H a o) := fun b u h1 => by
  have hb : b ≠ a := fun z => by
    have e := g b u h1
    rw [z, n] at e
    cases e
  rw [upd_ne hb]
  exact t b u h1
theorem lk_neN (n : H2 p = none) (h2 : H2 q = some u) (h : H q = some u) : upd H p o q = some u := lk_ne (ne_of_none h2 n) h
theorem lk_neN' (n : H2 q = none) (h2 : H2 p = some (.lst xs)) (h : H q = some u) : upd H p o q = some u := lk_ne (fun z => ne_of_none h2 n z.symm) h
def NT (u : HO) : Prop := ∀ ps, u ≠ .tbl ps
theorem nt_lst {xs : List V} : NT (.lst xs) := fun ps z => by cases z
theorem nt_tup {xs : List V} : NT (.tup xs) := fun ps z => by cases z
theorem nt_dK {xs : List (Key × V)} : NT (.dK xs) := fun ps z => by cases z
theorem nt_xd {xs : List (Str × V)} : NT (.xd xs) := fun ps z => by cases z
theorem nt_ins {C dx : Addr} {xs : List (Str × V)} : NT (.ins C dx xs) := fun ps z => by cases z
def NL (u : HO) : Prop := ∀ xs, u ≠ .lst xs
theorem nl_tup {xs : List V} : NL (.tup xs) := fun ps z => by cases z
theorem nl_dK {xs : List (Key × V)} : NL (.dK xs) := fun ps z => by cases z
theorem nl_xd {xs : List (Str × V)} : NL (.xd xs) := fun ps z => by cases z
theorem nl_ins {C dx : Addr} {xs : List (Str × V)} : NL (.ins C dx xs) := fun ps z => by cases z
theorem lk_go (g : Go Tb H H') (n : NT u) (h : H q = some u) : H' q = some u := g.1 _ _ h n
theorem lk_kp_nl {c : Int} (k : Kp a H H') (st : StAt a c H) (n : NL u) (h : H q = some u) : H' q = some u := k _ _ (fun z => by obtain ⟨_, _, _, e, _⟩ := st; rw [z, e] at h; exact n _ (Option.some.inj h).symm) h
theorem en_new (hp : H p = none) (t : LamX.ExtN H0 H) : LamX.ExtN H0 (L2.upd H p o) := t.trans (.of (Same.new (Same.refl _) hp))
theorem en_same (s : Same H H') (t : LamX.ExtN H0 H) : LamX.ExtN H0 H' := t.trans (.of s)
theorem en_go (s : Go Tb H H') (t : LamX.ExtN H0 H) : LamX.ExtN H0 H' := t.trans s.1
theorem en_set2 (n : H2 a = none) (g : LamX.ExtN H0 H2) (t : LamX.ExtN H0 H) : LamX.ExtN H0 (L2.upd H a o) := fun b u h1 h2 => by
  have hb : b ≠ a := fun z => by
    have e := g b u h1 h2
    rw [z, n] at e
    cases e
  rw [upd_ne hb]
  exact t b u h1 h2
theorem en_kp (k : Kp a H H') (n : H2 a = none) (g : LamX.ExtN H0 H2) (t : LamX.ExtN H0 H) : LamX.ExtN H0 H' := fun b u h1 h2 => by
  have hb : b ≠ a := fun z => by
    have e := g b u h1 h2
    rw [z, n] at e
    cases e
  exact k b u hb (t b u h1 h2)
theorem dp_ext {K : PySem.W.Frag} {v : V} {d : PyData} (h : Dp K H v d) (g : LamX.ExtN H H') : Dp K H' v d := Dp.ext g h
theorem dx_ext {K : PySem.W.Frag} {v : V} {d : PyData} (h : Dx K H v d) (g : LamX.ExtN H H') : Dx K H' v d := Dx.ext g h
theorem ty_ext {K : PySem.W.Frag} {v : V} {t : Value} (h : TyX K H v t) (g : LamX.ExtN H H') : TyX K H' v t := TyX_go g h
/-- what is new since H0 in H1 stands in H -/
def New (H0 H1 H : Hp) : Prop := ∀ b u, H0 b = none → H1 b = some u → NT u → H b = some u
/-- data that leans on what is new alone -/
def Dn (K : PySem.W.Frag) (H0 H1 : Hp) (v : V) (d : PyData) : Prop := ∀ H, New H0 H1 H → Dp K H v d
theorem dn_use {K : PySem.W.Frag} {v : V} {d : PyData} (h : Dn K H0 H1 v d) (g : New H0 H1 H) : Dp K H v d := h H g
theorem nw_refl : New H0 H1 H1 := fun _ _ _ h _ => h
theorem nw_new (hp : H p = none) (t : New H0 H1 H) : New H0 H1 (L2.upd H p o) := fun b u h1 h2 h3 => lk_new hp (t b u h1 h2 h3)
theorem nw_same (s : Same H H') (t : New H0 H1 H) : New H0 H1 H' := fun b u h1 h2 h3 => s _ _ (t b u h1 h2 h3)
theorem nw_go (s : Go Tb H H') (t : New H0 H1 H) : New H0 H1 H' := fun b u h1 h2 h3 => s.1 _ _ (t b u h1 h2 h3) h3
theorem nw_set (h : H0 a = some (.lst xs)) (t : New H0 H1 H) : New H0 H1 (L2.upd H a o) := fun b u h1 h2 h3 => lk_ne (fun z => by rw [z, h] at h1; cases h1) (t b u h1 h2 h3)
theorem nw_set2 (n : H2 a = none) (g : New H0 H1 H2) (t : New H0 H1 H) : New H0 H1 (L2.upd H a o) := fun b u h1 h2 h3 => lk_ne (fun z => by
  have e := g b u h1 h2 h3
  rw [z, n] at e
  cases e) (t b u h1 h2 h3)
theorem nw_kp {c : Int} (k : Kp a H H') (st : StAt a c H0) (t : New H0 H1 H) : New H0 H1 H' := fun b u h1 h2 h3 => k b u (ne_st h1 st) (t b u h1 h2 h3)
theorem lsx_ext {K : PySem.W.Frag} {xs : List V} (h : LsX K H a xs) (g : LamX.ExtN H H') : LsX K H' a xs := h.imp (rd_ext g fun ps z => by cases z) id
theorem st_ne {c : Int} (n : a ≠ p) (st : StAt a c H) : StAt a c (L2.upd H p o) := let ⟨x, m, v, e, h1, h2⟩ := st; ⟨x, m, v, lk_ne n e, h1, h2⟩
theorem tabs_new (hp : H p = none) (t : LamX.Tabs Tb H) : LamX.Tabs Tb (L2.upd H p o) := t.ext (Same.new (Same.refl _) hp)
theorem tabs_same (s : Same H H') (t : LamX.Tabs Tb H) : LamX.Tabs Tb H' := t.ext s
theorem tabs_go (s : Go Tb H H') (t : LamX.Tabs Tb H) : LamX.Tabs Tb H' := s.2 t
theorem tabs_set (h : H a = some (.lst xs)) (t : LamX.Tabs Tb H) : LamX.Tabs Tb (L2.upd H a o) := by
  intro p hp
  obtain ⟨ps, e1, e2, e3⟩ := t p hp
  refine ⟨ps, ?_, e2, fun pos cv hc => ?_⟩
  · rw [upd_ne (fun z => by rw [z, h] at e1; cases e1)]
    exact e1
  · obtain ⟨c', rfl, e5⟩ := e3 pos cv hc
    refine ⟨c', rfl, ?_⟩
    rw [upd_ne (fun z => by rw [z, h] at e5; unfold LamX.CodeO at e5; cases e5)]
    exact e5
theorem tabs_kp {c : Int} (k : Kp a H H') (st : StAt a c H) (t : LamX.Tabs Tb H) : LamX.Tabs Tb H' := by
  intro p hp
  obtain ⟨u, m, v, e, _, _⟩ := st
  obtain ⟨ps, e1, e2, e3⟩ := t p hp
  refine ⟨ps, k _ _ (fun z => by rw [z, e] at e1; cases e1) e1, e2, fun pos cv h => ?_⟩
  obtain ⟨c', rfl, e5⟩ := e3 pos cv h
  exact ⟨c', rfl, k _ _ (fun z => by rw [z, e] at e5; unfold LamX.CodeO at e5; cases e5) e5⟩
end
theorem shaped_ti (x : Str) (hx : PyData.canLay0 (.str x) = true) (k : Int) : SeqAt.shaped (.tuple [.str x, .int k]) = true := by
  simp only [SeqAt.shaped, lay_t, lay_c, lay_e, lay_i, hx, PyData.depth, PyData.depthAll, Bool.and_true, Bool.true_and]
  rfl
theorem shaped_l2 {d e : PyData} (sd : SeqAt.shaped d = true) (se : SeqAt.shaped e = true) (hd : d.depth ≤ 60) (he : e.depth ≤ 60) : SeqAt.shaped (.list [d, e]) = true := by
  have a1 := SeqAt.canLay_of_shaped sd
  have a2 := SeqAt.canLay_of_shaped se
  simp only [SeqAt.shaped, lay_l, lay_c, lay_e, a1, a2, PyData.depth, PyData.depthAll, Bool.and_true, Bool.true_and]
  exact decide_eq_true (by omega)
/-- keywords of a def with one default, each of its two parameters told: the keywords in the other order -/
theorem kb_ofD {K : PySem.W.Frag} {x qual : Str} {st : Stmt} {f : Addr} {fd : FuncData} {ps ks : List Str} {dv : V} (F : FunD K x qual (defArgs st) (defBody st) (defScope st) [dv] [] f fd)
    (h : ∀ (T : Addr) (kV doc pm : Value) (an : Option Addr) (cdv ct : Value) (us ws its : List Value), us.length + ws.length = ps.length → its.length = 1 →
      ∃ k, bindArgs (PySem.W.fnOf x qual (defArgs st) (defBody st) (defScope st) (.ref T) kV doc pm an cdv ct) ⟨us, ks.zip ws⟩ = seqItems? (.ref T) >>= k ∧ k (some its.toArray) = pure (ps.zip (us ++ ws.reverse))) :
    KBinds K fd ps ks (fun us ws => us ++ ws.reverse) (fun vs zs => vs ++ zs.reverse) := by
  obtain ⟨oc, od, dV, kV, doc, pm, an, cdv, ct, osl, rfl, lk, hcd, hD, hK⟩ := F.ex
  rcases hD with ⟨e, _⟩ | ⟨_, T, o, its, m, rfl, lT, oT, rT⟩
  · exact absurd e (by simp)
  · refine ⟨fun s us ws X hl => ?_, fun a b => a.append (vals_rev b)⟩
    rw [List.length_append, List.length_reverse] at hl
    obtain ⟨k, e1, e2⟩ := h T kV doc pm an cdv ct us ws its hl rT.length.symm
    refine BindsTo.of_looks fun M => ?_
    rw [e1]
    exact looks_items X lT oT (.of_pure e2)
end Mx

/-! numerals: plain lists of codes -/
namespace Num
def low (c : Nat) : Nat := if 65 ≤ c ∧ c ≤ 90 then c + 32 else c
def zer (l : List Nat) : List Nat := l.dropWhile fun c => decide (c = 48)
def short (l : List Nat) : List Nat := zer (l.map low)
theorem low48 (c : Nat) : low c = 48 ↔ c = 48 := by
  unfold low
  by_cases h : 65 ≤ c ∧ c ≤ 90
  · rw [if_pos h]; omega
  · rw [if_neg h]
theorem zer_low : ∀ l : List Nat, (zer l).map low = zer (l.map low)
  | [] => rfl
  | c :: r => by
    unfold zer
    rw [List.map_cons, List.dropWhile_cons, List.dropWhile_cons]
    by_cases h : c = 48
    · rw [if_pos (decide_eq_true h), if_pos (decide_eq_true ((low48 c).mpr h))]
      exact zer_low r
    · rw [if_neg (fun z => h (of_decide_eq_true z)), if_neg (fun z => h ((low48 c).mp (of_decide_eq_true z)))]
      rfl
def dv (c : Nat) : Nat := if c ≤ 57 then c - 48 else c - 87
def val (b : Nat) (l : List Nat) : Nat := l.foldl (fun a c => a * b + dv c) 0
def code (c : Nat) : Bool := decide (c = 9) || decide (c = 10) || (decide (32 ≤ c) && decide (c ≤ 126) && !decide (c = 37))
def anyIn (lo hi : Nat) : Bool := (List.range (hi - lo)).any fun i => code (lo + i)
def npart (b : Nat) (l : List Nat) : Bool :=
  if l = [] then true else if 3 < l.length then false else
    anyIn (val b l) (min 127 (val b l + 1)) || anyIn (val b l * b) (min 127 ((val b l + 1) * b)) || anyIn (val b l * (b * b)) (min 127 ((val b l + 1) * (b * b)))
def chr (b : Nat) (l : List Nat) : Option Nat := if 3 < l.length then none else if code (val b l) then some (val b l) else none
/-! the law's table -/
def hexc (d : Nat) : Nat := if d < 10 then 48 + d else 87 + d
def dgo (b : Nat) : Nat → Nat → List Nat
  | 0, n => [hexc (n % b)]
  | k + 1, n => if b ≤ n then dgo b k (n / b) ++ [hexc (n % b)] else [hexc (n % b)]
def dg (b n : Nat) : List Nat := dgo b 8 n
abbrev Tab := List (List Nat × List Nat)
def has (t : Tab) (k : List Nat) : Bool := t.any fun p => decide (p.1 = k)
def setd (t : Tab) (k v : List Nat) : Tab := if has t k then t else t ++ [(k, v)]
def put (t : Tab) (k v : List Nat) : Tab := if has t k then t.map (fun p => if p.1 = k then (p.1, v) else p) else t ++ [(k, v)]
def get (t : Tab) (k : List Nat) : Option (List Nat) := (t.find? fun p => decide (p.1 = k)).map (·.2)
def codes : List Nat := (List.range 127).filter code
def add (b : Nat) (t : Tab) (c : Nat) : Tab := put ((List.range (dg b c).length).foldl (fun t k => setd t ((dg b c).take k) []) t) (dg b c) [c]
def tab (b : Nat) : Tab := codes.foldl (add b) []
def digs (b : Nat) : List Nat := (List.range b).map hexc
def goodB (b : Nat) (l : List Nat) : Bool := (decide (l.length ≤ 3) && l.all (fun c => decide (c ∈ digs b)) && !decide (l.head? = some 48) && npart b l)
def tab10 : Tab := tab 10
def tab16 : Tab := tab 16
theorem t10 : (tab 10).all (fun p => goodB 10 p.1 && decide (p.2 = (chr 10 p.1).toList)) = true := by decide +kernel
theorem t16 : (tab 16).all (fun p => goodB 16 p.1 && decide (p.2 = (chr 16 p.1).toList)) = true := by decide +kernel
def lists (b : Nat) : List (List Nat) := [] :: ((digs b).map fun x => [x]) ++ ((digs b).flatMap fun x => (digs b).map fun y => [x, y]) ++ ((digs b).flatMap fun x => (digs b).flatMap fun y => (digs b).map fun z => [x, y, z])
theorem u10 : (lists 10).all (fun l => !goodB 10 l || has (tab 10) l) = true := by decide +kernel
theorem u16 : (lists 16).all (fun l => !goodB 16 l || has (tab 16) l) = true := by decide +kernel
theorem p10 : (tab 10).all (fun p => (List.range 4).all fun k => has (tab 10) (p.1.take k)) = true := by decide +kernel
theorem p16 : (tab 16).all (fun p => (List.range 4).all fun k => has (tab 16) (p.1.take k)) = true := by decide +kernel
end Num

namespace Num
def Base (b : Nat) : Prop := b = 10 ∨ b = 16
theorem mem_lists {b : Nat} {l : List Nat} (h : l.length ≤ 3) (hd : ∀ c ∈ l, c ∈ digs b) : l ∈ lists b := by
  unfold lists
  match l, h, hd with
  | [], _, _ => simp
  | [x], _, hd =>
    refine List.mem_append_left _ (List.mem_append_left _ (List.mem_cons_of_mem _ ?_))
    exact List.mem_map.mpr ⟨x, hd x (by simp), rfl⟩
  | [x, y], _, hd =>
    refine List.mem_append_left _ (List.mem_append_right _ ?_)
    exact List.mem_flatMap.mpr ⟨x, hd x (by simp), List.mem_map.mpr ⟨y, hd y (by simp), rfl⟩⟩
  | [x, y, z], _, hd =>
    refine List.mem_append_right _ ?_
    exact List.mem_flatMap.mpr ⟨x, hd x (by simp), List.mem_flatMap.mpr ⟨y, hd y (by simp), List.mem_map.mpr ⟨z, hd z (by simp), rfl⟩⟩⟩
  | _ :: _ :: _ :: _ :: _, h, _ => simp at h
theorem has_ex {t : Tab} {k : List Nat} (h : has t k = true) : ∃ p ∈ t, p.1 = k := by
  obtain ⟨p, hp, e⟩ := List.any_eq_true.mp h
  exact ⟨p, hp, of_decide_eq_true e⟩
theorem tab_good {b : Nat} (hb : Base b) : ∀ p ∈ tab b, goodB b p.1 = true ∧ p.2 = (chr b p.1).toList := by
  intro p hp
  rcases hb with rfl | rfl
  · have := (List.all_eq_true.mp t10) p hp
    rw [Bool.and_eq_true] at this
    exact ⟨this.1, of_decide_eq_true this.2⟩
  · have := (List.all_eq_true.mp t16) p hp
    rw [Bool.and_eq_true] at this
    exact ⟨this.1, of_decide_eq_true this.2⟩
theorem goodB_iff {b : Nat} {l : List Nat} : goodB b l = true ↔ (l.length ≤ 3 ∧ (∀ c ∈ l, c ∈ digs b) ∧ l.head? ≠ some 48 ∧ npart b l = true) := by
  unfold goodB
  simp only [Bool.and_eq_true, decide_eq_true_eq, List.all_eq_true, Bool.not_eq_true', decide_eq_false_iff_not, and_assoc]
theorem has_iff {b : Nat} (hb : Base b) (l : List Nat) : has (tab b) l = goodB b l := by
  rw [Bool.eq_iff_iff]
  constructor
  · intro h
    obtain ⟨p, hp, rfl⟩ := has_ex h
    exact (tab_good hb p hp).1
  · intro h
    have g := goodB_iff.mp h
    have m := mem_lists g.1 g.2.1
    rcases hb with rfl | rfl
    · have := (List.all_eq_true.mp u10) l m
      rw [h] at this
      simpa using this
    · have := (List.all_eq_true.mp u16) l m
      rw [h] at this
      simpa using this
theorem has_take {b : Nat} (hb : Base b) {l : List Nat} (h : has (tab b) l = true) (k : Nat) : has (tab b) (l.take k) = true := by
  obtain ⟨p, hp, rfl⟩ := has_ex h
  by_cases hk : k < 4
  · rcases hb with rfl | rfl
    · exact (List.all_eq_true.mp ((List.all_eq_true.mp p10) p hp)) k (List.mem_range.mpr hk)
    · exact (List.all_eq_true.mp ((List.all_eq_true.mp p16) p hp)) k (List.mem_range.mpr hk)
  · have := (goodB_iff.mp (tab_good hb p hp).1).1
    rw [List.take_of_length_le (by omega)]
    exact h
theorem get_yes {b : Nat} (hb : Base b) {l : List Nat} (h : has (tab b) l = true) : get (tab b) l = some (chr b l).toList := by
  unfold get
  cases e : (tab b).find? fun p => decide (p.1 = l) with
  | none =>
    obtain ⟨p, hp, q⟩ := has_ex h
    have := List.find?_eq_none.mp e p hp
    exact absurd (decide_eq_true q) this
  | some p =>
    have h1 := List.find?_some e
    have h2 := List.mem_of_find?_eq_some e
    have h1 : p.1 = l := of_decide_eq_true h1
    rw [Option.map_some, (tab_good hb p h2).2, h1]
theorem get_no {b : Nat} {l : List Nat} (h : has (tab b) l = false) : get (tab b) l = none := by
  unfold get
  cases e : (tab b).find? fun p => decide (p.1 = l) with
  | none => rfl
  | some p =>
    have h1 := List.find?_some e
    have h2 := List.mem_of_find?_eq_some e
    have z : has (tab b) l = true := List.any_eq_true.mpr ⟨p, h2, h1⟩
    rw [h] at z
    cases z
/-! what begins a numeral -/
def begun (b : Nat) (w : List Nat) : Bool := has (tab b) (short w)
def allow (b : Nat) (c : Nat) : Bool := decide (low c ∈ digs b)
theorem zer_app_nz : ∀ (z r : List Nat), (∀ c ∈ z, c = 48) → zer (z ++ r) = zer r
  | [], r, _ => rfl
  | c :: z, r, h => by
    have : c = 48 := h c List.mem_cons_self
    subst this
    show zer (48 :: (z ++ r)) = _
    unfold zer
    rw [List.dropWhile_cons, if_pos (by decide)]
    exact zer_app_nz z r fun c hc => h c (List.mem_cons_of_mem _ hc)
theorem zer_nz {c : Nat} (r : List Nat) (h : c ≠ 48) : zer (c :: r) = c :: r := by
  unfold zer
  rw [List.dropWhile_cons, if_neg (by simpa using h)]
theorem zer_split : ∀ l : List Nat, ∃ z, l = z ++ zer l ∧ (∀ c ∈ z, c = 48) ∧ (zer l = [] ∨ ∃ c r, zer l = c :: r ∧ c ≠ 48)
  | [] => ⟨[], rfl, by simp, .inl rfl⟩
  | c :: r => by
    by_cases h : c = 48
    · subst h
      obtain ⟨z, h1, h2, h3⟩ := zer_split r
      have e : zer (48 :: r) = zer r := by unfold zer; rw [List.dropWhile_cons, if_pos (by decide)]
      rw [e]
      exact ⟨48 :: z, by rw [List.cons_append, ← h1], fun c hc => by rcases List.mem_cons.mp hc with rfl | hc; rfl; exact h2 c hc, h3⟩
    · rw [zer_nz r h]
      exact ⟨[], rfl, by simp, .inr ⟨c, r, rfl, h⟩⟩
/-- one sign more, behind what begins a numeral: r stands behind the zeros -/
theorem begun_next {b : Nat} (hb : Base b) (z r : List Nat) (c : Nat) (hz : ∀ c ∈ z, c = 48) (hr : (r ++ [c]).head? ≠ some 48) (hp : begun b (z ++ r) = true) :
    begun b (z ++ (r ++ [c])) = (allow b c && npart b ((r ++ [c]).map low)) := by
  have nz : ∀ (r : List Nat), r.head? ≠ some 48 → (∀ z : List Nat, (∀ c ∈ z, c = 48) → short (z ++ r) = r.map low) := by
    intro r hr z hz
    unfold short
    rw [← zer_low, zer_app_nz z r hz]
    cases r with
    | nil => rfl
    | cons d r => rw [zer_nz r (fun e => hr (by rw [e]; rfl))]
  have hr0 : r.head? ≠ some 48 := by
    cases r with
    | nil => intro e; cases e
    | cons d r => exact hr
  have e1 := nz r hr0 z hz
  have e2 := nz (r ++ [c]) hr z hz
  unfold begun at hp ⊢
  rw [has_iff hb] at hp ⊢
  rw [e1] at hp
  rw [e2]
  have g := goodB_iff.mp hp
  rw [Bool.eq_iff_iff, goodB_iff]
  simp only [Bool.and_eq_true]
  unfold allow
  rw [decide_eq_true_eq]
  constructor
  · rintro ⟨h1, h2, h3, h4⟩
    exact ⟨h2 (low c) (by simp), h4⟩
  · rintro ⟨h1, h2⟩
    refine ⟨?_, ?_, ?_, h2⟩
    · unfold npart at h2
      rw [if_neg (by simp)] at h2
      by_cases h3 : 3 < ((r ++ [c]).map low).length
      · rw [if_pos h3] at h2; cases h2
      · omega
    · intro d hd
      rw [List.map_append, List.mem_append] at hd
      rcases hd with hd | hd
      · exact g.2.1 d hd
      · simp at hd; rw [hd]; exact h1
    · cases r with
      | nil =>
        intro e
        simp at e
        exact hr (by simp; exact (low48 c).mp e)
      | cons d r =>
        intro e
        simp at e
        exact hr0 (by simp; exact (low48 d).mp e)
theorem begun_zeros {b : Nat} (hb : Base b) {z : List Nat} (hz : ∀ c ∈ z, c = 48) : begun b z = true := by
  unfold begun short
  have := zer_app_nz z [] hz
  rw [List.append_nil] at this
  rw [← zer_low, this, has_iff hb]
  rcases hb with rfl | rfl <;> decide +kernel
theorem short_nz {z r : List Nat} (hz : ∀ c ∈ z, c = 48) (hr : r.head? ≠ some 48) : short (z ++ r) = r.map low := by
  unfold short
  rw [← zer_low, zer_app_nz z r hz]
  cases r with
  | nil => rfl
  | cons d r => rw [zer_nz r (fun e => hr (by rw [e]; rfl))]
theorem begun_digs {b : Nat} (hb : Base b) {w : List Nat} (h : begun b w = true) : ∀ c ∈ short w, c ∈ digs b := by
  unfold begun at h
  rw [has_iff hb] at h
  exact (goodB_iff.mp h).2.1
theorem begun_take {b : Nat} (hb : Base b) {w : List Nat} (h : begun b w = true) (k : Nat) : begun b (w.take k) = true := by
  obtain ⟨z, h1, h2, h3⟩ := zer_split w
  have key : ∃ j, short (w.take k) = (short w).take j := by
    unfold short
    rw [← zer_low, ← zer_low]
    generalize zer w = r at *
    rw [h1]
    by_cases hk : k ≤ z.length
    · refine ⟨0, ?_⟩
      rw [List.take_append_of_le_length hk]
      have : zer (z.take k) = [] := by
        have := zer_app_nz (z.take k) [] fun c hc => h2 c (List.mem_of_mem_take hc)
        rw [List.append_nil] at this
        rw [this]; rfl
      rw [this]; rfl
    · refine ⟨k - z.length, ?_⟩
      rw [List.take_append, List.take_of_length_le (by omega), zer_app_nz _ _ h2]
      rcases h3 with rfl | ⟨c, r', rfl, hc⟩
      · simp [zer]
      · have : 0 < k - z.length := by omega
        obtain ⟨m, e⟩ : ∃ m, k - z.length = m + 1 := ⟨k - z.length - 1, by omega⟩
        rw [e, List.take_succ_cons, zer_nz _ hc, List.map_cons, List.map_cons, List.take_succ_cons, List.map_take]
  obtain ⟨j, e⟩ := key
  unfold begun at h ⊢
  rw [e]
  exact has_take hb h j
def IsFront (b : Nat) (w : List Nat) (m : Nat) : Prop := m ≤ w.length ∧ begun b (w.take m) = true ∧ ∀ j, j ≤ w.length → begun b (w.take j) = true → j ≤ m
theorem front_stop {b : Nat} (hb : Base b) {w : List Nat} {i : Nat} (hi : i < w.length) (h : begun b (w.take i) = true) (n : begun b (w.take (i + 1)) = false) : IsFront b w i := by
  refine ⟨Nat.le_of_lt hi, h, fun j hj hbj => ?_⟩
  by_cases hji : j ≤ i
  · exact hji
  · have := begun_take hb hbj (i + 1)
    rw [List.take_take, Nat.min_eq_left (by omega), n] at this
    cases this
theorem front_end {b : Nat} {w : List Nat} (h : begun b w = true) : IsFront b w w.length := ⟨Nat.le_refl _, by rw [List.take_length]; exact h, fun j hj _ => hj⟩
theorem front_one {b : Nat} {w : List Nat} {m n : Nat} (x : IsFront b w m) (y : IsFront b w n) : m = n := Nat.le_antisymm (y.2.2 m x.1 x.2.1) (x.2.2 n y.1 y.2.1)
/-! the digits of a code -/
theorem dg_eq10 : ∀ n, n < 131 → dg 10 n = (if 10 ≤ n then dg 10 (n / 10) else []) ++ [hexc (n % 10)] := by decide +kernel
theorem dg_eq16 : ∀ n, n < 131 → dg 16 n = (if 16 ≤ n then dg 16 (n / 16) else []) ++ [hexc (n % 16)] := by decide +kernel
def pre_ (b n : Nat) : List Nat := if b ≤ n then dg b (n / b) else []
theorem dg_eq {b n : Nat} (hb : Base b) (h : n < 131) : dg b n = pre_ b n ++ [hexc (n % b)] := by
  rcases hb with rfl | rfl
  · exact dg_eq10 n h
  · exact dg_eq16 n h
end Num

/-! texts and the plain numerals -/
namespace Num
open PySem PySem.Spec PyProof.Rows L2 TL
/-- the signs of the program, in its order -/
def signsP : Str := ⟨#[32, 9, 10, 97, 98, 99, 100, 101, 102, 103, 104, 105, 106, 107, 108, 109, 110, 111, 112, 113, 114, 115, 116, 117, 118, 119, 120, 121, 122, 65, 66, 67, 68, 69, 70, 71, 72, 73, 74, 75, 76, 77, 78, 79, 80, 81, 82, 83, 84, 85, 86, 87, 88, 89, 90, 95, 48, 49, 50, 51, 52, 53, 54, 55, 56, 57, 33, 34, 35, 36, 38, 39, 40, 41, 42, 43, 44, 45, 46, 47, 58, 59, 60, 61, 62, 63, 64, 91, 92, 93, 94, 96, 123, 124, 125, 126]⟩
theorem signsP_code : ∀ c, c < 128 → (decide (c ∈ tl signsP) = code c) := by decide +kernel
theorem signsP_asc : ∀ c ∈ tl signsP, c < 128 := by decide +kernel
def Asc (z : Str) : Prop := ∀ c ∈ tl z, c < 128
theorem tl_low {z : Str} (h : Asc z) : tl (Txt.lower z) = (tl z).map low := by
  rw [lower_ascii h]
  show (z.cps.map lo1).toList = _
  rw [Array.toList_map]
  rfl
theorem low_asc : ∀ c, c < 128 → low c < 128 := by decide +kernel
theorem asc_low {z : Str} (h : Asc z) : Asc (Txt.lower z) := by
  intro c hc
  rw [tl_low h] at hc
  obtain ⟨d, hd, rfl⟩ := List.mem_map.mp hc
  exact low_asc d (h d hd)
theorem tw_zer : ∀ l : List Nat, l.drop ((l.takeWhile (fun c => decide (c = 48))).length) = zer l
  | [] => rfl
  | c :: r => by
    unfold zer
    rw [List.takeWhile_cons, List.dropWhile_cons]
    by_cases h : c = 48
    · rw [if_pos (decide_eq_true h), if_pos (decide_eq_true h), List.length_cons, List.drop_succ_cons]
      exact tw_zer r
    · rw [if_neg (fun z => h (of_decide_eq_true z)), if_neg (fun z => h (of_decide_eq_true z))]
      rfl
theorem tl_lz (z : Str) : tl (Txt.lstripChars z "0") = zer (tl z) := by
  have goes : (("0" : Str).cps.contains : Nat → Bool) = fun c => decide (c = 48) := by
    funext c
    show (#[48] : Array Nat).contains c = _
    rw [Bool.eq_iff_iff]
    simp
  unfold Txt.lstripChars Txt.stripBy
  rw [goes]
  by_cases h : stripSame (fun c => decide (c = 48)) true false z = true
  · rw [if_pos h]
    unfold stripSame stripLo at h
    have h1 : ((tl z).takeWhile (fun c => decide (c = 48))).length = 0 := by
      have := (Bool.and_eq_true_iff.mp h).1
      simpa using this
    have h2 := tw_zer (tl z)
    rw [h1] at h2
    exact h2
  · rw [if_neg h]
    unfold stripped
    rw [show stripHi (fun c => decide (c = 48)) false z (stripLo (fun c => decide (c = 48)) true z) = z.length from rfl]
    show tl (Builtin.Str.strSub z ((tl z).takeWhile (fun c => decide (c = 48))).length z.length) = _
    rw [tl_strSub_end]
    exact tw_zer _
theorem tl_short {z : Str} (h : Asc z) : tl (Txt.lstripChars (Txt.lower z) "0") = short (tl z) := by
  rw [tl_lz, tl_low h]
  rfl
/-- the place of a sign among the hexadecimal ones -/
def hexs : List Nat := ("0123456789abcdefABCDEF" : String).toList.map Char.toNat
theorem zer_len (l : List Nat) : (zer l).length ≤ l.length := (List.dropWhile_suffix _).length_le
theorem empty_eq (x : Str) : decide (V.str x = V.str "") = decide (tl x = []) := by
  have e0 : tl ("" : Str) = [] := rfl
  by_cases h : tl x = []
  · have : x = "" := ext_tl (h.trans e0.symm)
    rw [this]
    rfl
  · rw [decide_eq_false h]
    refine decide_eq_false fun e => h ?_
    injection e with e
    rw [e]
    rfl
theorem dv_le : ∀ c ∈ digs 16, dv c ≤ 15 := by decide +kernel
theorem val_le {b : Nat} (hb : b ≤ 16) {l : List Nat} (h : l.length ≤ 3) (hd : ∀ c ∈ l, c ∈ digs 16) : val b l ≤ 4095 := by
  match l, h, hd with
  | [], _, _ => exact Nat.zero_le _
  | [x], _, hd =>
    have h1 := dv_le x (hd x (by simp))
    show 0 * b + dv x ≤ 4095
    omega
  | [x, y], _, hd =>
    have h1 := dv_le x (hd x (by simp))
    have h2 := dv_le y (hd y (by simp))
    show (0 * b + dv x) * b + dv y ≤ 4095
    have : (0 * b + dv x) * b ≤ 15 * 16 := Nat.mul_le_mul (by omega) hb
    omega
  | [x, y, z], _, hd =>
    have h1 := dv_le x (hd x (by simp))
    have h2 := dv_le y (hd y (by simp))
    have h3 := dv_le z (hd z (by simp))
    show ((0 * b + dv x) * b + dv y) * b + dv z ≤ 4095
    have a : (0 * b + dv x) * b ≤ 15 * 16 := Nat.mul_le_mul (by omega) hb
    have c : ((0 * b + dv x) * b + dv y) * b ≤ 255 * 16 := Nat.mul_le_mul (by omega) hb
    omega
  | _ :: _ :: _ :: _ :: _, h, _ => simp at h
theorem short_le (l : List Nat) : (short l).length ≤ l.length := by
  have := zer_len (l.map low)
  rw [List.length_map] at this
  exact this
def inR (b : Nat) (l : List Nat) (s : Nat) : Bool := anyIn (val b l * s) (min 127 ((val b l + 1) * s))
theorem npart_in {b : Nat} {l : List Nat} (h0 : l ≠ []) (h1 : ¬ 3 < l.length) : npart b l = ([1, b, b * b].any (inR b l)) := by
  unfold npart
  rw [if_neg h0, if_neg h1]
  simp [inR, Bool.or_assoc]
theorem anyIn_list (lo hi : Nat) : ((List.range (hi - lo)).map fun i => code (lo + i)).any id = anyIn lo hi := by
  unfold anyIn
  rw [List.any_map]
  rfl
theorem cutS_mid (z : Str) (i j : Nat) (hi : i ≤ (tl z).length) (hj : j ≤ (tl z).length) : tl (cutS z (some (i : Int)) (some (j : Int))) = ((tl z).drop i).take (j - i) := by
  show (((z.cps.toList.drop (HT.sIx z.length 0 (some (i : Int)))).take (HT.sIx z.length z.length (some (j : Int)) - HT.sIx z.length 0 (some (i : Int)))).toArray).toList = _
  have l := len_tl z
  rw [HT.sIx_nat, HT.sIx_nat, Nat.min_eq_left (by omega), Nat.min_eq_left (by omega)]
theorem cutS_tail (z : Str) (i : Nat) (h : i ≤ (tl z).length) : tl (cutS z (some (i : Int)) none) = (tl z).drop i := by
  show (((z.cps.toList.drop (HT.sIx z.length 0 (some (i : Int)))).take (HT.sIx z.length z.length none - HT.sIx z.length 0 (some (i : Int)))).toArray).toList = _
  have l := len_tl z
  rw [HT.sIx_nat, Nat.min_eq_left (by omega)]
  have e : HT.sIx z.length z.length none = z.length := rfl
  rw [e]
  exact List.take_of_length_le (Nat.le_of_eq (by rw [List.length_drop, l]))
theorem cutS_over (z : Str) (i j : Nat) (hi : i ≤ (tl z).length) : tl (cutS z (some (i : Int)) (some (j : Int))) = ((tl z).drop i).take (j - i) := by
  by_cases hj : j ≤ (tl z).length
  · exact cutS_mid z i j hi hj
  · show (((z.cps.toList.drop (HT.sIx z.length 0 (some (i : Int)))).take (HT.sIx z.length z.length (some (j : Int)) - HT.sIx z.length 0 (some (i : Int)))).toArray).toList = _
    have l := len_tl z
    rw [HT.sIx_nat, HT.sIx_nat, Nat.min_eq_left (by omega : i ≤ z.length), Nat.min_eq_right (by omega)]
    show ((tl z).drop i).take (z.length - i) = _
    rw [List.take_of_length_le (Nat.le_of_eq (by rw [List.length_drop, l])), List.take_of_length_le (by rw [List.length_drop]; omega)]
theorem zero_eq (x : Str) : decide (V.str x = V.str "0") = decide (tl x = [48]) := by
  have e0 : tl ("0" : Str) = [48] := rfl
  by_cases h : tl x = [48]
  · have : x = "0" := ext_tl (h.trans e0.symm)
    rw [this]
    rfl
  · rw [decide_eq_false h]
    refine decide_eq_false fun e => h ?_
    injection e with e
    rw [e]
    rfl
theorem cutS_take (z : Str) (i : Nat) (h : i ≤ (tl z).length) : tl (cutS z none (some (i : Int))) = (tl z).take i := by
  show (((z.cps.toList.drop (HT.sIx z.length 0 none)).take (HT.sIx z.length z.length (some (i : Int)) - HT.sIx z.length 0 none)).toArray).toList = _
  have l := len_tl z
  rw [HT.sIx_nat, Nat.min_eq_left (by omega)]
  rfl
theorem allow16 : ∀ c, c < 128 → decide (c ∈ ("0123456789ABCDEFabcdef" : Str).cps.toList) = decide (low c ∈ digs 16) := by decide +kernel
theorem allow10 : ∀ c, c < 128 → decide (c ∈ ("0123456789" : Str).cps.toList) = decide (low c ∈ digs 10) := by decide +kernel
/-- the digits of a base, in the program's order -/
def ordered (b : Nat) : List Nat := if b = 16 then tl ("0123456789ABCDEFabcdef" : Str) else tl ("0123456789" : Str)
theorem join_ones : ∀ l : List Nat, tl (Str.join "" (l.map fun c => (⟨#[c]⟩ : Str))) = l
  | [] => rfl
  | [c] => rfl
  | c :: d :: r => by
    show tl (((⟨#[c]⟩ : Str) ++ ("" : Str)) ++ Str.join "" ((d :: r).map fun c => (⟨#[c]⟩ : Str))) = _
    rw [tl_append, tl_append, join_ones (d :: r)]
    rfl
theorem join_ones' (l : List Nat) : tl (Txt.join "" (l.map fun c => (⟨#[c]⟩ : Str))) = l := by rw [join_eq, join_ones]
theorem ones_sum (l : List Nat) : ((l.map fun c => (⟨#[c]⟩ : Str)).map (·.length)).sum = l.length := by
  induction l with
  | nil => rfl
  | cons c l ih =>
    show 1 + ((l.map fun c => (⟨#[c]⟩ : Str)).map (·.length)).sum = l.length + 1
    rw [ih]
    omega
theorem hex_at : ∀ d : Nat, d < 16 → atI ("0123456789abcdef" : Str).cps.toList (d : Int) = some (hexc d) := by
  have k : ∀ d : Nat, d < 16 → ("0123456789abcdef" : Str).cps.toList[d]? = some (hexc d) := by decide +kernel
  exact fun d h => atI_nat (k d h)
theorem digs_sub : ∀ c ∈ digs 10, c ∈ digs 16 := by decide +kernel
theorem val_snoc (b : Nat) (l : List Nat) (c : Nat) : val b (l ++ [c]) = val b l * b + dv c := by
  unfold val
  rw [List.foldl_append]
  rfl
theorem take_snoc {l : List Nat} {i c : Nat} (h : l[i]? = some c) : l.take (i + 1) = l.take i ++ [c] := by
  rw [List.take_add_one, h]
  rfl
theorem index_hex : ∀ c ∈ digs 16, Txt.index0 ("0123456789abcdefABCDEF" : Str) ⟨#[c]⟩ = some (dv c) := by decide +kernel
/-! the law's table as a dict's content -/
def key (l : List Nat) : Key := .inr ⟨l.toArray⟩
def kvOf (t : Tab) : List (Key × V) := t.map fun p => (key p.1, .str ⟨p.2.toArray⟩)
theorem key_inj {k l : List Nat} : key k = key l ↔ k = l := by
  constructor
  · intro h
    have h1 : (⟨k.toArray⟩ : Str) = ⟨l.toArray⟩ := Sum.inr.inj h
    have := congrArg tl h1
    simpa [tl] using this
  · rintro rfl
    rfl
theorem kv_any (k : List Nat) : ∀ t : Tab, ((kvOf t).any fun kv => decide (kv.1 = key k)) = has t k
  | [] => rfl
  | p :: t => by
    show (decide (key p.1 = key k) || (kvOf t).any _) = (decide (p.1 = k) || has t k)
    rw [kv_any k t]
    congr 1
    rw [Bool.eq_iff_iff, decide_eq_true_eq, decide_eq_true_eq]
    exact key_inj
theorem kv_put (t : Tab) (k v : List Nat) : putK (kvOf t) (key k) (.str ⟨v.toArray⟩) = kvOf (put t k v) := by
  unfold putK put
  rw [kv_any]
  by_cases h : has t k = true
  · rw [if_pos h, if_pos h]
    unfold kvOf
    rw [List.map_map, List.map_map]
    refine List.map_congr_left fun p _ => ?_
    show (if key p.1 = key k then _ else _) = _
    by_cases e : p.1 = k
    · rw [if_pos (key_inj.mpr e)]
      show _ = (key (if p.1 = k then (p.1, v) else p).1, V.str ⟨(if p.1 = k then (p.1, v) else p).2.toArray⟩)
      rw [if_pos e]
    · rw [if_neg (fun z => e (key_inj.mp z))]
      show _ = (key (if p.1 = k then (p.1, v) else p).1, V.str ⟨(if p.1 = k then (p.1, v) else p).2.toArray⟩)
      rw [if_neg e]
  · rw [if_neg h, if_neg h]
    unfold kvOf
    rw [List.map_append]
    rfl
theorem kv_val (k : List Nat) : ∀ t : Tab, valV (kvOf t) (key k) = (get t k).map fun v => V.str ⟨v.toArray⟩
  | [] => rfl
  | p :: t => by
    by_cases e : p.1 = k
    · rw [show kvOf (p :: t) = (key p.1, V.str ⟨p.2.toArray⟩) :: kvOf t from rfl, valV_pos (key_inj.mpr e)]
      unfold get
      rw [List.find?_cons, decide_eq_true e]
      rfl
    · rw [show kvOf (p :: t) = (key p.1, V.str ⟨p.2.toArray⟩) :: kvOf t from rfl, valV_neg (fun z => e (key_inj.mp z)), kv_val k t]
      unfold get
      rw [List.find?_cons, decide_eq_false e]
theorem chr_lt {b : Nat} {l : List Nat} {c : Nat} (h : chr b l = some c) : c < 128 := by
  unfold chr at h
  split at h
  · cases h
  · split at h
    · rename_i hc
      obtain rfl := Option.some.inj h
      unfold Num.code at hc
      simp at hc
      omega
    · cases h
theorem has_val (t : Tab) (k : List Nat) : (valV (kvOf t) (key k)).isSome = has t k := by rw [← valV_any, kv_any]
theorem setd_yes {t : Tab} {k : List Nat} {u : L2.V} (h : valV (kvOf t) (key k) = some u) : setd t k [] = t := by
  have e : has t k = true := by rw [← has_val t k, h]; rfl
  unfold setd
  rw [if_pos e]
theorem setd_no {t : Tab} {k : List Nat} (h : valV (kvOf t) (key k) = none) : putK (kvOf t) (key k) (.str "") = kvOf (setd t k []) := by
  have e : has t k = false := by rw [← has_val t k, h]; rfl
  have p := kv_put t k []
  unfold put at p
  unfold setd
  rw [if_neg (by rw [e]; decide)] at p ⊢
  exact p
theorem setd_len (t : Tab) (k v : List Nat) : (setd t k v).length ≤ t.length + 1 := by
  unfold setd
  split
  · omega
  · rw [List.length_append]; exact Nat.le_refl _
theorem put_len (t : Tab) (k v : List Nat) : (put t k v).length ≤ t.length + 1 := by
  unfold put
  split
  · rw [List.length_map]; omega
  · rw [List.length_append]; exact Nat.le_refl _
theorem dg_len {b n : Nat} (hb : Base b) (h : n < 131) : (dg b n).length ≤ 4 := by
  rcases hb with rfl | rfl
  · have k : ∀ n, n < 131 → (dg 10 n).length ≤ 4 := by decide +kernel
    exact k n h
  · have k : ∀ n, n < 131 → (dg 16 n).length ≤ 4 := by decide +kernel
    exact k n h
theorem key_of (x : Str) : V.str x = kV (key (tl x)) := by
  show V.str x = V.str ⟨(tl x).toArray⟩
  rw [mk_tl]
end Num

namespace K4
open PySem PySem.Spec PyProof.Rows L2 Mx
/-! ### the text by places -/
def topS (i : Nat) : Stmt := PySem.Challenge.pw_markstream_k04_whole_numerals.main.body.getD i (.Pass ⟨0, 0, 0, 0⟩)
abbrev s_IllFormed___init__ : Stmt := inClass (topS 4) 0
abbrev s_InvalidText___init__ : Stmt := inClass (topS 5) 0
abbrev s_InvalidKind___init__ : Stmt := inClass (topS 6) 0
abbrev s_InvalidNumber___init__ : Stmt := inClass (topS 7) 0
abbrev s_shortened : Stmt := topS 14
abbrev s_value_of : Stmt := topS 15
abbrev s_is_code : Stmt := topS 16
abbrev s_is_number_part : Stmt := topS 17
abbrev s_character_of : Stmt := topS 18
abbrev s_check_text : Stmt := topS 21
abbrev s_check_base : Stmt := topS 22
abbrev s_check_digits : Stmt := topS 23
abbrev s_decoded : Stmt := topS 24
abbrev s_next_digits : Stmt := topS 25
abbrev s__law_mixed : Stmt := topS 27
abbrev s__law_stream : Stmt := topS 28
abbrev s__law_draw : Stmt := topS 29
abbrev s__law_signs : Stmt := topS 30
abbrev s__law_pick : Stmt := topS 31
abbrev s__law_told : Stmt := topS 32
abbrev s__law_digits : Stmt := topS 33
abbrev s__law_table : Stmt := topS 34
abbrev s__law_short : Stmt := topS 35
abbrev s__law_is_begun : Stmt := topS 36
abbrev s__law_front : Stmt := topS 37
abbrev s__law_right : Stmt := topS 38
abbrev s__law_named_right : Stmt := topS 39
abbrev s__law_word : Stmt := topS 40
abbrev s_law : Stmt := topS 41
theorem sc_IllFormed___init__ : FnScope ["self", "position"] ["self", "position"] (defScope s_IllFormed___init__) := ⟨rfl, rfl, rfl, by decide +kernel, rfl, by decide +kernel, by decide +kernel⟩
theorem sc_InvalidText___init__ : FnScope ["self", "index"] ["self", "index"] (defScope s_InvalidText___init__) := ⟨rfl, rfl, rfl, by decide +kernel, rfl, by decide +kernel, by decide +kernel⟩
theorem sc_InvalidKind___init__ : FnScope ["self", "kind"] ["self", "kind"] (defScope s_InvalidKind___init__) := ⟨rfl, rfl, rfl, by decide +kernel, rfl, by decide +kernel, by decide +kernel⟩
theorem sc_InvalidNumber___init__ : FnScope ["self", "number"] ["self", "number"] (defScope s_InvalidNumber___init__) := ⟨rfl, rfl, rfl, by decide +kernel, rfl, by decide +kernel, by decide +kernel⟩
theorem sc_shortened : FnScope ["digits"] ["digits"] (defScope s_shortened) := ⟨rfl, rfl, rfl, by decide +kernel, rfl, by decide +kernel, by decide +kernel⟩
theorem sc_value_of : FnScope ["digits", "base", "found", "sign"] ["digits", "base"] (defScope s_value_of) := ⟨rfl, rfl, rfl, by decide +kernel, rfl, by decide +kernel, by decide +kernel⟩
theorem sc_is_code : FnScope ["code"] ["code"] (defScope s_is_code) := ⟨rfl, rfl, rfl, by decide +kernel, rfl, by decide +kernel, by decide +kernel⟩
theorem sc_is_number_part : FnScope ["digits", "base", "short", "value", "size", "code"] ["digits", "base"] (defScope s_is_number_part) := ⟨rfl, rfl, rfl, by decide +kernel, rfl, by decide +kernel, by decide +kernel⟩
theorem sc_character_of : FnScope ["digits", "base", "short", "value", "sign"] ["digits", "base"] (defScope s_character_of) := ⟨rfl, rfl, rfl, by decide +kernel, rfl, by decide +kernel, by decide +kernel⟩
theorem sc_check_text : FnScope ["text"] ["text"] (defScope s_check_text) := ⟨rfl, rfl, rfl, by decide +kernel, rfl, by decide +kernel, by decide +kernel⟩
theorem sc_check_base : FnScope ["base"] ["base"] (defScope s_check_base) := ⟨rfl, rfl, rfl, by decide +kernel, rfl, by decide +kernel, by decide +kernel⟩
theorem sc_check_digits : FnScope ["digits", "base", "zeros", "index", "allowed"] ["digits", "base"] (defScope s_check_digits) := ⟨rfl, rfl, rfl, by decide +kernel, rfl, by decide +kernel, by decide +kernel⟩
theorem sc_decoded : FnScope ["digits", "base", "found"] ["digits", "base"] (defScope s_decoded) := ⟨rfl, rfl, rfl, by decide +kernel, rfl, by decide +kernel, by decide +kernel⟩
theorem sc_next_digits : FnScope ["digits", "base", "sign"] ["digits", "base"] (defScope s_next_digits) := ⟨rfl, rfl, rfl, by decide +kernel, rfl, by decide +kernel, by decide +kernel⟩
theorem sc__law_mixed : FnScope ["number", "k"] ["number", "k"] (defScope s__law_mixed) := ⟨rfl, rfl, rfl, by decide +kernel, rfl, by decide +kernel, by decide +kernel⟩
theorem sc__law_stream : FnScope ["item", "k"] ["item", "k"] (defScope s__law_stream) := ⟨rfl, rfl, rfl, by decide +kernel, rfl, by decide +kernel, by decide +kernel⟩
theorem sc__law_draw : FnScope ["stream", "top", "number"] ["stream", "top"] (defScope s__law_draw) := ⟨rfl, rfl, rfl, by decide +kernel, rfl, by decide +kernel, by decide +kernel⟩
theorem sc__law_signs : FnScope [] [] (defScope s__law_signs) := ⟨rfl, rfl, rfl, by decide +kernel, rfl, by decide +kernel, by decide +kernel⟩
theorem sc__law_pick : FnScope ["stream", "some"] ["stream", "some"] (defScope s__law_pick) := ⟨rfl, rfl, rfl, by decide +kernel, rfl, by decide +kernel, by decide +kernel⟩
theorem sc__law_told : FnScope ["call", "caught", "found", "error"] ["call"] (defScope s__law_told) := ⟨rfl, rfl, rfl, by decide +kernel, rfl, by decide +kernel, by decide +kernel⟩
theorem sc__law_digits : FnScope ["code", "radix", "found"] ["code", "radix"] (defScope s__law_digits) := ⟨rfl, rfl, rfl, by decide +kernel, rfl, by decide +kernel, by decide +kernel⟩
theorem sc__law_table : FnScope ["radix", "found", "one", "word", "k"] ["radix"] (defScope s__law_table) := ⟨rfl, rfl, rfl, by decide +kernel, rfl, by decide +kernel, by decide +kernel⟩
theorem sc__law_short : FnScope ["word", "spot"] ["word"] (defScope s__law_short) := ⟨rfl, rfl, rfl, by decide +kernel, rfl, by decide +kernel, by decide +kernel⟩
theorem sc__law_is_begun : FnScope ["word", "table"] ["word", "table"] (defScope s__law_is_begun) := ⟨rfl, rfl, rfl, by decide +kernel, rfl, by decide +kernel, by decide +kernel⟩
theorem sc__law_front : FnScope ["word", "table", "k"] ["word", "table"] (defScope s__law_front) := ⟨rfl, rfl, rfl, by decide +kernel, rfl, by decide +kernel, by decide +kernel⟩
theorem sc__law_right : FnScope ["word", "radix", "table", "far", "due", "told", "some", "one"] ["word", "radix", "table"] (defScope s__law_right) := ⟨rfl, rfl, rfl, by decide +kernel, rfl, by decide +kernel, by decide +kernel⟩
theorem sc__law_named_right : FnScope ["word", "radix", "told", "again"] ["word", "radix"] (defScope s__law_named_right) := ⟨rfl, rfl, rfl, by decide +kernel, rfl, by decide +kernel, by decide +kernel⟩
theorem sc__law_word : FnScope ["stream", "radix", "found", "turn", "some"] ["stream", "radix"] (defScope s__law_word) := ⟨rfl, rfl, rfl, by decide +kernel, rfl, by decide +kernel, by decide +kernel⟩
theorem sc_law : FnScope ["script", "tables", "code", "at", "radix", "word", "k", "item", "stream", "turn", "odd", "told", "thing", "some"] ["script"] (defScope s_law) := ⟨rfl, rfl, rfl, by decide +kernel, rfl, by decide +kernel, by decide +kernel⟩
/-! ### what the walk asks of the top -/
structure Tx (P : Program) (w : World) (K : PySem.W.Frag) (mg : Str → Option Value) (base : Heap) : Type where
  d_shortened : Mx.DefT K mg "shortened" s_shortened ["digits"]
  d_value_of : Mx.DefT K mg "value_of" s_value_of ["digits", "base"]
  d_is_code : Mx.DefT K mg "is_code" s_is_code ["code"]
  d_is_number_part : Mx.DefT K mg "is_number_part" s_is_number_part ["digits", "base"]
  d_character_of : Mx.DefT K mg "character_of" s_character_of ["digits", "base"]
  d_check_text : Mx.DefT K mg "check_text" s_check_text ["text"]
  d_check_base : Mx.DefT K mg "check_base" s_check_base ["base"]
  d_check_digits : Mx.DefT K mg "check_digits" s_check_digits ["digits", "base"]
  d_decoded : Mx.DefD K mg "decoded" s_decoded ["digits", "base"] (.int 10)
  d_next_digits : Mx.DefD K mg "next_digits" s_next_digits ["digits", "base"] (.int 10)
  d__law_mixed : Mx.DefT K mg "_law_mixed" s__law_mixed ["number", "k"]
  d__law_stream : Mx.DefT K mg "_law_stream" s__law_stream ["item", "k"]
  d__law_draw : Mx.DefT K mg "_law_draw" s__law_draw ["stream", "top"]
  d__law_signs : Mx.DefT K mg "_law_signs" s__law_signs []
  d__law_pick : Mx.DefT K mg "_law_pick" s__law_pick ["stream", "some"]
  d__law_told : Mx.DefT K mg "_law_told" s__law_told ["call"]
  d__law_digits : Mx.DefT K mg "_law_digits" s__law_digits ["code", "radix"]
  d__law_table : Mx.DefT K mg "_law_table" s__law_table ["radix"]
  d__law_short : Mx.DefT K mg "_law_short" s__law_short ["word"]
  d__law_is_begun : Mx.DefT K mg "_law_is_begun" s__law_is_begun ["word", "table"]
  d__law_front : Mx.DefT K mg "_law_front" s__law_front ["word", "table"]
  d__law_right : Mx.DefT K mg "_law_right" s__law_right ["word", "radix", "table"]
  d__law_named_right : Mx.DefT K mg "_law_named_right" s__law_named_right ["word", "radix"]
  d__law_word : Mx.DefT K mg "_law_word" s__law_word ["stream", "radix"]
  n_isinstance : mg "isinstance" = none
  n_str : mg "str" = none
  n_bool : mg "bool" = none
  n_int : mg "int" = none
  n_len : mg "len" = none
  n_range : mg "range" = none
  n_any : mg "any" = none
  n_min : mg "min" = none
  n_ord : mg "ord" = none
  n_enumerate : mg "enumerate" = none
  n_max : mg "max" = none
  n_repr : mg "repr" = none
  g_DIGITS : ∃ u, mg "DIGITS" = some u ∧ RelV (.str "0123456789") u
  g_HEXADECIMAL : ∃ u, mg "HEXADECIMAL" = some u ∧ RelV (.str "0123456789abcdefABCDEF") u
  g_ORDERED : ∃ u, mg "ORDERED" = some u ∧ RelV (.str "0123456789ABCDEFabcdef") u
  g_SIGNS : ∃ u, mg "SIGNS" = some u ∧ RelV (.str Num.signsP) u
  a_InvalidText : Addr
  i_InvalidText : Addr
  fd_InvalidText : FuncData
  x_InvalidText : Mx.ExT P w K mg base "InvalidText" "index" a_InvalidText i_InvalidText fd_InvalidText ["self", "index"]
  a_InvalidNumber : Addr
  i_InvalidNumber : Addr
  fd_InvalidNumber : FuncData
  x_InvalidNumber : Mx.ExT P w K mg base "InvalidNumber" "number" a_InvalidNumber i_InvalidNumber fd_InvalidNumber ["self", "number"]
  a_MarkupError : Addr
  m_MarkupError : mg "MarkupError" = some (.ref a_MarkupError)
  a_MarkupStateError : Addr
  m_MarkupStateError : mg "MarkupStateError" = some (.ref a_MarkupStateError)
  a_LimitError : Addr
  m_LimitError : mg "LimitError" = some (.ref a_LimitError)
  a_IllFormed : Addr
  m_IllFormed : mg "IllFormed" = some (.ref a_IllFormed)
  a_InvalidKind : Addr
  m_InvalidKind : mg "InvalidKind" = some (.ref a_InvalidKind)
  xc_InvalidText : Mx.XcC K a_InvalidText
  ex_InvalidText : PySem.W.exmAny K (.ref a_InvalidText) [.ref a_MarkupError, .ref a_MarkupStateError, .ref a_LimitError] = some true
  fn_InvalidText : PySem.W.findIn K (.ref a_InvalidText) "index" = some none
  k1_InvalidText : PySem.W.kitOne K (.ref a_InvalidText) (.ref a_IllFormed) = some false
  k2_InvalidText : PySem.W.kitOne K (.ref a_InvalidText) (.ref a_InvalidText) = some true
  xc_InvalidNumber : Mx.XcC K a_InvalidNumber
  ex_InvalidNumber : PySem.W.exmAny K (.ref a_InvalidNumber) [.ref a_MarkupError, .ref a_MarkupStateError, .ref a_LimitError] = some true
  fn_InvalidNumber : PySem.W.findIn K (.ref a_InvalidNumber) "number" = some none
  k1_InvalidNumber : PySem.W.kitOne K (.ref a_InvalidNumber) (.ref a_IllFormed) = some false
  k2_InvalidNumber : PySem.W.kitOne K (.ref a_InvalidNumber) (.ref a_InvalidText) = some false
  k3_InvalidNumber : PySem.W.kitOne K (.ref a_InvalidNumber) (.ref a_InvalidNumber) = some true
  kb_decoded : KBinds K d_decoded.fd ["digits", "base"] ["base", "digits"] (fun us ws => us ++ ws.reverse) (fun vs zs => vs ++ zs.reverse)
  kb_next_digits : KBinds K d_next_digits.fd ["digits", "base"] ["base", "digits"] (fun us ws => us ++ ws.reverse) (fun vs zs => vs ++ zs.reverse)
end K4

namespace K4
open PySem PySem.Spec PyProof.Rows L2 Mx
/-! ### the law's draws -/
def sp__law_mixed : Sp := fun vs H Q _ => ∃ n k : Int, vs = [.int n, .int k] ∧ 0 ≤ k ∧ k ≤ 1000000000000 ∧ ∀ r : Int, 0 ≤ r → r < 2147483629 → Q (.int r) H
def sp__law_stream : Sp := fun vs H Q _ => ∃ n k : Int, vs = [.int n, .int k] ∧ 0 ≤ k ∧ k ≤ 1000000 ∧ ∀ (p : Addr) (H' : Hp), H p = none → Same H H' → StAt p 0 H' → Q (.ref p) H'
def sp__law_draw : Sp := fun vs H Q _ => ∃ (a : Addr) (c top : Int), vs = [.ref a, .int top] ∧ StAt a c H ∧ c ≤ 100000000 ∧ 0 < top ∧ top < 1000000 ∧
  ∀ (r : Int) (H' : Hp), 0 ≤ r → r < top → Kp a H H' → StAt a (c + 1) H' → Q (.int r) H'

local macro_rules | `(tactic| walk_at "sz") => `(tactic| first | assumption | decide | omega | (unfold sizeLine; omega) | exact Nat.le_of_ble_eq_true rfl)
local macro_rules | `(tactic| walk_at "hp") => `(tactic| (first | assumption | exact upd_same | (rw [upd_ne (by assumption)]; assumption)))
local macro_rules | `(tactic| walk_at "rd") => `(tactic| (first
  | refine ⟨_, rfl, ?_⟩
  | (refine ⟨_, _, rfl, rfl, ?rdc, ?_⟩; (case rdc => first | (show (0 : Int) < _; omega) | (exact ⟨by omega, by omega⟩) | (exact .inl ⟨by omega, by omega⟩) | (exact .inr ⟨by omega, by omega⟩) | exact ⟨by decide, by decide, by decide⟩))
  | refine ⟨_, _, rfl, rfl, ?_⟩
  | refine .inl ⟨_, rfl, ?_⟩
  | refine ⟨rfl, ?_⟩
  | refine ⟨⟨_, rfl⟩, ?_⟩
  | refine ⟨⟨_, SqL.of (by walk_at "hp")⟩, ?_⟩
  | refine ⟨_, _, _, _, rfl, rfl, SqL.of (by walk_at "hp"), (by rfl), ?_⟩
  | refine ⟨_, _, _, _, rfl, rfl, (by walk_at "hp"), (by rfl), ?_⟩
  | refine ⟨_, _, rfl, ⟨by walk_at "sz", rfl⟩, ?_⟩
  | refine ⟨_, _, _, rfl, rfl, by walk_at "sz", by assumption, ?_⟩
  | refine And.intro (by walk_at "sz") ?_
  | refine itT rfl ?_
  | refine itF rfl ?_
  | refine itT (by assumption) ?_
  | refine itF (by assumption) ?_
  | refine itT (decide_eq_true (by omega)) ?_
  | refine itF (decide_eq_false (by omega)) ?_
  | refine itT (dVi (by omega)) ?_
  | refine itF (dViN (by omega)) ?_
  | refine itT (notT (by assumption)) ?_
  | refine itF (notF (by assumption)) ?_
  | refine itT (notT (dViN (by omega))) ?_
  | refine itF (notF (dVi (by omega))) ?_
  | refine itT (decide_eq_true rfl) ?_
  | refine itF (notF (decide_eq_true rfl)) ?_
  | refine ite2 (fun _ => ?_) (fun _ => ?_)
  | with_reducible refine tC_ ?_
  | with_reducible refine tNext_ ?_
  | with_reducible refine tNil_ ?_
  | with_reducible refine tYes_ ?_))
local macro_rules | `(tactic| walk_at "rds") => `(tactic| repeat' (walk_at "rd"))
section
variable {P : Program} {w : World} {K : PySem.W.Frag} {mg : Str → Option Value} {base : Heap}

theorem ok__law_mixed (T : Tx P w K mg base) : FnOk P w K mg base CX0 1 T.d__law_mixed.f T.d__law_mixed.fd ["number", "k"] sp__law_mixed := by
  have sc := sc__law_mixed
  refine T.d__law_mixed.F.ok sc (fun vs H Q E h => ?_) (fun cdv A outer s H vs Q E hr h => ?_)
  · obtain ⟨n, k, rfl, h1, h2, q⟩ := h
    rfl
  · obtain ⟨n, k, rfl, h1, h2, q⟩ := h
    refine ⟨_, (pss_cons (ps_set (i := 0) sc.nd rfl (Or.inl rfl) (pe_op op_mod (pe_callTy call_int1 (by rfl) T.n_int (by decide +kernel) (pa_cons (pe_op op_mul (pe_op op_add (pe_op op_add (pe_op op_mod (pe_callTy call_int1 (by rfl) T.n_int (by decide +kernel) (pa_cons (pv 0) pa_nil)) pe_int) (pe_op op_mul (pe_op op_mul pe_int (pv 1)) (pv 1))) (pe_op op_mul pe_int (pv 1))) pe_int) pa_nil)) pe_int))
      (pss_one (ps_ret (pe_op op_mod (pe_callTy call_int1 (by rfl) T.n_int (by decide +kernel) (pa_cons (pe_op op_mul (pv 0) (pe_op op_add pe_int (pe_op op_mul pe_int (pv 1)))) pa_nil)) pe_int)))), ?_⟩
    have e2 : ∀ x : Int, 0 ≤ x % 2147483629 ∧ x % 2147483629 < 2147483629 := fun x => ⟨Int.emod_nonneg _ (by decide), Int.emod_lt_of_pos _ (by decide)⟩
    repeat (walk_at "rd")
    exact q _ (e2 _).1 (e2 _).2

theorem ok__law_stream (T : Tx P w K mg base) (G__law_mixed : FnOk P w K mg base CX0 1 T.d__law_mixed.f T.d__law_mixed.fd ["number", "k"] sp__law_mixed) : FnOk P w K mg base CX0 2 T.d__law_stream.f T.d__law_stream.fd ["item", "k"] sp__law_stream := by
  have sc := sc__law_stream
  refine T.d__law_stream.F.ok sc (fun vs H Q E h => ?_) (fun cdv A outer s H vs Q E hr h => ?_)
  · obtain ⟨n, k, rfl, h1, h2, q⟩ := h
    rfl
  · obtain ⟨n, k, rfl, h1, h2, q⟩ := h
    refine ⟨_, (pss_one (ps_ret (pe_lst (pa_cons (pe_ifExp (pt_cmpR op_ge (pv 0) (pe_op op_pow pe_int pe_int) (nomark _)) (pv 0) pe_int) (pa_cons pe_int (pa_cons (pe_call G__law_mixed (hr.mono (by decide)) rfl T.d__law_mixed.m T.d__law_mixed.F.kp T.d__law_mixed.b .nil pass0 (pa_cons (pv 0) (pa_cons (pv 1) pa_nil))) pa_nil)))))), ?_⟩
    walk_at "rds"
    all_goals
      refine ⟨_, _, rfl, h1, by omega, fun r r0 r1 => ?_⟩
      walk_at "rds"
      intro p hp
      exact q p _ hp (Same.new (Same.refl _) hp) ⟨_, _, 0, upd_same, by decide, by decide⟩

theorem ok__law_draw (T : Tx P w K mg base) (G__law_mixed : FnOk P w K mg base CX0 1 T.d__law_mixed.f T.d__law_mixed.fd ["number", "k"] sp__law_mixed) : FnOk P w K mg base CX0 2 T.d__law_draw.f T.d__law_draw.fd ["stream", "top"] sp__law_draw := by
  have sc := sc__law_draw
  refine T.d__law_draw.F.ok sc (fun vs H Q E h => ?_) (fun cdv A outer s H vs Q E hr h => ?_)
  · obtain ⟨a, c, top, rfl, hs, hc, t0, t1, q⟩ := h
    rfl
  · obtain ⟨a, c, top, rfl, hs, hc, t0, t1, q⟩ := h
    refine ⟨_, (pss_cons (ps_asg (pe_op op_add (pe_ix ix_list (pv 0) pe_int (fun _ _ => rfl)) pe_int) (pg_sub (pv 0) pe_int set_list))
      (pss_cons (ps_if (pt_cmpR op_eq (pe_ix ix_list (pv 0) pe_int (fun _ _ => rfl)) pe_int (nomark _)) (pss_one (ps_ret (pe_op op_mod (pe_callTy call_int1 (by rfl) T.n_int (by decide +kernel) (pa_cons (pe_call G__law_mixed (hr.mono (by decide)) rfl T.d__law_mixed.m T.d__law_mixed.F.kp T.d__law_mixed.b .nil pass0 (pa_cons (pe_call G__law_mixed (hr.mono (by decide)) rfl T.d__law_mixed.m T.d__law_mixed.F.kp T.d__law_mixed.b .nil pass0 (pa_cons (pe_ix ix_list (pv 0) pe_int (fun _ _ => rfl)) (pa_cons (pe_ix ix_list (pv 0) pe_int (fun _ _ => rfl)) pa_nil))) (pa_cons pe_int pa_nil))) pa_nil)) (pv 1)))) pss_nil)
      (pss_cons (ps_set (i := 2) sc.nd rfl (Or.inl rfl) (pe_op op_mod (pe_callTy call_int1 (by rfl) T.n_int (by decide +kernel) (pa_cons (pe_ix ix_list (pv 0) pe_int (fun _ _ => rfl)) pa_nil)) (pv 1)))
      (pss_cons (ps_asg (pe_op op_fdiv (pe_ix ix_list (pv 0) pe_int (fun _ _ => rfl)) (pv 1)) (pg_sub (pv 0) pe_int set_list))
      (pss_one (ps_ret (pv 2))))))), ?_⟩
    obtain ⟨x, y, n, ha, n0, n1⟩ := hs
    have em : ∀ x : Int, 0 ≤ x % top ∧ x % top < top := fun x => ⟨Int.emod_nonneg _ (by omega), Int.emod_lt_of_pos _ t0⟩
    walk_at "rds"
    · refine ⟨_, _, rfl, by omega, by omega, fun r r0 r1 => ?_⟩
      walk_at "rds"
      refine ⟨_, _, rfl, by decide, by decide, fun r2 r20 r21 => ?_⟩
      walk_at "rds"
      exact q _ _ (em _).1 (em _).2 ((Kp.refl _ _).upd) ⟨_, _, _, upd_same, by omega, by omega⟩
    · walk_at "rds"
      exact q _ _ (em _).1 (em _).2 ((Kp.refl _ _).upd.upd) ⟨_, _, _, upd_same, by omega, by omega⟩

abbrev signs : Str := Str.ofString ("\t\n !\"#$&'()*+,-./0123456789:;<=>?@" ++ "ABCDEFGHIJKLMNOPQRSTUVWXYZ[\\]^_`abcdefghijklmnopqrstuvwxyz{|}~")
def sp__law_signs : Sp := fun vs H Q _ => vs = [] ∧ Q (.str signs) H
theorem ok__law_signs (T : Tx P w K mg base) : FnOk P w K mg base CX0 1 T.d__law_signs.f T.d__law_signs.fd [] sp__law_signs := by
  have sc := sc__law_signs
  refine T.d__law_signs.F.ok sc (fun vs H Q E h => ?_) (fun cdv A outer s H vs Q E hr h => ?_)
  · obtain ⟨rfl, q⟩ := h
    rfl
  · obtain ⟨rfl, q⟩ := h
    refine ⟨_, (pss_one (ps_ret pe_str)), ?_⟩
    exact cast (congrArg (fun z => Q (.str z) H) (show signs = _ from by decide +kernel)) q

def sp__law_pick : Sp := fun vs H Q _ => ∃ (a : Addr) (c : Int) (v : V), vs = [.ref a, v] ∧ StAt a c H ∧ c ≤ 100000000 ∧
  ((∃ (b : Addr) (xs : List V), v = .ref b ∧ b ≠ a ∧ H b = some (.lst xs) ∧ 0 < xs.length ∧ xs.length < 1000000 ∧ ∀ (i : Nat) (x : V) (H' : Hp), xs[i]? = some x → Kp a H H' → StAt a (c + 1) H' → Q x H') ∨
   (∃ z : Str, v = .str z ∧ 0 < z.cps.size ∧ z.cps.size < 1000000 ∧ ∀ (cp : Nat) (H' : Hp), cp ∈ z.cps.toList → Kp a H H' → StAt a (c + 1) H' → Q (.str ⟨#[cp]⟩) H'))
theorem ok__law_pick (T : Tx P w K mg base) (G__law_draw : FnOk P w K mg base CX0 2 T.d__law_draw.f T.d__law_draw.fd ["stream", "top"] sp__law_draw) : FnOk P w K mg base CX0 3 T.d__law_pick.f T.d__law_pick.fd ["stream", "some"] sp__law_pick := by
  have sc := sc__law_pick
  refine T.d__law_pick.F.ok sc (fun vs H Q E h => ?_) (fun cdv A outer s H vs Q E hr h => ?_)
  · obtain ⟨a, c, v, rfl, hs, hc, hv⟩ := h
    rfl
  · obtain ⟨a, c, v, rfl, hs, hc, hv⟩ := h
    refine ⟨_, (pss_one (ps_ret (pe_ix ix_seq (pv 1) (pe_call G__law_draw (hr.mono (by decide)) rfl T.d__law_draw.m T.d__law_draw.F.kp T.d__law_draw.b .nil pass0 (pa_cons (pv 0) (pa_cons (pe_callB call_len (by rfl) T.n_len PySem.boot_len (pa_cons (pv 1) pa_nil)) pa_nil))) (fun _ _ => rfl)))), ?_⟩
    rcases hv with ⟨b, xs, rfl, hb, hx, z0, z1, q⟩ | ⟨z, rfl, z0, z1, q⟩
    · walk_at "rds"
      refine ⟨_, _, rfl, .inl ⟨_, SqL.of hx, rfl⟩, ?_⟩
      walk_at "rds"
      refine ⟨a, c, _, rfl, hs, hc, by omega, by omega, fun r H' r0 r1 kp st => ?_⟩
      obtain ⟨i, x, hi, e, _⟩ := at_int r0 r1
      exact .inl ⟨_, _, _, _, rfl, rfl, SqL.of (kp _ _ hb hx), e, q i x H' hi kp st⟩
    · have zl : z.length = z.cps.size := rfl
      walk_at "rds"
      refine ⟨a, c, _, rfl, hs, hc, by omega, by omega, fun r H' r0 r1 kp st => ?_⟩
      obtain ⟨cp, hm, e⟩ := at_text r0 r1
      exact .inr (.inr ⟨_, _, _, rfl, rfl, by unfold sizeLine; omega, e, q cp H' hm kp st⟩)

end
end K4

namespace K4
open PySem PySem.Spec PyProof.Rows L2 Mx
/-! ### the program -/
open TL Num
def W4 (z : Str) : Prop := Asc z ∧ (tl z).length ≤ 1000
def sp_shortened : Sp := fun vs H Q _ => ∃ z : Str, vs = [.str z] ∧ W4 z ∧ ∀ y : Str, tl y = short (tl z) → Q (.str y) H
def sp_value_of : Sp := fun vs H Q _ => ∃ (z : Str) (b : Nat), vs = [.str z, .int (b : Int)] ∧ Base b ∧ (∀ c ∈ tl z, c ∈ digs 16) ∧ Q (.int (val b (tl z) : Nat)) H
def sp_is_code : Sp := fun vs H Q _ => ∃ c : Nat, vs = [.int (c : Int)] ∧ ∀ H', Same H H' → Q (.bl (code c)) H'
theorem inV2 (a b c : Int) : inV (.int a) [.int b, .int c] = (decide (a = b) || decide (a = c)) := by
  show ((b == a) || ((c == a) || false)) = _
  rw [Bool.or_false]
  have k : ∀ x y : Int, (x == y) = decide (y = x) := fun x y => by
    rw [Bool.eq_iff_iff, beq_iff_eq, decide_eq_true_eq]
    exact ⟨Eq.symm, Eq.symm⟩
  rw [k, k]

local macro_rules | `(tactic| walk_at "sz") => `(tactic| first | assumption | decide | omega | (unfold sizeLine; omega) | exact Nat.le_of_ble_eq_true rfl)
local macro_rules | `(tactic| walk_at "hp") => `(tactic| (first | assumption | exact upd_same | (rw [upd_ne (by assumption)]; assumption)))
local macro_rules | `(tactic| walk_at "rd") => `(tactic| (first
  | refine ⟨_, rfl, ?_⟩
  | (refine ⟨_, _, rfl, rfl, ?rdc, ?_⟩; (case rdc => first | (show (0 : Int) < _; omega) | (exact ⟨by omega, by omega⟩) | (exact .inl ⟨by omega, by omega⟩) | (exact .inr ⟨by omega, by omega⟩) | exact ⟨by decide, by decide, by decide⟩))
  | refine ⟨_, _, rfl, rfl, ?_⟩
  | refine .inl ⟨_, rfl, ?_⟩
  | refine ⟨rfl, ?_⟩
  | refine ⟨⟨_, rfl⟩, ?_⟩
  | refine ⟨⟨_, SqL.of (by walk_at "hp")⟩, ?_⟩
  | refine ⟨_, _, _, _, rfl, rfl, SqL.of (by walk_at "hp"), (by rfl), ?_⟩
  | refine ⟨_, _, _, _, rfl, rfl, (by walk_at "hp"), (by rfl), ?_⟩
  | refine ⟨_, _, rfl, ⟨by walk_at "sz", rfl⟩, ?_⟩
  | refine ⟨_, _, _, rfl, rfl, by walk_at "sz", by assumption, ?_⟩
  | refine And.intro (by walk_at "sz") ?_
  | refine itT rfl ?_
  | refine itF rfl ?_
  | refine itT (by assumption) ?_
  | refine itF (by assumption) ?_
  | refine itT (decide_eq_true (by omega)) ?_
  | refine itF (decide_eq_false (by omega)) ?_
  | refine itT (dVi (by omega)) ?_
  | refine itF (dViN (by omega)) ?_
  | refine itT (notT (by assumption)) ?_
  | refine itF (notF (by assumption)) ?_
  | refine itT (notT (dViN (by omega))) ?_
  | refine itF (notF (dVi (by omega))) ?_
  | refine itT (decide_eq_true rfl) ?_
  | refine itF (notF (decide_eq_true rfl)) ?_
  | refine ite2 (fun _ => ?_) (fun _ => ?_)
  | with_reducible refine tC_ ?_
  | with_reducible refine tNext_ ?_
  | with_reducible refine tNil_ ?_
  | with_reducible refine tYes_ ?_))
local macro_rules | `(tactic| walk_at "rds") => `(tactic| repeat' (walk_at "rd"))
section
variable {P : Program} {w : World} {K : PySem.W.Frag} {mg : Str → Option Value} {base : Heap}

theorem ok_shortened (T : Tx P w K mg base) : FnOk P w K mg base CX0 1 T.d_shortened.f T.d_shortened.fd ["digits"] sp_shortened := by
  have sc := sc_shortened
  refine T.d_shortened.F.ok sc (fun vs H Q E h => ?_) (fun cdv A outer s H vs Q E hr h => ?_)
  · obtain ⟨z, rfl, hz, q⟩ := h
    rfl
  · obtain ⟨z, rfl, hz, q⟩ := h
    refine ⟨_, (pss_one (ps_ret (pe_m1 PySem.F.slot_str_lstrip PySem.F.type_str_lstrip mt_lstripChars (pe_lower (pv 0)) pe_str))), ?_⟩
    have zl : z.length = (tl z).length := len_tl z
    obtain ⟨h1, h2⟩ := hz
    have l1 : (Txt.lower z).length ≤ sizeLine := by
      rw [len_tl, tl_low h1, List.length_map]
      unfold sizeLine
      omega
    walk_at "rds"
    exact q _ (tl_short h1)

theorem ok_value_of (T : Tx P w K mg base) : FnOk P w K mg base CX0 1 T.d_value_of.f T.d_value_of.fd ["digits", "base"] sp_value_of := by
  have sc := sc_value_of
  refine T.d_value_of.F.ok sc (fun vs H Q E h => ?_) (fun cdv A outer s H vs Q E hr h => ?_)
  · obtain ⟨z, b, rfl, hb, hd, q⟩ := h
    rfl
  · obtain ⟨z, b, rfl, hb, hd, q⟩ := h
    refine ⟨_, (pss_cons (ps_set (i := 2) sc.nd rfl (Or.inl rfl) pe_int)
      (pss_cons (ps_for PassesOwn.never rfl (pi_str (pv 0)) (pg_name (i := 3) sc.nd rfl (Or.inl rfl)) (pss_one (ps_set (i := 2) sc.nd rfl (Or.inl rfl) (pe_op op_add (pe_op op_mul (pv 2) (pv 1)) ((pe_bmS PySem.F.plainAttrs_str PySem.F.slot_str_index PySem.F.type_str_index (mt_indexX rfl LamX.takes0) (pe_gc rfl T.g_HEXADECIMAL) (pa_cons (pv 3) pa_nil)))))))
      (pss_one (ps_ret (pv 2))))), ?_⟩
    have zs : z.cps.size = (tl z).length := len_tl z
    have hb2 : b ≤ 16 := by rcases hb with rfl | rfl <;> decide
    walk_at "rds"
    refine for_it walk_str (fun i σ H' => H' = H ∧ ∃ v, σ = [some (.str z), some (.int (b : Int)), some (.int (val b ((tl z).take i) : Nat)), v]) ⟨rfl, _, rfl⟩ (fun _ _ _ _ _ => trivial) ?_ ?_
    · rintro i x σ H1 H2 hi ⟨rfl, v, rfl⟩ ⟨rfl, c, hc, rfl⟩
      have hg : (tl z)[i]? = some c := by rw [Array.getElem?_toList]; exact hc
      have hx := index_hex c (hd c (List.mem_of_getElem? hg))
      walk_at "rds"
      refine ⟨fun k hk => ?_, fun hn => by rw [hx] at hn; cases hn⟩
      obtain rfl := Option.some.inj (hx.symm.trans hk)
      walk_at "rds"
      exact ⟨_, by rw [take_snoc hg, val_snoc, Int.natCast_add, Int.natCast_mul]; rfl⟩
    · rintro σ H1 ⟨rfl, v, rfl⟩
      walk_at "rds"
      rw [zs, List.take_length]
      exact q

theorem ok_is_code (T : Tx P w K mg base) : FnOk P w K mg base CX0 1 T.d_is_code.f T.d_is_code.fd ["code"] sp_is_code := by
  have sc := sc_is_code
  refine T.d_is_code.F.ok sc (fun vs H Q E h => ?_) (fun cdv A outer s H vs Q E hr h => ?_)
  · obtain ⟨c, rfl, q⟩ := h
    rfl
  · obtain ⟨c, rfl, q⟩ := h
    refine ⟨_, (pss_one (ps_ret ((pe_or (pe_cmpR op_in_seq (pv 0) (pe_tup (pa_cons pe_int (pa_cons pe_int pa_nil))) (by rfl)) (pe_one ((pe_and (pe_chain op_le op_le pe_int (pv 0) pe_int) (pe_one (pe_cmpR op_ne (pv 0) pe_int (nomark _)))))))))), ?_⟩
    walk_at "rds"
    intro p hp
    walk_at "rds"
    refine ⟨p, _, rfl, .inr (SqT.of upd_same), rfl, rfl, ?_⟩
    show ∃ c_1, V.bl (inV (.int (c : Int)) [.int 9, .int 10]) = V.bl c_1 ∧ _
    rw [inV2]
    have s1 := Same.new (o := .tup [.int 9, .int 10]) (Same.refl _) hp
    have fin : ∀ r, code c = r → Q (.bl r) (upd H p (.tup [.int 9, .int 10])) := fun r e => e ▸ q _ s1
    refine ⟨_, rfl, ?_⟩
    by_cases h1 : c = 9 ∨ c = 10
    · refine itT (by rcases h1 with rfl | rfl <;> rfl) ?_
      exact fin _ (by rcases h1 with rfl | rfl <;> rfl)
    · refine itF (by simp; omega) ?_
      by_cases h2 : 32 ≤ c
      · by_cases h3 : c ≤ 126
        · walk_at "rds"
          refine fin _ ?_
          by_cases h4 : c = 37
          · rw [dVi (by omega)]
            unfold Num.code
            simp
            omega
          · rw [dViN (by omega)]
            unfold Num.code
            simp
            omega
        · walk_at "rds"
          refine fin _ (by unfold Num.code; simp; omega)
      · walk_at "rds"
        refine fin _ (by unfold Num.code; simp; omega)

def sp_is_number_part : Sp := fun vs H Q _ => ∃ (z : Str) (b : Nat), vs = [.str z, .int (b : Int)] ∧ Base b ∧ W4 z ∧ (∀ c ∈ short (tl z), c ∈ digs 16) ∧ ∀ H', Same H H' → Q (.bl (npart b (short (tl z)))) H'
theorem anyIn_min (v b : Nat) : True := trivial

theorem ok_is_number_part (T : Tx P w K mg base) (G_shortened : FnOk P w K mg base CX0 1 T.d_shortened.f T.d_shortened.fd ["digits"] sp_shortened) (G_value_of : FnOk P w K mg base CX0 1 T.d_value_of.f T.d_value_of.fd ["digits", "base"] sp_value_of) (G_is_code : FnOk P w K mg base CX0 1 T.d_is_code.f T.d_is_code.fd ["code"] sp_is_code) : FnOk P w K mg base CX0 3 T.d_is_number_part.f T.d_is_number_part.fd ["digits", "base"] sp_is_number_part := by
  have sc := sc_is_number_part
  refine T.d_is_number_part.F.ok sc (fun vs H Q E h => ?_) (fun cdv A outer s H vs Q E hr h => ?_)
  · obtain ⟨z, b, rfl, hb, hz, hd, q⟩ := h
    rfl
  · obtain ⟨z, b, rfl, hb, hz, hd, q⟩ := h
    refine ⟨_, (pss_cons (ps_set (i := 2) sc.nd rfl (Or.inl rfl) (pe_call G_shortened (hr.mono (by decide)) rfl T.d_shortened.m T.d_shortened.F.kp T.d_shortened.b .nil pass0 (pa_cons (pv 0) pa_nil)))
      (pss_cons (ps_if (PW.pt (pw_or (pt_cmpR op_eq (pv 2) pe_str (nomark _)) (pw_or1 (pt_cmpR op_gt (pe_callB call_len (by rfl) T.n_len PySem.boot_len (pa_cons (pv 2) pa_nil)) pe_int (nomark _))))) (pss_one (ps_ret (pe_cmpR op_eq (pv 2) pe_str (nomark _)))) pss_nil)
      (pss_cons (ps_set (i := 3) sc.nd rfl (Or.inl rfl) (pe_call G_value_of (hr.mono (by decide)) rfl T.d_value_of.m T.d_value_of.F.kp T.d_value_of.b .nil pass0 (pa_cons (pv 2) (pa_cons (pv 1) pa_nil))))
      (pss_cons (ps_for PassesOwn.never rfl (pi_tup (pe_tup (pa_cons pe_int (pa_cons (pv 1) (pa_cons (pe_op op_mul (pv 1) (pv 1)) pa_nil))))) (pg_name (i := 4) sc.nd rfl (Or.inl rfl)) (pss_one (ps_if (pt_val (pe_callB (cr_any rfl) (by rfl) T.n_any (by decide +kernel) (pa_cons (pe_lc (own := [("code", 5)]) (g := gName 5) (tt := tYes) rfl sc.nd (pi_range2 rfl T.n_range (pa_cons (pe_op op_mul (pv 3) (pv 4)) (pa_cons (pe_callB (call_min2 rfl) (by rfl) T.n_min (by decide +kernel) (pa_cons pe_int (pa_cons (pe_op op_mul (pe_op op_add (pv 3) pe_int) (pv 4)) pa_nil))) pa_nil))) (blkOk_by (own := [("code", 5)]) (N := ["digits", "base", "short", "value", "size", "code"]) (sc := defScope s_is_number_part) (by decide +kernel)) (fun _ _ _ _ _ => pg_name (i := 5) sc.nd rfl (Or.inl rfl)) (fun _ _ _ _ _ => pts_nil) (fun _ _ _ _ _ => pe_call G_is_code (hr.mono (by decide)) rfl T.d_is_code.m T.d_is_code.F.kp T.d_is_code.b .nil pass0 (pa_cons (pv 5) pa_nil))) pa_nil))) (pss_one (ps_ret pe_bl)) pss_nil)))
      (pss_one (ps_ret pe_bl)))))), ?_⟩
    have hb2 : b ≤ 16 := by rcases hb with rfl | rfl <;> decide
    walk_at "rds"
    intro y hy
    have yl : y.length = (tl y).length := len_tl y
    have fin : ∀ H' r, Same H H' → npart b (short (tl z)) = r → Q (.bl r) H' := fun H' r sm e => e ▸ q H' sm
    have hl0 : (short (tl z)).length ≤ 1000 := Nat.le_trans (short_le _) hz.2
    rw [← hy] at fin hd hl0
    obtain ⟨l, hl⟩ : ∃ l, tl y = l := ⟨_, rfl⟩
    rw [hl] at fin hd hl0 yl
    by_cases h0 : l = []
    · have e0 : decide (V.str y = V.str "") = true := by rw [empty_eq, hl]; exact decide_eq_true h0
      walk_at "rds"
      rw [e0]
      exact fin _ _ (Same.refl _) (by rw [h0]; rfl)
    have e0 : decide (V.str y = V.str "") = false := by rw [empty_eq, hl]; exact decide_eq_false h0
    by_cases h1 : 3 < l.length
    · walk_at "rds"
      rw [e0]
      exact fin _ _ (Same.refl _) (by unfold npart; rw [if_neg h0, if_pos h1])
    walk_at "rds"
    refine ⟨y, b, rfl, hb, by rw [hl]; exact hd, ?_⟩
    rw [hl]
    have hv := val_le hb2 (Nat.not_lt.mp h1) hd
    rw [npart_in h0 h1] at fin
    have fin2 : ∀ H' r, Same H H' → ([1, b, b * b].any (inR b l)) = r → Q (.bl r) H' := fun H' r sm e => fin H' r sm e
    obtain ⟨v0, hval⟩ : ∃ v0, val b l = v0 := ⟨_, rfl⟩
    rw [hval] at hv ⊢
    walk_at "rds"
    intro p hp
    have sp_ := Same.new (o := .tup [.int 1, .int (b : Int), .int ((b : Int) * (b : Int))]) (Same.refl _) hp
    have fp : upd H p (.tup [.int 1, .int (b : Int), .int ((b : Int) * (b : Int))]) p = some (.tup [.int 1, .int (b : Int), .int ((b : Int) * (b : Int))]) := upd_same
    generalize upd H p (.tup [.int 1, .int (b : Int), .int ((b : Int) * (b : Int))]) = Hp1 at *
    refine ⟨p, rfl, ⟨_, SqT.of fp⟩, ?_⟩
    have hss : ∀ (i : Nat) (x : L2.V), ([.int 1, .int (b : Int), .int ((b : Int) * (b : Int))] : List L2.V)[i]? = some x → ∃ s : Nat, [1, b, b * b][i]? = some s ∧ x = .int (s : Int) ∧ s ≤ 256 := by
      intro i x hx
      have hbb : b * b ≤ 16 * 16 := Nat.mul_le_mul hb2 hb2
      match i, hx with
      | 0, hx => exact ⟨1, rfl, (Option.some.inj hx).symm, by decide⟩
      | 1, hx => exact ⟨b, rfl, (Option.some.inj hx).symm, by omega⟩
      | 2, hx => exact ⟨b * b, rfl, by rw [Int.natCast_mul]; exact (Option.some.inj hx).symm, by omega⟩
      | n + 3, hx => cases hx
    refine for_it (walk_tup (xs := [.int 1, .int (b : Int), .int ((b : Int) * (b : Int))])) (fun i σ H' => Same Hp1 H' ∧ (∃ v4 v5, σ = [some (.str z), some (.int (b : Int)), some (.str y), some (.int (v0 : Int)), v4, v5]) ∧ ∀ j s, j < i → [1, b, b * b][j]? = some s → inR b l s = false) ⟨Same.refl _, ⟨_, _, rfl⟩, fun j s h => absurd h (Nat.not_lt_zero _)⟩ (fun i σ H' _ hh => SqT.of (hh.1 _ _ fp)) ?_ ?_
    · rintro i x σ H1 H2 hi ⟨sm, ⟨v4, v5, rfl⟩, hf⟩ ⟨rfl, hx⟩
      obtain ⟨s, hs1, rfl, hs2⟩ := hss i x hx
      have m1 : v0 * s ≤ 4095 * 256 := Nat.mul_le_mul hv hs2
      have m2 : (v0 + 1) * s ≤ 4096 * 256 := Nat.mul_le_mul (by omega) hs2
      have em : (if ((v0 : Int) + 1) * (s : Int) < 127 then ((v0 : Int) + 1) * (s : Int) else 127) = ((min 127 ((v0 + 1) * s) : Nat) : Int) := by
        have e1 : ((v0 : Int) + 1) * (s : Int) = (((v0 + 1) * s : Nat) : Int) := by rw [Int.natCast_mul]; rfl
        rw [e1]
        split <;> omega
      have el : (v0 : Int) * (s : Int) = ((v0 * s : Nat) : Int) := (Int.natCast_mul _ _).symm
      have m3 : min 127 ((v0 + 1) * s) ≤ 127 := Nat.min_le_left _ _
      walk_at "rds"
      refine ⟨_, _, rfl, ?_⟩
      walk_at "rds"
      refine ⟨((v0 * s : Nat) : Int), ((min 127 ((v0 + 1) * s) : Nat) : Int), (by show [V.int _, V.int _] = _; rw [← em, ← el]), ⟨by omega, by omega, by omega, by omega⟩, ?_⟩
      intro D hD
      have en : (((min 127 ((v0 + 1) * s) : Nat) : Int) - ((v0 * s : Nat) : Int)).toNat = min 127 ((v0 + 1) * s) - v0 * s := by omega
      have fany : ((List.range (min 127 ((v0 + 1) * s) - v0 * s)).map fun k => Num.code (v0 * s + k)).any id = inR b l s := by unfold Num.inR; rw [hval]; exact anyIn_list _ _
      refine lc_flt (walk_range (lo := ((v0 * s : Nat) : Int)) (n := (((min 127 ((v0 + 1) * s) : Nat) : Int) - ((v0 * s : Nat) : Int)).toNat)) (fun _ => true) (fun k => .bl (Num.code (v0 * s + k))) hD (by omega) (fun _ _ => trivial) (fun i H1 x H2 y => y.1 ▸ Same.refl _) ?_ ?_
      · rintro k x H3 H4 Nx Mx hk sm3 ⟨rfl, rfl⟩ k1 k2
        have ek : ((v0 * s : Nat) : Int) + (k : Int) = ((v0 * s + k : Nat) : Int) := (Int.natCast_add _ _).symm
        simp only [ek]
        refine ⟨rfl, ?_⟩
        walk_at "rds"
        intro H5 s5
        exact k1 rfl _ s5
      · intro H3 sm3 hl3
        rw [picked_all, en] at hl3
        walk_at "rds"
        refine ⟨D, (List.range (min 127 ((v0 + 1) * s) - v0 * s)).map (fun k => Num.code (v0 * s + k)), rfl, SqL.of (by rw [List.map_map]; exact hl3), ?_⟩
        rw [fany]
        cases hin : inR b l s with
        | true =>
          walk_at "rds"
          exact fin2 _ _ ((sp_.trans sm).trans sm3) (List.any_eq_true.mpr ⟨s, List.mem_of_getElem? hs1, hin⟩)
        | false =>
          walk_at "rds"
          refine ⟨sm.trans sm3, ⟨_, _, rfl⟩, fun j s' hj hj2 => ?_⟩
          by_cases e : j = i
          · subst e
            obtain rfl := Option.some.inj (hs1.symm.trans hj2)
            exact hin
          · exact hf j s' (by omega) hj2
    · rintro σ H1 ⟨sm, ⟨v4, v5, rfl⟩, hf⟩
      walk_at "rds"
      refine fin2 _ _ (sp_.trans sm) ?_
      rw [List.any_eq_false]
      intro s hs
      obtain ⟨j, hj⟩ := List.mem_iff_getElem?.mp hs
      have hj3 : j < 3 := (List.getElem?_eq_some_iff.mp hj).1
      rw [hf j s hj3 hj]
      decide

def chrV (b : Nat) (l : List Nat) : L2.V := match chr b l with | some c => .str ⟨#[c]⟩ | none => .non
def sp_character_of : Sp := fun vs H Q _ => ∃ (z : Str) (b : Nat), vs = [.str z, .int (b : Int)] ∧ Base b ∧ W4 z ∧ (∀ c ∈ short (tl z), c ∈ digs 16) ∧ Q (chrV b (short (tl z))) H

theorem ok_character_of (T : Tx P w K mg base) (G_shortened : FnOk P w K mg base CX0 1 T.d_shortened.f T.d_shortened.fd ["digits"] sp_shortened) (G_value_of : FnOk P w K mg base CX0 1 T.d_value_of.f T.d_value_of.fd ["digits", "base"] sp_value_of) : FnOk P w K mg base CX0 3 T.d_character_of.f T.d_character_of.fd ["digits", "base"] sp_character_of := by
  have sc := sc_character_of
  refine T.d_character_of.F.ok sc (fun vs H Q E h => ?_) (fun cdv A outer s H vs Q E hr h => ?_)
  · obtain ⟨z, b, rfl, hb, hz, hd, q⟩ := h
    rfl
  · obtain ⟨z, b, rfl, hb, hz, hd, q⟩ := h
    refine ⟨_, (pss_cons (ps_set (i := 2) sc.nd rfl (Or.inl rfl) (pe_call G_shortened (hr.mono (by decide)) rfl T.d_shortened.m T.d_shortened.F.kp T.d_shortened.b .nil pass0 (pa_cons (pv 0) pa_nil)))
      (pss_cons (ps_if (pt_cmpR op_gt (pe_callB call_len (by rfl) T.n_len PySem.boot_len (pa_cons (pv 2) pa_nil)) pe_int (nomark _)) (pss_one (ps_ret pe_non)) pss_nil)
      (pss_cons (ps_set (i := 3) sc.nd rfl (Or.inl rfl) (pe_call G_value_of (hr.mono (by decide)) rfl T.d_value_of.m T.d_value_of.F.kp T.d_value_of.b .nil pass0 (pa_cons (pv 2) (pa_cons (pv 1) pa_nil))))
      (pss_cons (ps_for PassesOwn.never rfl (pi_str (pe_gc rfl T.g_SIGNS)) (pg_name (i := 4) sc.nd rfl (Or.inl rfl)) (pss_one (ps_if (pt_cmpR op_eq (pe_callB call_ord (by rfl) T.n_ord (by decide +kernel) (pa_cons (pv 4) pa_nil)) (pv 3) (nomark _)) (pss_one (ps_ret (pv 4))) pss_nil)))
      (pss_one (ps_ret pe_non)))))), ?_⟩
    have hb2 : b ≤ 16 := by rcases hb with rfl | rfl <;> decide
    walk_at "rds"
    intro y hy
    have yl : y.length = (tl y).length := len_tl y
    have fin : ∀ u, chrV b (short (tl z)) = u → Q u H := fun u e => e ▸ q
    have hl0 : (short (tl z)).length ≤ 1000 := Nat.le_trans (short_le _) hz.2
    rw [← hy] at fin hd hl0
    obtain ⟨l, hl⟩ : ∃ l, tl y = l := ⟨_, rfl⟩
    rw [hl] at fin hd hl0 yl
    by_cases h1 : 3 < l.length
    · walk_at "rds"
      exact fin _ (by unfold chrV chr; rw [if_pos h1])
    walk_at "rds"
    refine ⟨y, b, rfl, hb, by rw [hl]; exact hd, ?_⟩
    rw [hl]
    obtain ⟨v0, hval⟩ : ∃ v0, val b l = v0 := ⟨_, rfl⟩
    have fc : chrV b l = if Num.code v0 then .str ⟨#[v0]⟩ else .non := by
      unfold chrV chr
      rw [if_neg h1, hval]
      cases Num.code v0 <;> rfl
    rw [hval]
    walk_at "rds"
    refine for_it walk_str (fun i σ H' => H' = H ∧ (∃ v4, σ = [some (.str z), some (.int (b : Int)), some (.str y), some (.int (v0 : Int)), v4]) ∧ ∀ j c, j < i → (tl signsP)[j]? = some c → c ≠ v0) ⟨rfl, ⟨_, rfl⟩, fun j c h => absurd h (Nat.not_lt_zero _)⟩ (fun _ _ _ _ _ => trivial) ?_ ?_
    · rintro i x σ H1 H2 hi ⟨rfl, ⟨v4, rfl⟩, hf⟩ ⟨rfl, c, hc, rfl⟩
      have hg : (tl signsP)[i]? = some c := by rw [Array.getElem?_toList]; exact hc
      have c8 := signsP_asc c (List.mem_of_getElem? hg)
      walk_at "rds"
      · rename_i h
        have e : c = v0 := by
          have h2 : V.int ((c : Nat) : Int) = V.int (v0 : Int) := of_decide_eq_true h
          injection h2 with h2
          omega
        subst e
        refine fin _ ?_
        rw [fc, ← signsP_code c c8, decide_eq_true (List.mem_of_getElem? hg)]
        rfl
      · rename_i h
        have e : c ≠ v0 := fun e => h (decide_eq_true (show V.int ((c : Nat) : Int) = V.int (v0 : Int) by rw [e]))
        intro j d hj hj2
        by_cases ej : j = i
        · subst ej
          rw [Option.some.inj (hj2.symm.trans hg)]
          exact e
        · exact hf j d (by omega) hj2
    · rintro σ H1 ⟨rfl, ⟨v4, rfl⟩, hf⟩
      walk_at "rds"
      refine fin _ ?_
      rw [fc]
      have : Num.code v0 = false := by
        by_cases h8 : v0 < 128
        · rw [← signsP_code v0 h8]
          refine decide_eq_false fun hm => ?_
          obtain ⟨j, hj⟩ := List.mem_iff_getElem?.mp hm
          exact hf j v0 (by have := (List.getElem?_eq_some_iff.mp hj).1; exact this) hj rfl
        · unfold Num.code
          simp
          omega
      rw [this]
      rfl

def NoStr (K : PySem.W.Frag) (H : Hp) (v : L2.V) : Prop := ∃ t, TyX K H v (.type t) ∧ kitB t "str" = some false
def sp_check_text (K : PySem.W.Frag) (C : Addr) : Sp := fun vs H Q E => ∃ v, vs = [v] ∧ ((∃ z : Str, v = .str z ∧ Q .non H) ∨ (NoStr K H v ∧ ∀ d, H d = none → E (.ref C) (some d) (upd H d (.xd [("index", .non)]))))
theorem ok_check_text (T : Tx P w K mg base) : FnOk P w K mg base (L2.CX P w) 3 T.d_check_text.f T.d_check_text.fd ["text"] (sp_check_text K T.a_InvalidText) := by
  have sc := sc_check_text
  refine T.d_check_text.F.okX sc (fun vs H Q E h => ?_) (fun cdv A outer s H vs Q E hr h => ?_)
  · obtain ⟨v, rfl, hv⟩ := h
    rfl
  · obtain ⟨v, rfl, hv⟩ := h
    refine ⟨_, (pss_one (ps_if (pt_not (pt_val (pe_callB call_isi (by rfl) T.n_isinstance (by decide +kernel) (pa_cons (pv 0) (pa_cons ((pe_bltn (by rfl) T.n_str (by decide +kernel) (v := .ty "str") rfl)) pa_nil))))) (pss_one (ps_raise rfl (takes_of rfl rfl rfl rfl) (pmk_x T.x_InvalidText (hr.mono (by decide)) rfl (pa_cons pe_non pa_nil)))) pss_nil)), ?_⟩
    rcases hv with ⟨z, rfl, q⟩ | ⟨⟨t, ht, kt⟩, q⟩
    · walk_at "rds"
      refine ⟨_, _, _, _, true, rfl, .ty _, .base (.str z), kit_ty (by decide +kernel), ?_⟩
      walk_at "rds"
      exact q
    · walk_at "rds"
      refine ⟨_, _, _, _, false, rfl, .ty _, ht, kit_ty kt, ?_⟩
      walk_at "rds"
      exact q

/-- what is no base -/
def NoBase (K : PySem.W.Frag) (H : Hp) (v : L2.V) : Prop := (∃ t, TyX K H v (.type t) ∧ kitB t "int" = some false) ∨ (∃ b, v = .bl b) ∨ ∃ i : Int, v = .int i ∧ i ≠ 10 ∧ i ≠ 16
def sp_check_base (K : PySem.W.Frag) (C : Addr) : Sp := fun vs H Q E => ∃ v, vs = [v] ∧ ((∃ b : Nat, v = .int (b : Int) ∧ Base b ∧ ∀ H', Same H H' → Q .non H') ∨
  (NoBase K H v ∧ ∀ H' d, Same H H' → H' d = none → E (.ref C) (some d) (upd H' d (.xd [("number", v)]))))
theorem ok_check_base (T : Tx P w K mg base) : FnOk P w K mg base (L2.CX P w) 3 T.d_check_base.f T.d_check_base.fd ["base"] (sp_check_base K T.a_InvalidNumber) := by
  have sc := sc_check_base
  refine T.d_check_base.F.okX sc (fun vs H Q E h => ?_) (fun cdv A outer s H vs Q E hr h => ?_)
  · obtain ⟨v, rfl, hv⟩ := h
    rfl
  · obtain ⟨v, rfl, hv⟩ := h
    refine ⟨_, (pss_one (ps_if (PW.pt (pw_or (pt_not (pt_val (pe_callB call_isi (by rfl) T.n_isinstance (by decide +kernel) (pa_cons (pv 0) (pa_cons ((pe_bltn (by rfl) T.n_int (by decide +kernel) (v := .ty "int") rfl)) pa_nil))))) (pw_or (pt_val (pe_callB call_isi (by rfl) T.n_isinstance (by decide +kernel) (pa_cons (pv 0) (pa_cons ((pe_bltn (by rfl) T.n_bool (by decide +kernel) (v := .ty "bool") rfl)) pa_nil)))) (pw_or1 (pt_cmpR op_notIn_seq (pv 0) (pe_tup (pa_cons pe_int (pa_cons pe_int pa_nil))) (by rfl)))))) (pss_one (ps_raise rfl (takes_of rfl rfl rfl rfl) (pmk_x T.x_InvalidNumber (hr.mono (by decide)) rfl (pa_cons (pv 0) pa_nil)))) pss_nil)), ?_⟩
    rcases hv with ⟨b, rfl, hb, q⟩ | ⟨⟨t, ht, kt⟩ | ⟨b, rfl⟩ | ⟨i, rfl, n1, n2⟩, q⟩
    · walk_at "rds"
      refine ⟨_, _, _, _, true, rfl, .ty _, .base (.int _), kit_ty (by decide +kernel), ?_⟩
      walk_at "rds"
      refine ⟨_, _, _, _, false, rfl, .ty _, .base (.int _), kit_ty (by decide +kernel), ?_⟩
      walk_at "rds"
      intro p hp
      walk_at "rds"
      refine ⟨p, _, rfl, .inr (SqT.of upd_same), rfl, rfl, ?_⟩
      show ∃ c, V.bl (!inV (.int (b : Int)) [.int 10, .int 16]) = V.bl c ∧ _
      rw [inV2]
      refine ⟨_, rfl, itF (by rcases hb with rfl | rfl <;> rfl) ?_⟩
      walk_at "rds"
      exact q _ (Same.new (Same.refl _) hp)
    · walk_at "rds"
      refine ⟨_, _, _, _, false, rfl, .ty _, ht, kit_ty kt, ?_⟩
      walk_at "rds"
      intro d hd
      exact q _ d (Same.refl _) hd
    · walk_at "rds"
      refine ⟨_, _, _, _, true, rfl, .ty _, .base (.bl _), kit_ty (by decide +kernel), ?_⟩
      walk_at "rds"
      refine ⟨_, _, _, _, true, rfl, .ty _, .base (.bl _), kit_ty (by decide +kernel), ?_⟩
      walk_at "rds"
      intro d hd
      exact q _ d (Same.refl _) hd
    · walk_at "rds"
      refine ⟨_, _, _, _, true, rfl, .ty _, .base (.int _), kit_ty (by decide +kernel), ?_⟩
      walk_at "rds"
      refine ⟨_, _, _, _, false, rfl, .ty _, .base (.int _), kit_ty (by decide +kernel), ?_⟩
      walk_at "rds"
      intro p hp
      walk_at "rds"
      refine ⟨p, _, rfl, .inr (SqT.of upd_same), rfl, rfl, ?_⟩
      show ∃ c, V.bl (!inV (.int i) [.int 10, .int 16]) = V.bl c ∧ _
      rw [inV2]
      refine ⟨_, rfl, itT (by rw [decide_eq_false n1, decide_eq_false n2]; rfl) ?_⟩
      walk_at "rds"
      intro d hd
      exact q _ d (Same.new (Same.refl _) hp) hd

def sp_check_digits (C : Addr) : Sp := fun vs H Q E => ∃ (z : Str) (b : Nat), vs = [.str z, .int (b : Int)] ∧ Base b ∧ W4 z ∧
  (∀ H', begun b (tl z) = true → Same H H' → Q .non H') ∧
  (∀ (m : Nat) H' d, begun b (tl z) = false → IsFront b (tl z) m → Same H H' → H' d = none → E (.ref C) (some d) (upd H' d (.xd [("index", .int (m : Int))])))
theorem ok_check_digits (T : Tx P w K mg base) (G_is_number_part : FnOk P w K mg base CX0 3 T.d_is_number_part.f T.d_is_number_part.fd ["digits", "base"] sp_is_number_part) : FnOk P w K mg base (L2.CX P w) 4 T.d_check_digits.f T.d_check_digits.fd ["digits", "base"] (sp_check_digits T.a_InvalidText) := by
  have sc := sc_check_digits
  refine T.d_check_digits.F.okX sc (fun vs H Q E h => ?_) (fun cdv A outer s H vs Q E hr h => ?_)
  · obtain ⟨z, b, rfl, hb, hz, qy, qn⟩ := h
    rfl
  · obtain ⟨z, b, rfl, hb, hz, qy, qn⟩ := h
    refine ⟨_, (pss_cons (ps_set (i := 2) sc.nd rfl (Or.inl rfl) (pe_op op_sub (pe_callB call_len (by rfl) T.n_len PySem.boot_len (pa_cons (pv 0) pa_nil)) (pe_callB call_len (by rfl) T.n_len PySem.boot_len (pa_cons (pe_m1 PySem.F.slot_str_lstrip PySem.F.type_str_lstrip mt_lstripChars (pv 0) pe_str) pa_nil))))
      (pss_one (ps_for (passes_of rfl) rfl (pi_range2 rfl T.n_range (pa_cons (pv 2) (pa_cons (pe_callB call_len (by rfl) T.n_len PySem.boot_len (pa_cons (pv 0) pa_nil)) pa_nil))) (pg_name (i := 3) sc.nd rfl (Or.inl rfl)) (pss_cons (ps_set (i := 4) sc.nd rfl (Or.inl rfl) (pe_ifExp (pt_cmpR op_eq (pv 1) pe_int (nomark _)) (pe_gc rfl T.g_ORDERED) (pe_gc rfl T.g_DIGITS)))
      (pss_one (ps_if (PW.pt (pw_or (pt_cmpR op_notIn_sign (pe_ix ix_str (pv 0) (pv 3) (fun _ _ => rfl)) (pv 4) (by rfl)) (pw_or1 (pt_not (pt_val (pe_call G_is_number_part (hr.mono (by decide)) rfl T.d_is_number_part.m T.d_is_number_part.F.kp T.d_is_number_part.b .nil pass0 (pa_cons (pe_slice sl_str (pv 0) (po_some (pv 2)) (po_some (pe_op op_add (pv 3) pe_int))) (pa_cons (pv 1) pa_nil)))))))) (pss_one (ps_raise rfl (takes_of rfl rfl rfl rfl) (pmk_x T.x_InvalidText (hr.mono (by decide)) rfl (pa_cons (pv 3) pa_nil)))) pss_nil)))))), ?_⟩
    obtain ⟨hz1, hz2⟩ := hz
    have zl : z.length = (tl z).length := len_tl z
    have ll : (Txt.lstripChars z "0").length = (zer (tl z)).length := by rw [len_tl, tl_lz]
    obtain ⟨zs, sp1, sp2, sp3⟩ := zer_split (tl z)
    have hr3 : ∀ k, ((zer (tl z)).take k).head? ≠ some 48 := by
      intro k e
      rcases sp3 with h | ⟨c, r, h, hc⟩
      · rw [h] at e; simp at e
      · rw [h] at e
        cases k with
        | zero => simp at e
        | succ k => rw [List.take_succ_cons] at e; exact hc (Option.some.inj e)
    have lens : (tl z).length = zs.length + (zer (tl z)).length := by rw [← List.length_append, ← sp1]
    obtain ⟨r, hr⟩ : ∃ r, zer (tl z) = r := ⟨_, rfl⟩
    rw [hr] at sp1 sp3 hr3 lens ll
    have e0 : ((tl z).length : Int) - ((Txt.lstripChars z "0").length : Int) = ((zs.length : Nat) : Int) := by rw [ll]; omega
    walk_at "rds"
    simp only [zl, e0]
    refine ⟨((zs.length : Nat) : Int), ((tl z).length : Int), rfl, ⟨by omega, by omega, by omega, by omega⟩, ?_⟩
    have en : (((tl z).length : Int) - ((zs.length : Nat) : Int)).toNat = r.length := by omega
    rw [en]
    refine for_it (D := { nx := fun _ H' => Q .non H', rt := Q }) (walk_range (lo := ((zs.length : Nat) : Int)) (n := r.length)) (fun i σ H' => Same H H' ∧ (∃ v3 v4, σ = [some (.str z), some (.int (b : Int)), some (.int ((zs.length : Nat) : Int)), v3, v4]) ∧ begun b (zs ++ r.take i) = true) ⟨Same.refl _, ⟨_, _, rfl⟩, by rw [List.take_zero, List.append_nil]; exact begun_zeros hb sp2⟩ (fun _ _ _ _ _ => trivial) ?_ ?_
    · rintro i x σ H1 H2 hi ⟨sm, ⟨v3, v4, rfl⟩, hbg⟩ ⟨rfl, rfl⟩
      have ek : ((zs.length : Nat) : Int) + (i : Int) = ((zs.length + i : Nat) : Int) := (Int.natCast_add _ _).symm
      have ek1 : ((zs.length + i : Nat) : Int) + 1 = ((zs.length + i + 1 : Nat) : Int) := rfl
      have hlt : zs.length + i < (tl z).length := by omega
      have hgr : r[i]? = some (r[i]) := List.getElem?_eq_getElem hi
      have hg : (tl z)[zs.length + i]? = some (r[i]) := by rw [sp1, List.getElem?_append_right (by omega)]; rw [show zs.length + i - zs.length = i by omega]; exact hgr
      generalize r[i] = c at hgr hg
      have hc : atI z.cps.toList ((zs.length + i : Nat) : Int) = some c := atI_nat hg
      have c8 : c < 128 := hz1 c (List.mem_of_getElem? hg)
      have etake : r.take (i + 1) = r.take i ++ [c] := take_snoc hgr
      have eall : (tl z).take (zs.length + i) = zs ++ r.take i := by rw [sp1, List.take_append, List.take_of_length_le (by omega), show zs.length + i - zs.length = i by omega]
      have eall1 : (tl z).take (zs.length + i + 1) = zs ++ (r.take i ++ [c]) := by rw [sp1, List.take_append, List.take_of_length_le (by omega), show zs.length + i + 1 - zs.length = i + 1 by omega, etake]
      have bn := begun_next hb zs (r.take i) c sp2 (by rw [← etake]; exact hr3 _) hbg
      have hcut : tl (cutS z (some ((zs.length : Nat) : Int)) (some ((zs.length + i + 1 : Nat) : Int))) = r.take i ++ [c] := by
        rw [cutS_mid z _ _ (by omega) (by omega), sp1, List.drop_append_of_le_length (Nat.le_refl _), List.drop_length, List.nil_append, show zs.length + i + 1 - zs.length = i + 1 by omega, etake]
      have hW : W4 (cutS z (some ((zs.length : Nat) : Int)) (some ((zs.length + i + 1 : Nat) : Int))) := by
        refine ⟨fun d hd => ?_, ?_⟩
        · rw [hcut, ← etake] at hd
          exact hz1 d (by rw [sp1]; exact List.mem_append_right _ (List.mem_of_mem_take hd))
        · rw [hcut, ← etake, List.length_take]
          omega
      have hsh : short (r.take i ++ [c]) = (r.take i ++ [c]).map low := by
        have := short_nz (z := []) (r := r.take i ++ [c]) (by simp) (by rw [← etake]; exact hr3 _)
        rw [List.nil_append] at this
        exact this
      have bad : begun b (zs ++ (r.take i ++ [c])) = false → begun b (tl z) = false ∧ IsFront b (tl z) (zs.length + i) := fun h => by
        have f := front_stop hb (w := tl z) (i := zs.length + i) hlt (by rw [eall]; exact hbg) (by rw [eall1]; exact h)
        refine ⟨?_, f⟩
        cases hw : begun b (tl z) with
        | false => rfl
        | true =>
          have := begun_take hb hw (zs.length + i + 1)
          rw [eall1, h] at this
          cases this
      have hdg : allow b c = true → ∀ d ∈ short (r.take i ++ [c]), d ∈ digs 16 := by
        intro ha d hd
        have key : d ∈ digs b := by
          rw [hsh, List.map_append, List.mem_append] at hd
          rcases hd with hd | hd
          · have := begun_digs hb hbg
            rw [short_nz sp2 (hr3 i)] at this
            exact this d hd
          · simp at hd
            rw [hd]
            exact of_decide_eq_true ha
        rcases hb with rfl | rfl
        · exact digs_sub d key
        · exact key
      simp only [ek]
      have hal : (if b = 16 then decide (c ∈ ("0123456789ABCDEFabcdef" : Str).cps.toList) else decide (c ∈ ("0123456789" : Str).cps.toList)) = allow b c := by
        rcases hb with rfl | rfl
        · exact allow10 c c8
        · exact allow16 c c8
      clear hr3 sp3
      have ek2 : ((zs.length : Nat) : Int) + (i : Int) + 1 = ((zs.length + i + 1 : Nat) : Int) := by omega
      have zl1 : z.length ≤ sizeLine := by rw [zl]; unfold sizeLine; omega
      rcases hb with rfl | rfl
      · rw [if_neg (by decide)] at hal
        walk_at "rds"
        · rename_i h
          rw [hal] at h
          have ha : allow 10 c = false := by simpa using h
          obtain ⟨f1, f2⟩ := bad (by rw [bn, ha]; rfl)
          intro d hd
          exact qn _ _ d f1 f2 sm hd
        · rename_i h
          rw [hal] at h
          have ha : allow 10 c = true := by simpa using h
          refine ⟨cutS z (some ((zs.length : Nat) : Int)) (some ((zs.length + i + 1 : Nat) : Int)), 10, rfl, .inl rfl, hW, by rw [hcut]; exact hdg ha, fun H3 s3 => ?_⟩
          rw [hcut, hsh]
          cases hnp : npart 10 ((r.take i ++ [c]).map low) with
          | true =>
            walk_at "rds"
            exact ⟨sm.trans s3, ⟨_, _, rfl⟩, by rw [etake, bn, ha, hnp]; rfl⟩
          | false =>
            obtain ⟨f1, f2⟩ := bad (by rw [bn, ha, hnp]; rfl)
            walk_at "rds"
            intro d hd
            exact qn _ _ d f1 f2 (sm.trans s3) hd
      · rw [if_pos rfl] at hal
        walk_at "rds"
        · rename_i h
          rw [hal] at h
          have ha : allow 16 c = false := by simpa using h
          obtain ⟨f1, f2⟩ := bad (by rw [bn, ha]; rfl)
          intro d hd
          exact qn _ _ d f1 f2 sm hd
        · rename_i h
          rw [hal] at h
          have ha : allow 16 c = true := by simpa using h
          refine ⟨cutS z (some ((zs.length : Nat) : Int)) (some ((zs.length + i + 1 : Nat) : Int)), 16, rfl, .inr rfl, hW, by rw [hcut]; exact hdg ha, fun H3 s3 => ?_⟩
          rw [hcut, hsh]
          cases hnp : npart 16 ((r.take i ++ [c]).map low) with
          | true =>
            walk_at "rds"
            exact ⟨sm.trans s3, ⟨_, _, rfl⟩, by rw [etake, bn, ha, hnp]; rfl⟩
          | false =>
            obtain ⟨f1, f2⟩ := bad (by rw [bn, ha, hnp]; rfl)
            walk_at "rds"
            intro d hd
            exact qn _ _ d f1 f2 (sm.trans s3) hd
    · rintro σ H1 ⟨sm, ⟨v3, v4, rfl⟩, hbg⟩
      rw [List.take_length, ← sp1] at hbg
      exact qy _ hbg sm

end
end K4

namespace K4
open PySem PySem.Spec PyProof.Rows L2 Mx
open TL Num
local macro_rules | `(tactic| walk_at "sz") => `(tactic| first | assumption | decide | omega | (unfold sizeLine; omega) | exact Nat.le_of_ble_eq_true rfl)
local macro_rules | `(tactic| walk_at "hp") => `(tactic| (first | assumption | exact upd_same | (rw [upd_ne (by assumption)]; assumption)))
local macro_rules | `(tactic| walk_at "rd") => `(tactic| (first
  | refine ⟨_, rfl, ?_⟩
  | (refine ⟨_, _, rfl, rfl, ?rdc, ?_⟩; (case rdc => first | (show (0 : Int) < _; omega) | (exact ⟨by omega, by omega⟩) | (exact .inl ⟨by omega, by omega⟩) | (exact .inr ⟨by omega, by omega⟩) | exact ⟨by decide, by decide, by decide⟩))
  | refine ⟨_, _, rfl, rfl, ?_⟩
  | refine .inl ⟨_, rfl, ?_⟩
  | refine ⟨rfl, ?_⟩
  | refine ⟨⟨_, rfl⟩, ?_⟩
  | refine ⟨⟨_, SqL.of (by walk_at "hp")⟩, ?_⟩
  | refine ⟨_, _, _, _, rfl, rfl, SqL.of (by walk_at "hp"), (by rfl), ?_⟩
  | refine ⟨_, _, _, _, rfl, rfl, (by walk_at "hp"), (by rfl), ?_⟩
  | refine ⟨_, _, rfl, ⟨by walk_at "sz", rfl⟩, ?_⟩
  | refine ⟨_, _, _, rfl, rfl, by walk_at "sz", by assumption, ?_⟩
  | refine And.intro (by walk_at "sz") ?_
  | refine itT rfl ?_
  | refine itF rfl ?_
  | refine itT (by assumption) ?_
  | refine itF (by assumption) ?_
  | refine itT (decide_eq_true (by omega)) ?_
  | refine itF (decide_eq_false (by omega)) ?_
  | refine itT (dVi (by omega)) ?_
  | refine itF (dViN (by omega)) ?_
  | refine itT (notT (by assumption)) ?_
  | refine itF (notF (by assumption)) ?_
  | refine itT (notT (dViN (by omega))) ?_
  | refine itF (notF (dVi (by omega))) ?_
  | refine itT (decide_eq_true rfl) ?_
  | refine itF (notF (decide_eq_true rfl)) ?_
  | refine ite2 (fun _ => ?_) (fun _ => ?_)
  | with_reducible refine tC_ ?_
  | with_reducible refine tNext_ ?_
  | with_reducible refine tNil_ ?_
  | with_reducible refine tYes_ ?_))
local macro_rules | `(tactic| walk_at "rds") => `(tactic| repeat' (walk_at "rd"))
section
variable {P : Program} {w : World} {K : PySem.W.Frag} {mg : Str → Option Value} {base : Heap}

/-- what decoded and next_digits refuse before they look at the digits -/
def Refused (K : PySem.W.Frag) (C D : Addr) (u v : L2.V) (H : Hp) (E : XK) : Prop :=
  (NoStr K H u ∧ ∀ H' d, Same H H' → H' d = none → E (.ref C) (some d) (upd H' d (.xd [("index", .non)]))) ∨
  (∃ z : Str, u = .str z ∧ NoBase K H v ∧ ∀ H' d, Same H H' → H' d = none → E (.ref D) (some d) (upd H' d (.xd [("number", v)])))
def sp_decoded (K : PySem.W.Frag) (C D : Addr) : Sp := fun vs H Q E => ∃ u v, vs = [u, v] ∧ (Refused K C D u v H E ∨ ∃ (z : Str) (b : Nat), u = .str z ∧ v = .int (b : Int) ∧ Base b ∧ W4 z ∧
  (∀ H' c, Same H H' → begun b (tl z) = true → chr b (short (tl z)) = some c → Q (.str ⟨#[c]⟩) H') ∧
  (∀ (m : Nat) H' d, IsFront b (tl z) m → (begun b (tl z) = true → chr b (short (tl z)) = none) → Same H H' → H' d = none → E (.ref C) (some d) (upd H' d (.xd [("index", .int (m : Int))]))))
def sp_next_digits (K : PySem.W.Frag) (C D : Addr) : Sp := fun vs H Q E => ∃ u v, vs = [u, v] ∧ (Refused K C D u v H E ∨ ∃ (z : Str) (b : Nat), u = .str z ∧ v = .int (b : Int) ∧ Base b ∧ W4 z ∧ (tl z).length ≤ 900 ∧
  (∀ H' (y : Str), Same H H' → begun b (tl z) = true → tl y = (ordered b).filter (fun c => begun b (tl z ++ [c])) → Q (.str y) H') ∧
  (∀ (m : Nat) H' d, begun b (tl z) = false → IsFront b (tl z) m → Same H H' → H' d = none → E (.ref C) (some d) (upd H' d (.xd [("index", .int (m : Int))]))))

theorem ok_decoded (T : Tx P w K mg base) (G_check_text : FnOk P w K mg base (L2.CX P w) 3 T.d_check_text.f T.d_check_text.fd ["text"] (sp_check_text K T.a_InvalidText)) (G_check_base : FnOk P w K mg base (L2.CX P w) 3 T.d_check_base.f T.d_check_base.fd ["base"] (sp_check_base K T.a_InvalidNumber)) (G_check_digits : FnOk P w K mg base (L2.CX P w) 4 T.d_check_digits.f T.d_check_digits.fd ["digits", "base"] (sp_check_digits T.a_InvalidText)) (G_character_of : FnOk P w K mg base CX0 3 T.d_character_of.f T.d_character_of.fd ["digits", "base"] sp_character_of) : FnOk P w K mg base (L2.CX P w) 5 T.d_decoded.f T.d_decoded.fd ["digits", "base"] (sp_decoded K T.a_InvalidText T.a_InvalidNumber) := by
  have sc := sc_decoded
  refine FunD.ok (CX := (L2.CX P w)) T.d_decoded.F sc (fun vs H Q E h => ?_) (fun cdv A outer s H vs Q E hr h => ?_)
  · obtain ⟨u, v, rfl, hq⟩ := h
    rfl
  · obtain ⟨u, v, rfl, hq⟩ := h
    refine ⟨_, (pss_cons (ps_expr (pe_call G_check_text (hr.mono (by decide)) rfl T.d_check_text.m T.d_check_text.F.kp T.d_check_text.b .nil (passes_call (takes_of rfl rfl rfl rfl) fun _ _ _ _ z => z) (pa_cons (pv 0) pa_nil)))
      (pss_cons (ps_expr (pe_call G_check_base (hr.mono (by decide)) rfl T.d_check_base.m T.d_check_base.F.kp T.d_check_base.b .nil (passes_call (takes_of rfl rfl rfl rfl) fun _ _ _ _ z => z) (pa_cons (pv 1) pa_nil)))
      (pss_cons (ps_expr (pe_call G_check_digits (hr.mono (by decide)) rfl T.d_check_digits.m T.d_check_digits.F.kp T.d_check_digits.b .nil (passes_call (takes_of rfl rfl rfl rfl) fun _ _ _ _ z => z) (pa_cons (pv 0) (pa_cons (pv 1) pa_nil))))
      (pss_cons (ps_set (i := 2) sc.nd rfl (Or.inl rfl) (pe_call G_character_of (hr.mono (by decide)) rfl T.d_character_of.m T.d_character_of.F.kp T.d_character_of.b .nil pass0 (pa_cons (pv 0) (pa_cons (pv 1) pa_nil))))
      (pss_cons (ps_if (pt_cmpR op_isN (pv 2) pe_non (nomark _)) (pss_one (ps_raise rfl (takes_of rfl rfl rfl rfl) (pmk_x T.x_InvalidText (hr.mono (by decide)) rfl (pa_cons (pe_callB call_len (by rfl) T.n_len PySem.boot_len (pa_cons (pv 0) pa_nil)) pa_nil)))) pss_nil)
      (pss_one (ps_ret (pv 2)))))))), ?_⟩
    rcases hq with (⟨hu, qx⟩ | ⟨z, rfl, hv, qx⟩) | ⟨z, b, rfl, rfl, hb, hz, qy, qn⟩
    · walk_at "rds"
      exact .inr ⟨hu, fun d hd => qx _ d (Same.refl _) hd⟩
    · walk_at "rds"
      exact .inr ⟨hv, fun H' d sm hd => qx _ d sm hd⟩
    · walk_at "rds"
      intro H1 s1
      walk_at "rds"
      refine ⟨z, b, rfl, hb, hz, fun H2 bg s2 => ?_, fun k H2 d bg fr s2 hd => qn k H2 d fr (fun h => by rw [bg] at h; cases h) (s1.trans s2) hd⟩
      walk_at "rds"
      refine ⟨z, b, rfl, hb, hz, fun c hc => ?_, ?_⟩
      · rcases hb with rfl | rfl
        · exact digs_sub c (begun_digs (.inl rfl) bg c hc)
        · exact begun_digs (.inr rfl) bg c hc
      · have zl : z.length = (tl z).length := len_tl z
        have hz2 := hz.2
        have zz : z.length ≤ sizeLine := by rw [zl]; unfold sizeLine; omega
        cases hcr : chr b (short (tl z)) with
        | some c =>
          have e : chrV b (short (tl z)) = .str ⟨#[c]⟩ := by unfold chrV; rw [hcr]
          rw [e]
          walk_at "rds"
          exact qy _ c (s1.trans s2) bg hcr
        | none =>
          have e : chrV b (short (tl z)) = .non := by unfold chrV; rw [hcr]
          rw [e]
          walk_at "rds"
          intro d hd
          have w1 := qn _ H2 d (front_end bg) (fun _ => hcr) (s1.trans s2) hd
          rw [← zl] at w1
          exact w1

theorem ok_next_digits (T : Tx P w K mg base) (G_check_text : FnOk P w K mg base (L2.CX P w) 3 T.d_check_text.f T.d_check_text.fd ["text"] (sp_check_text K T.a_InvalidText)) (G_check_base : FnOk P w K mg base (L2.CX P w) 3 T.d_check_base.f T.d_check_base.fd ["base"] (sp_check_base K T.a_InvalidNumber)) (G_check_digits : FnOk P w K mg base (L2.CX P w) 4 T.d_check_digits.f T.d_check_digits.fd ["digits", "base"] (sp_check_digits T.a_InvalidText)) (G_is_number_part : FnOk P w K mg base CX0 3 T.d_is_number_part.f T.d_is_number_part.fd ["digits", "base"] sp_is_number_part) : FnOk P w K mg base (L2.CX P w) 5 T.d_next_digits.f T.d_next_digits.fd ["digits", "base"] (sp_next_digits K T.a_InvalidText T.a_InvalidNumber) := by
  have sc := sc_next_digits
  refine FunD.ok (CX := (L2.CX P w)) T.d_next_digits.F sc (fun vs H Q E h => ?_) (fun cdv A outer s H vs Q E hr h => ?_)
  · obtain ⟨u, v, rfl, hq⟩ := h
    rfl
  · obtain ⟨u, v, rfl, hq⟩ := h
    refine ⟨_, (pss_cons (ps_expr (pe_call G_check_text (hr.mono (by decide)) rfl T.d_check_text.m T.d_check_text.F.kp T.d_check_text.b .nil (passes_call (takes_of rfl rfl rfl rfl) fun _ _ _ _ z => z) (pa_cons (pv 0) pa_nil)))
      (pss_cons (ps_expr (pe_call G_check_base (hr.mono (by decide)) rfl T.d_check_base.m T.d_check_base.F.kp T.d_check_base.b .nil (passes_call (takes_of rfl rfl rfl rfl) fun _ _ _ _ z => z) (pa_cons (pv 1) pa_nil)))
      (pss_cons (ps_expr (pe_call G_check_digits (hr.mono (by decide)) rfl T.d_check_digits.m T.d_check_digits.F.kp T.d_check_digits.b .nil (passes_call (takes_of rfl rfl rfl rfl) fun _ _ _ _ z => z) (pa_cons (pv 0) (pa_cons (pv 1) pa_nil))))
      (pss_one (ps_ret (pe_join pe_str (pe_lc (own := [("sign", 2)]) (g := gName 2) rfl sc.nd (pi_str (pe_ifExp (pt_cmpR op_eq (pv 1) pe_int (nomark _)) (pe_gc rfl T.g_ORDERED) (pe_gc rfl T.g_DIGITS))) (blkOk_by (own := [("sign", 2)]) (N := ["digits", "base", "sign"]) (sc := defScope s_next_digits) (by decide +kernel)) (fun _ _ _ _ _ => pg_name (i := 2) sc.nd rfl (Or.inl rfl)) (fun _ _ _ _ _ => (pts_one (pt_val (pe_call G_is_number_part (hr.mono (by decide)) rfl T.d_is_number_part.m T.d_is_number_part.F.kp T.d_is_number_part.b .nil pass0 (pa_cons (pe_op op_add_str (pv 0) (pv 2)) (pa_cons (pv 1) pa_nil)))))) (fun _ _ _ _ _ => pv 2)))))))), ?_⟩
    rcases hq with (⟨hu, qx⟩ | ⟨z, rfl, hv, qx⟩) | ⟨z, b, rfl, rfl, hb, hz, hz9, qy, qn⟩
    · walk_at "rds"
      exact .inr ⟨hu, fun d hd => qx _ d (Same.refl _) hd⟩
    · walk_at "rds"
      exact .inr ⟨hv, fun H' d sm hd => qx _ d sm hd⟩
    · walk_at "rds"
      intro H1 s1
      walk_at "rds"
      refine ⟨z, b, rfl, hb, hz, fun H2 bg s2 => ?_, fun k H2 d bg fr s2 hd => qn k H2 d bg fr (s1.trans s2) hd⟩
      have zl : z.length = (tl z).length := len_tl z
      have AL : ∀ (w : Str) (L : List Nat) (hw : tl w = L) (hL : L = ordered b) (D : Addr) (Qd : Hp → Prop), True := fun _ _ _ _ _ _ => trivial
      have turn : ∀ (w : Str), tl w = ordered b → (∀ c ∈ tl w, c < 128 ∧ allow b c = true) := by
        intro w hw c hc
        rw [hw] at hc
        rcases hb with rfl | rfl
        · have k : ∀ c ∈ ordered 10, c < 128 ∧ allow 10 c = true := by decide +kernel
          exact k c hc
        · have k : ∀ c ∈ ordered 16, c < 128 ∧ allow 16 c = true := by decide +kernel
          exact k c hc
      have nxt : ∀ c, c < 128 → allow b c = true → W4 (z ++ ⟨#[c]⟩) ∧ (∀ d ∈ short (tl (z ++ ⟨#[c]⟩)), d ∈ digs 16) ∧ npart b (short (tl (z ++ ⟨#[c]⟩))) = begun b (tl z ++ [c]) := by
        intro c hc ha
        have e1 : tl (z ++ ⟨#[c]⟩) = tl z ++ [c] := tl_append _ _
        have hW : W4 (z ++ ⟨#[c]⟩) := by
          refine ⟨fun d hd => ?_, ?_⟩
          · rw [e1, List.mem_append] at hd
            rcases hd with hd | hd
            · exact hz.1 d hd
            · rw [List.mem_singleton.mp hd]; exact hc
          · rw [e1, List.length_append]
            show _ + 1 ≤ 1000
            omega
        rw [e1]
        refine ⟨hW, ?_⟩
        have sub : ∀ d, d ∈ digs b → d ∈ digs 16 := by
          intro d hd
          rcases hb with rfl | rfl
          · exact digs_sub d hd
          · exact hd
        obtain ⟨zs, q1, q2, q3⟩ := zer_split (tl z)
        generalize zer (tl z) = r at *
        by_cases hh : (r ++ [c]).head? = some 48
        · have hr : r = [] ∧ c = 48 := by
            rcases q3 with rfl | ⟨d, r', rfl, hd⟩
            · exact ⟨rfl, by simpa using hh⟩
            · exact absurd (by simpa using hh) hd
          obtain ⟨rfl, rfl⟩ := hr
          rw [List.append_nil] at q1
          have al : ∀ d ∈ tl z ++ [48], d = 48 := fun d hd => by
            rcases List.mem_append.mp hd with hd | hd
            · exact q2 d (by rw [← q1]; exact hd)
            · exact List.mem_singleton.mp hd
          have sh : short (tl z ++ [48]) = [] := by
            have := short_nz (z := tl z ++ [48]) (r := []) al (by simp)
            rw [List.append_nil] at this
            exact this
          rw [sh, begun_zeros hb al]
          exact ⟨fun d hd => (by cases hd), rfl⟩
        · have e2 : tl z ++ [c] = zs ++ (r ++ [c]) := by rw [q1, List.append_assoc]
          have sh := short_nz (z := zs) (r := r ++ [c]) q2 hh
          have bg' : begun b (zs ++ r) = true := by rw [← q1]; exact bg
          have bn := begun_next hb zs r c q2 hh bg'
          rw [ha, Bool.true_and] at bn
          rw [e2, sh, bn]
          refine ⟨fun d hd => ?_, rfl⟩
          rw [List.map_append, List.mem_append] at hd
          rcases hd with hd | hd
          · have hr0 : r.head? ≠ some 48 := fun e => hh (by cases r with | nil => cases e | cons x r => exact e)
            have k := begun_digs hb bg'
            rw [short_nz q2 hr0] at k
            exact sub d (k d hd)
          · simp at hd
            rw [hd]
            exact sub _ (of_decide_eq_true ha)
      have fin : ∀ H', Same H2 H' → ∀ ys : List Str, ys = ((ordered b).filter (fun c => begun b (tl z ++ [c]))).map (fun c => (⟨#[c]⟩ : Str)) → Q (.str (Txt.join "" ys)) H' := by
        rintro H' sm ys rfl
        exact qy _ _ ((s1.trans s2).trans sm) bg (join_ones' _)
      have hlen : ((ordered b).filter (fun c => begun b (tl z ++ [c]))).length ≤ 22 := by
        refine Nat.le_trans (List.length_filter_le _ _) ?_
        rcases hb with rfl | rfl <;> decide +kernel
      have zok : z.length + 1 ≤ sizeLine := by rw [zl]; unfold sizeLine; omega
      rcases hb with rfl | rfl
      · walk_at "rds"
        intro D hD
        refine lc_flt walk_str (fun i => begun 10 (tl z ++ [(ordered 10).getD i 0])) (fun i => .str ⟨#[(ordered 10).getD i 0]⟩) hD (by decide +kernel) (fun _ _ => trivial) (fun i H1 x H2 y => y.1 ▸ Same.refl _) ?_ ?_
        · rintro i x H3 H4 Nx Mx hi sm ⟨rfl, c, hc, rfl⟩ k1 k2
          have ho : (ordered 10)[i]? = some c := by
            show (tl ("0123456789" : Str))[i]? = some c
            rw [Array.getElem?_toList]
            exact hc
          have e : (ordered 10).getD i 0 = c := by rw [List.getD_eq_getElem?_getD, ho]; rfl
          simp only [e] at k1 k2
          obtain ⟨c8, ca⟩ := turn "0123456789" rfl c (List.mem_of_getElem? ho)
          obtain ⟨w4, dg4, np⟩ := nxt c c8 ca
          have zok' : z.length + (⟨#[c]⟩ : Str).length ≤ sizeLine := zok
          refine ⟨rfl, ?_⟩
          walk_at "rds"
          refine ⟨z ++ ⟨#[c]⟩, 10, rfl, .inl rfl, w4, dg4, fun H5 s5 => ?_⟩
          rw [np]
          cases hbg : begun 10 (tl z ++ [c]) with
          | true =>
            walk_at "rds"
            exact k1 hbg _ s5
          | false =>
            walk_at "rds"
            exact k2 hbg _ s5
        · intro H3 sm3 hl3
          have en : ("0123456789" : Str).cps.size = (ordered 10).length := rfl
          rw [picked_map (y := fun i => (ordered 10).getD i 0) (g := fun c => V.str ⟨#[c]⟩), en, picked_filter (ordered 10) 0 (fun c => begun 10 (tl z ++ [c]))] at hl3
          walk_at "rds"
          refine ⟨"", D, ((ordered 10).filter (fun c => begun 10 (tl z ++ [c]))).map (fun c => (⟨#[c]⟩ : Str)), rfl, rfl, .inl (SqL.of (by rw [List.map_map]; exact hl3)), ?_, fin _ sm3 _ rfl⟩
          rw [ones_sum, List.length_map]
          show _ + _ * 0 ≤ _
          omega
      · walk_at "rds"
        intro D hD
        refine lc_flt walk_str (fun i => begun 16 (tl z ++ [(ordered 16).getD i 0])) (fun i => .str ⟨#[(ordered 16).getD i 0]⟩) hD (by decide +kernel) (fun _ _ => trivial) (fun i H1 x H2 y => y.1 ▸ Same.refl _) ?_ ?_
        · rintro i x H3 H4 Nx Mx hi sm ⟨rfl, c, hc, rfl⟩ k1 k2
          have ho : (ordered 16)[i]? = some c := by
            show (tl ("0123456789ABCDEFabcdef" : Str))[i]? = some c
            rw [Array.getElem?_toList]
            exact hc
          have e : (ordered 16).getD i 0 = c := by rw [List.getD_eq_getElem?_getD, ho]; rfl
          simp only [e] at k1 k2
          obtain ⟨c8, ca⟩ := turn "0123456789ABCDEFabcdef" rfl c (List.mem_of_getElem? ho)
          obtain ⟨w4, dg4, np⟩ := nxt c c8 ca
          have zok' : z.length + (⟨#[c]⟩ : Str).length ≤ sizeLine := zok
          refine ⟨rfl, ?_⟩
          walk_at "rds"
          refine ⟨z ++ ⟨#[c]⟩, 16, rfl, .inr rfl, w4, dg4, fun H5 s5 => ?_⟩
          rw [np]
          cases hbg : begun 16 (tl z ++ [c]) with
          | true =>
            walk_at "rds"
            exact k1 hbg _ s5
          | false =>
            walk_at "rds"
            exact k2 hbg _ s5
        · intro H3 sm3 hl3
          have en : ("0123456789ABCDEFabcdef" : Str).cps.size = (ordered 16).length := rfl
          rw [picked_map (y := fun i => (ordered 16).getD i 0) (g := fun c => V.str ⟨#[c]⟩), en, picked_filter (ordered 16) 0 (fun c => begun 16 (tl z ++ [c]))] at hl3
          walk_at "rds"
          refine ⟨"", D, ((ordered 16).filter (fun c => begun 16 (tl z ++ [c]))).map (fun c => (⟨#[c]⟩ : Str)), rfl, rfl, .inl (SqL.of (by rw [List.map_map]; exact hl3)), ?_, fin _ sm3 _ rfl⟩
          rw [ones_sum, List.length_map]
          show _ + _ * 0 ≤ _
          omega

end
end K4

namespace K4
open PySem PySem.Spec PyProof.Rows L2 Mx
/-! ### the law's own reading of numerals -/
open TL Num
def sp__law_digits : Sp := fun vs H Q _ => ∃ n b : Nat, vs = [.int (n : Int), .int (b : Int)] ∧ Base b ∧ n < 131 ∧ ∀ y : Str, tl y = dg b n → Q (.str y) H

local macro_rules | `(tactic| walk_at "sz") => `(tactic| first | assumption | decide | omega | (unfold sizeLine; omega) | exact Nat.le_of_ble_eq_true rfl)
local macro_rules | `(tactic| walk_at "hp") => `(tactic| (first | assumption | exact upd_same | (rw [upd_ne (by assumption)]; assumption)))
local macro_rules | `(tactic| walk_at "rd") => `(tactic| (first
  | refine ⟨_, rfl, ?_⟩
  | (refine ⟨_, _, rfl, rfl, ?rdc, ?_⟩; (case rdc => first | (show (0 : Int) < _; omega) | (exact ⟨by omega, by omega⟩) | (exact .inl ⟨by omega, by omega⟩) | (exact .inr ⟨by omega, by omega⟩) | exact ⟨by decide, by decide, by decide⟩))
  | refine ⟨_, _, rfl, rfl, ?_⟩
  | refine .inl ⟨_, rfl, ?_⟩
  | refine ⟨rfl, ?_⟩
  | refine ⟨⟨_, rfl⟩, ?_⟩
  | refine ⟨⟨_, SqL.of (by walk_at "hp")⟩, ?_⟩
  | refine ⟨_, _, _, _, rfl, rfl, SqL.of (by walk_at "hp"), (by rfl), ?_⟩
  | refine ⟨_, _, _, _, rfl, rfl, (by walk_at "hp"), (by rfl), ?_⟩
  | refine ⟨_, _, rfl, ⟨by walk_at "sz", rfl⟩, ?_⟩
  | refine ⟨_, _, _, rfl, rfl, by walk_at "sz", by assumption, ?_⟩
  | refine And.intro (by walk_at "sz") ?_
  | refine itT rfl ?_
  | refine itF rfl ?_
  | refine itT (by assumption) ?_
  | refine itF (by assumption) ?_
  | refine itT (decide_eq_true (by omega)) ?_
  | refine itF (decide_eq_false (by omega)) ?_
  | refine itT (dVi (by omega)) ?_
  | refine itF (dViN (by omega)) ?_
  | refine itT (notT (by assumption)) ?_
  | refine itF (notF (by assumption)) ?_
  | refine itT (notT (dViN (by omega))) ?_
  | refine itF (notF (dVi (by omega))) ?_
  | refine itT (decide_eq_true rfl) ?_
  | refine itF (notF (decide_eq_true rfl)) ?_
  | refine ite2 (fun _ => ?_) (fun _ => ?_)
  | with_reducible refine tC_ ?_
  | with_reducible refine tNext_ ?_
  | with_reducible refine tNil_ ?_
  | with_reducible refine tYes_ ?_))
local macro_rules | `(tactic| walk_at "rds") => `(tactic| repeat' (walk_at "rd"))
section
variable {P : Program} {w : World} {K : PySem.W.Frag} {mg : Str → Option Value} {base : Heap}

theorem ok__law_digits (T : Tx P w K mg base) : FnOk P w K mg base CX0 1 T.d__law_digits.f T.d__law_digits.fd ["code", "radix"] sp__law_digits := by
  have sc := sc__law_digits
  refine T.d__law_digits.F.ok sc (fun vs H Q E h => ?_) (fun cdv A outer s H vs Q E hr h => ?_)
  · obtain ⟨n, b, rfl, hb, hn, q⟩ := h
    rfl
  · obtain ⟨n, b, rfl, hb, hn, q⟩ := h
    refine ⟨_, (pss_cons (ps_set (i := 2) sc.nd rfl (Or.inl rfl) (pe_ix ix_str pe_str (pe_op op_mod (pe_callTy call_int1 (by rfl) T.n_int (by decide +kernel) (pa_cons (pv 0) pa_nil)) (pv 1)) (fun _ _ => rfl)))
      (pss_cons (ps_while PassesOwn.never (pt_cmpR op_ge (pv 0) (pv 1) (nomark _)) (pss_cons (ps_set (i := 0) sc.nd rfl (Or.inl rfl) (pe_op op_fdiv (pv 0) (pv 1)))
      (pss_one (ps_set (i := 2) sc.nd rfl (Or.inl rfl) (pe_op op_add_str (pe_ix ix_str pe_str (pe_op op_mod (pe_callTy call_int1 (by rfl) T.n_int (by decide +kernel) (pa_cons (pv 0) pa_nil)) (pv 1)) (fun _ _ => rfl)) (pv 2))))))
      (pss_one (ps_ret (pv 2))))), ?_⟩
    have hb0 : 10 ≤ b ∧ b ≤ 16 := by rcases hb with rfl | rfl <;> decide
    have em : ∀ k : Nat, ((k : Int) % (b : Int)) = ((k % b : Nat) : Int) := fun k => (Int.natCast_emod _ _).symm
    have ed : ∀ k : Nat, ((k : Int) / (b : Int)) = ((k / b : Nat) : Int) := fun k => (Int.natCast_ediv _ _).symm
    have ha : ∀ k : Nat, atI ("0123456789abcdef" : Str).cps.toList ((k : Int) % (b : Int)) = some (hexc (k % b)) := fun k => by
      rw [em]
      exact hex_at _ (Nat.lt_of_lt_of_le (Nat.mod_lt _ (by omega)) hb0.2)
    have hb1 := ha n
    have one : ∀ c : Nat, (⟨#[c]⟩ : Str).length = 1 := fun _ => rfl
    walk_at "rds"
    refine ⟨fun m σ H' => ∃ (k : Nat) (y : Str), m = k ∧ H' = H ∧ σ = [some (.int (k : Int)), some (.int (b : Int)), some (.str y)] ∧ k < 131 ∧ dg b n = pre_ b k ++ tl y ∧ (tl y).length + k ≤ 131, ⟨_, n, ⟨#[hexc (n % b)]⟩, rfl, rfl, rfl, hn, dg_eq hb hn, by show 1 + n ≤ 131; omega⟩, ?_⟩
    rintro m σ H' ⟨k, y, rfl, rfl, rfl, hk, hd, hy⟩
    have yl : y.length = (tl y).length := len_tl y
    by_cases hlt : b ≤ m
    · have hdv : m / b < m := Nat.div_lt_self (by omega) (by omega)
      have hb2 : atI ("0123456789abcdef" : Str).cps.toList (((m : Int) / (b : Int)) % (b : Int)) = some (hexc (m / b % b)) := by rw [ed]; exact ha (m / b)
      have zok : (⟨#[hexc (m / b % b)]⟩ : Str).length + y.length ≤ sizeLine := by rw [one, yl]; unfold sizeLine; omega
      walk_at "rds"
      refine ⟨fun σ' H2 => H2 = H' ∧ σ' = [some (.int ((m / b : Nat) : Int)), some (.int (b : Int)), some (.str (⟨#[hexc (m / b % b)]⟩ ++ y))], ?_, ?_⟩
      · rintro σ' H2 ⟨rfl, rfl⟩
        refine ⟨m / b, hdv, m / b, _, rfl, rfl, rfl, by omega, ?_, ?_⟩
        · rw [tl_append, hd]
          unfold pre_
          rw [if_pos hlt]
          rw [dg_eq hb (by omega : m / b < 131), List.append_assoc]
          rfl
        · rw [tl_append, List.length_append]
          show 1 + _ + _ ≤ 131
          omega
      · walk_at "rds"
        show [some (V.int ((m : Int) / (b : Int))), _, _] = _
        rw [ed]
    · walk_at "rds"
      refine q y ?_
      rw [hd]
      unfold pre_
      rw [if_neg hlt]
      rfl

def sp__law_short : Sp := fun vs H Q _ => ∃ z : Str, vs = [.str z] ∧ Asc z ∧ (tl z).length ≤ 1000 ∧ ∀ y : Str, tl y = short (tl z) → Q (.str y) H
theorem zer_drop : ∀ (l : List Nat) (i : Nat), (∀ c ∈ l.take i, c = 48) → (l[i]? ≠ some 48) → zer l = l.drop i
  | [], i, _, _ => by rw [List.drop_nil]; rfl
  | c :: r, 0, _, h => by rw [List.drop_zero]; exact zer_nz r (fun e => h (by rw [e]; rfl))
  | c :: r, i + 1, h1, h2 => by
    have : c = 48 := h1 c (by rw [List.take_succ_cons]; exact List.mem_cons_self)
    subst this
    have e : zer (48 :: r) = zer r := by unfold zer; rw [List.dropWhile_cons, if_pos (by decide)]
    rw [e, List.drop_succ_cons]
    exact zer_drop r i (fun c hc => h1 c (by rw [List.take_succ_cons]; exact List.mem_cons_of_mem _ hc)) (by simpa using h2)

theorem ok__law_short (T : Tx P w K mg base) : FnOk P w K mg base CX0 1 T.d__law_short.f T.d__law_short.fd ["word"] sp__law_short := by
  have sc := sc__law_short
  refine T.d__law_short.F.ok sc (fun vs H Q E h => ?_) (fun cdv A outer s H vs Q E hr h => ?_)
  · obtain ⟨z, rfl, hz, hl, q⟩ := h
    rfl
  · obtain ⟨z, rfl, hz, hl, q⟩ := h
    refine ⟨_, (pss_cons (ps_set (i := 1) sc.nd rfl (Or.inl rfl) pe_int)
      (pss_cons (ps_while PassesOwn.never (pt_cmpR op_eq (pe_slice sl_str (pv 0) (po_some (pv 1)) (po_some (pe_op op_add (pv 1) pe_int))) pe_str (nomark _)) (pss_one (ps_set (i := 1) sc.nd rfl (Or.inl rfl) (pe_op op_add (pv 1) pe_int))))
      (pss_one (ps_ret (pe_lower (pe_slice sl_str (pv 0) (po_some (pv 1)) po_none)))))), ?_⟩
    have zl : z.length = (tl z).length := len_tl z
    have zok : z.length ≤ sizeLine := by rw [zl]; unfold sizeLine; omega
    refine ⟨fun m σ H' => ∃ i : Nat, m = (tl z).length - i ∧ H' = H ∧ σ = [some (.str z), some (.int (i : Int))] ∧ i ≤ (tl z).length ∧ ∀ c ∈ (tl z).take i, c = 48, ⟨_, 0, rfl, rfl, rfl, Nat.zero_le _, fun c hc => by simp at hc⟩, ?_⟩
    rintro m σ H' ⟨i, rfl, rfl, rfl, hi, h48⟩
    have ei : (i : Int) + 1 = ((i + 1 : Nat) : Int) := rfl
    have hcut := cutS_over z i (i + 1) hi
    rw [show i + 1 - i = 1 by omega] at hcut
    by_cases hg : (tl z)[i]? = some 48
    · have hlt := (List.getElem?_eq_some_iff.mp hg).1
      have hd : (tl z).drop i = 48 :: (tl z).drop (i + 1) := by
        obtain ⟨h1, h2⟩ := List.getElem?_eq_some_iff.mp hg
        rw [List.drop_eq_getElem_cons h1, h2]
      have hc : decide (V.str (cutS z (some (i : Int)) (some ((i : Int) + 1))) = V.str "0") = true := by
        rw [zero_eq, ei, hcut, hd]
        rfl
      walk_at "rds"
      refine ⟨fun σ' H2 => H2 = H' ∧ σ' = [some (.str z), some (.int ((i + 1 : Nat) : Int))], ?_, ?_⟩
      · rintro σ' H2 ⟨rfl, rfl⟩
        refine ⟨_, by omega, i + 1, rfl, rfl, rfl, hlt, fun c hc => ?_⟩
        rw [take_snoc hg, List.mem_append] at hc
        rcases hc with hc | hc
        · exact h48 c hc
        · exact List.mem_singleton.mp hc
      · walk_at "rds"
        rfl
    · have hc : decide (V.str (cutS z (some (i : Int)) (some ((i : Int) + 1))) = V.str "0") = false := by
        rw [zero_eq, ei, hcut]
        refine decide_eq_false fun e => hg ?_
        have := congrArg (fun l => l[0]?) e
        simpa using this
      have tl_ := cutS_tail z i hi
      have lc : (cutS z (some (i : Int)) none).length ≤ 1000 := by
        rw [len_tl, tl_, List.length_drop]
        omega
      have asc : Asc (cutS z (some (i : Int)) none) := fun c hc => by
        rw [tl_] at hc
        exact hz c (List.mem_of_mem_drop hc)
      walk_at "rds"
      refine q _ ?_
      rw [tl_low asc, tl_, ← zer_drop _ i h48 hg, zer_low]
      rfl

end
end K4

namespace K4
open PySem PySem.Spec PyProof.Rows L2 Mx
/-! ### the law's table -/
open TL Num
theorem tl_signs : tl signs = codes := by decide +kernel
theorem codes_lt : ∀ c ∈ codes, c < 131 := by decide +kernel
def sp__law_table : Sp := fun vs H Q _ => ∃ b : Nat, vs = [.int (b : Int)] ∧ Base b ∧ ∀ p H', H p = none → Same H H' → H' p = some (.dK (kvOf (tab b))) → Q (.ref p) H'

local macro_rules | `(tactic| walk_at "sz") => `(tactic| first | assumption | decide | omega | (unfold sizeLine; omega) | exact Nat.le_of_ble_eq_true rfl)
local macro_rules | `(tactic| walk_at "hp") => `(tactic| (first | assumption | exact upd_same | (rw [upd_ne (by assumption)]; assumption)))
local macro_rules | `(tactic| walk_at "rd") => `(tactic| (first
  | refine ⟨_, rfl, ?_⟩
  | (refine ⟨_, _, rfl, rfl, ?rdc, ?_⟩; (case rdc => first | (show (0 : Int) < _; omega) | (exact ⟨by omega, by omega⟩) | (exact .inl ⟨by omega, by omega⟩) | (exact .inr ⟨by omega, by omega⟩) | exact ⟨by decide, by decide, by decide⟩))
  | refine ⟨_, _, rfl, rfl, ?_⟩
  | refine .inl ⟨_, rfl, ?_⟩
  | refine ⟨rfl, ?_⟩
  | refine ⟨⟨_, rfl⟩, ?_⟩
  | refine ⟨⟨_, SqL.of (by walk_at "hp")⟩, ?_⟩
  | refine ⟨_, _, _, _, rfl, rfl, SqL.of (by walk_at "hp"), (by rfl), ?_⟩
  | refine ⟨_, _, _, _, rfl, rfl, (by walk_at "hp"), (by rfl), ?_⟩
  | refine ⟨_, _, rfl, ⟨by walk_at "sz", rfl⟩, ?_⟩
  | refine ⟨_, _, _, rfl, rfl, by walk_at "sz", by assumption, ?_⟩
  | refine And.intro (by walk_at "sz") ?_
  | refine itT rfl ?_
  | refine itF rfl ?_
  | refine itT (by assumption) ?_
  | refine itF (by assumption) ?_
  | refine itT (decide_eq_true (by omega)) ?_
  | refine itF (decide_eq_false (by omega)) ?_
  | refine itT (dVi (by omega)) ?_
  | refine itF (dViN (by omega)) ?_
  | refine itT (notT (by assumption)) ?_
  | refine itF (notF (by assumption)) ?_
  | refine itT (notT (dViN (by omega))) ?_
  | refine itF (notF (dVi (by omega))) ?_
  | refine itT (decide_eq_true rfl) ?_
  | refine itF (notF (decide_eq_true rfl)) ?_
  | refine ite2 (fun _ => ?_) (fun _ => ?_)
  | with_reducible refine tC_ ?_
  | with_reducible refine tNext_ ?_
  | with_reducible refine tNil_ ?_
  | with_reducible refine tYes_ ?_))
local macro_rules | `(tactic| walk_at "rds") => `(tactic| repeat' (walk_at "rd"))
section
variable {P : Program} {w : World} {K : PySem.W.Frag} {mg : Str → Option Value} {base : Heap}

theorem ok__law_table (T : Tx P w K mg base) (G__law_signs : FnOk P w K mg base CX0 1 T.d__law_signs.f T.d__law_signs.fd [] sp__law_signs) (G__law_digits : FnOk P w K mg base CX0 1 T.d__law_digits.f T.d__law_digits.fd ["code", "radix"] sp__law_digits) : FnOk P w K mg base CX0 3 T.d__law_table.f T.d__law_table.fd ["radix"] sp__law_table := by
  have sc := sc__law_table
  refine T.d__law_table.F.ok sc (fun vs H Q E h => ?_) (fun cdv A outer s H vs Q E hr h => ?_)
  · obtain ⟨b, rfl, hb, q⟩ := h
    rfl
  · obtain ⟨b, rfl, hb, q⟩ := h
    refine ⟨_, (pss_cons (ps_set (i := 1) sc.nd rfl (Or.inl rfl) pe_dnewK)
      (pss_cons (ps_for PassesOwn.never rfl (pi_str (pe_call0 G__law_signs (hr.mono (by decide)) rfl T.d__law_signs.m T.d__law_signs.F.kp T.d__law_signs.b .nil pass0)) (pg_name (i := 2) sc.nd rfl (Or.inl rfl)) (pss_cons (ps_set (i := 3) sc.nd rfl (Or.inl rfl) (pe_call G__law_digits (hr.mono (by decide)) rfl T.d__law_digits.m T.d__law_digits.F.kp T.d__law_digits.b .nil pass0 (pa_cons (pe_callB call_ord (by rfl) T.n_ord (by decide +kernel) (pa_cons (pv 2) pa_nil)) (pa_cons (pv 0) pa_nil))))
      (pss_cons (ps_for PassesOwn.never rfl (pi_range1 rfl T.n_range (pa_cons (pe_callB call_len (by rfl) T.n_len PySem.boot_len (pa_cons (pv 3) pa_nil)) pa_nil)) (pg_name (i := 4) sc.nd rfl (Or.inl rfl)) (pss_one (ps_expr (pe_dset2 (pv 1) (pe_slice sl_str (pv 3) po_none (po_some (pv 4))) pe_str ⟨by rfl, by rfl, by rfl, by rfl⟩))))
      (pss_one (ps_asg (pv 2) (pg_sub (pv 1) (pv 3) (set_dict (hu_of hr))))))))
      (pss_one (ps_ret (pv 1))))), ?_⟩
    walk_at "rds"
    intro p hp
    walk_at "rds"
    have ss : signs.cps.size = 96 := by decide +kernel
    refine for_it walk_str (fun i σ H' => (∃ v2 v3 v4, σ = [some (.int (b : Int)), some (.ref p), v2, v3, v4]) ∧ Kp p H H' ∧ H' p = some (.dK (kvOf ((codes.take i).foldl (add b) []))) ∧ ((codes.take i).foldl (add b) []).length ≤ 10 * i) ⟨⟨_, _, _, rfl⟩, (Kp.refl _ _).upd, upd_same, Nat.le_refl _⟩ (fun _ _ _ _ _ => trivial) ?_ ?_
    · rintro i x σ H1 H2 hi ⟨⟨v2, v3, v4, rfl⟩, kp, hd, hlen⟩ ⟨rfl, c, hc, rfl⟩
      have hi97 : i < 97 := by omega
      have hg : codes[i]? = some c := by rw [← tl_signs, Array.getElem?_toList]; exact hc
      have c131 := codes_lt c (List.mem_of_getElem? hg)
      have etk : codes.take (i + 1) = codes.take i ++ [c] := take_snoc hg
      generalize ht0 : (codes.take i).foldl (add b) [] = t0 at hd hlen
      walk_at "rds"
      refine ⟨c, b, rfl, hb, c131, fun y hy => ?_⟩
      have yl : y.length = (dg b c).length := by rw [len_tl, hy]
      have y4 := dg_len hb c131
      rw [← yl] at y4
      walk_at "rds"
      refine for_range (fun k σ H' => (∃ v4, σ = [some (.int (b : Int)), some (.ref p), some (.str ⟨#[c]⟩), some (.str y), v4]) ∧ Kp p H H' ∧ H' p = some (.dK (kvOf ((List.range k).foldl (fun t k => setd t ((dg b c).take k) []) t0))) ∧ ((List.range k).foldl (fun t k => setd t ((dg b c).take k) []) t0).length ≤ 10 * i + k) ⟨⟨_, rfl⟩, kp, hd, hlen⟩ ?_ ?_
      · rintro k σ H3 hk ⟨⟨v5, rfl⟩, kp3, hd3, hl3⟩
        have hk2 : k ≤ (tl y).length := by rw [hy]; omega
        have cl := cutS_take y k hk2
        rw [hy] at cl
        rw [List.range_succ, List.foldl_append]
        simp only [List.foldl_cons, List.foldl_nil]
        generalize (List.range k).foldl (fun t k => setd t ((dg b c).take k) []) t0 = t1 at *
        simp only [Int.zero_add]
        have yok : y.length ≤ sizeLine := by unfold sizeLine; omega
        walk_at "rds"
        refine ⟨.inl ⟨_, .inl hd3⟩, ?_⟩
        walk_at "rds"
        have el : V.str (cutS y none (some (k : Int))) = kV (key ((dg b c).take k)) := by rw [Num.key_of, cl]
        have kl : (kvOf t1).length = t1.length := by unfold kvOf; rw [List.length_map]
        refine ⟨p, _, key ((dg b c).take k), .str "", rfl, by rw [el], hd3, by rw [kl]; unfold sizeLine; omega, fun u hu => ?_, fun hn => ?_⟩
        · exact ⟨⟨_, rfl⟩, kp3, by rw [setd_yes hu]; exact hd3, by rw [setd_yes hu]; omega⟩
        · exact ⟨⟨_, rfl⟩, kp3.upd, by rw [upd_same, setd_no hn], Nat.le_trans (setd_len _ _ _) (by omega)⟩
      · rintro σ H3 ⟨⟨v5, rfl⟩, kp3, hd3, hl3⟩
        walk_at "rds"
        have ey : V.str y = kV (key (dg b c)) := by rw [Num.key_of, hy]
        have ek : ((y.length : Nat) : Int).toNat = (dg b c).length := by rw [yl]; rfl
        rw [ek] at hd3 hl3
        generalize ht1 : (List.range (dg b c).length).foldl (fun t k => setd t ((dg b c).take k) []) t0 = t1 at *
        have kl : (kvOf t1).length = t1.length := by unfold kvOf; rw [List.length_map]
        refine ⟨p, _, rfl, .inl ⟨_, key (dg b c), hd3, ey, by rw [kl]; unfold sizeLine; omega, rfl⟩, ?_⟩
        have ea : (codes.take (i + 1)).foldl (add b) [] = put t1 (dg b c) [c] := by
          rw [etk, List.foldl_append, ht0, ← ht1]
          rfl
        refine ⟨⟨_, _, _, rfl⟩, kp3.upd, ?_, ?_⟩
        · rw [upd_same, ea, ← kv_put]
        · rw [ea]
          exact Nat.le_trans (put_len _ _ _) (by omega)
    · rintro σ H1 ⟨⟨v2, v3, v4, rfl⟩, kp, hd, hlen⟩
      walk_at "rds"
      refine q p H1 hp (kp.same hp) ?_
      rw [hd, ss]
      rfl

def sp__law_is_begun : Sp := fun vs H Q _ => ∃ (z : Str) (a : Addr) (b : Nat), vs = [.str z, .ref a] ∧ Base b ∧ Asc z ∧ (tl z).length ≤ 1000 ∧ Rd H a (.dK (kvOf (tab b))) ∧ Q (.bl (begun b (tl z))) H
theorem begun_get {b : Nat} (w : List Nat) : (valV (kvOf (tab b)) (key (short w))).isSome = begun b w := by
  rw [kv_val]
  unfold begun
  cases h : has (tab b) (short w) with
  | true =>
    obtain ⟨p, hp, e⟩ := has_ex h
    unfold Num.get
    cases f : (tab b).find? fun p => decide (p.1 = short w) with
    | none => exact absurd (decide_eq_true e) (List.find?_eq_none.mp f p hp)
    | some p => rfl
  | false => rw [get_no h]; rfl

theorem ok__law_is_begun (T : Tx P w K mg base) (G__law_short : FnOk P w K mg base CX0 1 T.d__law_short.f T.d__law_short.fd ["word"] sp__law_short) : FnOk P w K mg base CX0 2 T.d__law_is_begun.f T.d__law_is_begun.fd ["word", "table"] sp__law_is_begun := by
  have sc := sc__law_is_begun
  refine T.d__law_is_begun.F.ok sc (fun vs H Q E h => ?_) (fun cdv A outer s H vs Q E hr h => ?_)
  · obtain ⟨z, a, b, rfl, hb, hz, hl, hd, q⟩ := h
    rfl
  · obtain ⟨z, a, b, rfl, hb, hz, hl, hd, q⟩ := h
    refine ⟨_, (pss_one (ps_ret (pe_cmp (pc_din (hu_of hr) (pe_call G__law_short (hr.mono (by decide)) rfl T.d__law_short.m T.d__law_short.F.kp T.d__law_short.b .nil pass0 (pa_cons (pv 0) pa_nil)) (pv 1))))), ?_⟩
    walk_at "rds"
    intro y hy
    walk_at "rds"
    refine ⟨a, _, rfl, .inl ⟨_, key (tl y), hd, Num.key_of y, rfl⟩, ?_⟩
    rw [hy, begun_get]
    exact q

def sp__law_front : Sp := fun vs H Q _ => ∃ (z : Str) (a : Addr) (b : Nat), vs = [.str z, .ref a] ∧ Base b ∧ Asc z ∧ (tl z).length ≤ 900 ∧ H a = some (.dK (kvOf (tab b))) ∧ ∀ (m : Nat) H', Same H H' → IsFront b (tl z) m → Q (.int (m : Int)) H'

theorem ok__law_front (T : Tx P w K mg base) (G__law_is_begun : FnOk P w K mg base CX0 2 T.d__law_is_begun.f T.d__law_is_begun.fd ["word", "table"] sp__law_is_begun) : FnOk P w K mg base CX0 3 T.d__law_front.f T.d__law_front.fd ["word", "table"] sp__law_front := by
  have sc := sc__law_front
  refine T.d__law_front.F.ok sc (fun vs H Q E h => ?_) (fun cdv A outer s H vs Q E hr h => ?_)
  · obtain ⟨z, a, b, rfl, hb, hz, hl, hd, q⟩ := h
    rfl
  · obtain ⟨z, a, b, rfl, hb, hz, hl, hd, q⟩ := h
    refine ⟨_, (pss_one (ps_ret (pe_callB (cr_max rfl) (by rfl) T.n_max (by decide +kernel) (pa_cons (pe_lc (own := [("k", 2)]) (g := gName 2) rfl sc.nd (pi_range1 rfl T.n_range (pa_cons (pe_op op_add (pe_callB call_len (by rfl) T.n_len PySem.boot_len (pa_cons (pv 0) pa_nil)) pe_int) pa_nil)) (blkOk_by (own := [("k", 2)]) (N := ["word", "table", "k"]) (sc := defScope s__law_front) (by decide +kernel)) (fun _ _ _ _ _ => pg_name (i := 2) sc.nd rfl (Or.inl rfl)) (fun _ _ _ _ _ => (pts_one (pt_val (pe_call G__law_is_begun (hr.mono (by decide)) rfl T.d__law_is_begun.m T.d__law_is_begun.F.kp T.d__law_is_begun.b .nil pass0 (pa_cons (pe_slice sl_str (pv 0) po_none (po_some (pv 2))) (pa_cons (pv 1) pa_nil)))))) (fun _ _ _ _ _ => pv 2)) pa_nil)))), ?_⟩
    have zl : z.length = (tl z).length := len_tl z
    walk_at "rds"
    intro D hD
    have hDa : D ≠ a := fun e => by rw [e, hd] at hD; cases hD
    refine lc_flt walk_range (fun i => begun b ((tl z).take i)) (fun i => .int (i : Int)) hD (by omega) (fun _ _ => trivial) (fun i H1 x H2 y => y.1 ▸ Same.refl _) ?_ ?_
    · rintro i x H1 H2 Nx Mx hi sm ⟨rfl, rfl⟩ k1 k2
      have hi2 : i ≤ (tl z).length := by omega
      have cl := cutS_take z i hi2
      simp only [Int.zero_add]
      have zok : z.length ≤ sizeLine := by rw [zl]; unfold sizeLine; omega
      walk_at "rds"
      refine ⟨cutS z none (some (i : Int)), a, b, rfl, hb, fun c hc => hz c (by rw [cl] at hc; exact List.mem_of_mem_take hc), by rw [cl, List.length_take]; omega, .inl (sm _ _ hd), ?_⟩
      rw [cl]
      cases hbg : begun b ((tl z).take i) with
      | true =>
        walk_at "rds"
        exact k1 hbg _ (Same.refl _)
      | false =>
        walk_at "rds"
        exact k2 hbg _ (Same.refl _)
    · intro H1 sm hl1
      rw [picked_map (y := fun i : Nat => (i : Int)) (g := V.int)] at hl1
      walk_at "rds"
      refine ⟨D, _, rfl, SqL.of hl1, List.length_pos_of_mem (picked_in (i := 0) (by omega) (begun_zeros hb (z := []) (by simp))), fun m hm hmax => ?_⟩
      obtain ⟨i, hi, hbg, rfl⟩ := picked_mem hm
      refine q i H1 sm ⟨by omega, hbg, fun j hj hbj => ?_⟩
      have := hmax ((j : Nat) : Int) (picked_in (y := fun i : Nat => (i : Int)) (by omega) hbj)
      omega

end
end K4

namespace K4
open PySem PySem.Spec PyProof.Rows L2 Mx
/-! ### the law's word on what a call does -/
/-- which answer of _law_told an exception of the class at C gets -/
def Path (K : PySem.W.Frag) (C i t n k : Addr) (f tag : Str) : Prop :=
  (f = "position" ∧ tag = "ill" ∧ PySem.W.kitOne K (.ref C) (.ref i) = some true) ∨
  (f = "index" ∧ tag = "text" ∧ PySem.W.kitOne K (.ref C) (.ref i) = some false ∧ PySem.W.kitOne K (.ref C) (.ref t) = some true) ∨
  (f = "number" ∧ tag = "number" ∧ PySem.W.kitOne K (.ref C) (.ref i) = some false ∧ PySem.W.kitOne K (.ref C) (.ref t) = some false ∧ PySem.W.kitOne K (.ref C) (.ref n) = some true) ∨
  (f = "kind" ∧ tag = "kind" ∧ PySem.W.kitOne K (.ref C) (.ref i) = some false ∧ PySem.W.kitOne K (.ref C) (.ref t) = some false ∧ PySem.W.kitOne K (.ref C) (.ref n) = some false ∧ PySem.W.kitOne K (.ref C) (.ref k) = some true)
def ToldE (K : PySem.W.Frag) (cs : List Value) (i t n k : Addr) (Q : VK) : XK := fun cls d H' => ∃ (C dd : Addr) (fs : List (Str × V)) (f tag : Str) (v : V), cls = .ref C ∧ d = some dd ∧ H' dd = some (.xd fs) ∧ XcC K C ∧ PySem.W.exmAny K (.ref C) cs = some true ∧
  PySem.W.findIn K (.ref C) f = some none ∧ fs.lookup f = some v ∧ Path K C i t n k f tag ∧
  ∀ a p, H' a = none → upd H' a (xoO a (.ref C) (some dd)) p = none → Q (.ref p) (upd (upd H' a (xoO a (.ref C) (some dd))) p (.tup [.str tag, v]))
def TTold (K : PySem.W.Frag) (cs : List Value) (i t n k : Addr) : (XK → Hp → VK → Prop) → Hp → VK → Prop := fun tl H Q =>
  ∀ p0, H p0 = none → tl (ToldE K cs i t n k Q) (upd H p0 (.lst [])) (fun v H1 => ∀ p, H1 p = none → Q (.ref p) (upd H1 p (.lst [v])))

local macro_rules | `(tactic| walk_at "sz") => `(tactic| first | assumption | decide | omega | (unfold sizeLine; omega) | exact Nat.le_of_ble_eq_true rfl)
local macro_rules | `(tactic| walk_at "hp") => `(tactic| (first | assumption | exact upd_same | (rw [upd_ne (by assumption)]; assumption)))
local macro_rules | `(tactic| walk_at "rd") => `(tactic| (first
  | refine ⟨_, rfl, ?_⟩
  | (refine ⟨_, _, rfl, rfl, ?rdc, ?_⟩; (case rdc => first | (show (0 : Int) < _; omega) | (exact ⟨by omega, by omega⟩) | (exact .inl ⟨by omega, by omega⟩) | (exact .inr ⟨by omega, by omega⟩) | exact ⟨by decide, by decide, by decide⟩))
  | refine ⟨_, _, rfl, rfl, ?_⟩
  | refine .inl ⟨_, rfl, ?_⟩
  | refine ⟨rfl, ?_⟩
  | refine ⟨⟨_, rfl⟩, ?_⟩
  | refine ⟨⟨_, SqL.of (by walk_at "hp")⟩, ?_⟩
  | refine ⟨_, _, _, _, rfl, rfl, SqL.of (by walk_at "hp"), (by rfl), ?_⟩
  | refine ⟨_, _, _, _, rfl, rfl, (by walk_at "hp"), (by rfl), ?_⟩
  | refine ⟨_, _, rfl, ⟨by walk_at "sz", rfl⟩, ?_⟩
  | refine ⟨_, _, _, rfl, rfl, by walk_at "sz", by assumption, ?_⟩
  | refine And.intro (by walk_at "sz") ?_
  | refine itT rfl ?_
  | refine itF rfl ?_
  | refine itT (by assumption) ?_
  | refine itF (by assumption) ?_
  | refine itT (decide_eq_true (by omega)) ?_
  | refine itF (decide_eq_false (by omega)) ?_
  | refine itT (dVi (by omega)) ?_
  | refine itF (dViN (by omega)) ?_
  | refine itT (notT (by assumption)) ?_
  | refine itF (notF (by assumption)) ?_
  | refine itT (notT (dViN (by omega))) ?_
  | refine itF (notF (dVi (by omega))) ?_
  | refine itT (decide_eq_true rfl) ?_
  | refine itF (notF (decide_eq_true rfl)) ?_
  | refine ite2 (fun _ => ?_) (fun _ => ?_)
  | with_reducible refine tC_ ?_
  | with_reducible refine tNext_ ?_
  | with_reducible refine tNil_ ?_
  | with_reducible refine tYes_ ?_))
local macro_rules | `(tactic| walk_at "rds") => `(tactic| repeat' (walk_at "rd"))

theorem told_gives {X : Cx} (T : Tx X.prog X.w X.K X.mg X.base) (q : Str) (g : Addr) (cdg : Value) :
    LamX.GivesTo X ["call", "caught", "found", "error"] "_law_told" (defScope s__law_told) g cdg (defBody s__law_told) "call" q
      (TTold X.K [.ref T.a_MarkupError, .ref T.a_MarkupStateError, .ref T.a_LimitError] T.a_IllFormed T.a_InvalidText T.a_InvalidNumber T.a_InvalidKind) := by
  intro f c' s H Q tl act hc h
  have sc := sc__law_told
  refine ⟨_, pss_cons (ps_par (i := 1) (j := 2) (by rfl) sc.nd rfl rfl (by decide) rfl rfl (pa_cons pe_non (pa_cons (pe_lst pa_nil) pa_nil)) (by rfl))
      (pss_cons (ps_try_t3 (X := (cxOf C8.CX0 X.prog X.w X.K X.mg X.base ["call", "caught", "found", "error"] "_law_told" (defScope s__law_told) g cdg X.A X.stack s H C8.E0).nox) (i := 3) (Wout := fun _ _ _ _ => False)
        (tb := fun W D σ H => ∃ (Ech : XK) (Q0 : VK), (∀ cls d σ' H', Ech cls d H' → σ'.length = 4 → W cls d σ' H') ∧ σ[0]? = some (some (.ref f)) ∧ H c' = some (LamX.CodeO c' q) ∧ tl Ech H Q0 ∧ ∀ v H1, Q0 v H1 → ∀ p, H1 p = none → D.nx (σ.set 2 (some (.ref p))) (upd H1 p (.lst [v])))
        rfl rfl rfl sc.nd rfl rfl ⟨rfl, T.m_MarkupError, by decide⟩ ⟨rfl, T.m_MarkupStateError, by decide⟩ ⟨rfl, T.m_LimitError, by decide⟩ LamX.takes0 (fun W pn xe tk _ => ?_)
        (fun a oe cls d pn hz hd => pss_one (ps_set (i := 1) sc.nd rfl (Or.inl rfl) (pv 3))))
      (pss_cons (ps_if (pt_cmpR op_isN (pv 1) pe_non (nomark _)) (pss_one (ps_ret (pv 2))) pss_nil)
      (pss_cons (ps_if (pt_val (pe_callB call_isiX (by rfl) T.n_isinstance (by decide +kernel) (pa_cons (pv 1) (pa_cons (pe_glob (v := .ref T.a_IllFormed) rfl T.m_IllFormed rfl) pa_nil)))) (pss_one (ps_ret (pe_tup (pa_cons pe_str (pa_cons (pe_xo (pv 1)) pa_nil))))) pss_nil)
      (pss_cons (ps_if (pt_val (pe_callB call_isiX (by rfl) T.n_isinstance (by decide +kernel) (pa_cons (pv 1) (pa_cons (pe_glob (v := .ref T.a_InvalidText) rfl T.x_InvalidText.mgC rfl) pa_nil)))) (pss_one (ps_ret (pe_tup (pa_cons pe_str (pa_cons (pe_xo (pv 1)) pa_nil))))) pss_nil)
      (pss_cons (ps_if (pt_val (pe_callB call_isiX (by rfl) T.n_isinstance (by decide +kernel) (pa_cons (pv 1) (pa_cons (pe_glob (v := .ref T.a_InvalidNumber) rfl T.x_InvalidNumber.mgC rfl) pa_nil)))) (pss_one (ps_ret (pe_tup (pa_cons pe_str (pa_cons (pe_xo (pv 1)) pa_nil))))) pss_nil)
      (pss_one (ps_ret (pe_ifExp (pt_val (pe_callB call_isiX (by rfl) T.n_isinstance (by decide +kernel) (pa_cons (pv 1) (pa_cons (pe_glob (v := .ref T.a_InvalidKind) rfl T.m_InvalidKind rfl) pa_nil)))) (pe_tup (pa_cons pe_str (pa_cons (pe_xo (pv 1)) pa_nil))) (pe_tup (pa_cons pe_str pa_nil)))))))))), ?_⟩
  · refine ⟨fun pins s' σ H' D I hh => ?_⟩
    obtain ⟨Ech, Q0, hW, h1, h2, h3, h4⟩ := hh
    have tk2 := takes_len tk
    refine PSs.run (t := tAsg (tLst (tCons (eMono fun σZ HZ Q => σZ[0]? = some (some (V.ref f)) ∧ HZ c' = some (LamX.CodeO c' q) ∧ tl Ech HZ Q) tNil)) (gName 2)) ?hb pins s' σ H' D I ?_
    case hb => exact pss_one (ps_set (i := 2) sc.nd rfl (Or.inl rfl) (pe_lst (pa_cons (pe_mono (act (fun cls d σ H => σ.length = 4 → W cls d σ H) pn xe Ech _ _ tk2 (fun cls d σ' H' e hl => hW cls d σ' H' e hl))) pa_nil)))
    exact ⟨Q0, ⟨h1, h2, h3⟩, fun v H1 q0 => ⟨by show 1 ≤ sizeLine; decide, fun p hp => h4 v H1 q0 p hp⟩⟩
  · walk_at "rds"
    intro p0 hp0
    walk_at "rds"
    refine ⟨_, _, rfl, ?_⟩
    refine ⟨ToldE X.K [.ref T.a_MarkupError, .ref T.a_MarkupStateError, .ref T.a_LimitError] T.a_IllFormed T.a_InvalidText T.a_InvalidNumber T.a_InvalidKind Q, fun v H1 => ∀ p, H1 p = none → Q (.ref p) (upd H1 p (.lst [v])), ?_, rfl, ?_, h p0 hp0, ?_⟩
    · rintro cls d σ' H' ⟨C, dd, fs, fi, tag, v, rfl, rfl, hd, xc, ex, fn, lk, path, k⟩ hl
      refine ⟨true, ex, fun _ a ha => ?_, fun z => by cases z⟩
      match σ', hl with
      | [x0, x1, x2, x3], _ =>
        have xa : XoAt (upd H' a (xoO a (.ref C) (some dd))) a C fs := ⟨dd, upd_same, by rw [upd_ne (ne_of_none hd ha)]; exact hd⟩
        walk_at "rds"
        rcases path with ⟨rfl, rfl, k1⟩ | ⟨rfl, rfl, k1, k2⟩ | ⟨rfl, rfl, k1, k2, k3⟩ | ⟨rfl, rfl, k1, k2, k3, k4⟩
        · refine ⟨a, C, fs, _, _, _, rfl, .own _, xa, xc, k1, ?_⟩
          walk_at "rds"
          refine ⟨a, C, fs, v, rfl, xa, xc, fn, lk, ?_⟩
          walk_at "rds"
          intro p hp
          exact k a p ha hp
        · refine ⟨a, C, fs, _, _, _, rfl, .own _, xa, xc, k1, ?_⟩
          walk_at "rds"
          refine ⟨a, C, fs, _, _, _, rfl, .own _, xa, xc, k2, ?_⟩
          walk_at "rds"
          refine ⟨a, C, fs, v, rfl, xa, xc, fn, lk, ?_⟩
          walk_at "rds"
          intro p hp
          exact k a p ha hp
        · refine ⟨a, C, fs, _, _, _, rfl, .own _, xa, xc, k1, ?_⟩
          walk_at "rds"
          refine ⟨a, C, fs, _, _, _, rfl, .own _, xa, xc, k2, ?_⟩
          walk_at "rds"
          refine ⟨a, C, fs, _, _, _, rfl, .own _, xa, xc, k3, ?_⟩
          walk_at "rds"
          refine ⟨a, C, fs, v, rfl, xa, xc, fn, lk, ?_⟩
          walk_at "rds"
          intro p hp
          exact k a p ha hp
        · refine ⟨a, C, fs, _, _, _, rfl, .own _, xa, xc, k1, ?_⟩
          walk_at "rds"
          refine ⟨a, C, fs, _, _, _, rfl, .own _, xa, xc, k2, ?_⟩
          walk_at "rds"
          refine ⟨a, C, fs, _, _, _, rfl, .own _, xa, xc, k3, ?_⟩
          walk_at "rds"
          refine ⟨a, C, fs, _, _, _, rfl, .own _, xa, xc, k4, ?_⟩
          walk_at "rds"
          refine ⟨a, C, fs, v, rfl, xa, xc, fn, lk, ?_⟩
          walk_at "rds"
          intro p hp
          exact k a p ha hp
    · rw [upd_ne (ne_of_none hc hp0)]
      exact hc
    · intro v H1 q0 p hp
      walk_at "rds"
      exact q0 p hp
/-- an InvalidText that _law_told catches -/
theorem told_text {P : Program} {w : World} {K : PySem.W.Frag} {mg : Str → Option Value} {base : Heap} (T : Tx P w K mg base) {Q : VK} {H : Hp} {d : Addr} {v : V} (hd : H d = some (.xd [("index", v)]))
    (k : ∀ ax px, H ax = none → upd H ax (xoO ax (.ref T.a_InvalidText) (some d)) px = none → Q (.ref px) (upd (upd H ax (xoO ax (.ref T.a_InvalidText) (some d))) px (.tup [.str "text", v]))) :
    ToldE K [.ref T.a_MarkupError, .ref T.a_MarkupStateError, .ref T.a_LimitError] T.a_IllFormed T.a_InvalidText T.a_InvalidNumber T.a_InvalidKind Q (.ref T.a_InvalidText) (some d) H :=
  ⟨T.a_InvalidText, d, [("index", v)], "index", "text", v, rfl, rfl, hd, T.xc_InvalidText, T.ex_InvalidText, T.fn_InvalidText, rfl, .inr (.inl ⟨rfl, rfl, T.k1_InvalidText, T.k2_InvalidText⟩), k⟩
theorem told_number {P : Program} {w : World} {K : PySem.W.Frag} {mg : Str → Option Value} {base : Heap} (T : Tx P w K mg base) {Q : VK} {H : Hp} {d : Addr} {v : V} (hd : H d = some (.xd [("number", v)]))
    (k : ∀ ax px, H ax = none → upd H ax (xoO ax (.ref T.a_InvalidNumber) (some d)) px = none → Q (.ref px) (upd (upd H ax (xoO ax (.ref T.a_InvalidNumber) (some d))) px (.tup [.str "number", v]))) :
    ToldE K [.ref T.a_MarkupError, .ref T.a_MarkupStateError, .ref T.a_LimitError] T.a_IllFormed T.a_InvalidText T.a_InvalidNumber T.a_InvalidKind Q (.ref T.a_InvalidNumber) (some d) H :=
  ⟨T.a_InvalidNumber, d, [("number", v)], "number", "number", v, rfl, rfl, hd, T.xc_InvalidNumber, T.ex_InvalidNumber, T.fn_InvalidNumber, rfl, .inr (.inr (.inl ⟨rfl, rfl, T.k1_InvalidNumber, T.k2_InvalidNumber, T.k3_InvalidNumber⟩)), k⟩
theorem lam_in {Tb : List (Addr × Str)} {TTd : (XK → Hp → VK → Prop) → Hp → VK → Prop} {t : XK → TE} {σ : L2.St} {H : Hp} {Q : VK} (tb : LamX.Tabs Tb H) (h : ∀ H1, Go Tb H H1 → TTd (fun E H' Q' => t E σ H' Q') H1 Q) : LamX.tLam Tb TTd t σ H Q :=
  ⟨tb, fun H1 e t => h H1 ⟨e, fun _ => t⟩⟩

end K4

namespace K4
open PySem PySem.Spec PyProof.Rows L2 Mx
/-! ### the law's words -/
open TL Num
def sp__law_word : Sp := fun vs H Q _ => ∃ (a : Addr) (c : Int) (b : Nat), vs = [.ref a, .int (b : Int)] ∧ Base b ∧ StAt a c H ∧ c ≤ 1000000 ∧
  ∀ (z : Str) (H' : Hp), (tl z).length ≤ 10 → Asc z → Kp a H H' → StAt a (c + 100) H' → Q (.str z) H'
def wordsV (b : Nat) : List V := [.str "0123456789", .str "1234567", .str (if b = 16 then "aAbBcCdDeEfF9" else "01234"), .str "x;-", .str signs]
theorem wordsV_at {b i : Nat} {x : V} (hb : Base b) (h : (wordsV b)[i]? = some x) : ∃ z : Str, x = .str z ∧ 0 < z.cps.size ∧ z.cps.size < 1000000 ∧ ∀ c ∈ z.cps.toList, c < 128 := by
  have hm := List.mem_of_getElem? h
  unfold wordsV at hm
  simp only [List.mem_cons, List.not_mem_nil, or_false] at hm
  rcases hb with rfl | rfl <;> rcases hm with rfl | rfl | rfl | rfl | rfl <;> exact ⟨_, rfl, by decide +kernel, by decide +kernel, by decide +kernel⟩

local macro_rules | `(tactic| walk_at "sz") => `(tactic| first | assumption | decide | omega | (unfold sizeLine; omega) | exact Nat.le_of_ble_eq_true rfl)
local macro_rules | `(tactic| walk_at "hp") => `(tactic| (first | assumption | exact upd_same | (rw [upd_ne (by assumption)]; assumption)))
local macro_rules | `(tactic| walk_at "rd") => `(tactic| (first
  | refine ⟨_, rfl, ?_⟩
  | (refine ⟨_, _, rfl, rfl, ?rdc, ?_⟩; (case rdc => first | (show (0 : Int) < _; omega) | (exact ⟨by omega, by omega⟩) | (exact .inl ⟨by omega, by omega⟩) | (exact .inr ⟨by omega, by omega⟩) | exact ⟨by decide, by decide, by decide⟩))
  | refine ⟨_, _, rfl, rfl, ?_⟩
  | refine .inl ⟨_, rfl, ?_⟩
  | refine ⟨rfl, ?_⟩
  | refine ⟨⟨_, rfl⟩, ?_⟩
  | refine ⟨⟨_, SqL.of (by walk_at "hp")⟩, ?_⟩
  | refine ⟨_, _, _, _, rfl, rfl, SqL.of (by walk_at "hp"), (by rfl), ?_⟩
  | refine ⟨_, _, _, _, rfl, rfl, (by walk_at "hp"), (by rfl), ?_⟩
  | refine ⟨_, _, rfl, ⟨by walk_at "sz", rfl⟩, ?_⟩
  | refine ⟨_, _, _, rfl, rfl, by walk_at "sz", by assumption, ?_⟩
  | refine And.intro (by walk_at "sz") ?_
  | refine itT rfl ?_
  | refine itF rfl ?_
  | refine itT (by assumption) ?_
  | refine itF (by assumption) ?_
  | refine itT (decide_eq_true (by omega)) ?_
  | refine itF (decide_eq_false (by omega)) ?_
  | refine itT (dVi (by omega)) ?_
  | refine itF (dViN (by omega)) ?_
  | refine itT (notT (by assumption)) ?_
  | refine itF (notF (by assumption)) ?_
  | refine itT (notT (dViN (by omega))) ?_
  | refine itF (notF (dVi (by omega))) ?_
  | refine itT (decide_eq_true rfl) ?_
  | refine itF (notF (decide_eq_true rfl)) ?_
  | refine ite2 (fun _ => ?_) (fun _ => ?_)
  | with_reducible refine tC_ ?_
  | with_reducible refine tNext_ ?_
  | with_reducible refine tNil_ ?_
  | with_reducible refine tYes_ ?_))
local macro_rules | `(tactic| walk_at "rds") => `(tactic| repeat' (walk_at "rd"))
section
variable {P : Program} {w : World} {K : PySem.W.Frag} {mg : Str → Option Value} {base : Heap}

theorem ok__law_word (T : Tx P w K mg base) (G__law_draw : FnOk P w K mg base CX0 2 T.d__law_draw.f T.d__law_draw.fd ["stream", "top"] sp__law_draw) (G__law_signs : FnOk P w K mg base CX0 1 T.d__law_signs.f T.d__law_signs.fd [] sp__law_signs) (G__law_pick : FnOk P w K mg base CX0 3 T.d__law_pick.f T.d__law_pick.fd ["stream", "some"] sp__law_pick) : FnOk P w K mg base CX0 4 T.d__law_word.f T.d__law_word.fd ["stream", "radix"] sp__law_word := by
  have sc := sc__law_word
  refine T.d__law_word.F.ok sc (fun vs H Q E h => ?_) (fun cdv A outer s H vs Q E hr h => ?_)
  · obtain ⟨a, c, b, rfl, hb, hs, hc, q⟩ := h
    rfl
  · obtain ⟨a, c, b, rfl, hb, hs, hc, q⟩ := h
    refine ⟨_, (pss_cons (ps_set (i := 2) sc.nd rfl (Or.inl rfl) (pe_op op_strMul pe_str (pe_call G__law_draw (hr.mono (by decide)) rfl T.d__law_draw.m T.d__law_draw.F.kp T.d__law_draw.b .nil pass0 (pa_cons (pv 0) (pa_cons pe_int pa_nil)))))
      (pss_cons (ps_for PassesOwn.never rfl (pi_range1 rfl T.n_range (pa_cons (pe_call G__law_draw (hr.mono (by decide)) rfl T.d__law_draw.m T.d__law_draw.F.kp T.d__law_draw.b .nil pass0 (pa_cons (pv 0) (pa_cons pe_int pa_nil))) pa_nil)) (pg_name (i := 3) sc.nd rfl (Or.inl rfl)) (pss_cons (ps_set (i := 4) sc.nd rfl (Or.inl rfl) (pe_lst (pa_cons pe_str (pa_cons pe_str (pa_cons (pe_ifExp (pt_cmpR op_eq (pv 1) pe_int (nomark _)) pe_str pe_str) (pa_cons pe_str (pa_cons (pe_call0 G__law_signs (hr.mono (by decide)) rfl T.d__law_signs.m T.d__law_signs.F.kp T.d__law_signs.b .nil pass0) pa_nil)))))))
      (pss_one (ps_set (i := 2) sc.nd rfl (Or.inl rfl) (pe_op op_add_str (pv 2) (pe_call G__law_pick (hr.mono (by decide)) rfl T.d__law_pick.m T.d__law_pick.F.kp T.d__law_pick.b .nil pass0 (pa_cons (pv 0) (pa_cons (pe_ix ix_list (pv 4) (pe_call G__law_draw (hr.mono (by decide)) rfl T.d__law_draw.m T.d__law_draw.F.kp T.d__law_draw.b .nil pass0 (pa_cons (pv 0) (pa_cons (pe_ifExp (pt_cmpR op_eq (pe_call G__law_draw (hr.mono (by decide)) rfl T.d__law_draw.m T.d__law_draw.F.kp T.d__law_draw.b .nil pass0 (pa_cons (pv 0) (pa_cons pe_int pa_nil))) pe_int (nomark _)) pe_int pe_int) pa_nil))) (fun _ _ => rfl)) pa_nil))))))))
      (pss_one (ps_ret (pv 2))))), ?_⟩
    walk_at "rds"
    refine ⟨a, c, _, rfl, hs, by omega, by decide, by decide, fun r H1 r0 r1 k1 s1 => ?_⟩
    refine ⟨48, r, rfl, rfl, ⟨r0, by omega⟩, fun z0 hz0 => ?_⟩
    walk_at "rds"
    refine ⟨a, _, _, rfl, s1, by omega, by decide, by decide, fun r2 H2 r20 r21 k2 s2 => ?_⟩
    walk_at "rds"
    have hz0l : (tl z0).length ≤ 2 := by rw [hz0, List.length_replicate]; omega
    have hz08 : Asc z0 := fun d hd => by
      rw [hz0] at hd
      rw [List.eq_of_mem_replicate hd]
      decide
    refine for_range (fun i σ H3 => i ≤ 6 ∧ ∃ (z : Str) (v3 v4 : Option V), σ = [some (.ref a), some (.int (b : Int)), some (.str z), v3, v4] ∧ (tl z).length ≤ 2 + i ∧ Asc z ∧ Kp a H H3 ∧ StAt a (c + 2 + 4 * (i : Int)) H3) ⟨by decide, _, _, _, rfl, hz0l, hz08, k1.trans k2, s2.mono (by omega)⟩ ?_ ?_
    · rintro i σ H3 hi ⟨h6, z, v3, v4, rfl, hz, hz8, kp, st⟩
      rcases hb with rfl | rfl
      · walk_at "rds"
        intro p hp
        walk_at "rds"
        have hpa : p ≠ a := by
          obtain ⟨_, _, _, e, _⟩ := st
          exact fun e2 => by rw [e2, e] at hp; cases hp
        have st2 := st.same (Same.new (o := .lst (wordsV 10)) (Same.refl _) hp)
        refine ⟨a, _, _, rfl, st2, by omega, by decide, by decide, fun r3 H4 r30 r31 k4 s4 => ?_⟩
        walk_at "rds"
        · refine ⟨a, _, _, rfl, s4, by omega, by decide, by decide, fun r4 H5 r40 r41 k5 s5 => ?_⟩
          obtain ⟨j, x, hj, e, _⟩ := at_int (xs := wordsV 10) r40 (by show r4 < 5; exact r41)
          refine ⟨_, _, _, _, rfl, rfl, SqL.of (k5 _ _ hpa (k4 _ _ hpa upd_same)), e, ?_⟩
          walk_at "rds"
          obtain ⟨y, rfl, y0, y1, y8⟩ := wordsV_at (.inl rfl) hj
          refine ⟨a, _, _, rfl, s5, by omega, .inr ⟨y, rfl, y0, y1, fun cp H6 hcp k6 s6 => ?_⟩⟩
          refine ⟨_, _, rfl, rfl, ?_, ?_⟩
          · show z.cps.size + 1 ≤ sizeLine
            have : z.cps.size = (tl z).length := len_tl z
            unfold sizeLine
            omega
          · refine ⟨by omega, _, _, _, rfl, ?_, ?_, ?_, s6.mono (by omega)⟩
            · rw [tl_append, List.length_append]
              show _ + 1 ≤ _
              omega
            · intro d hd
              rw [tl_append, List.mem_append] at hd
              rcases hd with hd | hd
              · exact hz8 d hd
              · rw [List.mem_singleton.mp hd]
                exact y8 _ hcp
            · exact (((kp.new hp).trans k4).trans k5).trans k6
        · refine ⟨a, _, _, rfl, s4, by omega, by decide, by decide, fun r4 H5 r40 r41 k5 s5 => ?_⟩
          obtain ⟨j, x, hj, e, _⟩ := at_int (xs := wordsV 10) r40 (by show r4 < 5; omega)
          refine ⟨_, _, _, _, rfl, rfl, SqL.of (k5 _ _ hpa (k4 _ _ hpa upd_same)), e, ?_⟩
          walk_at "rds"
          obtain ⟨y, rfl, y0, y1, y8⟩ := wordsV_at (.inl rfl) hj
          refine ⟨a, _, _, rfl, s5, by omega, .inr ⟨y, rfl, y0, y1, fun cp H6 hcp k6 s6 => ?_⟩⟩
          refine ⟨_, _, rfl, rfl, ?_, ?_⟩
          · show z.cps.size + 1 ≤ sizeLine
            have : z.cps.size = (tl z).length := len_tl z
            unfold sizeLine
            omega
          · refine ⟨by omega, _, _, _, rfl, ?_, ?_, ?_, s6.mono (by omega)⟩
            · rw [tl_append, List.length_append]
              show _ + 1 ≤ _
              omega
            · intro d hd
              rw [tl_append, List.mem_append] at hd
              rcases hd with hd | hd
              · exact hz8 d hd
              · rw [List.mem_singleton.mp hd]
                exact y8 _ hcp
            · exact (((kp.new hp).trans k4).trans k5).trans k6
      · walk_at "rds"
        intro p hp
        walk_at "rds"
        have hpa : p ≠ a := by
          obtain ⟨_, _, _, e, _⟩ := st
          exact fun e2 => by rw [e2, e] at hp; cases hp
        have st2 := st.same (Same.new (o := .lst (wordsV 16)) (Same.refl _) hp)
        refine ⟨a, _, _, rfl, st2, by omega, by decide, by decide, fun r3 H4 r30 r31 k4 s4 => ?_⟩
        walk_at "rds"
        · refine ⟨a, _, _, rfl, s4, by omega, by decide, by decide, fun r4 H5 r40 r41 k5 s5 => ?_⟩
          obtain ⟨j, x, hj, e, _⟩ := at_int (xs := wordsV 16) r40 (by show r4 < 5; exact r41)
          refine ⟨_, _, _, _, rfl, rfl, SqL.of (k5 _ _ hpa (k4 _ _ hpa upd_same)), e, ?_⟩
          walk_at "rds"
          obtain ⟨y, rfl, y0, y1, y8⟩ := wordsV_at (.inr rfl) hj
          refine ⟨a, _, _, rfl, s5, by omega, .inr ⟨y, rfl, y0, y1, fun cp H6 hcp k6 s6 => ?_⟩⟩
          refine ⟨_, _, rfl, rfl, ?_, ?_⟩
          · show z.cps.size + 1 ≤ sizeLine
            have : z.cps.size = (tl z).length := len_tl z
            unfold sizeLine
            omega
          · refine ⟨by omega, _, _, _, rfl, ?_, ?_, ?_, s6.mono (by omega)⟩
            · rw [tl_append, List.length_append]
              show _ + 1 ≤ _
              omega
            · intro d hd
              rw [tl_append, List.mem_append] at hd
              rcases hd with hd | hd
              · exact hz8 d hd
              · rw [List.mem_singleton.mp hd]
                exact y8 _ hcp
            · exact (((kp.new hp).trans k4).trans k5).trans k6
        · refine ⟨a, _, _, rfl, s4, by omega, by decide, by decide, fun r4 H5 r40 r41 k5 s5 => ?_⟩
          obtain ⟨j, x, hj, e, _⟩ := at_int (xs := wordsV 16) r40 (by show r4 < 5; omega)
          refine ⟨_, _, _, _, rfl, rfl, SqL.of (k5 _ _ hpa (k4 _ _ hpa upd_same)), e, ?_⟩
          walk_at "rds"
          obtain ⟨y, rfl, y0, y1, y8⟩ := wordsV_at (.inr rfl) hj
          refine ⟨a, _, _, rfl, s5, by omega, .inr ⟨y, rfl, y0, y1, fun cp H6 hcp k6 s6 => ?_⟩⟩
          refine ⟨_, _, rfl, rfl, ?_, ?_⟩
          · show z.cps.size + 1 ≤ sizeLine
            have : z.cps.size = (tl z).length := len_tl z
            unfold sizeLine
            omega
          · refine ⟨by omega, _, _, _, rfl, ?_, ?_, ?_, s6.mono (by omega)⟩
            · rw [tl_append, List.length_append]
              show _ + 1 ≤ _
              omega
            · intro d hd
              rw [tl_append, List.mem_append] at hd
              rcases hd with hd | hd
              · exact hz8 d hd
              · rw [List.mem_singleton.mp hd]
                exact y8 _ hcp
            · exact (((kp.new hp).trans k4).trans k5).trans k6
    · rintro σ H3 ⟨h6, z, v3, v4, rfl, hz, hz8, kp, st⟩
      walk_at "rds"
      exact q z H3 (by omega) hz8 kp (st.mono (by omega))

end
end K4

namespace K4
open PySem PySem.Spec PyProof.Rows L2 Mx
/-! ### the law's look at one word -/
open TL Num
def sp__law_right (K : PySem.W.Frag) (Tb : List (Addr × Str)) : Sp := fun vs H Q _ => ∃ (z : Str) (a : Addr) (b : Nat), vs = [.str z, .int (b : Int), .ref a] ∧ Base b ∧ Asc z ∧ (tl z).length ≤ 600 ∧ H a = some (.dK (kvOf (tab b))) ∧ LamX.Tabs Tb H ∧
  ∀ H', Go Tb H H' → Q (.bl true) H'

local macro_rules | `(tactic| walk_at "lk") => `(tactic| first
  | with_reducible assumption
  | with_reducible exact upd_same
  | (walk_at "lk1"; walk_at "lk")
  | fail "lk")
local macro_rules | `(tactic| walk_at "lk1") => `(tactic| first
  | ((with_reducible refine' lk_new ?a1 ?a2); (case a1 => with_reducible assumption); (case' a2 => skip))
  | ((with_reducible refine' lk_ne ?a1 ?a2); (case a1 => with_reducible assumption); (case' a2 => skip))
  | ((with_reducible refine' lk_neN ?a1 ?a2 ?a3); (case a1 => with_reducible assumption); (case a2 => walk_at "lk"); (case' a3 => skip))
  | ((with_reducible refine' lk_neN' ?a1 ?a2 ?a3); (case a1 => with_reducible assumption); (case a2 => walk_at "lk"); (case' a3 => skip))
  | ((with_reducible refine' lk_same ?a1 ?a2); (case a1 => with_reducible assumption); (case' a2 => skip))
  | ((with_reducible refine' lk_go ?a1 ?a2 ?a3); (case a1 => with_reducible assumption); (case a2 => walk_at "nt"); (case' a3 => skip))
  | ((with_reducible refine' lk_kp_nl ?a1 ?a2 ?a3 ?a4); (case a1 => with_reducible assumption); (case a2 => walk_at "st"); (case a3 => walk_at "nl"); (case' a4 => skip))
  | ((with_reducible refine' lk_kp ?a1 ?a2 ?a3); (case a1 => with_reducible assumption); (case a2 => walk_at "ne"); (case' a3 => skip))
  | fail "lk1")
local macro_rules | `(tactic| walk_at "nt") => `(tactic| first
  | (intro _ z; cases z)
  | fail "nt")
local macro_rules | `(tactic| walk_at "nl") => `(tactic| first
  | (intro _ z; cases z)
  | fail "nl")
local macro_rules | `(tactic| walk_at "ne") => `(tactic| first
  | with_reducible assumption
  | ((with_reducible refine' ne_st ?a1 ?a2); (case a1 => with_reducible assumption); (case a2 => walk_at "st"))
  | fail "ne")
local macro_rules | `(tactic| walk_at "st") => `(tactic| first
  | with_reducible assumption
  | with_reducible exact st_new (by with_reducible assumption) (by walk_at "st")
  | with_reducible exact st_same (by with_reducible assumption) (by walk_at "st")
  | with_reducible exact st_go (by with_reducible assumption) (by walk_at "st")
  | with_reducible exact st_ne (by walk_at "ns") (by walk_at "st")
  | fail "st")
local macro_rules | `(tactic| walk_at "ns") => `(tactic| first
  | with_reducible assumption
  | with_reducible exact Ne.symm (by with_reducible assumption)
  | with_reducible exact Ne.symm (ne_st (by with_reducible assumption) (by walk_at "st"))
  | fail "ns")
local macro_rules | `(tactic| walk_at "fr") => `(tactic| first
  | with_reducible assumption
  | with_reducible exact Same.refl _
  | with_reducible exact Go.refl _ _
  | with_reducible exact Kp.refl _ _
  | with_reducible exact LamX.ExtN.refl _
  | with_reducible exact nw_refl
  | (walk_at "fr1"; walk_at "fr")
  | fail "fr")
local macro_rules | `(tactic| walk_at "fr1") => `(tactic| first
  | ((with_reducible refine' fr_new ?a1 ?a2); (case a1 => with_reducible assumption); (case' a2 => skip))
  | ((with_reducible refine' go_new ?a1 ?a2); (case a1 => with_reducible assumption); (case' a2 => skip))
  | ((with_reducible refine' kp_new ?a1 ?a2); (case a1 => with_reducible assumption); (case' a2 => skip))
  | ((with_reducible refine' fr_same ?a1 ?a2); (case a1 => with_reducible assumption); (case' a2 => skip))
  | ((with_reducible refine' go_same ?a1 ?a2); (case a1 => with_reducible assumption); (case' a2 => skip))
  | ((with_reducible refine' kp_same ?a1 ?a2); (case a1 => with_reducible assumption); (case' a2 => skip))
  | ((with_reducible refine' go_go ?a1 ?a2); (case a1 => with_reducible assumption); (case' a2 => skip))
  | ((with_reducible refine' go_kp ?a1 ?a2 ?a3 ?a4); (case a1 => with_reducible assumption); (case a2 => with_reducible assumption); (case a3 => walk_at "st"); (case' a4 => skip))
  | ((with_reducible refine' kp_kp ?a1 ?a2); (case a1 => with_reducible assumption); (case' a2 => skip))
  | ((with_reducible refine' kp_upd ?a1); (case' a1 => skip))
  | ((with_reducible refine' go_set2 ?a1 ?a2 ?a3 ?a4); (case a1 => walk_at "lk"); (case a2 => with_reducible assumption); (case a3 => walk_at "fr"); (case' a4 => skip))
  | ((with_reducible refine' fr_set2 ?a1 ?a2 ?a3); (case a1 => with_reducible assumption); (case a2 => walk_at "fr"); (case' a3 => skip))
  | ((with_reducible refine' en_new ?a1 ?a2); (case a1 => with_reducible assumption); (case' a2 => skip))
  | ((with_reducible refine' en_same ?a1 ?a2); (case a1 => with_reducible assumption); (case' a2 => skip))
  | ((with_reducible refine' en_go ?a1 ?a2); (case a1 => with_reducible assumption); (case' a2 => skip))
  | ((with_reducible refine' en_set2 ?a1 ?a2 ?a3); (case a1 => with_reducible assumption); (case a2 => walk_at "fr"); (case' a3 => skip))
  | ((with_reducible refine' en_kp ?a1 ?a2 ?a3 ?a4); (case a1 => with_reducible assumption); (case a2 => with_reducible assumption); (case a3 => walk_at "fr"); (case' a4 => skip))
  | ((with_reducible refine' nw_new ?a1 ?a2); (case a1 => with_reducible assumption); (case' a2 => skip))
  | ((with_reducible refine' nw_same ?a1 ?a2); (case a1 => with_reducible assumption); (case' a2 => skip))
  | ((with_reducible refine' nw_go ?a1 ?a2); (case a1 => with_reducible assumption); (case' a2 => skip))
  | ((with_reducible refine' nw_kp ?a1 ?a2 ?a3); (case a1 => with_reducible assumption); (case a2 => walk_at "st"); (case' a3 => skip))
  | ((with_reducible refine' nw_set ?a1 ?a2); (case a1 => walk_at "lk"); (case' a2 => skip))
  | ((with_reducible refine' nw_set2 ?a1 ?a2 ?a3); (case a1 => with_reducible assumption); (case a2 => walk_at "fr"); (case' a3 => skip))
  | fail "fr1")
local macro_rules | `(tactic| walk_at "tb") => `(tactic| first
  | with_reducible assumption
  | (walk_at "tb1"; walk_at "tb")
  | fail "tb")
local macro_rules | `(tactic| walk_at "tb1") => `(tactic| first
  | ((with_reducible refine' tabs_new ?a1 ?a2); (case a1 => with_reducible assumption); (case' a2 => skip))
  | ((with_reducible refine' tabs_same ?a1 ?a2); (case a1 => with_reducible assumption); (case' a2 => skip))
  | ((with_reducible refine' tabs_go ?a1 ?a2); (case a1 => with_reducible assumption); (case' a2 => skip))
  | ((with_reducible refine' tabs_kp ?a1 ?a2 ?a3); (case a1 => with_reducible assumption); (case a2 => walk_at "st"); (case' a3 => skip))
  | ((with_reducible refine' tabs_set ?a1 ?a2); (case a1 => walk_at "lk"); (case' a2 => skip))
  | fail "tb1")
local macro_rules | `(tactic| walk_at "dg") => `(tactic| first
  | assumption
  | (refine' dp_ext ?a1 ?a2; (case a1 => assumption); (case a2 => walk_at "fr"))
  | (refine' dn_use ?a1 ?a2; (case a1 => assumption); (case a2 => walk_at "fr"))
  | fail "dg")
local macro_rules | `(tactic| walk_at "dp") => `(tactic| first
  | assumption
  | exact .str _
  | exact .int _
  | exact .bl _
  | exact .non
  | (refine' Dp.lst (SqL.of ?a1) ?a2; (case a1 => walk_at "lk"); (case a2 => walk_at "dpa"))
  | (refine' Dp.tup (SqT.of ?a1) ?a2; (case a1 => walk_at "lk"); (case a2 => walk_at "dpa"))
  | (walk_at "dg")
  | fail "dp")
local macro_rules | `(tactic| walk_at "dpa") => `(tactic| first
  | assumption
  | exact .nil
  | (refine' DpAll.cons ?a1 ?a2; (case a1 => walk_at "dp"); (case a2 => walk_at "dpa"))
  | fail "dpa")
local macro_rules | `(tactic| walk_at "dx") => `(tactic| first
  | assumption
  | exact .str _
  | exact .int _
  | exact .bl _
  | exact .non
  | (refine' Dx.lst (SqL.of ?a1) ?a2; (case a1 => walk_at "lk"); (case a2 => walk_at "dxa"))
  | (refine' Dx.tup (SqT.of ?a1) ?a2; (case a1 => walk_at "lk"); (case a2 => walk_at "dxa"))
  | (refine' Dx.dct (.inl ?a1) ?a2; (case a1 => walk_at "lk"); (case a2 => exact .nil))
  | (refine' dx_ext ?a1 ?a2; (case a1 => assumption); (case a2 => walk_at "fr"))
  | fail "dx")
local macro_rules | `(tactic| walk_at "dxa") => `(tactic| first
  | assumption
  | exact .nil
  | (refine' DxAll.cons ?a1 ?a2; (case a1 => walk_at "dx"); (case a2 => walk_at "dxa"))
  | fail "dxa")
local macro_rules | `(tactic| walk_at "ty") => `(tactic| first
  | assumption
  | (refine' ty_ext ?a1 ?a2; (case a1 => assumption); (case a2 => walk_at "fr"))
  | fail "ty")
local macro_rules | `(tactic| walk_at "shp") => `(tactic| first
  | assumption
  | (simp only [SeqAt.shaped, lay_l, lay_t, lay_i, lay_b, lay_n, lay_c, lay_e, PyData.depth, PyData.depthAll, Bool.and_true, Bool.true_and, Bool.and_eq_true, decide_eq_true_eq]
     repeat' (first | assumption | (refine And.intro ?_ ?_) | (exact rfl) | (decide +kernel) | omega))
  | decide +kernel)
local macro_rules | `(tactic| walk_at "side") => `(tactic| first
  | assumption
  | (intros; trivial)
  | omega
  | (walk_at "lk")
  | (walk_at "st")
  | (walk_at "sz")
  | (walk_at "tb")
  | (walk_at "fr"))
local macro_rules | `(tactic| walk_at "cl") => `(tactic| ((repeat' (apply Exists.intro)); refine And.intro rfl ?_; repeat (refine And.intro (by walk_at "side") ?_)))
local macro_rules | `(tactic| walk_at "eqd") => `(tactic| (refine ⟨_, _, by walk_at "dp", by walk_at "dp", by walk_at "shp", by walk_at "shp", ?_⟩; rw [eqv_same (by walk_at "shp")]))
local macro_rules | `(tactic| walk_at "new") => `(tactic| refine fun (p : Addr) (hp : (_ : Hp) p = none) => ?_)
local macro_rules | `(tactic| walk_at "rdn") => `(tactic| (repeat' (first | walk_at "rd" | walk_at "new")))

local macro_rules | `(tactic| walk_at "sz") => `(tactic| first | assumption | decide | omega | (unfold sizeLine; omega) | exact Nat.le_of_ble_eq_true rfl)
local macro_rules | `(tactic| walk_at "hp") => `(tactic| (first | assumption | exact upd_same | (rw [upd_ne (by assumption)]; assumption)))
local macro_rules | `(tactic| walk_at "rd") => `(tactic| (first
  | refine ⟨_, rfl, ?_⟩
  | (refine ⟨_, _, rfl, rfl, ?rdc, ?_⟩; (case rdc => first | (show (0 : Int) < _; omega) | (exact ⟨by omega, by omega⟩) | (exact .inl ⟨by omega, by omega⟩) | (exact .inr ⟨by omega, by omega⟩) | exact ⟨by decide, by decide, by decide⟩))
  | refine ⟨_, _, rfl, rfl, ?_⟩
  | refine .inl ⟨_, rfl, ?_⟩
  | refine ⟨rfl, ?_⟩
  | refine ⟨⟨_, rfl⟩, ?_⟩
  | refine ⟨⟨_, SqL.of (by walk_at "hp")⟩, ?_⟩
  | refine ⟨_, _, _, _, rfl, rfl, SqL.of (by walk_at "hp"), (by rfl), ?_⟩
  | refine ⟨_, _, _, _, rfl, rfl, (by walk_at "hp"), (by rfl), ?_⟩
  | refine ⟨_, _, rfl, ⟨by walk_at "sz", rfl⟩, ?_⟩
  | refine ⟨_, _, _, rfl, rfl, by walk_at "sz", by assumption, ?_⟩
  | refine And.intro (by walk_at "sz") ?_
  | refine itT rfl ?_
  | refine itF rfl ?_
  | refine itT (by assumption) ?_
  | refine itF (by assumption) ?_
  | refine itT (decide_eq_true (by omega)) ?_
  | refine itF (decide_eq_false (by omega)) ?_
  | refine itT (dVi (by omega)) ?_
  | refine itF (dViN (by omega)) ?_
  | refine itT (notT (by assumption)) ?_
  | refine itF (notF (by assumption)) ?_
  | refine itT (notT (dViN (by omega))) ?_
  | refine itF (notF (dVi (by omega))) ?_
  | refine itT (decide_eq_true rfl) ?_
  | refine itF (notF (decide_eq_true rfl)) ?_
  | refine ite2 (fun _ => ?_) (fun _ => ?_)
  | with_reducible refine tC_ ?_
  | with_reducible refine tNext_ ?_
  | with_reducible refine tNil_ ?_
  | with_reducible refine tYes_ ?_))
local macro_rules | `(tactic| walk_at "rds") => `(tactic| repeat' (walk_at "rd"))
section
variable {P : Program} {w : World} {K : PySem.W.Frag} {mg : Str → Option Value} {base : Heap}

theorem ok__law_right (T : Tx P w K mg base) {cL PL : Addr} {Tb : List (Addr × Str)} (hm : (PL, ("_law_right.<locals>.<lambda>" : Str)) ∈ Tb) (hu : ∀ p ∈ Tb, p.1 = PL → p.2 = ("_law_right.<locals>.<lambda>" : Str)) (F : FunC K "_law_right" s__law_right T.d__law_right.f T.d__law_right.fd cL) (TB : LamX.TabB base mg cL PL) (G__law_front : FnOk P w K mg base CX0 3 T.d__law_front.f T.d__law_front.fd ["word", "table"] sp__law_front) (G__law_short : FnOk P w K mg base CX0 1 T.d__law_short.f T.d__law_short.fd ["word"] sp__law_short) (G_decoded : FnOk P w K mg base (L2.CX P w) 5 T.d_decoded.f T.d_decoded.fd ["digits", "base"] (sp_decoded K T.a_InvalidText T.a_InvalidNumber)) (G_next_digits : FnOk P w K mg base (L2.CX P w) 5 T.d_next_digits.f T.d_next_digits.fd ["digits", "base"] (sp_next_digits K T.a_InvalidText T.a_InvalidNumber)) (G__law_is_begun : FnOk P w K mg base CX0 2 T.d__law_is_begun.f T.d__law_is_begun.fd ["word", "table"] sp__law_is_begun) :
    FnG P w K mg base CX0 9 T.d__law_right.f T.d__law_right.fd ["word", "radix", "table"] (sp__law_right K Tb) := by
  have sc := sc__law_right
  obtain ⟨oc, od, kV, doc, pm, an, cdT, ct, osl, fdT, lkT, cdT'⟩ := T.d__law_told.F.ex
  have bT := T.d__law_told.b
  have cdT := cdT'
  rw [fdT] at lkT bT
  refine okGC F sc (fun vs H Q E h => ?_) (fun A outer s H vs Q E hr h => ?_)
  · obtain ⟨z, a, b, rfl, hb, hz, hl, hd, tb, q⟩ := h
    rfl
  · obtain ⟨z, a, b, rfl, hb, hz, hl, hd, tb, q⟩ := h
    refine ⟨_, (pss_cons (ps_par (i := 3) (j := 4) (by rfl) sc.nd rfl rfl (by decide) rfl rfl (pa_cons (pe_call G__law_front (hr.r.mono (by decide)) rfl T.d__law_front.m T.d__law_front.F.kp T.d__law_front.b .nil pass0 (pa_cons (pv 0) (pa_cons (pv 2) pa_nil))) (pa_cons (pe_dget2 (hu_of hr.r) (pv 2) (pe_call G__law_short (hr.r.mono (by decide)) rfl T.d__law_short.m T.d__law_short.F.kp T.d__law_short.b .nil pass0 (pa_cons (pv 0) pa_nil)) pe_str ⟨by rfl, by rfl, by rfl, by rfl⟩) pa_nil)) (by rfl))
      (pss_cons (ps_if (pt_cmpR (op_neD hr.r.units) ((LamX.pe_lamcall (T := Tb) (k := 5) (c := cL) (P := PL) rfl T.d__law_told.m T.d__law_told.F.kp lkT cdT bT sc__law_told rfl (Or.inl rfl) (told_gives (X := _) T _ _ _) TB rfl hm hu (hr.r.mono (by decide)) (LamX.lamS_by (sc := defScope s__law_right) (by decide +kernel)) rfl (fun _ _ _ _ _ => rfl) (fun A outer s H E f c' hr2 => pe_call G_decoded (hr2.mono (by decide)) rfl T.d_decoded.m T.d_decoded.F.kp T.d_decoded.b .nil (passes_call (takes_of rfl rfl rfl rfl) fun _ _ _ _ z => z) (pa_cons (pv 0) (pa_cons (pv 1) pa_nil))))) (pe_ifExp (pt_cmpR op_ne (pv 4) pe_str (nomark _)) (pe_lst (pa_cons (pv 4) pa_nil)) (pe_tup (pa_cons pe_str (pa_cons (pv 3) pa_nil)))) (nomark _)) (pss_one (ps_ret pe_bl)) pss_nil)
      (pss_cons (ps_set (i := 5) sc.nd rfl (Or.inl rfl) ((LamX.pe_lamcall (T := Tb) (k := 5) (c := cL) (P := PL) rfl T.d__law_told.m T.d__law_told.F.kp lkT cdT bT sc__law_told rfl (Or.inl rfl) (told_gives (X := _) T _ _ _) TB rfl hm hu (hr.r.mono (by decide)) (LamX.lamS_by (sc := defScope s__law_right) (by decide +kernel)) rfl (fun _ _ _ _ _ => rfl) (fun A outer s H E f c' hr2 => pe_call G_next_digits (hr2.mono (by decide)) rfl T.d_next_digits.m T.d_next_digits.F.kp T.d_next_digits.b .nil (passes_call (takes_of rfl rfl rfl rfl) fun _ _ _ _ z => z) (pa_cons (pv 0) (pa_cons (pv 1) pa_nil))))))
      (pss_cons (ps_if (pt_cmpR op_lt (pv 3) (pe_callB call_len (by rfl) T.n_len PySem.boot_len (pa_cons (pv 0) pa_nil)) (nomark _)) (pss_one (ps_ret (pe_cmpR (op_eqD hr.r.units) (pv 5) (pe_tup (pa_cons pe_str (pa_cons (pv 3) pa_nil))) (nomark _)))) pss_nil)
      (pss_cons (ps_set (i := 6) sc.nd rfl (Or.inl rfl) (pe_ifExp (pt_cmpR op_eq (pv 1) pe_int (nomark _)) pe_str pe_str))
      (pss_one (ps_ret (pe_cmpR (op_eqD hr.r.units) (pv 5) (pe_lst (pa_cons (pe_join pe_str (pe_lc (own := [("one", 7)]) (g := gName 7) rfl sc.nd (pi_str (pv 6)) (blkOk_by (own := [("one", 7)]) (N := ["word", "radix", "table", "far", "due", "told", "some", "one"]) (sc := defScope s__law_right) (by decide +kernel)) (fun _ _ _ _ _ => pg_name (i := 7) sc.nd rfl (Or.inl rfl)) (fun _ _ _ _ _ => (pts_one (pt_val (pe_call G__law_is_begun (hr.r.mono (by decide)) rfl T.d__law_is_begun.m T.d__law_is_begun.F.kp T.d__law_is_begun.b .nil pass0 (pa_cons (pe_op op_add_str (pv 0) (pv 7)) (pa_cons (pv 2) pa_nil)))))) (fun _ _ _ _ _ => pv 7))) pa_nil)) (nomark _))))))))), ?_⟩
    have zl : z.length = (tl z).length := len_tl z
    have zz : z.length ≤ sizeLine := by rw [zl]; unfold sizeLine; omega
    have hW : W4 z := ⟨hz, by omega⟩
    walk_at "rds"
    refine ⟨z, a, b, rfl, hb, hz, by omega, hd, fun far H1 s1 fr => ?_⟩
    walk_at "rds"
    have hd1 := s1 _ _ hd
    refine ⟨.inl ⟨_, .inl hd1⟩, ?_⟩
    walk_at "rds"
    intro y hy
    walk_at "rds"
    refine ⟨_, .inl ⟨_, key (tl y), .inl hd1, Num.key_of y, rfl⟩, ?_⟩
    rw [hy]
    have dueE : ((valV (kvOf (tab b)) (key (short (tl z)))).getD (.str "")) = .str ⟨(if begun b (tl z) then (chr b (short (tl z))).toList else []).toArray⟩ := by
      rw [kv_val]
      unfold begun
      cases hg : has (tab b) (short (tl z)) with
      | true => rw [get_yes hb hg]; rfl
      | false => rw [get_no hg]; rfl
    rw [dueE]
    generalize hdl : (if begun b (tl z) then (chr b (short (tl z))).toList else []) = dl
    walk_at "rds"
    refine ⟨_, _, rfl, ?_⟩
    have g1 : Go Tb H H1 := Go.same s1
    dsimp only
    refine tCutIf (R := fun σ' H' => σ' = [some (.str z), some (.int (b : Int)), some (.ref a), some (.int (far : Int)), some (.str ⟨dl.toArray⟩), none, none, none] ∧ Go Tb H H') ?_ (fun key => ?_)
    · clear hdl dueE
      rintro σ' H1' ⟨rfl, g1'⟩
      have hd1' : H1' a = some (.dK (kvOf (tab b))) := lk_go_dK g1' hd
      clear g1 hd1 s1
      walk_at "rds"
      refine ⟨g1'.2 tb, fun H2 e2 t2 => ?_⟩
      have g2 : Go Tb H1' H2 := ⟨e2, fun _ => t2⟩
      clear e2 t2
      intro p0 hp0
      walk_at "rds"
      refine ⟨_, _, rfl, .inr ⟨z, b, rfl, rfl, hb, hW, by omega, fun H4 y s4 bg hy2 => ?_, fun k H4 d bg fr2 s4 hd4 => ?_⟩⟩
      · intro p1 hp1
        have hfar : far = (tl z).length := front_one fr (front_end bg)
        have begE : ∀ c, c < 128 → Asc (z ++ ⟨#[c]⟩) ∧ (tl (z ++ ⟨#[c]⟩)).length ≤ 1000 ∧ tl (z ++ ⟨#[c]⟩) = tl z ++ [c] ∧ z.length + (⟨#[c]⟩ : Str).length ≤ sizeLine := fun c hc => by
          refine ⟨fun d hd => ?_, ?_, tl_append _ _, ?_⟩
          · rw [tl_append, List.mem_append] at hd
            rcases hd with hd | hd
            · exact hz d hd
            · rw [List.mem_singleton.mp hd]; exact hc
          · rw [tl_append, List.length_append]; show _ + 1 ≤ _; omega
          · show z.length + 1 ≤ sizeLine; rw [zl]; unfold sizeLine; omega
        have o8 : ∀ c ∈ ordered b, c < 128 := by
          rcases hb with rfl | rfl
          · decide +kernel
          · decide +kernel
        have asc_y : ∀ c ∈ y.cps.toList, c < 128 := fun c hc => by
          have hc2 : c ∈ tl y := hc
          rw [hy2] at hc2
          exact o8 c (List.mem_filter.mp hc2).1
        have hlen : ((ordered b).filter (fun c => begun b (tl z ++ [c]))).length ≤ 22 := by
          refine Nat.le_trans (List.length_filter_le _ _) ?_
          rcases hb with rfl | rfl <;> decide +kernel
        have fin : ∀ (H5 : Hp) (D p : Addr) (ys : List Str), Go Tb H H5 → ys = ((ordered b).filter (fun c => begun b (tl z ++ [c]))).map (fun c => (⟨#[c]⟩ : Str)) → Txt.join "" ys = y := by
          rintro H5 D p ys _ rfl
          refine Mx.str_ext (Eq.trans (join_ones' _) ?_)
          exact hy2.symm
        have layy := lay_str8 asc_y
        have f1 : upd H4 p1 (.lst [.str y]) p1 = some (.lst [.str y]) := upd_same
        rcases hb with rfl | rfl
        · walk_at "rds"
          intro D hD
          have hDa : D ≠ a := fun e => by
            have : upd H4 p1 (.lst [.str y]) a = some (.dK (kvOf (tab 10))) := by walk_at "lk"
            rw [e, this] at hD
            cases hD
          refine lc_flt walk_str (fun i => begun 10 (tl z ++ [(ordered 10).getD i 0])) (fun i => .str ⟨#[(ordered 10).getD i 0]⟩) hD (by decide +kernel) (fun _ _ => trivial) (fun i H1 x H2 y => y.1 ▸ Same.refl _) ?_ ?_
          · rintro i x H5 H6 Nx Mx hi sm ⟨rfl, c, hc, rfl⟩ k1 k2
            have ho : (ordered 10)[i]? = some c := by
              show (tl ("0123456789" : Str))[i]? = some c
              rw [Array.getElem?_toList]
              exact hc
            have e : (ordered 10).getD i 0 = c := by rw [List.getD_eq_getElem?_getD, ho]; rfl
            simp only [e] at k1 k2
            obtain ⟨w1, w2, w3, w4⟩ := begE c (o8 c (List.mem_of_getElem? ho))
            refine ⟨rfl, ?_⟩
            walk_at "rds"
            refine ⟨z ++ ⟨#[c]⟩, a, 10, rfl, .inl rfl, w1, w2, .inl (by walk_at "lk"), ?_⟩
            rw [w3]
            cases hbg : begun 10 (tl z ++ [c]) with
            | true =>
              walk_at "rds"
              exact k1 hbg _ (Same.refl _)
            | false =>
              walk_at "rds"
              exact k2 hbg _ (Same.refl _)
          · intro H5 sm hl5
            have en : ("0123456789" : Str).cps.size = (ordered 10).length := rfl
            rw [picked_map (y := fun i => (ordered 10).getD i 0) (g := fun c => V.str ⟨#[c]⟩), en, picked_filter (ordered 10) 0 (fun c => begun 10 (tl z ++ [c]))] at hl5
            walk_at "rds"
            refine ⟨"", D, ((ordered 10).filter (fun c => begun 10 (tl z ++ [c]))).map (fun c => (⟨#[c]⟩ : Str)), rfl, rfl, .inl (SqL.of (by rw [List.map_map]; exact hl5)), ?_, ?_⟩
            · rw [ones_sum, List.length_map]
              show _ + _ * 0 ≤ _
              omega
            · rw [fin H5 D p1 _ (by walk_at "fr") rfl]
              walk_at "rdn"
              walk_at "eqd"
              exact q _ (by walk_at "fr")
        · walk_at "rds"
          intro D hD
          have hDa : D ≠ a := fun e => by
            have : upd H4 p1 (.lst [.str y]) a = some (.dK (kvOf (tab 16))) := by walk_at "lk"
            rw [e, this] at hD
            cases hD
          refine lc_flt walk_str (fun i => begun 16 (tl z ++ [(ordered 16).getD i 0])) (fun i => .str ⟨#[(ordered 16).getD i 0]⟩) hD (by decide +kernel) (fun _ _ => trivial) (fun i H1 x H2 y => y.1 ▸ Same.refl _) ?_ ?_
          · rintro i x H5 H6 Nx Mx hi sm ⟨rfl, c, hc, rfl⟩ k1 k2
            have ho : (ordered 16)[i]? = some c := by
              show (tl ("0123456789ABCDEFabcdef" : Str))[i]? = some c
              rw [Array.getElem?_toList]
              exact hc
            have e : (ordered 16).getD i 0 = c := by rw [List.getD_eq_getElem?_getD, ho]; rfl
            simp only [e] at k1 k2
            obtain ⟨w1, w2, w3, w4⟩ := begE c (o8 c (List.mem_of_getElem? ho))
            refine ⟨rfl, ?_⟩
            walk_at "rds"
            refine ⟨z ++ ⟨#[c]⟩, a, 16, rfl, .inr rfl, w1, w2, .inl (by walk_at "lk"), ?_⟩
            rw [w3]
            cases hbg : begun 16 (tl z ++ [c]) with
            | true =>
              walk_at "rds"
              exact k1 hbg _ (Same.refl _)
            | false =>
              walk_at "rds"
              exact k2 hbg _ (Same.refl _)
          · intro H5 sm hl5
            have en : ("0123456789ABCDEFabcdef" : Str).cps.size = (ordered 16).length := rfl
            rw [picked_map (y := fun i => (ordered 16).getD i 0) (g := fun c => V.str ⟨#[c]⟩), en, picked_filter (ordered 16) 0 (fun c => begun 16 (tl z ++ [c]))] at hl5
            walk_at "rds"
            refine ⟨"", D, ((ordered 16).filter (fun c => begun 16 (tl z ++ [c]))).map (fun c => (⟨#[c]⟩ : Str)), rfl, rfl, .inl (SqL.of (by rw [List.map_map]; exact hl5)), ?_, ?_⟩
            · rw [ones_sum, List.length_map]
              show _ + _ * 0 ≤ _
              omega
            · rw [fin H5 D p1 _ (by walk_at "fr") rfl]
              walk_at "rdn"
              walk_at "eqd"
              exact q _ (by walk_at "fr")
      · refine ⟨T.a_InvalidText, d, [("index", .int (k : Int))], "index", "text", .int (k : Int), rfl, rfl, upd_same, T.xc_InvalidText, T.ex_InvalidText, T.fn_InvalidText, rfl, .inr (.inl ⟨rfl, rfl, T.k1_InvalidText, T.k2_InvalidText⟩), fun ax px hax hpx => ?_⟩
        have hk : k = far := front_one fr2 fr
        subst hk
        have hlt : k < (tl z).length := by
          rcases Nat.lt_or_ge k (tl z).length with h | h
          · exact h
          · have e : k = (tl z).length := Nat.le_antisymm fr.1 h
            have := fr.2.1
            rw [e, List.take_length, bg] at this
            cases this
        walk_at "rdn"
        walk_at "eqd"
        exact q _ (by walk_at "fr")
    · walk_at "rds"
      refine ⟨g1.2 tb, fun H2 e2 t2 => ?_⟩
      have g2 : Go Tb H H2 := g1.trans ⟨e2, fun _ => t2⟩
      clear e2 t2
      intro p0 hp0
      walk_at "rds"
      refine ⟨_, _, rfl, .inr ⟨z, b, rfl, rfl, hb, hW, fun H4 c s4 bg hc => ?_, fun k H4 d fr2 hno s4 hd4 => ?_⟩⟩
      · intro p1 hp1
        rw [if_pos bg, hc] at hdl
        subst hdl
        have c8 := chr_lt hc
        have layc := lay_sign c8
        have e1 : decide (V.str ⟨((some c : Option Nat).toList).toArray⟩ = V.str "") = false := by rw [empty_eq]; rfl
        walk_at "rdn"
        show ∃ d e, Dp K _ _ d ∧ Dp K _ _ e ∧ _
        have e2 : (⟨((some c : Option Nat).toList).toArray⟩ : Str) = ⟨#[c]⟩ := rfl
        simp only [e2] at *
        walk_at "eqd"
        walk_at "rdn"
        exact key _ _ ⟨rfl, by walk_at "fr"⟩
      · refine ⟨T.a_InvalidText, d, [("index", .int (k : Int))], "index", "text", .int (k : Int), rfl, rfl, upd_same, T.xc_InvalidText, T.ex_InvalidText, T.fn_InvalidText, rfl, .inr (.inl ⟨rfl, rfl, T.k1_InvalidText, T.k2_InvalidText⟩), fun ax px hax hpx => ?_⟩
        have hk : k = far := front_one fr2 fr
        subst hk
        have hdl2 : dl = [] := by
          rw [← hdl]
          cases hbg : begun b (tl z) with
          | true => rw [if_pos rfl, hno hbg]; rfl
          | false => rfl
        subst hdl2
        have e1 : decide (V.str ⟨(([] : List Nat)).toArray⟩ = V.str "") = true := by rw [empty_eq]; rfl
        walk_at "rdn"
        walk_at "eqd"
        walk_at "rdn"
        exact key _ _ ⟨rfl, by walk_at "fr"⟩

end
end K4

namespace K4
open PySem PySem.Spec PyProof.Rows L2 Mx
/-! ### told as data -/
open TL Num
def decD (b : Nat) (l : List Nat) (m : Nat) : PyData := match (if begun b l then chr b (short l) else none) with | some c => .list [.str ⟨#[c]⟩] | none => .tuple [.str "text", .int (m : Int)]
def nxtD (b : Nat) (l : List Nat) (m : Nat) : PyData := if begun b l then .list [.str ⟨((ordered b).filter (fun c => begun b (l ++ [c]))).toArray⟩] else .tuple [.str "text", .int (m : Int)]
theorem front_ex {b : Nat} (hb : Base b) (w : List Nat) : ∃ m, IsFront b w m := by
  have key : ∀ n, n ≤ w.length → ∃ m, m ≤ n ∧ begun b (w.take m) = true ∧ ∀ j, j ≤ n → begun b (w.take j) = true → j ≤ m := by
    intro n
    induction n with
    | zero => exact fun _ => ⟨0, Nat.le_refl _, begun_zeros hb (z := []) (by simp), fun j hj _ => hj⟩
    | succ n ih =>
      intro hn
      cases h : begun b (w.take (n + 1)) with
      | true => exact ⟨n + 1, Nat.le_refl _, h, fun j hj _ => hj⟩
      | false =>
        obtain ⟨m, h1, h2, h3⟩ := ih (by omega)
        refine ⟨m, by omega, h2, fun j hj hbj => ?_⟩
        by_cases e : j = n + 1
        · subst e
          rw [h] at hbj
          cases hbj
        · exact h3 j (by omega) hbj
  obtain ⟨m, h1, h2, h3⟩ := key w.length (Nat.le_refl _)
  exact ⟨m, h1, h2, h3⟩
theorem shaped_dec (b : Nat) (l : List Nat) (m : Nat) : SeqAt.shaped (decD b l m) = true := by
  unfold decD
  cases h : (if begun b l then chr b (short l) else none) with
  | none => exact shaped_ti "text" (by decide +kernel) _
  | some c =>
    have hc : c < 128 := by
      split at h
      · exact chr_lt h
      · cases h
    exact shaped_strs (l := [⟨#[c]⟩]) (by
      intro x hx d hd
      rw [List.mem_singleton.mp hx] at hd
      rw [List.mem_singleton.mp hd]
      omega)
theorem ordered8 {b : Nat} (hb : Base b) : ∀ c ∈ ordered b, c < 128 := by
  rcases hb with rfl | rfl
  · decide +kernel
  · decide +kernel
theorem shaped_nxt {b : Nat} (hb : Base b) (l : List Nat) (m : Nat) : SeqAt.shaped (nxtD b l m) = true := by
  unfold nxtD
  split
  · exact shaped_strs (l := [⟨((ordered b).filter (fun c => begun b (l ++ [c]))).toArray⟩]) (by
      intro x hx d hd
      rw [List.mem_singleton.mp hx] at hd
      have := ordered8 hb d (List.mem_filter.mp hd).1
      omega)
  · exact shaped_ti "text" (by decide +kernel) _

local macro_rules | `(tactic| walk_at "sz") => `(tactic| first | assumption | decide | omega | (unfold sizeLine; omega) | exact Nat.le_of_ble_eq_true rfl)
local macro_rules | `(tactic| walk_at "hp") => `(tactic| (first | assumption | exact upd_same | (rw [upd_ne (by assumption)]; assumption)))
local macro_rules | `(tactic| walk_at "rd") => `(tactic| (first
  | refine ⟨_, rfl, ?_⟩
  | (refine ⟨_, _, rfl, rfl, ?rdc, ?_⟩; (case rdc => first | (show (0 : Int) < _; omega) | (exact ⟨by omega, by omega⟩) | (exact .inl ⟨by omega, by omega⟩) | (exact .inr ⟨by omega, by omega⟩) | exact ⟨by decide, by decide, by decide⟩))
  | refine ⟨_, _, rfl, rfl, ?_⟩
  | refine .inl ⟨_, rfl, ?_⟩
  | refine ⟨rfl, ?_⟩
  | refine ⟨⟨_, rfl⟩, ?_⟩
  | refine ⟨⟨_, SqL.of (by walk_at "hp")⟩, ?_⟩
  | refine ⟨_, _, _, _, rfl, rfl, SqL.of (by walk_at "hp"), (by rfl), ?_⟩
  | refine ⟨_, _, _, _, rfl, rfl, (by walk_at "hp"), (by rfl), ?_⟩
  | refine ⟨_, _, rfl, ⟨by walk_at "sz", rfl⟩, ?_⟩
  | refine ⟨_, _, _, rfl, rfl, by walk_at "sz", by assumption, ?_⟩
  | refine And.intro (by walk_at "sz") ?_
  | refine itT rfl ?_
  | refine itF rfl ?_
  | refine itT (by assumption) ?_
  | refine itF (by assumption) ?_
  | refine itT (decide_eq_true (by omega)) ?_
  | refine itF (decide_eq_false (by omega)) ?_
  | refine itT (dVi (by omega)) ?_
  | refine itF (dViN (by omega)) ?_
  | refine itT (notT (by assumption)) ?_
  | refine itF (notF (by assumption)) ?_
  | refine itT (notT (dViN (by omega))) ?_
  | refine itF (notF (dVi (by omega))) ?_
  | refine itT (decide_eq_true rfl) ?_
  | refine itF (notF (decide_eq_true rfl)) ?_
  | refine ite2 (fun _ => ?_) (fun _ => ?_)
  | with_reducible refine tC_ ?_
  | with_reducible refine tNext_ ?_
  | with_reducible refine tNil_ ?_
  | with_reducible refine tYes_ ?_))
local macro_rules | `(tactic| walk_at "rds") => `(tactic| repeat' (walk_at "rd"))
section
variable {P : Program} {w : World} {K : PySem.W.Frag} {mg : Str → Option Value} {base : Heap}

local macro_rules | `(tactic| walk_at "lk") => `(tactic| first
  | with_reducible assumption
  | with_reducible exact upd_same
  | (walk_at "lk1"; walk_at "lk")
  | fail "lk")
local macro_rules | `(tactic| walk_at "lk1") => `(tactic| first
  | ((with_reducible refine' lk_new ?a1 ?a2); (case a1 => with_reducible assumption); (case' a2 => skip))
  | ((with_reducible refine' lk_ne ?a1 ?a2); (case a1 => with_reducible assumption); (case' a2 => skip))
  | ((with_reducible refine' lk_neN ?a1 ?a2 ?a3); (case a1 => with_reducible assumption); (case a2 => walk_at "lk"); (case' a3 => skip))
  | ((with_reducible refine' lk_neN' ?a1 ?a2 ?a3); (case a1 => with_reducible assumption); (case a2 => walk_at "lk"); (case' a3 => skip))
  | ((with_reducible refine' lk_same ?a1 ?a2); (case a1 => with_reducible assumption); (case' a2 => skip))
  | ((with_reducible refine' lk_go ?a1 ?a2 ?a3); (case a1 => with_reducible assumption); (case a2 => walk_at "nt"); (case' a3 => skip))
  | ((with_reducible refine' lk_kp_nl ?a1 ?a2 ?a3 ?a4); (case a1 => with_reducible assumption); (case a2 => walk_at "st"); (case a3 => walk_at "nl"); (case' a4 => skip))
  | ((with_reducible refine' lk_kp ?a1 ?a2 ?a3); (case a1 => with_reducible assumption); (case a2 => walk_at "ne"); (case' a3 => skip))
  | fail "lk1")
local macro_rules | `(tactic| walk_at "nt") => `(tactic| first
  | (intro _ z; cases z)
  | fail "nt")
local macro_rules | `(tactic| walk_at "nl") => `(tactic| first
  | (intro _ z; cases z)
  | fail "nl")
local macro_rules | `(tactic| walk_at "ne") => `(tactic| first
  | with_reducible assumption
  | ((with_reducible refine' ne_st ?a1 ?a2); (case a1 => with_reducible assumption); (case a2 => walk_at "st"))
  | fail "ne")
local macro_rules | `(tactic| walk_at "st") => `(tactic| first
  | with_reducible assumption
  | with_reducible exact st_new (by with_reducible assumption) (by walk_at "st")
  | with_reducible exact st_same (by with_reducible assumption) (by walk_at "st")
  | with_reducible exact st_go (by with_reducible assumption) (by walk_at "st")
  | with_reducible exact st_ne (by walk_at "ns") (by walk_at "st")
  | fail "st")
local macro_rules | `(tactic| walk_at "ns") => `(tactic| first
  | with_reducible assumption
  | with_reducible exact Ne.symm (by with_reducible assumption)
  | with_reducible exact Ne.symm (ne_st (by with_reducible assumption) (by walk_at "st"))
  | fail "ns")
local macro_rules | `(tactic| walk_at "fr") => `(tactic| first
  | with_reducible assumption
  | with_reducible exact Same.refl _
  | with_reducible exact Go.refl _ _
  | with_reducible exact Kp.refl _ _
  | with_reducible exact LamX.ExtN.refl _
  | with_reducible exact nw_refl
  | (walk_at "fr1"; walk_at "fr")
  | fail "fr")
local macro_rules | `(tactic| walk_at "fr1") => `(tactic| first
  | ((with_reducible refine' fr_new ?a1 ?a2); (case a1 => with_reducible assumption); (case' a2 => skip))
  | ((with_reducible refine' go_new ?a1 ?a2); (case a1 => with_reducible assumption); (case' a2 => skip))
  | ((with_reducible refine' kp_new ?a1 ?a2); (case a1 => with_reducible assumption); (case' a2 => skip))
  | ((with_reducible refine' fr_same ?a1 ?a2); (case a1 => with_reducible assumption); (case' a2 => skip))
  | ((with_reducible refine' go_same ?a1 ?a2); (case a1 => with_reducible assumption); (case' a2 => skip))
  | ((with_reducible refine' kp_same ?a1 ?a2); (case a1 => with_reducible assumption); (case' a2 => skip))
  | ((with_reducible refine' go_go ?a1 ?a2); (case a1 => with_reducible assumption); (case' a2 => skip))
  | ((with_reducible refine' go_kp ?a1 ?a2 ?a3 ?a4); (case a1 => with_reducible assumption); (case a2 => with_reducible assumption); (case a3 => walk_at "st"); (case' a4 => skip))
  | ((with_reducible refine' kp_kp ?a1 ?a2); (case a1 => with_reducible assumption); (case' a2 => skip))
  | ((with_reducible refine' kp_upd ?a1); (case' a1 => skip))
  | ((with_reducible refine' go_set2 ?a1 ?a2 ?a3 ?a4); (case a1 => walk_at "lk"); (case a2 => with_reducible assumption); (case a3 => walk_at "fr"); (case' a4 => skip))
  | ((with_reducible refine' fr_set2 ?a1 ?a2 ?a3); (case a1 => with_reducible assumption); (case a2 => walk_at "fr"); (case' a3 => skip))
  | ((with_reducible refine' en_new ?a1 ?a2); (case a1 => with_reducible assumption); (case' a2 => skip))
  | ((with_reducible refine' en_same ?a1 ?a2); (case a1 => with_reducible assumption); (case' a2 => skip))
  | ((with_reducible refine' en_go ?a1 ?a2); (case a1 => with_reducible assumption); (case' a2 => skip))
  | ((with_reducible refine' en_set2 ?a1 ?a2 ?a3); (case a1 => with_reducible assumption); (case a2 => walk_at "fr"); (case' a3 => skip))
  | ((with_reducible refine' en_kp ?a1 ?a2 ?a3 ?a4); (case a1 => with_reducible assumption); (case a2 => with_reducible assumption); (case a3 => walk_at "fr"); (case' a4 => skip))
  | ((with_reducible refine' nw_new ?a1 ?a2); (case a1 => with_reducible assumption); (case' a2 => skip))
  | ((with_reducible refine' nw_same ?a1 ?a2); (case a1 => with_reducible assumption); (case' a2 => skip))
  | ((with_reducible refine' nw_go ?a1 ?a2); (case a1 => with_reducible assumption); (case' a2 => skip))
  | ((with_reducible refine' nw_kp ?a1 ?a2 ?a3); (case a1 => with_reducible assumption); (case a2 => walk_at "st"); (case' a3 => skip))
  | ((with_reducible refine' nw_set ?a1 ?a2); (case a1 => walk_at "lk"); (case' a2 => skip))
  | ((with_reducible refine' nw_set2 ?a1 ?a2 ?a3); (case a1 => with_reducible assumption); (case a2 => walk_at "fr"); (case' a3 => skip))
  | fail "fr1")
local macro_rules | `(tactic| walk_at "tb") => `(tactic| first
  | with_reducible assumption
  | (walk_at "tb1"; walk_at "tb")
  | fail "tb")
local macro_rules | `(tactic| walk_at "tb1") => `(tactic| first
  | ((with_reducible refine' tabs_new ?a1 ?a2); (case a1 => with_reducible assumption); (case' a2 => skip))
  | ((with_reducible refine' tabs_same ?a1 ?a2); (case a1 => with_reducible assumption); (case' a2 => skip))
  | ((with_reducible refine' tabs_go ?a1 ?a2); (case a1 => with_reducible assumption); (case' a2 => skip))
  | ((with_reducible refine' tabs_kp ?a1 ?a2 ?a3); (case a1 => with_reducible assumption); (case a2 => walk_at "st"); (case' a3 => skip))
  | ((with_reducible refine' tabs_set ?a1 ?a2); (case a1 => walk_at "lk"); (case' a2 => skip))
  | fail "tb1")
local macro_rules | `(tactic| walk_at "dg") => `(tactic| first
  | assumption
  | (refine' dp_ext ?a1 ?a2; (case a1 => assumption); (case a2 => walk_at "fr"))
  | (refine' dn_use ?a1 ?a2; (case a1 => assumption); (case a2 => walk_at "fr"))
  | fail "dg")
local macro_rules | `(tactic| walk_at "dp") => `(tactic| first
  | assumption
  | exact .str _
  | exact .int _
  | exact .bl _
  | exact .non
  | (refine' Dp.lst (SqL.of ?a1) ?a2; (case a1 => walk_at "lk"); (case a2 => walk_at "dpa"))
  | (refine' Dp.tup (SqT.of ?a1) ?a2; (case a1 => walk_at "lk"); (case a2 => walk_at "dpa"))
  | (walk_at "dg")
  | fail "dp")
local macro_rules | `(tactic| walk_at "dpa") => `(tactic| first
  | assumption
  | exact .nil
  | (refine' DpAll.cons ?a1 ?a2; (case a1 => walk_at "dp"); (case a2 => walk_at "dpa"))
  | fail "dpa")
local macro_rules | `(tactic| walk_at "dx") => `(tactic| first
  | assumption
  | exact .str _
  | exact .int _
  | exact .bl _
  | exact .non
  | (refine' Dx.lst (SqL.of ?a1) ?a2; (case a1 => walk_at "lk"); (case a2 => walk_at "dxa"))
  | (refine' Dx.tup (SqT.of ?a1) ?a2; (case a1 => walk_at "lk"); (case a2 => walk_at "dxa"))
  | (refine' Dx.dct (.inl ?a1) ?a2; (case a1 => walk_at "lk"); (case a2 => exact .nil))
  | (refine' dx_ext ?a1 ?a2; (case a1 => assumption); (case a2 => walk_at "fr"))
  | fail "dx")
local macro_rules | `(tactic| walk_at "dxa") => `(tactic| first
  | assumption
  | exact .nil
  | (refine' DxAll.cons ?a1 ?a2; (case a1 => walk_at "dx"); (case a2 => walk_at "dxa"))
  | fail "dxa")
local macro_rules | `(tactic| walk_at "ty") => `(tactic| first
  | assumption
  | (refine' ty_ext ?a1 ?a2; (case a1 => assumption); (case a2 => walk_at "fr"))
  | fail "ty")
local macro_rules | `(tactic| walk_at "shp") => `(tactic| first
  | assumption
  | (simp only [SeqAt.shaped, lay_l, lay_t, lay_i, lay_b, lay_n, lay_c, lay_e, PyData.depth, PyData.depthAll, Bool.and_true, Bool.true_and, Bool.and_eq_true, decide_eq_true_eq]
     repeat' (first | assumption | (refine And.intro ?_ ?_) | (exact rfl) | (decide +kernel) | omega))
  | decide +kernel)
local macro_rules | `(tactic| walk_at "side") => `(tactic| first
  | assumption
  | (intros; trivial)
  | omega
  | (walk_at "lk")
  | (walk_at "st")
  | (walk_at "sz")
  | (walk_at "tb")
  | (walk_at "fr"))
local macro_rules | `(tactic| walk_at "cl") => `(tactic| ((repeat' (apply Exists.intro)); refine And.intro rfl ?_; repeat (refine And.intro (by walk_at "side") ?_)))
local macro_rules | `(tactic| walk_at "eqd") => `(tactic| (refine ⟨_, _, by walk_at "dp", by walk_at "dp", by walk_at "shp", by walk_at "shp", ?_⟩; rw [eqv_same (by walk_at "shp")]))
local macro_rules | `(tactic| walk_at "new") => `(tactic| refine fun (p : Addr) (hp : (_ : Hp) p = none) => ?_)
local macro_rules | `(tactic| walk_at "rdn") => `(tactic| (repeat' (first | walk_at "rd" | walk_at "new")))


theorem told_dec (T : Tx P w K mg base) {z : Str} {b m : Nat} (hb : Base b) (hW : W4 z) (fr : IsFront b (tl z) m) {H : Hp} {Q : VK} (k : ∀ p H', Same H H' → Dn K H H' (.ref p) (decD b (tl z) m) → Q (.ref p) H') :
    sp_decoded K T.a_InvalidText T.a_InvalidNumber [.str z, .int (b : Int)] H (fun v H1 => ∀ p, H1 p = none → Q (.ref p) (upd H1 p (.lst [v]))) (ToldE K [.ref T.a_MarkupError, .ref T.a_MarkupStateError, .ref T.a_LimitError] T.a_IllFormed T.a_InvalidText T.a_InvalidNumber T.a_InvalidKind Q) := by
  refine ⟨_, _, rfl, .inr ⟨z, b, rfl, rfl, hb, hW, fun H4 c s4 bg hc => ?_, fun k2 H4 d fr2 hno s4 hd4 => ?_⟩⟩
  · intro p1 hp1
    refine k _ _ (by walk_at "fr") ?_
    intro Hf nw
    have f1 := nw p1 _ (none_same s4 hp1) upd_same (by walk_at "nt")
    unfold decD
    rw [if_pos bg, hc]
    walk_at "dp"
  · refine told_text T upd_same (fun ax px hax hpx => ?_)
    have hk : k2 = m := front_one fr2 fr
    subst hk
    refine k _ _ (by walk_at "fr") ?_
    intro Hf nw
    have n4 : H4 px = none := none_same (by walk_at "fr") hpx
    have f1 := nw px _ (none_same s4 n4) upd_same (by walk_at "nt")
    unfold decD
    have : (if begun b (tl z) then chr b (short (tl z)) else none) = none := by
      split
      · rename_i h
        exact hno h
      · rfl
    rw [this]
    walk_at "dp"
theorem told_nxt (T : Tx P w K mg base) {z : Str} {b m : Nat} (hb : Base b) (hW : W4 z) (h9 : (tl z).length ≤ 900) (fr : IsFront b (tl z) m) {H : Hp} {Q : VK} (k : ∀ p H', Same H H' → Dn K H H' (.ref p) (nxtD b (tl z) m) → Q (.ref p) H') :
    sp_next_digits K T.a_InvalidText T.a_InvalidNumber [.str z, .int (b : Int)] H (fun v H1 => ∀ p, H1 p = none → Q (.ref p) (upd H1 p (.lst [v]))) (ToldE K [.ref T.a_MarkupError, .ref T.a_MarkupStateError, .ref T.a_LimitError] T.a_IllFormed T.a_InvalidText T.a_InvalidNumber T.a_InvalidKind Q) := by
  refine ⟨_, _, rfl, .inr ⟨z, b, rfl, rfl, hb, hW, h9, fun H4 y s4 bg hy => ?_, fun k2 H4 d bg fr2 s4 hd4 => ?_⟩⟩
  · intro p1 hp1
    refine k _ _ (by walk_at "fr") ?_
    intro Hf nw
    have f1 := nw p1 _ (none_same s4 hp1) upd_same (by walk_at "nt")
    unfold nxtD
    rw [if_pos bg]
    have e : y = ⟨((ordered b).filter (fun c => begun b (tl z ++ [c]))).toArray⟩ := Mx.str_ext hy
    rw [← e]
    walk_at "dp"
  · refine told_text T upd_same (fun ax px hax hpx => ?_)
    have hk : k2 = m := front_one fr2 fr
    subst hk
    refine k _ _ (by walk_at "fr") ?_
    intro Hf nw
    have n4 : H4 px = none := none_same (by walk_at "fr") hpx
    have f1 := nw px _ (none_same s4 n4) upd_same (by walk_at "nt")
    unfold nxtD
    rw [if_neg (by rw [bg]; decide)]
    walk_at "dp"
def sp__law_named_right (K : PySem.W.Frag) (Tb : List (Addr × Str)) : Sp := fun vs H Q _ => ∃ (z : Str) (b : Nat), vs = [.str z, .int (b : Int)] ∧ Base b ∧ Asc z ∧ (tl z).length ≤ 600 ∧ LamX.Tabs Tb H ∧ ∀ H', Go Tb H H' → Q (.bl true) H'

theorem ok__law_named_right (T : Tx P w K mg base) {cL PL : Addr} {Tb : List (Addr × Str)} (hm : (PL, ("_law_named_right.<locals>.<lambda>" : Str)) ∈ Tb) (hu : ∀ p ∈ Tb, p.1 = PL → p.2 = ("_law_named_right.<locals>.<lambda>" : Str)) (F : FunC K "_law_named_right" s__law_named_right T.d__law_named_right.f T.d__law_named_right.fd cL) (TB : LamX.TabB base mg cL PL) (G_decoded : FnOk P w K mg base (L2.CX P w) 5 T.d_decoded.f T.d_decoded.fd ["digits", "base"] (sp_decoded K T.a_InvalidText T.a_InvalidNumber)) (G_next_digits : FnOk P w K mg base (L2.CX P w) 5 T.d_next_digits.f T.d_next_digits.fd ["digits", "base"] (sp_next_digits K T.a_InvalidText T.a_InvalidNumber)) :
    FnG P w K mg base CX0 9 T.d__law_named_right.f T.d__law_named_right.fd ["word", "radix"] (sp__law_named_right K Tb) := by
  have sc := sc__law_named_right
  obtain ⟨oc, od, kV, doc, pm, an, cdT, ct, osl, fdT, lkT, cdT'⟩ := T.d__law_told.F.ex
  have bT := T.d__law_told.b
  have cdT := cdT'
  rw [fdT] at lkT bT
  refine okGC F sc (fun vs H Q E h => ?_) (fun A outer s H vs Q E hr h => ?_)
  · obtain ⟨z, b, rfl, hb, hz, hl, tb, q⟩ := h
    rfl
  · obtain ⟨z, b, rfl, hb, hz, hl, tb, q⟩ := h
    refine ⟨_, (pss_cons (ps_set (i := 2) sc.nd rfl (Or.inl rfl) (pe_lst (pa_cons ((LamX.pe_lamcall (T := Tb) (k := 5) (c := cL) (P := PL) rfl T.d__law_told.m T.d__law_told.F.kp lkT cdT bT sc__law_told rfl (Or.inl rfl) (told_gives (X := _) T _ _ _) TB rfl hm hu (hr.r.mono (by decide)) (LamX.lamS_by (sc := defScope s__law_named_right) (by decide +kernel)) rfl (fun _ _ _ _ _ => rfl) (fun A outer s H E f c' hr2 => pe_call G_decoded (hr2.mono (by decide)) rfl T.d_decoded.m T.d_decoded.F.kp T.d_decoded.b .nil (passes_call (takes_of rfl rfl rfl rfl) fun _ _ _ _ z => z) (pa_cons (pv 0) (pa_cons (pv 1) pa_nil))))) pa_nil)))
      (pss_cons (ps_expr (pe_bm PySem.F.plainAttrs_list PySem.F.slot_list_append PySem.F.type_list_append mt_append (pv 2) (pa_cons ((LamX.pe_lamcall (T := Tb) (k := 5) (c := cL) (P := PL) rfl T.d__law_told.m T.d__law_told.F.kp lkT cdT bT sc__law_told rfl (Or.inl rfl) (told_gives (X := _) T _ _ _) TB rfl hm hu (hr.r.mono (by decide)) (LamX.lamS_by (sc := defScope s__law_named_right) (by decide +kernel)) rfl (fun _ _ _ _ _ => rfl) (fun A outer s H E f c' hr2 => pe_call G_next_digits (hr2.mono (by decide)) rfl T.d_next_digits.m T.d_next_digits.F.kp T.d_next_digits.b .nil (passes_call (takes_of rfl rfl rfl rfl) fun _ _ _ _ z => z) (pa_cons (pv 0) (pa_cons (pv 1) pa_nil))))) pa_nil)))
      (pss_cons (ps_set (i := 3) sc.nd rfl (Or.inl rfl) (pe_lst (pa_cons ((LamX.pe_lamcall (T := Tb) (k := 5) (c := cL) (P := PL) rfl T.d__law_told.m T.d__law_told.F.kp lkT cdT bT sc__law_told rfl (Or.inl rfl) (told_gives (X := _) T _ _ _) TB rfl hm hu (hr.r.mono (by decide)) (LamX.lamS_by (sc := defScope s__law_named_right) (by decide +kernel)) rfl (fun _ _ _ _ _ => rfl) (fun A outer s H E f c' hr2 => pe_kw0 G_decoded (hr2.mono (by decide)) rfl T.d_decoded.m T.d_decoded.F.kp T.kb_decoded (passes_call (takes_of rfl rfl rfl rfl) fun _ _ _ _ z => z) (pk_cons (pv 1) (pk_cons (pv 0) pk_nil))))) pa_nil)))
      (pss_cons (ps_expr (pe_bm PySem.F.plainAttrs_list PySem.F.slot_list_append PySem.F.type_list_append mt_append (pv 3) (pa_cons ((LamX.pe_lamcall (T := Tb) (k := 5) (c := cL) (P := PL) rfl T.d__law_told.m T.d__law_told.F.kp lkT cdT bT sc__law_told rfl (Or.inl rfl) (told_gives (X := _) T _ _ _) TB rfl hm hu (hr.r.mono (by decide)) (LamX.lamS_by (sc := defScope s__law_named_right) (by decide +kernel)) rfl (fun _ _ _ _ _ => rfl) (fun A outer s H E f c' hr2 => pe_kw0 G_next_digits (hr2.mono (by decide)) rfl T.d_next_digits.m T.d_next_digits.F.kp T.kb_next_digits (passes_call (takes_of rfl rfl rfl rfl) fun _ _ _ _ z => z) (pk_cons (pv 1) (pk_cons (pv 0) pk_nil))))) pa_nil)))
      (pss_one (ps_ret (pe_cmpR (op_eqD hr.r.units) (pv 3) (pv 2) (nomark _)))))))), ?_⟩
    have hW : W4 z := ⟨hz, by omega⟩
    obtain ⟨m, fr⟩ := front_ex hb (tl z)
    have sd := shaped_dec b (tl z) m
    have sn := shaped_nxt hb (tl z) m
    refine lam_in tb (fun H1 g1 => ?_)
    intro p0 hp0
    walk_at "rds"
    refine told_dec T hb hW fr (fun q1 H2 s2 d1 => ?_)
    walk_at "rdn"
    rename_i L1 hL1
    refine ⟨.inl ⟨rfl, _, SqL.of upd_same⟩, ?_⟩
    refine lam_in (by walk_at "tb") (fun H3 g3 => ?_)
    intro p2 hp2
    walk_at "rds"
    refine told_nxt T hb hW (by omega) fr (fun q3 H4 s4 d3 => ?_)
    walk_at "rds"
    refine ⟨L1, _, _, rfl, rfl, by walk_at "lk", by walk_at "sz", ?_⟩
    walk_at "rds"
    refine lam_in (by walk_at "tb") (fun H5 g5 => ?_)
    intro p5 hp5
    walk_at "rds"
    refine told_dec T hb hW fr (fun q5 H6 s6 d5 => ?_)
    walk_at "rdn"
    rename_i L2 hL2
    refine ⟨.inl ⟨rfl, _, SqL.of upd_same⟩, ?_⟩
    refine lam_in (by walk_at "tb") (fun H7 g7 => ?_)
    intro p7 hp7
    walk_at "rds"
    refine told_nxt T hb hW (by omega) fr (fun q7 H8 s8 d7 => ?_)
    walk_at "rds"
    refine ⟨L2, _, _, rfl, rfl, by walk_at "lk", by walk_at "sz", ?_⟩
    walk_at "rds"
    refine ⟨_, _, by walk_at "dp", by walk_at "dp", ?sh, ?sh, ?_⟩
    case sh =>
      refine shaped_l2 sd sn (Nat.le_trans (m := 2) ?_ (by decide)) (Nat.le_trans (m := 2) ?_ (by decide))
      · unfold decD
        split <;> exact Nat.le_of_ble_eq_true rfl
      · unfold nxtD
        split <;> exact Nat.le_of_ble_eq_true rfl
    rw [eqv_same (shaped_l2 sd sn (by unfold decD; split <;> exact Nat.le_of_ble_eq_true rfl) (by unfold nxtD; split <;> exact Nat.le_of_ble_eq_true rfl))]
    exact q _ (by walk_at "fr")

end
end K4

namespace K4
open PySem PySem.Spec PyProof.Rows L2 Mx
/-! ### the law -/
open TL Num
theorem nobase_ext {K : PySem.W.Frag} {H H' : Hp} {v : V} (h : NoBase K H v) (g : LamX.ExtN H H') : NoBase K H' v := h.imp (fun ⟨t, a, b⟩ => ⟨t, ty_ext a g, b⟩) id
theorem nostr_ext {K : PySem.W.Frag} {H H' : Hp} {v : V} (h : NoStr K H v) (g : LamX.ExtN H H') : NoStr K H' v := let ⟨t, a, b⟩ := h; ⟨t, ty_ext a g, b⟩
def oddDs : List PyData := [.none, .bool true, .int 2, .int 8, .str "10", .tuple [.int 10], .list [.int 16], .dict [], .int 0, .int (0 - 10), .int ((10 : Int) ^ Int.toNat 30)]
theorem odd_ok : ∀ d ∈ oddDs, (PyData.list [.tuple [.str "number", d], .tuple [.str "number", d]]).showable = true ∧ (PyData.list [.tuple [.str "number", d], .tuple [.str "number", d]]).depth ≤ 60 ∧ (PyData.list [.tuple [.str "number", d], .tuple [.str "number", d]]).shown.length ≤ sizeLine := by decide +kernel
theorem w4_of {z : Str} (h : ((tl z).all (fun c => decide (c < 128)) && decide ((tl z).length ≤ 1000)) = true) : W4 z := by
  rw [Bool.and_eq_true, List.all_eq_true] at h
  exact ⟨fun c hc => of_decide_eq_true (h.1 c hc), of_decide_eq_true h.2⟩
theorem dg_asc {b n : Nat} (hb : Base b) (hn : n < 131) : ∀ c ∈ dg b n, c < 128 := by
  have k10 : ∀ n, n < 131 → ∀ c ∈ dg 10 n, c < 128 := by decide +kernel
  have k16 : ∀ n, n < 131 → ∀ c ∈ dg 16 n, c < 128 := by decide +kernel
  rcases hb with rfl | rfl
  · exact k10 n hn
  · exact k16 n hn
theorem up_asc {z : Str} (h : Asc z) : Asc (Txt.upper z) ∧ (tl (Txt.upper z)).length = (tl z).length := by
  have e : tl (Txt.upper z) = (tl z).map up1 := by
    rw [upper_ascii h]
    show (z.cps.map up1).toList = _
    rw [Array.toList_map]
  have k : ∀ c, c < 128 → up1 c < 128 := by decide +kernel
  refine ⟨fun c hc => ?_, by rw [e, List.length_map]⟩
  rw [e] at hc
  obtain ⟨d, hd, rfl⟩ := List.mem_map.mp hc
  exact k d (h d hd)
def sp_law (K : PySem.W.Frag) (Tb : List (Addr × Str)) : Sp := fun vs H Q _ => ∃ (a : Addr) (ns : List Int), vs = [.ref a] ∧ LsX K H a (ns.map V.int) ∧ ns.length ≤ 63 ∧ LamX.Tabs Tb H ∧ ∀ H', Q (.bl true) H'

local macro_rules | `(tactic| walk_at "sz") => `(tactic| first | assumption | decide | omega | (unfold sizeLine; omega) | exact Nat.le_of_ble_eq_true rfl)
local macro_rules | `(tactic| walk_at "hp") => `(tactic| (first | assumption | exact upd_same | (rw [upd_ne (by assumption)]; assumption)))
local macro_rules | `(tactic| walk_at "rd") => `(tactic| (first
  | refine ⟨_, rfl, ?_⟩
  | (refine ⟨_, _, rfl, rfl, ?rdc, ?_⟩; (case rdc => first | (show (0 : Int) < _; omega) | (exact ⟨by omega, by omega⟩) | (exact .inl ⟨by omega, by omega⟩) | (exact .inr ⟨by omega, by omega⟩) | exact ⟨by decide, by decide, by decide⟩))
  | refine ⟨_, _, rfl, rfl, ?_⟩
  | refine .inl ⟨_, rfl, ?_⟩
  | refine ⟨rfl, ?_⟩
  | refine ⟨⟨_, rfl⟩, ?_⟩
  | refine ⟨⟨_, SqL.of (by walk_at "hp")⟩, ?_⟩
  | refine ⟨_, _, _, _, rfl, rfl, SqL.of (by walk_at "hp"), (by rfl), ?_⟩
  | refine ⟨_, _, _, _, rfl, rfl, (by walk_at "hp"), (by rfl), ?_⟩
  | refine ⟨_, _, rfl, ⟨by walk_at "sz", rfl⟩, ?_⟩
  | refine ⟨_, _, _, rfl, rfl, by walk_at "sz", by assumption, ?_⟩
  | refine And.intro (by walk_at "sz") ?_
  | refine itT rfl ?_
  | refine itF rfl ?_
  | refine itT (by assumption) ?_
  | refine itF (by assumption) ?_
  | refine itT (decide_eq_true (by omega)) ?_
  | refine itF (decide_eq_false (by omega)) ?_
  | refine itT (dVi (by omega)) ?_
  | refine itF (dViN (by omega)) ?_
  | refine itT (notT (by assumption)) ?_
  | refine itF (notF (by assumption)) ?_
  | refine itT (notT (dViN (by omega))) ?_
  | refine itF (notF (dVi (by omega))) ?_
  | refine itT (decide_eq_true rfl) ?_
  | refine itF (notF (decide_eq_true rfl)) ?_
  | refine ite2 (fun _ => ?_) (fun _ => ?_)
  | with_reducible refine tC_ ?_
  | with_reducible refine tNext_ ?_
  | with_reducible refine tNil_ ?_
  | with_reducible refine tYes_ ?_))
local macro_rules | `(tactic| walk_at "rds") => `(tactic| repeat' (walk_at "rd"))
section
variable {P : Program} {w : World} {K : PySem.W.Frag} {mg : Str → Option Value} {base : Heap}

local macro_rules | `(tactic| walk_at "lk") => `(tactic| first
  | with_reducible assumption
  | with_reducible exact upd_same
  | (walk_at "lk1"; walk_at "lk")
  | fail "lk")
local macro_rules | `(tactic| walk_at "lk1") => `(tactic| first
  | ((with_reducible refine' lk_new ?a1 ?a2); (case a1 => with_reducible assumption); (case' a2 => skip))
  | ((with_reducible refine' lk_ne ?a1 ?a2); (case a1 => with_reducible assumption); (case' a2 => skip))
  | ((with_reducible refine' lk_neN ?a1 ?a2 ?a3); (case a1 => with_reducible assumption); (case a2 => walk_at "lk"); (case' a3 => skip))
  | ((with_reducible refine' lk_neN' ?a1 ?a2 ?a3); (case a1 => with_reducible assumption); (case a2 => walk_at "lk"); (case' a3 => skip))
  | ((with_reducible refine' lk_same ?a1 ?a2); (case a1 => with_reducible assumption); (case' a2 => skip))
  | ((with_reducible refine' lk_go ?a1 ?a2 ?a3); (case a1 => with_reducible assumption); (case a2 => walk_at "nt"); (case' a3 => skip))
  | ((with_reducible refine' lk_kp_nl ?a1 ?a2 ?a3 ?a4); (case a1 => with_reducible assumption); (case a2 => walk_at "st"); (case a3 => walk_at "nl"); (case' a4 => skip))
  | ((with_reducible refine' lk_kp ?a1 ?a2 ?a3); (case a1 => with_reducible assumption); (case a2 => walk_at "ne"); (case' a3 => skip))
  | fail "lk1")
local macro_rules | `(tactic| walk_at "nt") => `(tactic| first
  | (intro _ z; cases z)
  | fail "nt")
local macro_rules | `(tactic| walk_at "nl") => `(tactic| first
  | (intro _ z; cases z)
  | fail "nl")
local macro_rules | `(tactic| walk_at "ne") => `(tactic| first
  | with_reducible assumption
  | ((with_reducible refine' ne_st ?a1 ?a2); (case a1 => with_reducible assumption); (case a2 => walk_at "st"))
  | fail "ne")
local macro_rules | `(tactic| walk_at "st") => `(tactic| first
  | with_reducible assumption
  | with_reducible exact st_new (by with_reducible assumption) (by walk_at "st")
  | with_reducible exact st_same (by with_reducible assumption) (by walk_at "st")
  | with_reducible exact st_go (by with_reducible assumption) (by walk_at "st")
  | with_reducible exact st_ne (by walk_at "ns") (by walk_at "st")
  | fail "st")
local macro_rules | `(tactic| walk_at "ns") => `(tactic| first
  | with_reducible assumption
  | with_reducible exact Ne.symm (by with_reducible assumption)
  | with_reducible exact Ne.symm (ne_st (by with_reducible assumption) (by walk_at "st"))
  | fail "ns")
local macro_rules | `(tactic| walk_at "fr") => `(tactic| first
  | with_reducible assumption
  | with_reducible exact Same.refl _
  | with_reducible exact Go.refl _ _
  | with_reducible exact Kp.refl _ _
  | with_reducible exact LamX.ExtN.refl _
  | with_reducible exact nw_refl
  | (walk_at "fr1"; walk_at "fr")
  | fail "fr")
local macro_rules | `(tactic| walk_at "fr1") => `(tactic| first
  | ((with_reducible refine' fr_new ?a1 ?a2); (case a1 => with_reducible assumption); (case' a2 => skip))
  | ((with_reducible refine' go_new ?a1 ?a2); (case a1 => with_reducible assumption); (case' a2 => skip))
  | ((with_reducible refine' kp_new ?a1 ?a2); (case a1 => with_reducible assumption); (case' a2 => skip))
  | ((with_reducible refine' fr_same ?a1 ?a2); (case a1 => with_reducible assumption); (case' a2 => skip))
  | ((with_reducible refine' go_same ?a1 ?a2); (case a1 => with_reducible assumption); (case' a2 => skip))
  | ((with_reducible refine' kp_same ?a1 ?a2); (case a1 => with_reducible assumption); (case' a2 => skip))
  | ((with_reducible refine' go_go ?a1 ?a2); (case a1 => with_reducible assumption); (case' a2 => skip))
  | ((with_reducible refine' go_kp ?a1 ?a2 ?a3 ?a4); (case a1 => with_reducible assumption); (case a2 => with_reducible assumption); (case a3 => walk_at "st"); (case' a4 => skip))
  | ((with_reducible refine' kp_kp ?a1 ?a2); (case a1 => with_reducible assumption); (case' a2 => skip))
  | ((with_reducible refine' kp_upd ?a1); (case' a1 => skip))
  | ((with_reducible refine' go_set2 ?a1 ?a2 ?a3 ?a4); (case a1 => walk_at "lk"); (case a2 => with_reducible assumption); (case a3 => walk_at "fr"); (case' a4 => skip))
  | ((with_reducible refine' fr_set2 ?a1 ?a2 ?a3); (case a1 => with_reducible assumption); (case a2 => walk_at "fr"); (case' a3 => skip))
  | ((with_reducible refine' en_new ?a1 ?a2); (case a1 => with_reducible assumption); (case' a2 => skip))
  | ((with_reducible refine' en_same ?a1 ?a2); (case a1 => with_reducible assumption); (case' a2 => skip))
  | ((with_reducible refine' en_go ?a1 ?a2); (case a1 => with_reducible assumption); (case' a2 => skip))
  | ((with_reducible refine' en_set2 ?a1 ?a2 ?a3); (case a1 => with_reducible assumption); (case a2 => walk_at "fr"); (case' a3 => skip))
  | ((with_reducible refine' en_kp ?a1 ?a2 ?a3 ?a4); (case a1 => with_reducible assumption); (case a2 => with_reducible assumption); (case a3 => walk_at "fr"); (case' a4 => skip))
  | ((with_reducible refine' nw_new ?a1 ?a2); (case a1 => with_reducible assumption); (case' a2 => skip))
  | ((with_reducible refine' nw_same ?a1 ?a2); (case a1 => with_reducible assumption); (case' a2 => skip))
  | ((with_reducible refine' nw_go ?a1 ?a2); (case a1 => with_reducible assumption); (case' a2 => skip))
  | ((with_reducible refine' nw_kp ?a1 ?a2 ?a3); (case a1 => with_reducible assumption); (case a2 => walk_at "st"); (case' a3 => skip))
  | ((with_reducible refine' nw_set ?a1 ?a2); (case a1 => walk_at "lk"); (case' a2 => skip))
  | ((with_reducible refine' nw_set2 ?a1 ?a2 ?a3); (case a1 => with_reducible assumption); (case a2 => walk_at "fr"); (case' a3 => skip))
  | fail "fr1")
local macro_rules | `(tactic| walk_at "tb") => `(tactic| first
  | with_reducible assumption
  | (walk_at "tb1"; walk_at "tb")
  | fail "tb")
local macro_rules | `(tactic| walk_at "tb1") => `(tactic| first
  | ((with_reducible refine' tabs_new ?a1 ?a2); (case a1 => with_reducible assumption); (case' a2 => skip))
  | ((with_reducible refine' tabs_same ?a1 ?a2); (case a1 => with_reducible assumption); (case' a2 => skip))
  | ((with_reducible refine' tabs_go ?a1 ?a2); (case a1 => with_reducible assumption); (case' a2 => skip))
  | ((with_reducible refine' tabs_kp ?a1 ?a2 ?a3); (case a1 => with_reducible assumption); (case a2 => walk_at "st"); (case' a3 => skip))
  | ((with_reducible refine' tabs_set ?a1 ?a2); (case a1 => walk_at "lk"); (case' a2 => skip))
  | fail "tb1")
local macro_rules | `(tactic| walk_at "dg") => `(tactic| first
  | assumption
  | (refine' dp_ext ?a1 ?a2; (case a1 => assumption); (case a2 => walk_at "fr"))
  | (refine' dn_use ?a1 ?a2; (case a1 => assumption); (case a2 => walk_at "fr"))
  | fail "dg")
local macro_rules | `(tactic| walk_at "dp") => `(tactic| first
  | assumption
  | exact .str _
  | exact .int _
  | exact .bl _
  | exact .non
  | (refine' Dp.lst (SqL.of ?a1) ?a2; (case a1 => walk_at "lk"); (case a2 => walk_at "dpa"))
  | (refine' Dp.tup (SqT.of ?a1) ?a2; (case a1 => walk_at "lk"); (case a2 => walk_at "dpa"))
  | (walk_at "dg")
  | fail "dp")
local macro_rules | `(tactic| walk_at "dpa") => `(tactic| first
  | assumption
  | exact .nil
  | (refine' DpAll.cons ?a1 ?a2; (case a1 => walk_at "dp"); (case a2 => walk_at "dpa"))
  | fail "dpa")
local macro_rules | `(tactic| walk_at "dx") => `(tactic| first
  | assumption
  | exact .str _
  | exact .int _
  | exact .bl _
  | exact .non
  | (refine' Dx.lst (SqL.of ?a1) ?a2; (case a1 => walk_at "lk"); (case a2 => walk_at "dxa"))
  | (refine' Dx.tup (SqT.of ?a1) ?a2; (case a1 => walk_at "lk"); (case a2 => walk_at "dxa"))
  | (refine' Dx.dct (.inl ?a1) ?a2; (case a1 => walk_at "lk"); (case a2 => exact .nil))
  | (refine' dx_ext ?a1 ?a2; (case a1 => assumption); (case a2 => walk_at "fr"))
  | fail "dx")
local macro_rules | `(tactic| walk_at "dxa") => `(tactic| first
  | assumption
  | exact .nil
  | (refine' DxAll.cons ?a1 ?a2; (case a1 => walk_at "dx"); (case a2 => walk_at "dxa"))
  | fail "dxa")
local macro_rules | `(tactic| walk_at "ty") => `(tactic| first
  | assumption
  | (refine' ty_ext ?a1 ?a2; (case a1 => assumption); (case a2 => walk_at "fr"))
  | fail "ty")
local macro_rules | `(tactic| walk_at "shp") => `(tactic| first
  | assumption
  | (simp only [SeqAt.shaped, lay_l, lay_t, lay_i, lay_b, lay_n, lay_c, lay_e, PyData.depth, PyData.depthAll, Bool.and_true, Bool.true_and, Bool.and_eq_true, decide_eq_true_eq]
     repeat' (first | assumption | (refine And.intro ?_ ?_) | (exact rfl) | (decide +kernel) | omega))
  | decide +kernel)
local macro_rules | `(tactic| walk_at "side") => `(tactic| first
  | assumption
  | (intros; trivial)
  | omega
  | (walk_at "lk")
  | (walk_at "st")
  | (walk_at "sz")
  | (walk_at "tb")
  | (walk_at "fr"))
local macro_rules | `(tactic| walk_at "cl") => `(tactic| ((repeat' (apply Exists.intro)); refine And.intro rfl ?_; repeat (refine And.intro (by walk_at "side") ?_)))
local macro_rules | `(tactic| walk_at "eqd") => `(tactic| (refine ⟨_, _, by walk_at "dp", by walk_at "dp", by walk_at "shp", by walk_at "shp", ?_⟩; rw [eqv_same (by walk_at "shp")]))
local macro_rules | `(tactic| walk_at "new") => `(tactic| refine fun (p : Addr) (hp : (_ : Hp) p = none) => ?_)
local macro_rules | `(tactic| walk_at "rdn") => `(tactic| (repeat' (first | walk_at "rd" | walk_at "new")))

theorem ok_law (T : Tx P w K mg base) {cL PL : Addr} {f : Addr} {fd : FuncData} {Tb : List (Addr × Str)} (hm : (PL, ("law.<locals>.<lambda>" : Str)) ∈ Tb) (hu : ∀ p ∈ Tb, p.1 = PL → p.2 = ("law.<locals>.<lambda>" : Str)) (F : FunC K "law" s_law f fd cL) (TB : LamX.TabB base mg cL PL) (G__law_table : FnOk P w K mg base CX0 3 T.d__law_table.f T.d__law_table.fd ["radix"] sp__law_table) (G__law_digits : FnOk P w K mg base CX0 1 T.d__law_digits.f T.d__law_digits.fd ["code", "radix"] sp__law_digits) (G__law_right : Mx.FnG P w K mg base CX0 9 T.d__law_right.f T.d__law_right.fd ["word", "radix", "table"] (sp__law_right K Tb)) (G__law_stream : FnOk P w K mg base CX0 2 T.d__law_stream.f T.d__law_stream.fd ["item", "k"] sp__law_stream) (G__law_draw : FnOk P w K mg base CX0 2 T.d__law_draw.f T.d__law_draw.fd ["stream", "top"] sp__law_draw) (G__law_word : FnOk P w K mg base CX0 4 T.d__law_word.f T.d__law_word.fd ["stream", "radix"] sp__law_word) (G__law_named_right : Mx.FnG P w K mg base CX0 9 T.d__law_named_right.f T.d__law_named_right.fd ["word", "radix"] (sp__law_named_right K Tb)) (G__law_pick : FnOk P w K mg base CX0 3 T.d__law_pick.f T.d__law_pick.fd ["stream", "some"] sp__law_pick) (G_decoded : FnOk P w K mg base (L2.CX P w) 5 T.d_decoded.f T.d_decoded.fd ["digits", "base"] (sp_decoded K T.a_InvalidText T.a_InvalidNumber)) (G_next_digits : FnOk P w K mg base (L2.CX P w) 5 T.d_next_digits.f T.d_next_digits.fd ["digits", "base"] (sp_next_digits K T.a_InvalidText T.a_InvalidNumber)) :
    FnG P w K mg base CX0 10 f fd ["script"] (sp_law K Tb) := by
  have sc := sc_law
  obtain ⟨oc, od, kV, doc, pm, an, cdT, ct, osl, fdT, lkT, cdT'⟩ := T.d__law_told.F.ex
  have bT := T.d__law_told.b
  have cdT := cdT'
  rw [fdT] at lkT bT
  refine okGC F sc (fun vs H Q E h => ?_) (fun A outer s H vs Q E hr h => ?_)
  · obtain ⟨a, ns, rfl, hs, hn, tb, q⟩ := h
    rfl
  · obtain ⟨a, ns, rfl, hs, hn, tb, q⟩ := h
    refine ⟨_, (pss_cons (ps_set (i := 1) sc.nd rfl (Or.inl rfl) (pe_lst (pa_cons (pe_call G__law_table (hr.r.mono (by decide)) rfl T.d__law_table.m T.d__law_table.F.kp T.d__law_table.b .nil pass0 (pa_cons pe_int pa_nil)) (pa_cons (pe_call G__law_table (hr.r.mono (by decide)) rfl T.d__law_table.m T.d__law_table.F.kp T.d__law_table.b .nil pass0 (pa_cons pe_int pa_nil)) pa_nil))))
      (pss_cons (ps_for (passes_of rfl) rfl (pi_range1 rfl T.n_range (pa_cons pe_int pa_nil)) (pg_name (i := 2) sc.nd rfl (Or.inl rfl)) (pss_one (ps_for (passes_of rfl) rfl (pi_enumTup (by rfl) T.n_enumerate (pa_cons (pe_tup (pa_cons pe_int (pa_cons pe_int pa_nil))) pa_nil)) (pg_tup (by rfl) (pgs_cons (pg_name (i := 3) sc.nd rfl (Or.inl rfl)) (pgs_cons (pg_name (i := 4) sc.nd rfl (Or.inl rfl)) pgs_nil))) (pss_cons (ps_set (i := 5) sc.nd rfl (Or.inl rfl) (pe_op op_add_str (pe_op op_strMul pe_str (pe_op op_mod (pe_callTy call_int1 (by rfl) T.n_int (by decide +kernel) (pa_cons (pv 2) pa_nil)) pe_int)) (pe_call G__law_digits (hr.r.mono (by decide)) rfl T.d__law_digits.m T.d__law_digits.F.kp T.d__law_digits.b .nil pass0 (pa_cons (pv 2) (pa_cons (pv 4) pa_nil)))))
      (pss_one (ps_if (pt_not (pt_val (pg_call G__law_right (hr.mono (by decide)) rfl T.d__law_right.m T.d__law_right.F.kp T.d__law_right.b .nil pass0 (pa_cons (pe_ifExp (pt_cmpR op_gt (pe_op op_mod (pe_callTy call_int1 (by rfl) T.n_int (by decide +kernel) (pa_cons (pv 2) pa_nil)) pe_int) pe_int (nomark _)) (pv 5) (pe_upper (pv 5))) (pa_cons (pv 4) (pa_cons (pe_ix ix_list (pv 1) (pv 3) (fun _ _ => rfl)) pa_nil)))))) (pss_one (ps_ret pe_bl)) pss_nil))))))
      (pss_cons (ps_for (passes_of rfl) rfl (pi_enum (by rfl) T.n_enumerate (pa_cons (pe_slice sl_list (pe_op op_catR (pv 0) (pe_lst (pa_cons pe_int pa_nil))) po_none (po_some pe_int)) pa_nil)) (pg_tup (by rfl) (pgs_cons (pg_name (i := 6) sc.nd rfl (Or.inl rfl)) (pgs_cons (pg_name (i := 7) sc.nd rfl (Or.inl rfl)) pgs_nil))) (pss_cons (ps_set (i := 8) sc.nd rfl (Or.inl rfl) (pe_call G__law_stream (hr.r.mono (by decide)) rfl T.d__law_stream.m T.d__law_stream.F.kp T.d__law_stream.b .nil pass0 (pa_cons (pv 7) (pa_cons (pv 6) pa_nil))))
      (pss_cons (ps_for (passes_of rfl) rfl (pi_range1 rfl T.n_range (pa_cons pe_int pa_nil)) (pg_name (i := 9) sc.nd rfl (Or.inl rfl)) (pss_cons (ps_set (i := 3) sc.nd rfl (Or.inl rfl) (pe_call G__law_draw (hr.r.mono (by decide)) rfl T.d__law_draw.m T.d__law_draw.F.kp T.d__law_draw.b .nil pass0 (pa_cons (pv 8) (pa_cons pe_int pa_nil))))
      (pss_cons (ps_set (i := 4) sc.nd rfl (Or.inl rfl) (pe_ix ix_list (pe_lst (pa_cons pe_int (pa_cons pe_int pa_nil))) (pv 3) (fun _ _ => rfl)))
      (pss_cons (ps_set (i := 5) sc.nd rfl (Or.inl rfl) (pe_call G__law_word (hr.r.mono (by decide)) rfl T.d__law_word.m T.d__law_word.F.kp T.d__law_word.b .nil pass0 (pa_cons (pv 8) (pa_cons (pv 4) pa_nil))))
      (pss_one (ps_if (PW.pt (pw_or (pt_not (pt_val (pg_call G__law_right (hr.mono (by decide)) rfl T.d__law_right.m T.d__law_right.F.kp T.d__law_right.b .nil pass0 (pa_cons (pv 5) (pa_cons (pv 4) (pa_cons (pe_ix ix_list (pv 1) (pv 3) (fun _ _ => rfl)) pa_nil)))))) (pw_or1 (pt_not (pt_val (pg_call G__law_named_right (hr.mono (by decide)) rfl T.d__law_named_right.m T.d__law_named_right.F.kp T.d__law_named_right.b .nil pass0 (pa_cons (pv 5) (pa_cons (pv 4) pa_nil)))))))) (pss_one (ps_ret pe_bl)) pss_nil))))))
      (pss_cons (ps_set (i := 10) sc.nd rfl (Or.inr rfl) (pe_call G__law_pick (hr.r.mono (by decide)) rfl T.d__law_pick.m T.d__law_pick.F.kp T.d__law_pick.b .nil pass0 (pa_cons (pv 8) (pa_cons (pe_lst (pa_cons pe_non (pa_cons pe_bl (pa_cons pe_int (pa_cons pe_int (pa_cons pe_str (pa_cons (pe_tup (pa_cons pe_int pa_nil)) (pa_cons (pe_lst (pa_cons pe_int pa_nil)) (pa_cons pe_dnewK (pa_cons pe_int (pa_cons (pe_op op_sub pe_int pe_int) (pa_cons (pe_op op_pow pe_int pe_int) pa_nil)))))))))))) pa_nil))))
      (pss_cons (ps_set (i := 11) sc.nd rfl (Or.inl rfl) (pe_lst (pa_cons ((LamX.pe_lamcall (T := Tb) (k := 5) (c := cL) (P := PL) rfl T.d__law_told.m T.d__law_told.F.kp lkT cdT bT sc__law_told rfl (Or.inl rfl) (told_gives (X := _) T _ _ _) TB rfl hm hu (hr.r.mono (by decide)) (LamX.lamS_by (sc := defScope s_law) (by decide +kernel)) rfl (fun _ _ _ _ _ => rfl) (fun A outer s H E f c' hr2 => pe_call G_decoded (hr2.mono (by decide)) rfl T.d_decoded.m T.d_decoded.F.kp T.d_decoded.b .nil (passes_call (takes_of rfl rfl rfl rfl) fun _ _ _ _ z => z) (pa_cons pe_str (pa_cons (pv 10) pa_nil))))) pa_nil)))
      (pss_cons (ps_expr (pe_bm PySem.F.plainAttrs_list PySem.F.slot_list_append PySem.F.type_list_append mt_append (pv 11) (pa_cons ((LamX.pe_lamcall (T := Tb) (k := 5) (c := cL) (P := PL) rfl T.d__law_told.m T.d__law_told.F.kp lkT cdT bT sc__law_told rfl (Or.inl rfl) (told_gives (X := _) T _ _ _) TB rfl hm hu (hr.r.mono (by decide)) (LamX.lamS_by (sc := defScope s_law) (by decide +kernel)) rfl (fun _ _ _ _ _ => rfl) (fun A outer s H E f c' hr2 => pe_call G_next_digits (hr2.mono (by decide)) rfl T.d_next_digits.m T.d_next_digits.F.kp T.d_next_digits.b .nil (passes_call (takes_of rfl rfl rfl rfl) fun _ _ _ _ z => z) (pa_cons pe_str (pa_cons (pv 10) pa_nil))))) pa_nil)))
      (pss_cons (ps_if (pt_cmpR op_ne (pe_callB (call_reprX hr) (by rfl) T.n_repr (by decide +kernel) (pa_cons (pv 11) pa_nil)) (pe_callB (call_reprX hr) (by rfl) T.n_repr (by decide +kernel) (pa_cons (pe_op op_rep (pe_lst (pa_cons (pe_tup (pa_cons pe_str (pa_cons (pv 10) pa_nil))) pa_nil)) pe_int) pa_nil)) (nomark _)) (pss_one (ps_ret pe_bl)) pss_nil)
      (pss_cons (ps_set (i := 12) sc.nd rfl (Or.inr rfl) (pe_call G__law_pick (hr.r.mono (by decide)) rfl T.d__law_pick.m T.d__law_pick.F.kp T.d__law_pick.b .nil pass0 (pa_cons (pv 8) (pa_cons (pe_lst (pa_cons pe_non (pa_cons pe_bl (pa_cons pe_int (pa_cons (pe_tup (pa_cons pe_str pa_nil)) (pa_cons (pe_lst (pa_cons pe_str pa_nil)) (pa_cons pe_dnewK pa_nil))))))) pa_nil))))
      (pss_cons (ps_set (i := 11) sc.nd rfl (Or.inl rfl) (pe_lst (pa_cons ((LamX.pe_lamcall (T := Tb) (k := 5) (c := cL) (P := PL) rfl T.d__law_told.m T.d__law_told.F.kp lkT cdT bT sc__law_told rfl (Or.inl rfl) (told_gives (X := _) T _ _ _) TB rfl hm hu (hr.r.mono (by decide)) (LamX.lamS_by (sc := defScope s_law) (by decide +kernel)) rfl (fun _ _ _ _ _ => rfl) (fun A outer s H E f c' hr2 => pe_call G_decoded (hr2.mono (by decide)) rfl T.d_decoded.m T.d_decoded.F.kp T.d_decoded.b .nil (passes_call (takes_of rfl rfl rfl rfl) fun _ _ _ _ z => z) (pa_cons (pv 12) (pa_cons (pv 10) pa_nil))))) pa_nil)))
      (pss_cons (ps_expr (pe_bm PySem.F.plainAttrs_list PySem.F.slot_list_append PySem.F.type_list_append mt_append (pv 11) (pa_cons ((LamX.pe_lamcall (T := Tb) (k := 5) (c := cL) (P := PL) rfl T.d__law_told.m T.d__law_told.F.kp lkT cdT bT sc__law_told rfl (Or.inl rfl) (told_gives (X := _) T _ _ _) TB rfl hm hu (hr.r.mono (by decide)) (LamX.lamS_by (sc := defScope s_law) (by decide +kernel)) rfl (fun _ _ _ _ _ => rfl) (fun A outer s H E f c' hr2 => pe_call G_next_digits (hr2.mono (by decide)) rfl T.d_next_digits.m T.d_next_digits.F.kp T.d_next_digits.b .nil (passes_call (takes_of rfl rfl rfl rfl) fun _ _ _ _ z => z) (pa_cons (pv 12) (pa_cons (pv 10) pa_nil))))) pa_nil)))
      (pss_one (ps_if (pt_cmpR (op_neD hr.r.units) (pv 11) (pe_op op_rep (pe_lst (pa_cons (pe_tup (pa_cons pe_str (pa_cons pe_non pa_nil))) pa_nil)) pe_int) (nomark _)) (pss_one (ps_ret pe_bl)) pss_nil))))))))))))
      (pss_cons (ps_set (i := 13) sc.nd rfl (Or.inl rfl) (pe_lst (pa_cons (pe_call G_decoded (hr.r.mono (by decide)) rfl T.d_decoded.m T.d_decoded.F.kp T.d_decoded.b1 T.d_decoded.hd passL (pa_cons pe_str pa_nil)) (pa_cons (pe_call G_decoded (hr.r.mono (by decide)) rfl T.d_decoded.m T.d_decoded.F.kp T.d_decoded.b1 T.d_decoded.hd passL (pa_cons (pe_op op_add_str (pe_op op_strMul pe_str pe_int) pe_str) pa_nil)) (pa_cons (pe_call G_next_digits (hr.r.mono (by decide)) rfl T.d_next_digits.m T.d_next_digits.F.kp T.d_next_digits.b1 T.d_next_digits.hd passL (pa_cons pe_str pa_nil)) (pa_cons (pe_call G_decoded (hr.r.mono (by decide)) rfl T.d_decoded.m T.d_decoded.F.kp T.d_decoded.b .nil passL (pa_cons pe_str (pa_cons pe_int pa_nil))) pa_nil))))))
      (pss_one (ps_ret (pe_cmpR (op_eqD hr.r.units) (pv 13) (pe_lst (pa_cons pe_str (pa_cons pe_str (pa_cons pe_str (pa_cons pe_str pa_nil))))) (nomark _)))))))), ?_⟩
    walk_at "rds"
    refine ⟨.inl rfl, fun t0 H1 h0 s1 e0 => ?_⟩
    walk_at "rds"
    refine ⟨.inr rfl, fun t1 H2 h1 s2 e1 => ?_⟩
    walk_at "rds"
    intro tt htt
    have gT : Go Tb H (upd H2 tt (.lst [.ref t0, .ref t1])) := by walk_at "fr"
    have eT : upd H2 tt (.lst [.ref t0, .ref t1]) tt = some (.lst [.ref t0, .ref t1]) := upd_same
    have e0' : upd H2 tt (.lst [.ref t0, .ref t1]) t0 = some (.dK (kvOf (tab 10))) := by walk_at "lk"
    have e1' : upd H2 tt (.lst [.ref t0, .ref t1]) t1 = some (.dK (kvOf (tab 16))) := by walk_at "lk"
    have hs1 : LsX K (upd H2 tt (.lst [.ref t0, .ref t1])) a (ns.map V.int) := ((hs.keep fun o e => s1 _ _ e).keep fun o e => s2 _ _ e).keep fun o e => by rw [upd_ne (ne_of_none e htt)]; exact e
    have tbT := gT.2 tb
    generalize upd H2 tt (.lst [.ref t0, .ref t1]) = HT at *
    clear e0 e1 s1 s2 h0 h1 htt
    walk_at "rds"
    refine for_range (fun i σ H' => (∃ v2 v3 v4 v5, σ = [some (.ref a), some (.ref tt), v2, v3, v4, v5, none, none, none, none, none, none, none, none]) ∧ Go Tb HT H') ⟨⟨_, _, _, _, rfl⟩, Go.refl _ _⟩ ?_ ?_
    · rintro i σ H1 hi ⟨⟨v2, v3, v4, v5, rfl⟩, g1⟩
      have hi131 : i < 131 := hi
      simp only [Int.zero_add]
      walk_at "rds"
      intro tp htp
      refine ⟨tp, _, rfl, SqT.of upd_same, ?_⟩
      have ftp : upd H1 tp (.tup [.int 10, .int 16]) tp = some (.tup [.int 10, .int 16]) := upd_same
      have g2 : Go Tb HT (upd H1 tp (.tup [.int 10, .int 16])) := by walk_at "fr"
      generalize upd H1 tp (.tup [.int 10, .int 16]) = H2 at *
      refine for_eu (xs := [.int 10, .int 16]) (fun j σ H' => (∃ v3 v4 v5, σ = [some (.ref a), some (.ref tt), some (.int (i : Int)), v3, v4, v5, none, none, none, none, none, none, none, none]) ∧ Go Tb H2 H') ⟨⟨_, _, _, rfl⟩, Go.refl _ _⟩ (fun j σ H' h => SqT.of (h.2.tup ftp)) ?_ ?_
      · rintro j x tq σ H3 hj htq ⟨⟨v3, v4, v5, rfl⟩, g3⟩
        refine ⟨tq, [.int (j : Int), x], rfl, SqT.of upd_same, rfl, ?_⟩
        refine ⟨_, _, rfl, ?_⟩
        refine ⟨_, _, rfl, ?_⟩
        have ep : ∃ (b : Nat) (t : Addr), x = .int (b : Int) ∧ Base b ∧ HT t = some (.dK (kvOf (tab b))) ∧ atI ([.ref t0, .ref t1] : List V) (j : Int) = some (.ref t) := by
          match j, hj with
          | 0, hj => exact ⟨10, t0, (Option.some.inj hj).symm, .inl rfl, e0', rfl⟩
          | 1, hj => exact ⟨16, t1, (Option.some.inj hj).symm, .inr rfl, e1', rfl⟩
          | n + 2, hj => cases hj
        obtain ⟨b, t, rfl, hb, et, eat⟩ := ep
        walk_at "rds"
        intro z0 hz0
        have hz0 : tl z0 = List.replicate ((i : Int) % 4).toNat 48 := hz0
        walk_at "rds"
        refine ⟨i, b, rfl, hb, hi131, fun y hy => ?_⟩
        have hz0l : (tl z0).length ≤ 3 := by rw [hz0, List.length_replicate]; omega
        have hyl : (tl y).length ≤ 8 := by
          rw [hy]
          have := dg_len hb hi131
          omega
        have zl0 : z0.length = (tl z0).length := len_tl z0
        have yl0 : y.length = (tl y).length := len_tl y
        have zok : z0.length + y.length ≤ sizeLine := by rw [zl0, yl0]; unfold sizeLine; omega
        have asc : Asc (z0 ++ y) := fun c hc => by
          rw [tl_append, List.mem_append] at hc
          rcases hc with hc | hc
          · rw [hz0] at hc
            rw [List.eq_of_mem_replicate hc]
            decide
          · rw [hy] at hc
            exact dg_asc hb hi131 c hc
        have len : (tl (z0 ++ y)).length ≤ 11 := by rw [tl_append, List.length_append]; omega
        have zl2 : (z0 ++ y).length ≤ 5592405 := by rw [len_tl]; omega
        obtain ⟨ua, ul⟩ := up_asc asc
        have asc1 : LamX.Tabs Tb H3 := by walk_at "tb"
        have et3 : H3 t = some (.dK (kvOf (tab b))) := by walk_at "lk"
        walk_at "rds"
        · refine ⟨_, _, _, _, rfl, rfl, SqL.of (by walk_at "lk"), eat, ?_⟩
          walk_at "rds"
          refine ⟨_, t, b, rfl, hb, asc, by omega, by walk_at "lk", by walk_at "tb", fun H5 g5 => ?_⟩
          walk_at "rds"
          exact ⟨⟨_, _, _, rfl⟩, by walk_at "fr"⟩
        · refine ⟨_, _, _, _, rfl, rfl, SqL.of (by walk_at "lk"), eat, ?_⟩
          walk_at "rds"
          refine ⟨_, t, b, rfl, hb, ua, by omega, by walk_at "lk", by walk_at "tb", fun H5 g5 => ?_⟩
          walk_at "rds"
          exact ⟨⟨_, _, _, rfl⟩, by walk_at "fr"⟩
      · rintro σ H3 ⟨⟨v3, v4, v5, rfl⟩, g3⟩
        walk_at "rds"
        exact ⟨⟨_, _, _, _, rfl⟩, by walk_at "fr"⟩
    · rintro σ H1 ⟨⟨v2, v3, v4, v5, rfl⟩, g1⟩
      have eT1 : H1 tt = some (.lst [.ref t0, .ref t1]) := by walk_at "lk"
      have e01 : H1 t0 = some (.dK (kvOf (tab 10))) := by walk_at "lk"
      have e11 : H1 t1 = some (.dK (kvOf (tab 16))) := by walk_at "lk"
      have tb1 : LamX.Tabs Tb H1 := by walk_at "tb"
      have hsA := lsx_ext hs1 g1.1
      clear hs1 eT e0' e1' tbT g1 gT tb
      walk_at "rds"
      intro p1 hp1
      walk_at "rds"
      refine ⟨a, p1, _, _, rfl, rfl, lsx_ext hsA (by walk_at "fr"), .of upd_same, by rw [List.length_map]; unfold sizeLine; show ns.length + 1 ≤ _; omega, fun p2 hp2 => ?_⟩
      walk_at "rds"
      refine ⟨p2, _, rfl, SqL.of upd_same, fun p3 hp3 => ?_⟩
      have hx : ∀ x ∈ cutV (ns.map V.int ++ [.int 0]) none (some 8), ∃ z, x = .int z := fun x h => ints_mem (cutV_mem h)
      have hl : (cutV (ns.map V.int ++ [.int 0]) none (some 8)).length ≤ 8 := cutV_front _ 8
      generalize cutV (ns.map V.int ++ [.int 0]) none (some 8) = xs at *
      have tb3 : LamX.Tabs Tb (upd (upd (upd H1 p1 (.lst [.int 0])) p2 (.lst (ns.map V.int ++ [.int 0]))) p3 (.lst xs)) := by walk_at "tb"
      have eT3 : (upd (upd (upd H1 p1 (.lst [.int 0])) p2 (.lst (ns.map V.int ++ [.int 0]))) p3 (.lst xs)) tt = some (.lst [.ref t0, .ref t1]) := by walk_at "lk"
      have e03 : (upd (upd (upd H1 p1 (.lst [.int 0])) p2 (.lst (ns.map V.int ++ [.int 0]))) p3 (.lst xs)) t0 = some (.dK (kvOf (tab 10))) := by walk_at "lk"
      have e13 : (upd (upd (upd H1 p1 (.lst [.int 0])) p2 (.lst (ns.map V.int ++ [.int 0]))) p3 (.lst xs)) t1 = some (.dK (kvOf (tab 16))) := by walk_at "lk"
      have e3 : (upd (upd (upd H1 p1 (.lst [.int 0])) p2 (.lst (ns.map V.int ++ [.int 0]))) p3 (.lst xs)) p3 = some (.lst xs) := upd_same
      generalize (upd (upd (upd H1 p1 (.lst [.int 0])) p2 (.lst (ns.map V.int ++ [.int 0]))) p3 (.lst xs)) = H3 at *
      clear hp1 hp2 hp3 eT1 e01 e11 tb1 hsA
      walk_at "rds"
      refine ⟨p3, xs, rfl, SqL.of e3, ?_⟩
      refine for_it (walk_enum (xs := xs)) (fun i σ H' => (∃ v2 v3 v4 v5 v6 v7 v8 v9 v10 v11 v12, σ = [some (.ref a), some (.ref tt), v2, v3, v4, v5, v6, v7, v8, v9, v10, v11, v12, none]) ∧ Go Tb H3 H') ⟨⟨_, _, _, _, _, _, _, _, _, _, _, rfl⟩, Go.refl _ _⟩ (fun i σ H' _ hv => SqL.of (hv.2.lst e3)) ?_ ?_
      · rintro i x σ H4 H5 hi ⟨⟨v2, v3, v4, v5, v6, v7, v8, v9, v10, v11, v12, rfl⟩, g4⟩ ⟨t, y1, y2, rfl, ht, rfl, e4, e5⟩
        obtain rfl := Option.some.inj e4
        obtain ⟨z, rfl⟩ := hx _ (List.mem_of_getElem? e5)
        show gTup _ _ _ _ _ (upd H4 t (.tup [.int (i : Int), .int z])) _
        have tbB : LamX.Tabs Tb (upd H4 t (.tup [.int (i : Int), .int z])) := by walk_at "tb"
        have eTB : upd H4 t (.tup [.int (i : Int), .int z]) tt = some (.lst [.ref t0, .ref t1]) := by walk_at "lk"
        have e0B : upd H4 t (.tup [.int (i : Int), .int z]) t0 = some (.dK (kvOf (tab 10))) := by walk_at "lk"
        have e1B : upd H4 t (.tup [.int (i : Int), .int z]) t1 = some (.dK (kvOf (tab 16))) := by walk_at "lk"
        have gB : Go Tb H3 (upd H4 t (.tup [.int (i : Int), .int z])) := by walk_at "fr"
        have f5 : upd H4 t (.tup [.int (i : Int), .int z]) t = some (.tup [.int (i : Int), .int z]) := upd_same
        generalize upd H4 t (.tup [.int (i : Int), .int z]) = HB at *
        clear tb3 eT3 e03 e13 g4 ht
        refine ⟨t, [.int (i : Int), .int z], rfl, SqT.of f5, rfl, ?_⟩
        refine ⟨_, _, rfl, ?_⟩
        refine ⟨_, _, rfl, ?_⟩
        walk_at "rds"
        refine ⟨z, i, rfl, by omega, by omega, fun st H6 hst s6 sa => ?_⟩
        have ntt : tt ≠ st := ne_of_none eTB hst
        walk_at "rds"
        refine for_range (fun j σ H' => (∃ v3 v4 v5 v9 v10 v11 v12, σ = [some (.ref a), some (.ref tt), v2, v3, v4, v5, some (.int (i : Int)), some (.int z), some (.ref st), v9, v10, v11, v12, none]) ∧ Go Tb HB H' ∧ StAt st (101 * (j : Int)) H') ⟨⟨_, _, _, _, _, _, _, rfl⟩, Go.same s6, sa.mono (by decide)⟩ ?_ ?_
        · rintro j σ H7 hj ⟨⟨v3, v4, v5, v9, v10, v11, v12, rfl⟩, g7, sa7⟩
          have hj6 : j < 5 := hj
          walk_at "rds"
          refine ⟨st, _, _, rfl, sa7, by omega, by decide, by decide, fun r H8 r0 r1 kp8 sa8 => ?_⟩
          have ep : ∃ (b : Nat) (t : Addr), atI ([.int 10, .int 16] : List V) r = some (.int (b : Int)) ∧ Base b ∧ HB t = some (.dK (kvOf (tab b))) ∧ atI ([.ref t0, .ref t1] : List V) r = some (.ref t) := by
            rcases (by omega : r = 0 ∨ r = 1) with rfl | rfl
            · exact ⟨10, t0, rfl, .inl rfl, e0B, rfl⟩
            · exact ⟨16, t1, rfl, .inr rfl, e1B, rfl⟩
          obtain ⟨b, t2, ea1, hb, et, eat⟩ := ep
          walk_at "rdn"
          refine ⟨_, _, _, _, rfl, rfl, SqL.of upd_same, ea1, ?_⟩
          walk_at "rds"
          refine ⟨st, _, b, rfl, hb, by walk_at "st", by omega, fun wd H9 hw hw8 kp9 sa9 => ?_⟩
          walk_at "rds"
          refine ⟨_, _, _, _, rfl, rfl, SqL.of (by walk_at "lk"), eat, ?_⟩
          walk_at "rds"
          refine ⟨wd, t2, b, rfl, hb, hw8, by omega, by walk_at "lk", by walk_at "tb", fun H10 g10 => ?_⟩
          walk_at "rds"
          refine ⟨wd, b, rfl, hb, hw8, by omega, by walk_at "tb", fun H11 g11 => ?_⟩
          walk_at "rds"
          exact ⟨⟨_, _, _, _, _, _, _, rfl⟩, by walk_at "fr", StAt.mono (by walk_at "st") (by omega)⟩
        · rintro σ H7 ⟨⟨v3, v4, v5, v9, v10, v11, v12, rfl⟩, g7, sa7⟩
          have sa7' : StAt st 505 H7 := sa7
          walk_at "rds"
          intro pa hpa
          walk_at "rds"
          intro pb hpb
          walk_at "rds"
          intro pc hpc
          walk_at "rds"
          intro L hL
          walk_at "rds"
          have npb : pb ≠ st := ne_st hpb (by walk_at "st")
          have nL : L ≠ st := ne_st hL (by walk_at "st")
          have fa : (upd (upd (upd (upd H7 pa (.tup [.int 10])) pb (.lst [.int 16])) pc (.dK [])) L (.lst [.non, .bl true, .int 2, .int 8, .str "10", .ref pa, .ref pb, .ref pc, .int 0, .int (0 - 10), .int ((10 : Int) ^ Int.toNat 30)])) pa = some (.tup [.int 10]) := by walk_at "lk"
          have fb : (upd (upd (upd (upd H7 pa (.tup [.int 10])) pb (.lst [.int 16])) pc (.dK [])) L (.lst [.non, .bl true, .int 2, .int 8, .str "10", .ref pa, .ref pb, .ref pc, .int 0, .int (0 - 10), .int ((10 : Int) ^ Int.toNat 30)])) pb = some (.lst [.int 16]) := by walk_at "lk"
          have fc : (upd (upd (upd (upd H7 pa (.tup [.int 10])) pb (.lst [.int 16])) pc (.dK [])) L (.lst [.non, .bl true, .int 2, .int 8, .str "10", .ref pa, .ref pb, .ref pc, .int 0, .int (0 - 10), .int ((10 : Int) ^ Int.toNat 30)])) pc = some (.dK []) := by walk_at "lk"
          have fL : (upd (upd (upd (upd H7 pa (.tup [.int 10])) pb (.lst [.int 16])) pc (.dK [])) L (.lst [.non, .bl true, .int 2, .int 8, .str "10", .ref pa, .ref pb, .ref pc, .int 0, .int (0 - 10), .int ((10 : Int) ^ Int.toNat 30)])) L = some (.lst [.non, .bl true, .int 2, .int 8, .str "10", .ref pa, .ref pb, .ref pc, .int 0, .int (0 - 10), .int ((10 : Int) ^ Int.toNat 30)]) := upd_same
          have gL : Go Tb HB (upd (upd (upd (upd H7 pa (.tup [.int 10])) pb (.lst [.int 16])) pc (.dK [])) L (.lst [.non, .bl true, .int 2, .int 8, .str "10", .ref pa, .ref pb, .ref pc, .int 0, .int (0 - 10), .int ((10 : Int) ^ Int.toNat 30)])) := by walk_at "fr"
          have saL : StAt st 505 (upd (upd (upd (upd H7 pa (.tup [.int 10])) pb (.lst [.int 16])) pc (.dK [])) L (.lst [.non, .bl true, .int 2, .int 8, .str "10", .ref pa, .ref pb, .ref pc, .int 0, .int (0 - 10), .int ((10 : Int) ^ Int.toNat 30)])) := by walk_at "st"
          generalize upd (upd (upd (upd H7 pa (.tup [.int 10])) pb (.lst [.int 16])) pc (.dK [])) L (.lst [.non, .bl true, .int 2, .int 8, .str "10", .ref pa, .ref pb, .ref pc, .int 0, .int (0 - 10), .int ((10 : Int) ^ Int.toNat 30)]) = HL at *
          clear hpa hpb hpc hL sa7 sa7' g7 sa s6
          refine ⟨st, _, .ref L, rfl, saL, by omega, .inl ⟨L, _, rfl, nL, fL, Nat.succ_pos _, (by show 11 < 1000000; decide), fun jo x H8 hj kp8 sa8 => ?_⟩⟩
          have odd : NoBase K H8 x ∧ ∃ d, d ∈ oddDs ∧ Dx K H8 x d := by
            have hm := List.mem_of_getElem? hj
            simp only [List.mem_cons, List.not_mem_nil, or_false] at hm
            rcases hm with rfl | rfl | rfl | rfl | rfl | rfl | rfl | rfl | rfl | rfl | rfl
            · exact ⟨.inl ⟨"NoneType", .base .non, by decide +kernel⟩, _, List.mem_of_getElem? (rfl : oddDs[0]? = some _), .non⟩
            · exact ⟨.inr (.inl ⟨_, rfl⟩), _, List.mem_of_getElem? (rfl : oddDs[1]? = some _), .bl _⟩
            · exact ⟨.inr (.inr ⟨_, rfl, by decide, by decide⟩), _, List.mem_of_getElem? (rfl : oddDs[2]? = some _), .int _⟩
            · exact ⟨.inr (.inr ⟨_, rfl, by decide, by decide⟩), _, List.mem_of_getElem? (rfl : oddDs[3]? = some _), .int _⟩
            · exact ⟨.inl ⟨"str", .base (.str _), by decide +kernel⟩, _, List.mem_of_getElem? (rfl : oddDs[4]? = some _), .str _⟩
            · exact ⟨.inl ⟨"tuple", .base (.tup (by walk_at "lk")), by decide +kernel⟩, _, List.mem_of_getElem? (rfl : oddDs[5]? = some _), .tup (SqT.of (by walk_at "lk")) (.cons (.int _) .nil)⟩
            · exact ⟨.inl ⟨"list", .base (.lst (by walk_at "lk")), by decide +kernel⟩, _, List.mem_of_getElem? (rfl : oddDs[6]? = some _), .lst (SqL.of (by walk_at "lk")) (.cons (.int _) .nil)⟩
            · exact ⟨.inl ⟨"dict", .base (.dK (by walk_at "lk")), by decide +kernel⟩, _, List.mem_of_getElem? (rfl : oddDs[7]? = some _), .dct (.inl (by walk_at "lk")) .nil⟩
            · exact ⟨.inr (.inr ⟨_, rfl, by decide, by decide⟩), _, List.mem_of_getElem? (rfl : oddDs[8]? = some _), .int _⟩
            · exact ⟨.inr (.inr ⟨_, rfl, by decide, by decide⟩), _, List.mem_of_getElem? (rfl : oddDs[9]? = some _), .int _⟩
            · exact ⟨.inr (.inr ⟨_, rfl, by decide +kernel, by decide +kernel⟩), _, List.mem_of_getElem? (rfl : oddDs[10]? = some _), .int _⟩
          obtain ⟨nb, d, hd, dx⟩ := odd
          obtain ⟨sh1, sh2, sh3⟩ := odd_ok d hd
          have tb8 : LamX.Tabs Tb H8 := by walk_at "tb"
          have g8 : Go Tb HB H8 := by walk_at "fr"
          clear fa fb fc fL gL saL hj kp8 nL npb
          refine lam_in (by walk_at "tb") (fun H9 g9 => ?_)
          intro p0 hp0
          walk_at "rds"
          refine ⟨_, _, rfl, .inl (.inr ⟨"41", rfl, nobase_ext nb (by walk_at "fr"), fun H10 d1 s10 hd1 => ?_⟩)⟩
          refine told_number T upd_same (fun ax px hax hpx => ?_)
          walk_at "rds"
          intro L1 hL1
          walk_at "rds"
          refine ⟨.inl ⟨rfl, _, SqL.of upd_same⟩, ?_⟩
          refine lam_in (by walk_at "tb") (fun H11 g11 => ?_)
          intro p1 hp1
          walk_at "rds"
          refine ⟨_, _, rfl, .inl (.inr ⟨"4", rfl, nobase_ext nb (by walk_at "fr"), fun H12 d2 s12 hd2 => ?_⟩)⟩
          refine told_number T upd_same (fun ay py hay hpy => ?_)
          walk_at "rds"
          refine ⟨L1, _, _, rfl, rfl, by walk_at "lk", by walk_at "sz", ?_⟩
          dsimp only
          refine tCutIf (R := fun σ' H' => (∃ v11, σ' = [some (.ref a), some (.ref tt), v2, v3, v4, v5, some (.int (i : Int)), some (.int z), some (.ref st), v9, some x, v11, v12, none]) ∧ Go Tb HB H' ∧ StAt st 506 H' ∧ NoBase K H' x ∧ LamX.Tabs Tb H') ?_ (fun key => ?_)
          · clear tb8 g8 sa8 nb sh1 sh2 sh3 dx
            rintro σ' HN ⟨⟨v11, rfl⟩, gN, saN, nbN, tbN⟩
            walk_at "rds"
            intro pa hpa
            walk_at "rds"
            intro pb hpb
            walk_at "rds"
            intro pc hpc
            walk_at "rds"
            intro L hL
            walk_at "rds"
            have npb : pb ≠ st := ne_st hpb (by walk_at "st")
            have nL : L ≠ st := ne_st hL (by walk_at "st")
            have fa : (upd (upd (upd (upd HN pa (.tup [.str "4"])) pb (.lst [.str "4"])) pc (.dK [])) L (.lst [.non, .bl true, .int 65, .ref pa, .ref pb, .ref pc])) pa = some (.tup [.str "4"]) := by walk_at "lk"
            have fb : (upd (upd (upd (upd HN pa (.tup [.str "4"])) pb (.lst [.str "4"])) pc (.dK [])) L (.lst [.non, .bl true, .int 65, .ref pa, .ref pb, .ref pc])) pb = some (.lst [.str "4"]) := by walk_at "lk"
            have fc : (upd (upd (upd (upd HN pa (.tup [.str "4"])) pb (.lst [.str "4"])) pc (.dK [])) L (.lst [.non, .bl true, .int 65, .ref pa, .ref pb, .ref pc])) pc = some (.dK []) := by walk_at "lk"
            have fL : (upd (upd (upd (upd HN pa (.tup [.str "4"])) pb (.lst [.str "4"])) pc (.dK [])) L (.lst [.non, .bl true, .int 65, .ref pa, .ref pb, .ref pc])) L = some (.lst [.non, .bl true, .int 65, .ref pa, .ref pb, .ref pc]) := upd_same
            have gL : Go Tb HB (upd (upd (upd (upd HN pa (.tup [.str "4"])) pb (.lst [.str "4"])) pc (.dK [])) L (.lst [.non, .bl true, .int 65, .ref pa, .ref pb, .ref pc])) := by walk_at "fr"
            have saL : StAt st 506 (upd (upd (upd (upd HN pa (.tup [.str "4"])) pb (.lst [.str "4"])) pc (.dK [])) L (.lst [.non, .bl true, .int 65, .ref pa, .ref pb, .ref pc])) := by walk_at "st"
            have tbL : LamX.Tabs Tb (upd (upd (upd (upd HN pa (.tup [.str "4"])) pb (.lst [.str "4"])) pc (.dK [])) L (.lst [.non, .bl true, .int 65, .ref pa, .ref pb, .ref pc])) := by walk_at "tb"
            generalize upd (upd (upd (upd HN pa (.tup [.str "4"])) pb (.lst [.str "4"])) pc (.dK [])) L (.lst [.non, .bl true, .int 65, .ref pa, .ref pb, .ref pc]) = HL2 at *
            refine ⟨st, _, .ref L, rfl, saL, by omega, .inl ⟨L, _, rfl, nL, fL, Nat.succ_pos _, (by show 6 < 1000000; decide), fun jo y H8 hj kp8 sa8 => ?_⟩⟩
            have odd : NoStr K H8 y := by
              have hm := List.mem_of_getElem? hj
              simp only [List.mem_cons, List.not_mem_nil, or_false] at hm
              rcases hm with rfl | rfl | rfl | rfl | rfl | rfl
              · exact ⟨"NoneType", .base .non, by decide +kernel⟩
              · exact ⟨"bool", .base (.bl _), by decide +kernel⟩
              · exact ⟨"int", .base (.int _), by decide +kernel⟩
              · exact ⟨"tuple", .base (.tup (by walk_at "lk")), by decide +kernel⟩
              · exact ⟨"list", .base (.lst (by walk_at "lk")), by decide +kernel⟩
              · exact ⟨"dict", .base (.dK (by walk_at "lk")), by decide +kernel⟩
            have tb8 : LamX.Tabs Tb H8 := by walk_at "tb"
            have g8 : Go Tb HB H8 := by walk_at "fr"
            clear fa fb fc fL gL saL hj kp8 nL npb tbL
            refine lam_in (by walk_at "tb") (fun H9 g9 => ?_)
            intro p0 hp0
            walk_at "rds"
            refine ⟨_, _, rfl, .inl (.inl ⟨nostr_ext odd (by walk_at "fr"), fun H10 d1 s10 hd1 => ?_⟩)⟩
            refine told_text T upd_same (fun ax px hax hpx => ?_)
            walk_at "rds"
            intro L1 hL1
            walk_at "rds"
            refine ⟨.inl ⟨rfl, _, SqL.of upd_same⟩, ?_⟩
            refine lam_in (by walk_at "tb") (fun H11 g11 => ?_)
            intro p1 hp1
            walk_at "rds"
            refine ⟨_, _, rfl, .inl (.inl ⟨nostr_ext odd (by walk_at "fr"), fun H12 d2 s12 hd2 => ?_⟩)⟩
            refine told_text T upd_same (fun ay py hay hpy => ?_)
            walk_at "rds"
            refine ⟨L1, _, _, rfl, rfl, by walk_at "lk", by walk_at "sz", ?_⟩
            walk_at "rds"
            intro pn hpn
            walk_at "rds"
            intro pl hpl
            refine ⟨pl, 2, _, rfl, rfl, upd_same, by decide, by decide, by show 2 ≤ sizeLine; decide, fun pr hpr => ?_⟩
            walk_at "eqd"
            walk_at "rds"
            exact ⟨⟨_, _, _, _, _, _, _, _, _, _, _, rfl⟩, go_go (by walk_at "fr") gB⟩
          walk_at "rds"
          refine ⟨L1, [.tuple [.str "number", d], .tuple [.str "number", d]], rfl, by walk_at "dx", sh1, sh2, sh3, ?_⟩
          obtain ⟨shown, hsh⟩ : ∃ s, (PyData.list [.tuple [.str "number", d], .tuple [.str "number", d]]).shown = s := ⟨_, rfl⟩
          rw [hsh]
          walk_at "rds"
          intro pn hpn
          walk_at "rds"
          intro pl hpl
          refine ⟨pl, 2, _, rfl, rfl, upd_same, by decide, by decide, by show 2 ≤ sizeLine; decide, fun pr hpr => ?_⟩
          walk_at "rds"
          refine ⟨pr, [.tuple [.str "number", d], .tuple [.str "number", d]], rfl, by walk_at "dx", sh1, sh2, sh3, ?_⟩
          rw [hsh]
          refine ⟨rfl, _, rfl, itF (notF (decide_eq_true rfl)) ?_⟩
          refine key _ _ ?_
          exact ⟨⟨_, rfl⟩, by walk_at "fr", StAt.mono (st_go (Tb := Tb) (H := H8) (by walk_at "fr") sa8) (by decide), nobase_ext nb (by walk_at "fr"), by walk_at "tb"⟩
      · rintro σ H4 ⟨⟨v2, v3, v4, v5, v6, v7, v8, v9, v10, v11, v12, rfl⟩, g4⟩
        have b65 : begun 10 (tl "65") = true := by decide +kernel
        have c65 : chr 10 (short (tl "65")) = some 65 := by decide +kernel
        have b7e : begun 16 (tl "7e") = true := by decide +kernel
        have c7e : chr 16 (short (tl "7e")) = some 126 := by decide +kernel
        have b4 : begun 10 (tl "4") = true := by decide +kernel
        have n4 : (ordered 10).filter (fun c => begun 10 (tl "4" ++ [c])) = tl "0123456789" := by decide +kernel
        have w65 : W4 "65" := w4_of (by decide +kernel)
        have w7e : W4 "7e" := w4_of (by decide +kernel)
        have w4 : W4 "4" := w4_of (by decide +kernel)
        walk_at "rds"
        refine ⟨_, _, rfl, .inr ⟨"65", 10, rfl, rfl, .inl rfl, w65, fun H5 c5 s5 _ hc5 => ?_, fun k H5 d5 _ hno _ _ => (by rw [c65] at hno; cases hno b65)⟩⟩
        obtain rfl := Option.some.inj (hc5.symm.trans c65)
        walk_at "rds"
        intro zz hzz
        have hz9 : tl (zz ++ "9") = List.replicate 500 48 ++ [57] := by rw [tl_append, hzz]; rfl
        have b9 : begun 10 (tl (zz ++ "9")) = true := by
          rw [hz9]
          unfold begun
          rw [short_nz (fun c hc => List.eq_of_mem_replicate hc) (by decide)]
          decide +kernel
        have c9 : chr 10 (short (tl (zz ++ "9"))) = some 9 := by
          rw [hz9, short_nz (fun c hc => List.eq_of_mem_replicate hc) (by decide)]
          decide +kernel
        have w9 : W4 (zz ++ "9") := by
          refine ⟨fun c hc => ?_, by rw [hz9, List.length_append, List.length_replicate]; decide⟩
          rw [hz9, List.mem_append] at hc
          rcases hc with hc | hc
          · rw [List.eq_of_mem_replicate hc]; decide
          · rw [List.mem_singleton.mp hc]; decide
        have zz9 : zz.length + ("9" : Str).length ≤ sizeLine := by
          have : zz.length = 500 := by rw [len_tl, hzz, List.length_replicate]; rfl
          rw [this]
          decide
        refine ⟨_, _, rfl, rfl, zz9, ?_⟩
        walk_at "rds"
        refine ⟨_, _, rfl, .inr ⟨zz ++ "9", 10, rfl, rfl, .inl rfl, w9, fun H6 c6 s6 _ hc6 => ?_, fun k H5 d5 _ hno _ _ => (by rw [c9] at hno; cases hno b9)⟩⟩
        obtain rfl := Option.some.inj (hc6.symm.trans c9)
        walk_at "rds"
        refine ⟨_, _, rfl, .inr ⟨"4", 10, rfl, rfl, .inl rfl, w4, by decide +kernel, fun H7 y s7 _ hy => ?_, fun k H5 d5 hno _ _ _ => (by rw [b4] at hno; cases hno)⟩⟩
        obtain rfl : y = "0123456789" := Mx.str_ext (hy.trans n4)
        walk_at "rds"
        refine ⟨_, _, rfl, .inr ⟨"7e", 16, rfl, rfl, .inr rfl, w7e, fun H8 c8 s8 _ hc8 => ?_, fun k H5 d5 _ hno _ _ => (by rw [c7e] at hno; cases hno b7e)⟩⟩
        obtain rfl := Option.some.inj (hc8.symm.trans c7e)
        walk_at "rds"
        intro pl hpl
        walk_at "rds"
        intro pm hpm
        refine ⟨.list [.str "A", .str "\t", .str "0123456789", .str "~"], .list [.str "A", .str "\t", .str "0123456789", .str "~"], .lst (SqL.of (by rw [upd_ne (ne_of_none upd_same hpm)]; exact upd_same)) (.cons (.str _) (.cons (.str _) (.cons (.str _) (.cons (.str _) .nil)))), .lst (SqL.of upd_same) (.cons (.str _) (.cons (.str _) (.cons (.str _) (.cons (.str _) .nil)))), by decide +kernel, by decide +kernel, ?_⟩
        rw [eqv_same (by decide +kernel)]
        exact q _

end
end K4

namespace K4
open PySem PySem.Spec PyProof.Rows L2 Mx
local macro_rules | `(tactic| walk_at "sz") => `(tactic| first | assumption | decide | omega | (unfold sizeLine; omega) | exact Nat.le_of_ble_eq_true rfl)
local macro_rules | `(tactic| walk_at "hp") => `(tactic| (first | assumption | exact upd_same | (rw [upd_ne (by assumption)]; assumption)))
local macro_rules | `(tactic| walk_at "rd") => `(tactic| (first
  | refine ⟨_, rfl, ?_⟩
  | (refine ⟨_, _, rfl, rfl, ?rdc, ?_⟩; (case rdc => first | (show (0 : Int) < _; omega) | (exact ⟨by omega, by omega⟩) | (exact .inl ⟨by omega, by omega⟩) | (exact .inr ⟨by omega, by omega⟩) | exact ⟨by decide, by decide, by decide⟩))
  | refine ⟨_, _, rfl, rfl, ?_⟩
  | refine .inl ⟨_, rfl, ?_⟩
  | refine ⟨rfl, ?_⟩
  | refine ⟨⟨_, rfl⟩, ?_⟩
  | refine ⟨⟨_, SqL.of (by walk_at "hp")⟩, ?_⟩
  | refine ⟨_, _, _, _, rfl, rfl, SqL.of (by walk_at "hp"), (by rfl), ?_⟩
  | refine ⟨_, _, _, _, rfl, rfl, (by walk_at "hp"), (by rfl), ?_⟩
  | refine ⟨_, _, rfl, ⟨by walk_at "sz", rfl⟩, ?_⟩
  | refine ⟨_, _, _, rfl, rfl, by walk_at "sz", by assumption, ?_⟩
  | refine And.intro (by walk_at "sz") ?_
  | refine itT rfl ?_
  | refine itF rfl ?_
  | refine itT (by assumption) ?_
  | refine itF (by assumption) ?_
  | refine itT (decide_eq_true (by omega)) ?_
  | refine itF (decide_eq_false (by omega)) ?_
  | refine itT (dVi (by omega)) ?_
  | refine itF (dViN (by omega)) ?_
  | refine itT (notT (by assumption)) ?_
  | refine itF (notF (by assumption)) ?_
  | refine itT (notT (dViN (by omega))) ?_
  | refine itF (notF (dVi (by omega))) ?_
  | refine itT (decide_eq_true rfl) ?_
  | refine itF (notF (decide_eq_true rfl)) ?_
  | refine ite2 (fun _ => ?_) (fun _ => ?_)
  | with_reducible refine tC_ ?_
  | with_reducible refine tNext_ ?_
  | with_reducible refine tNil_ ?_
  | with_reducible refine tYes_ ?_))
local macro_rules | `(tactic| walk_at "rds") => `(tactic| repeat' (walk_at "rd"))
/-! ### the end -/
section
variable {P : Program} {w : World} {K : PySem.W.Frag} {mg : Str → Option Value} {base : Heap}
theorem ok_InvalidText___init__ {CM C fI : Addr} {fd : FuncData} (B : BaseT K mg "MarkupError" CM) (F : Fun K "__init__" "InvalidText.__init__" s_InvalidText___init__ fI fd) (fn : PySem.W.findIn K (.ref C) "index" = some none) : FnOk P w K mg base CX0 1 fI fd ["self", "index"] (spXI K C "index") := by
  have sc := sc_InvalidText___init__
  refine F.ok sc (fun vs H Q E h => ?_) (fun cdv A outer s H vs Q E hr h => ?_)
  · obtain ⟨a, y, rfl, _⟩ := h
    rfl
  · obtain ⟨a, y, rfl, ox, ha, q⟩ := h
    refine ⟨_, pss_cons (ps_expr (pe_minit B rfl (pa_cons (pv 0) (pa_cons pe_str pa_nil)))) (pss_one (ps_ost (pv 0) (pv 1))), ?_⟩
    walk_at "rds"
    refine ⟨a, C, _, rfl, (by show 1 ≤ 1000; decide), ox, ha, ?_⟩
    walk_at "rds"
    exact ⟨a, C, rfl, ox, fn, .inl ⟨ha, fun dx h1 h2 => q dx h1 h2⟩⟩

theorem ok_InvalidNumber___init__ {CM C fI : Addr} {fd : FuncData} (B : BaseT K mg "MarkupError" CM) (F : Fun K "__init__" "InvalidNumber.__init__" s_InvalidNumber___init__ fI fd) (fn : PySem.W.findIn K (.ref C) "number" = some none) : FnOk P w K mg base CX0 1 fI fd ["self", "number"] (spXI K C "number") := by
  have sc := sc_InvalidNumber___init__
  refine F.ok sc (fun vs H Q E h => ?_) (fun cdv A outer s H vs Q E hr h => ?_)
  · obtain ⟨a, y, rfl, _⟩ := h
    rfl
  · obtain ⟨a, y, rfl, ox, ha, q⟩ := h
    refine ⟨_, pss_cons (ps_expr (pe_minit B rfl (pa_cons (pv 0) (pa_cons pe_str pa_nil)))) (pss_one (ps_ost (pv 0) (pv 1))), ?_⟩
    walk_at "rds"
    refine ⟨a, C, _, rfl, (by show 1 ≤ 1000; decide), ox, ha, ?_⟩
    walk_at "rds"
    exact ⟨a, C, rfl, ox, fn, .inl ⟨ha, fun dx h1 h2 => q dx h1 h2⟩⟩

end
theorem all_mk {l : PySem.W.OpenLaw} {w : World} {K : PySem.W.Frag} {h : Heap} {mg : Str → Option Value} {fa : Addr} (X : K.In h) (G : h.Ns mainGlobals mg) (hfa : mg "law" = some (.ref fa))
    {f_shortened : Addr} {od_shortened an_shortened : Option Addr} {sl_shortened : Array (Option Value)} {oc_shortened kV_shortened dc_shortened pm_shortened cd_shortened ct_shortened : Value}
    {f_value_of : Addr} {od_value_of an_value_of : Option Addr} {sl_value_of : Array (Option Value)} {oc_value_of kV_value_of dc_value_of pm_value_of cd_value_of ct_value_of : Value}
    {f_is_code : Addr} {od_is_code an_is_code : Option Addr} {sl_is_code : Array (Option Value)} {oc_is_code kV_is_code dc_is_code pm_is_code cd_is_code ct_is_code : Value}
    {f_is_number_part : Addr} {od_is_number_part an_is_number_part : Option Addr} {sl_is_number_part : Array (Option Value)} {oc_is_number_part kV_is_number_part dc_is_number_part pm_is_number_part cd_is_number_part ct_is_number_part : Value}
    {f_character_of : Addr} {od_character_of an_character_of : Option Addr} {sl_character_of : Array (Option Value)} {oc_character_of kV_character_of dc_character_of pm_character_of cd_character_of ct_character_of : Value}
    {f_check_text : Addr} {od_check_text an_check_text : Option Addr} {sl_check_text : Array (Option Value)} {oc_check_text kV_check_text dc_check_text pm_check_text cd_check_text ct_check_text : Value}
    {f_check_base : Addr} {od_check_base an_check_base : Option Addr} {sl_check_base : Array (Option Value)} {oc_check_base kV_check_base dc_check_base pm_check_base cd_check_base ct_check_base : Value}
    {f_check_digits : Addr} {od_check_digits an_check_digits : Option Addr} {sl_check_digits : Array (Option Value)} {oc_check_digits kV_check_digits dc_check_digits pm_check_digits cd_check_digits ct_check_digits : Value}
    {f_decoded : Addr} {od_decoded an_decoded : Option Addr} {sl_decoded : Array (Option Value)} {oc_decoded kV_decoded dc_decoded pm_decoded dV_decoded cd_decoded ct_decoded : Value}
    {f_next_digits : Addr} {od_next_digits an_next_digits : Option Addr} {sl_next_digits : Array (Option Value)} {oc_next_digits kV_next_digits dc_next_digits pm_next_digits dV_next_digits cd_next_digits ct_next_digits : Value}
    {f__law_mixed : Addr} {od__law_mixed an__law_mixed : Option Addr} {sl__law_mixed : Array (Option Value)} {oc__law_mixed kV__law_mixed dc__law_mixed pm__law_mixed cd__law_mixed ct__law_mixed : Value}
    {f__law_stream : Addr} {od__law_stream an__law_stream : Option Addr} {sl__law_stream : Array (Option Value)} {oc__law_stream kV__law_stream dc__law_stream pm__law_stream cd__law_stream ct__law_stream : Value}
    {f__law_draw : Addr} {od__law_draw an__law_draw : Option Addr} {sl__law_draw : Array (Option Value)} {oc__law_draw kV__law_draw dc__law_draw pm__law_draw cd__law_draw ct__law_draw : Value}
    {f__law_signs : Addr} {od__law_signs an__law_signs : Option Addr} {sl__law_signs : Array (Option Value)} {oc__law_signs kV__law_signs dc__law_signs pm__law_signs cd__law_signs ct__law_signs : Value}
    {f__law_pick : Addr} {od__law_pick an__law_pick : Option Addr} {sl__law_pick : Array (Option Value)} {oc__law_pick kV__law_pick dc__law_pick pm__law_pick cd__law_pick ct__law_pick : Value}
    {f__law_told : Addr} {od__law_told an__law_told : Option Addr} {sl__law_told : Array (Option Value)} {oc__law_told kV__law_told dc__law_told pm__law_told cd__law_told ct__law_told : Value}
    {f__law_digits : Addr} {od__law_digits an__law_digits : Option Addr} {sl__law_digits : Array (Option Value)} {oc__law_digits kV__law_digits dc__law_digits pm__law_digits cd__law_digits ct__law_digits : Value}
    {f__law_table : Addr} {od__law_table an__law_table : Option Addr} {sl__law_table : Array (Option Value)} {oc__law_table kV__law_table dc__law_table pm__law_table cd__law_table ct__law_table : Value}
    {f__law_short : Addr} {od__law_short an__law_short : Option Addr} {sl__law_short : Array (Option Value)} {oc__law_short kV__law_short dc__law_short pm__law_short cd__law_short ct__law_short : Value}
    {f__law_is_begun : Addr} {od__law_is_begun an__law_is_begun : Option Addr} {sl__law_is_begun : Array (Option Value)} {oc__law_is_begun kV__law_is_begun dc__law_is_begun pm__law_is_begun cd__law_is_begun ct__law_is_begun : Value}
    {f__law_front : Addr} {od__law_front an__law_front : Option Addr} {sl__law_front : Array (Option Value)} {oc__law_front kV__law_front dc__law_front pm__law_front cd__law_front ct__law_front : Value}
    {f__law_right : Addr} {od__law_right an__law_right : Option Addr} {sl__law_right : Array (Option Value)} {oc__law_right kV__law_right dc__law_right pm__law_right ct__law_right : Value}
    {cL__law_right P__law_right : Addr}
    {f__law_named_right : Addr} {od__law_named_right an__law_named_right : Option Addr} {sl__law_named_right : Array (Option Value)} {oc__law_named_right kV__law_named_right dc__law_named_right pm__law_named_right ct__law_named_right : Value}
    {cL__law_named_right P__law_named_right : Addr}
    {f__law_word : Addr} {od__law_word an__law_word : Option Addr} {sl__law_word : Array (Option Value)} {oc__law_word kV__law_word dc__law_word pm__law_word cd__law_word ct__law_word : Value}
    {f_law : Addr} {od_law an_law : Option Addr} {sl_law : Array (Option Value)} {oc_law kV_law dc_law pm_law ct_law : Value}
    {cL_law P_law : Addr}
    {t_DIGITS : Tok}
    {t_HEXADECIMAL : Tok}
    {t_ORDERED : Tok}
    {t_SIGNS : Tok}
    {C_InvalidText : Addr}
    {C_InvalidNumber : Addr}
    {C_MarkupError : Addr}
    {C_MarkupStateError : Addr}
    {C_LimitError : Addr}
    {C_IllFormed : Addr}
    {C_InvalidKind : Addr}
    {nmE_InvalidText : _} {qnE_InvalidText : _} {NSE_InvalidText : _} {bsE_InvalidText : _} {snE_InvalidText : _} {subE_InvalidText : _} {abE_InvalidText : _} {colE_InvalidText : _} {ddE_InvalidText : _} {k0E_InvalidText : _} {k1E_InvalidText : _} {k2E_InvalidText : _} {k3E_InvalidText : _} {k5E_InvalidText : _}
    {I_InvalidText : Addr} {odI_InvalidText anI_InvalidText : Option Addr} {slI_InvalidText : Array (Option Value)} {ocI_InvalidText kVI_InvalidText dcI_InvalidText pmI_InvalidText cdI_InvalidText ctI_InvalidText : Value}
    {nmE_InvalidNumber : _} {qnE_InvalidNumber : _} {NSE_InvalidNumber : _} {bsE_InvalidNumber : _} {snE_InvalidNumber : _} {subE_InvalidNumber : _} {abE_InvalidNumber : _} {colE_InvalidNumber : _} {ddE_InvalidNumber : _} {k0E_InvalidNumber : _} {k1E_InvalidNumber : _} {k2E_InvalidNumber : _} {k3E_InvalidNumber : _} {k5E_InvalidNumber : _}
    {I_InvalidNumber : Addr} {odI_InvalidNumber anI_InvalidNumber : Option Addr} {slI_InvalidNumber : Array (Option Value)} {ocI_InvalidNumber kVI_InvalidNumber dcI_InvalidNumber pmI_InvalidNumber cdI_InvalidNumber ctI_InvalidNumber : Value}
    (tb__law_right : PySem.W.CodeHd h cL__law_right P__law_right)
    (tg__law_right : h.get? P__law_right = some { cls := .none, data := .fields #[] })
    (np__law_right : K.lookup P__law_right = none)
    (hu__law_right : ∀ p ∈ ([(P__law_right, "_law_right.<locals>.<lambda>"), (P__law_named_right, "_law_named_right.<locals>.<lambda>"), (P_law, "law.<locals>.<lambda>")] : List (Addr × Str)), p.1 = P__law_right → p.2 = ("_law_right.<locals>.<lambda>" : Str))
    (tb__law_named_right : PySem.W.CodeHd h cL__law_named_right P__law_named_right)
    (tg__law_named_right : h.get? P__law_named_right = some { cls := .none, data := .fields #[] })
    (np__law_named_right : K.lookup P__law_named_right = none)
    (hu__law_named_right : ∀ p ∈ ([(P__law_right, "_law_right.<locals>.<lambda>"), (P__law_named_right, "_law_named_right.<locals>.<lambda>"), (P_law, "law.<locals>.<lambda>")] : List (Addr × Str)), p.1 = P__law_named_right → p.2 = ("_law_named_right.<locals>.<lambda>" : Str))
    (tb_law : PySem.W.CodeHd h cL_law P_law)
    (tg_law : h.get? P_law = some { cls := .none, data := .fields #[] })
    (np_law : K.lookup P_law = none)
    (hu_law : ∀ p ∈ ([(P__law_right, "_law_right.<locals>.<lambda>"), (P__law_named_right, "_law_named_right.<locals>.<lambda>"), (P_law, "law.<locals>.<lambda>")] : List (Addr × Str)), p.1 = P_law → p.2 = ("law.<locals>.<lambda>" : Str))
    (a_shortened : PySem.W.nsIn K mainGlobals "shortened" = some (some (.ref f_shortened)))
    (l_shortened : K.lookup f_shortened = some ⟨oc_shortened, od_shortened, .func (PySem.W.fnOf "shortened" "shortened" (defArgs s_shortened) (defBody s_shortened) (defScope s_shortened) .none kV_shortened dc_shortened pm_shortened an_shortened cd_shortened ct_shortened), sl_shortened⟩)
    (c_shortened : PySem.W.codeIn K cd_shortened "shortened" = true)
    (k_shortened : PySem.W.keepIn K (.ref f_shortened) = true)
    (a_value_of : PySem.W.nsIn K mainGlobals "value_of" = some (some (.ref f_value_of)))
    (l_value_of : K.lookup f_value_of = some ⟨oc_value_of, od_value_of, .func (PySem.W.fnOf "value_of" "value_of" (defArgs s_value_of) (defBody s_value_of) (defScope s_value_of) .none kV_value_of dc_value_of pm_value_of an_value_of cd_value_of ct_value_of), sl_value_of⟩)
    (c_value_of : PySem.W.codeIn K cd_value_of "value_of" = true)
    (k_value_of : PySem.W.keepIn K (.ref f_value_of) = true)
    (a_is_code : PySem.W.nsIn K mainGlobals "is_code" = some (some (.ref f_is_code)))
    (l_is_code : K.lookup f_is_code = some ⟨oc_is_code, od_is_code, .func (PySem.W.fnOf "is_code" "is_code" (defArgs s_is_code) (defBody s_is_code) (defScope s_is_code) .none kV_is_code dc_is_code pm_is_code an_is_code cd_is_code ct_is_code), sl_is_code⟩)
    (c_is_code : PySem.W.codeIn K cd_is_code "is_code" = true)
    (k_is_code : PySem.W.keepIn K (.ref f_is_code) = true)
    (a_is_number_part : PySem.W.nsIn K mainGlobals "is_number_part" = some (some (.ref f_is_number_part)))
    (l_is_number_part : K.lookup f_is_number_part = some ⟨oc_is_number_part, od_is_number_part, .func (PySem.W.fnOf "is_number_part" "is_number_part" (defArgs s_is_number_part) (defBody s_is_number_part) (defScope s_is_number_part) .none kV_is_number_part dc_is_number_part pm_is_number_part an_is_number_part cd_is_number_part ct_is_number_part), sl_is_number_part⟩)
    (c_is_number_part : PySem.W.codeIn K cd_is_number_part "is_number_part" = true)
    (k_is_number_part : PySem.W.keepIn K (.ref f_is_number_part) = true)
    (a_character_of : PySem.W.nsIn K mainGlobals "character_of" = some (some (.ref f_character_of)))
    (l_character_of : K.lookup f_character_of = some ⟨oc_character_of, od_character_of, .func (PySem.W.fnOf "character_of" "character_of" (defArgs s_character_of) (defBody s_character_of) (defScope s_character_of) .none kV_character_of dc_character_of pm_character_of an_character_of cd_character_of ct_character_of), sl_character_of⟩)
    (c_character_of : PySem.W.codeIn K cd_character_of "character_of" = true)
    (k_character_of : PySem.W.keepIn K (.ref f_character_of) = true)
    (a_check_text : PySem.W.nsIn K mainGlobals "check_text" = some (some (.ref f_check_text)))
    (l_check_text : K.lookup f_check_text = some ⟨oc_check_text, od_check_text, .func (PySem.W.fnOf "check_text" "check_text" (defArgs s_check_text) (defBody s_check_text) (defScope s_check_text) .none kV_check_text dc_check_text pm_check_text an_check_text cd_check_text ct_check_text), sl_check_text⟩)
    (c_check_text : PySem.W.codeIn K cd_check_text "check_text" = true)
    (k_check_text : PySem.W.keepIn K (.ref f_check_text) = true)
    (a_check_base : PySem.W.nsIn K mainGlobals "check_base" = some (some (.ref f_check_base)))
    (l_check_base : K.lookup f_check_base = some ⟨oc_check_base, od_check_base, .func (PySem.W.fnOf "check_base" "check_base" (defArgs s_check_base) (defBody s_check_base) (defScope s_check_base) .none kV_check_base dc_check_base pm_check_base an_check_base cd_check_base ct_check_base), sl_check_base⟩)
    (c_check_base : PySem.W.codeIn K cd_check_base "check_base" = true)
    (k_check_base : PySem.W.keepIn K (.ref f_check_base) = true)
    (a_check_digits : PySem.W.nsIn K mainGlobals "check_digits" = some (some (.ref f_check_digits)))
    (l_check_digits : K.lookup f_check_digits = some ⟨oc_check_digits, od_check_digits, .func (PySem.W.fnOf "check_digits" "check_digits" (defArgs s_check_digits) (defBody s_check_digits) (defScope s_check_digits) .none kV_check_digits dc_check_digits pm_check_digits an_check_digits cd_check_digits ct_check_digits), sl_check_digits⟩)
    (c_check_digits : PySem.W.codeIn K cd_check_digits "check_digits" = true)
    (k_check_digits : PySem.W.keepIn K (.ref f_check_digits) = true)
    (a_decoded : PySem.W.nsIn K mainGlobals "decoded" = some (some (.ref f_decoded)))
    (l_decoded : K.lookup f_decoded = some ⟨oc_decoded, od_decoded, .func (PySem.W.fnOf "decoded" "decoded" (defArgs s_decoded) (defBody s_decoded) (defScope s_decoded) dV_decoded kV_decoded dc_decoded pm_decoded an_decoded cd_decoded ct_decoded), sl_decoded⟩)
    (q1_dfl_decoded : He.dflB K dV_decoded [.int 10] = true)
    (c_decoded : PySem.W.codeIn K cd_decoded "decoded" = true)
    (k_decoded : PySem.W.keepIn K (.ref f_decoded) = true)
    (a_next_digits : PySem.W.nsIn K mainGlobals "next_digits" = some (some (.ref f_next_digits)))
    (l_next_digits : K.lookup f_next_digits = some ⟨oc_next_digits, od_next_digits, .func (PySem.W.fnOf "next_digits" "next_digits" (defArgs s_next_digits) (defBody s_next_digits) (defScope s_next_digits) dV_next_digits kV_next_digits dc_next_digits pm_next_digits an_next_digits cd_next_digits ct_next_digits), sl_next_digits⟩)
    (q1_dfl_next_digits : He.dflB K dV_next_digits [.int 10] = true)
    (c_next_digits : PySem.W.codeIn K cd_next_digits "next_digits" = true)
    (k_next_digits : PySem.W.keepIn K (.ref f_next_digits) = true)
    (a__law_mixed : PySem.W.nsIn K mainGlobals "_law_mixed" = some (some (.ref f__law_mixed)))
    (l__law_mixed : K.lookup f__law_mixed = some ⟨oc__law_mixed, od__law_mixed, .func (PySem.W.fnOf "_law_mixed" "_law_mixed" (defArgs s__law_mixed) (defBody s__law_mixed) (defScope s__law_mixed) .none kV__law_mixed dc__law_mixed pm__law_mixed an__law_mixed cd__law_mixed ct__law_mixed), sl__law_mixed⟩)
    (c__law_mixed : PySem.W.codeIn K cd__law_mixed "_law_mixed" = true)
    (k__law_mixed : PySem.W.keepIn K (.ref f__law_mixed) = true)
    (a__law_stream : PySem.W.nsIn K mainGlobals "_law_stream" = some (some (.ref f__law_stream)))
    (l__law_stream : K.lookup f__law_stream = some ⟨oc__law_stream, od__law_stream, .func (PySem.W.fnOf "_law_stream" "_law_stream" (defArgs s__law_stream) (defBody s__law_stream) (defScope s__law_stream) .none kV__law_stream dc__law_stream pm__law_stream an__law_stream cd__law_stream ct__law_stream), sl__law_stream⟩)
    (c__law_stream : PySem.W.codeIn K cd__law_stream "_law_stream" = true)
    (k__law_stream : PySem.W.keepIn K (.ref f__law_stream) = true)
    (a__law_draw : PySem.W.nsIn K mainGlobals "_law_draw" = some (some (.ref f__law_draw)))
    (l__law_draw : K.lookup f__law_draw = some ⟨oc__law_draw, od__law_draw, .func (PySem.W.fnOf "_law_draw" "_law_draw" (defArgs s__law_draw) (defBody s__law_draw) (defScope s__law_draw) .none kV__law_draw dc__law_draw pm__law_draw an__law_draw cd__law_draw ct__law_draw), sl__law_draw⟩)
    (c__law_draw : PySem.W.codeIn K cd__law_draw "_law_draw" = true)
    (k__law_draw : PySem.W.keepIn K (.ref f__law_draw) = true)
    (a__law_signs : PySem.W.nsIn K mainGlobals "_law_signs" = some (some (.ref f__law_signs)))
    (l__law_signs : K.lookup f__law_signs = some ⟨oc__law_signs, od__law_signs, .func (PySem.W.fnOf "_law_signs" "_law_signs" (defArgs s__law_signs) (defBody s__law_signs) (defScope s__law_signs) .none kV__law_signs dc__law_signs pm__law_signs an__law_signs cd__law_signs ct__law_signs), sl__law_signs⟩)
    (c__law_signs : PySem.W.codeIn K cd__law_signs "_law_signs" = true)
    (k__law_signs : PySem.W.keepIn K (.ref f__law_signs) = true)
    (a__law_pick : PySem.W.nsIn K mainGlobals "_law_pick" = some (some (.ref f__law_pick)))
    (l__law_pick : K.lookup f__law_pick = some ⟨oc__law_pick, od__law_pick, .func (PySem.W.fnOf "_law_pick" "_law_pick" (defArgs s__law_pick) (defBody s__law_pick) (defScope s__law_pick) .none kV__law_pick dc__law_pick pm__law_pick an__law_pick cd__law_pick ct__law_pick), sl__law_pick⟩)
    (c__law_pick : PySem.W.codeIn K cd__law_pick "_law_pick" = true)
    (k__law_pick : PySem.W.keepIn K (.ref f__law_pick) = true)
    (a__law_told : PySem.W.nsIn K mainGlobals "_law_told" = some (some (.ref f__law_told)))
    (l__law_told : K.lookup f__law_told = some ⟨oc__law_told, od__law_told, .func (PySem.W.fnOf "_law_told" "_law_told" (defArgs s__law_told) (defBody s__law_told) (defScope s__law_told) .none kV__law_told dc__law_told pm__law_told an__law_told cd__law_told ct__law_told), sl__law_told⟩)
    (c__law_told : PySem.W.codeIn K cd__law_told "_law_told" = true)
    (k__law_told : PySem.W.keepIn K (.ref f__law_told) = true)
    (a__law_digits : PySem.W.nsIn K mainGlobals "_law_digits" = some (some (.ref f__law_digits)))
    (l__law_digits : K.lookup f__law_digits = some ⟨oc__law_digits, od__law_digits, .func (PySem.W.fnOf "_law_digits" "_law_digits" (defArgs s__law_digits) (defBody s__law_digits) (defScope s__law_digits) .none kV__law_digits dc__law_digits pm__law_digits an__law_digits cd__law_digits ct__law_digits), sl__law_digits⟩)
    (c__law_digits : PySem.W.codeIn K cd__law_digits "_law_digits" = true)
    (k__law_digits : PySem.W.keepIn K (.ref f__law_digits) = true)
    (a__law_table : PySem.W.nsIn K mainGlobals "_law_table" = some (some (.ref f__law_table)))
    (l__law_table : K.lookup f__law_table = some ⟨oc__law_table, od__law_table, .func (PySem.W.fnOf "_law_table" "_law_table" (defArgs s__law_table) (defBody s__law_table) (defScope s__law_table) .none kV__law_table dc__law_table pm__law_table an__law_table cd__law_table ct__law_table), sl__law_table⟩)
    (c__law_table : PySem.W.codeIn K cd__law_table "_law_table" = true)
    (k__law_table : PySem.W.keepIn K (.ref f__law_table) = true)
    (a__law_short : PySem.W.nsIn K mainGlobals "_law_short" = some (some (.ref f__law_short)))
    (l__law_short : K.lookup f__law_short = some ⟨oc__law_short, od__law_short, .func (PySem.W.fnOf "_law_short" "_law_short" (defArgs s__law_short) (defBody s__law_short) (defScope s__law_short) .none kV__law_short dc__law_short pm__law_short an__law_short cd__law_short ct__law_short), sl__law_short⟩)
    (c__law_short : PySem.W.codeIn K cd__law_short "_law_short" = true)
    (k__law_short : PySem.W.keepIn K (.ref f__law_short) = true)
    (a__law_is_begun : PySem.W.nsIn K mainGlobals "_law_is_begun" = some (some (.ref f__law_is_begun)))
    (l__law_is_begun : K.lookup f__law_is_begun = some ⟨oc__law_is_begun, od__law_is_begun, .func (PySem.W.fnOf "_law_is_begun" "_law_is_begun" (defArgs s__law_is_begun) (defBody s__law_is_begun) (defScope s__law_is_begun) .none kV__law_is_begun dc__law_is_begun pm__law_is_begun an__law_is_begun cd__law_is_begun ct__law_is_begun), sl__law_is_begun⟩)
    (c__law_is_begun : PySem.W.codeIn K cd__law_is_begun "_law_is_begun" = true)
    (k__law_is_begun : PySem.W.keepIn K (.ref f__law_is_begun) = true)
    (a__law_front : PySem.W.nsIn K mainGlobals "_law_front" = some (some (.ref f__law_front)))
    (l__law_front : K.lookup f__law_front = some ⟨oc__law_front, od__law_front, .func (PySem.W.fnOf "_law_front" "_law_front" (defArgs s__law_front) (defBody s__law_front) (defScope s__law_front) .none kV__law_front dc__law_front pm__law_front an__law_front cd__law_front ct__law_front), sl__law_front⟩)
    (c__law_front : PySem.W.codeIn K cd__law_front "_law_front" = true)
    (k__law_front : PySem.W.keepIn K (.ref f__law_front) = true)
    (a__law_right : PySem.W.nsIn K mainGlobals "_law_right" = some (some (.ref f__law_right)))
    (l__law_right : K.lookup f__law_right = some ⟨oc__law_right, od__law_right, .func (PySem.W.fnOf "_law_right" "_law_right" (defArgs s__law_right) (defBody s__law_right) (defScope s__law_right) .none kV__law_right dc__law_right pm__law_right an__law_right (.ref cL__law_right) ct__law_right), sl__law_right⟩)
    (c__law_right : PySem.W.codeIn K (.ref cL__law_right) "_law_right" = true)
    (k__law_right : PySem.W.keepIn K (.ref f__law_right) = true)
    (a__law_named_right : PySem.W.nsIn K mainGlobals "_law_named_right" = some (some (.ref f__law_named_right)))
    (l__law_named_right : K.lookup f__law_named_right = some ⟨oc__law_named_right, od__law_named_right, .func (PySem.W.fnOf "_law_named_right" "_law_named_right" (defArgs s__law_named_right) (defBody s__law_named_right) (defScope s__law_named_right) .none kV__law_named_right dc__law_named_right pm__law_named_right an__law_named_right (.ref cL__law_named_right) ct__law_named_right), sl__law_named_right⟩)
    (c__law_named_right : PySem.W.codeIn K (.ref cL__law_named_right) "_law_named_right" = true)
    (k__law_named_right : PySem.W.keepIn K (.ref f__law_named_right) = true)
    (a__law_word : PySem.W.nsIn K mainGlobals "_law_word" = some (some (.ref f__law_word)))
    (l__law_word : K.lookup f__law_word = some ⟨oc__law_word, od__law_word, .func (PySem.W.fnOf "_law_word" "_law_word" (defArgs s__law_word) (defBody s__law_word) (defScope s__law_word) .none kV__law_word dc__law_word pm__law_word an__law_word cd__law_word ct__law_word), sl__law_word⟩)
    (c__law_word : PySem.W.codeIn K cd__law_word "_law_word" = true)
    (k__law_word : PySem.W.keepIn K (.ref f__law_word) = true)
    (a_law : PySem.W.nsIn K mainGlobals "law" = some (some (.ref f_law)))
    (l_law : K.lookup f_law = some ⟨oc_law, od_law, .func (PySem.W.fnOf "law" "law" (defArgs s_law) (defBody s_law) (defScope s_law) .none kV_law dc_law pm_law an_law (.ref cL_law) ct_law), sl_law⟩)
    (c_law : PySem.W.codeIn K (.ref cL_law) "law" = true)
    (k_law : PySem.W.keepIn K (.ref f_law) = true)
    (n_isinstance : PySem.W.nsIn K mainGlobals "isinstance" = some none)
    (n_str : PySem.W.nsIn K mainGlobals "str" = some none)
    (n_bool : PySem.W.nsIn K mainGlobals "bool" = some none)
    (n_int : PySem.W.nsIn K mainGlobals "int" = some none)
    (n_len : PySem.W.nsIn K mainGlobals "len" = some none)
    (n_range : PySem.W.nsIn K mainGlobals "range" = some none)
    (n_any : PySem.W.nsIn K mainGlobals "any" = some none)
    (n_min : PySem.W.nsIn K mainGlobals "min" = some none)
    (n_ord : PySem.W.nsIn K mainGlobals "ord" = some none)
    (n_enumerate : PySem.W.nsIn K mainGlobals "enumerate" = some none)
    (n_max : PySem.W.nsIn K mainGlobals "max" = some none)
    (n_repr : PySem.W.nsIn K mainGlobals "repr" = some none)
    (g_DIGITS : PySem.W.nsIn K mainGlobals "DIGITS" = some (some (.str "0123456789" t_DIGITS)))
    (g_HEXADECIMAL : PySem.W.nsIn K mainGlobals "HEXADECIMAL" = some (some (.str "0123456789abcdefABCDEF" t_HEXADECIMAL)))
    (g_ORDERED : PySem.W.nsIn K mainGlobals "ORDERED" = some (some (.str "0123456789ABCDEFabcdef" t_ORDERED)))
    (g_SIGNS : PySem.W.nsIn K mainGlobals "SIGNS" = some (some (.str Num.signsP t_SIGNS)))
    (b_InvalidText : PySem.W.nsIn K mainGlobals "InvalidText" = some (some (.ref C_InvalidText)))
    (b_InvalidNumber : PySem.W.nsIn K mainGlobals "InvalidNumber" = some (some (.ref C_InvalidNumber)))
    (b_MarkupError : PySem.W.nsIn K mainGlobals "MarkupError" = some (some (.ref C_MarkupError)))
    (b_MarkupStateError : PySem.W.nsIn K mainGlobals "MarkupStateError" = some (some (.ref C_MarkupStateError)))
    (b_LimitError : PySem.W.nsIn K mainGlobals "LimitError" = some (some (.ref C_LimitError)))
    (b_IllFormed : PySem.W.nsIn K mainGlobals "IllFormed" = some (some (.ref C_IllFormed)))
    (b_InvalidKind : PySem.W.nsIn K mainGlobals "InvalidKind" = some (some (.ref C_InvalidKind)))
    (m1 : PySem.W.readsIn K C_MarkupError (.type "type") = true)
    (m2 : PySem.W.specialIn K (.ref C_MarkupError) "__getattribute__" = some (some (.builtin "type.__getattribute__")))
    (m3 : PySem.W.findCls K (.ref C_MarkupError) (.type "type") "__init__" = some (.val (.builtin "ValueError.__init__")))
    (u1 : PySem.W.specialIn K (.builtin "object.__class__") "__get__" = some (some (.builtin "getset_descriptor.__get__")))
    (u2 : PySem.W.takesIn K (.builtin "object.__class__") = some true)
    (o1_InvalidText : K.lookup C_InvalidText = some (excClassObj nmE_InvalidText qnE_InvalidText C_InvalidText NSE_InvalidText bsE_InvalidText [.ref C_MarkupError, .type "ValueError", .type "Exception", .type "BaseException", .type "object"] true snE_InvalidText subE_InvalidText abE_InvalidText colE_InvalidText ddE_InvalidText k0E_InvalidText k1E_InvalidText k2E_InvalidText k3E_InvalidText k5E_InvalidText "ValueError.__new__"))
    (o2_InvalidText : PySem.W.findIn K (.ref C_InvalidText) "__setattr__" = some (some (.builtin "object.__setattr__")))
    (o3_InvalidText : PySem.W.subIn K (.ref C_InvalidText) (.type "BaseException") = some true)
    (o4_InvalidText : PySem.W.typeIn K (.ref C_InvalidText) = some (.type "type"))
    (o5_InvalidText : PySem.W.keepIn K (.ref C_InvalidText) = true)
    (i1_InvalidText : PySem.W.findIn K (.ref C_InvalidText) "__init__" = some (some (.ref I_InvalidText)))
    (i2_InvalidText : PySem.W.typeIn K (.ref I_InvalidText) = some (.type "function"))
    (i3_InvalidText : K.lookup I_InvalidText = some ⟨ocI_InvalidText, odI_InvalidText, .func (PySem.W.fnOf "__init__" "InvalidText.__init__" (defArgs s_InvalidText___init__) (defBody s_InvalidText___init__) (defScope s_InvalidText___init__) .none kVI_InvalidText dcI_InvalidText pmI_InvalidText anI_InvalidText cdI_InvalidText ctI_InvalidText), slI_InvalidText⟩)
    (i4_InvalidText : PySem.W.codeIn K cdI_InvalidText "InvalidText.__init__" = true)
    (i5_InvalidText : PySem.W.keepIn K (.ref I_InvalidText) = true)
    (i6_InvalidText : PySem.W.findIn K (.ref C_InvalidText) "index" = some none)
    (q1_InvalidText : (PySem.W.clsIn K C_InvalidText).isSome = true)
    (q2_InvalidText : PySem.W.findIn K (.ref C_InvalidText) "__getattribute__" = some (some (.builtin "BaseException.__getattribute__")))
    (q3_InvalidText : PySem.W.findIn K (.ref C_InvalidText) "__getattr__" = some none)
    (q4_InvalidText : PySem.W.findIn K (.ref C_InvalidText) "__class__" = some (some (.builtin "object.__class__")))
    (q5_InvalidText : PySem.W.mroIn K C_InvalidText (.type "object") = some true)
    (q6_InvalidText : PySem.W.hasDictIn K C_InvalidText = true)
    (o1_InvalidNumber : K.lookup C_InvalidNumber = some (excClassObj nmE_InvalidNumber qnE_InvalidNumber C_InvalidNumber NSE_InvalidNumber bsE_InvalidNumber [.ref C_MarkupError, .type "ValueError", .type "Exception", .type "BaseException", .type "object"] true snE_InvalidNumber subE_InvalidNumber abE_InvalidNumber colE_InvalidNumber ddE_InvalidNumber k0E_InvalidNumber k1E_InvalidNumber k2E_InvalidNumber k3E_InvalidNumber k5E_InvalidNumber "ValueError.__new__"))
    (o2_InvalidNumber : PySem.W.findIn K (.ref C_InvalidNumber) "__setattr__" = some (some (.builtin "object.__setattr__")))
    (o3_InvalidNumber : PySem.W.subIn K (.ref C_InvalidNumber) (.type "BaseException") = some true)
    (o4_InvalidNumber : PySem.W.typeIn K (.ref C_InvalidNumber) = some (.type "type"))
    (o5_InvalidNumber : PySem.W.keepIn K (.ref C_InvalidNumber) = true)
    (i1_InvalidNumber : PySem.W.findIn K (.ref C_InvalidNumber) "__init__" = some (some (.ref I_InvalidNumber)))
    (i2_InvalidNumber : PySem.W.typeIn K (.ref I_InvalidNumber) = some (.type "function"))
    (i3_InvalidNumber : K.lookup I_InvalidNumber = some ⟨ocI_InvalidNumber, odI_InvalidNumber, .func (PySem.W.fnOf "__init__" "InvalidNumber.__init__" (defArgs s_InvalidNumber___init__) (defBody s_InvalidNumber___init__) (defScope s_InvalidNumber___init__) .none kVI_InvalidNumber dcI_InvalidNumber pmI_InvalidNumber anI_InvalidNumber cdI_InvalidNumber ctI_InvalidNumber), slI_InvalidNumber⟩)
    (i4_InvalidNumber : PySem.W.codeIn K cdI_InvalidNumber "InvalidNumber.__init__" = true)
    (i5_InvalidNumber : PySem.W.keepIn K (.ref I_InvalidNumber) = true)
    (i6_InvalidNumber : PySem.W.findIn K (.ref C_InvalidNumber) "number" = some none)
    (q1_InvalidNumber : (PySem.W.clsIn K C_InvalidNumber).isSome = true)
    (q2_InvalidNumber : PySem.W.findIn K (.ref C_InvalidNumber) "__getattribute__" = some (some (.builtin "BaseException.__getattribute__")))
    (q3_InvalidNumber : PySem.W.findIn K (.ref C_InvalidNumber) "__getattr__" = some none)
    (q4_InvalidNumber : PySem.W.findIn K (.ref C_InvalidNumber) "__class__" = some (some (.builtin "object.__class__")))
    (q5_InvalidNumber : PySem.W.mroIn K C_InvalidNumber (.type "object") = some true)
    (q6_InvalidNumber : PySem.W.hasDictIn K C_InvalidNumber = true)
    (xe_InvalidText : PySem.W.exmAny K (.ref C_InvalidText) [.ref C_MarkupError, .ref C_MarkupStateError, .ref C_LimitError] = some true)
    (xe_InvalidNumber : PySem.W.exmAny K (.ref C_InvalidNumber) [.ref C_MarkupError, .ref C_MarkupStateError, .ref C_LimitError] = some true)
    (xk1_InvalidText : PySem.W.kitOne K (.ref C_InvalidText) (.ref C_IllFormed) = some false)
    (xk2_InvalidText : PySem.W.kitOne K (.ref C_InvalidText) (.ref C_InvalidText) = some true)
    (xk1_InvalidNumber : PySem.W.kitOne K (.ref C_InvalidNumber) (.ref C_IllFormed) = some false)
    (xk2_InvalidNumber : PySem.W.kitOne K (.ref C_InvalidNumber) (.ref C_InvalidText) = some false)
    (xk3_InvalidNumber : PySem.W.kitOne K (.ref C_InvalidNumber) (.ref C_InvalidNumber) = some true) :
    LawG l w K CX0 10 63 "script" mg fa h := by
  have e := hfa.symm.trans (PySem.W.mg_of X G a_law)
  cases e
  refine ⟨PySem.W.fnOf "law" "law" (defArgs s_law) (defBody s_law) (defScope s_law) .none kV_law dc_law pm_law an_law (.ref cL_law) ct_law, [(cL__law_right, P__law_right), (cL__law_named_right, P__law_named_right), (cL_law, P_law)], sp_law K [(P__law_right, "_law_right.<locals>.<lambda>"), (P__law_named_right, "_law_named_right.<locals>.<lambda>"), (P_law, "law.<locals>.<lambda>")], ?_, ?_, ?_, fun s v => .of_eq rfl, ?_, ?_⟩
  · intro p hp
    simp only [List.mem_cons, List.not_mem_nil, or_false] at hp
    rcases hp with rfl | rfl | rfl
    · exact tg__law_right
    · exact tg__law_named_right
    · exact tg_law
  · intro p hp
    simp only [List.mem_cons, List.not_mem_nil, or_false] at hp
    rcases hp with rfl | rfl | rfl
    · exact np__law_right
    · exact np__law_named_right
    · exact np_law
  · intro p hp
    simp only [List.mem_cons, List.not_mem_nil, or_false] at hp
    rcases hp with rfl | rfl | rfl
    · exact tb__law_right
    · exact tb__law_named_right
    · exact tb_law
  · intro H a ns hn _ ht hs
    refine ⟨a, ns, rfl, hs, hn, fun p hp => ?_, fun _ => rfl⟩
    simp only [List.mem_cons, List.not_mem_nil, or_false] at hp
    rcases hp with rfl | rfl | rfl
    · exact LamX.TabS.nil (ht (cL__law_right, P__law_right) (by simp))
    · exact LamX.TabS.nil (ht (cL__law_named_right, P__law_named_right) (by simp))
    · exact LamX.TabS.nil (ht (cL_law, P_law) (by simp))
  intro base inB nsB tabB
  have F_shortened := fun_mk (st := s_shortened) l_shortened c_shortened k_shortened
  have B_shortened := F_shortened.binds (ps := ["digits"]) fun _ _ _ _ _ _ us hl => match us, hl with | [_], _ => rfl
  have F_value_of := fun_mk (st := s_value_of) l_value_of c_value_of k_value_of
  have B_value_of := F_value_of.binds (ps := ["digits", "base"]) fun _ _ _ _ _ _ us hl => match us, hl with | [_, _], _ => rfl
  have F_is_code := fun_mk (st := s_is_code) l_is_code c_is_code k_is_code
  have B_is_code := F_is_code.binds (ps := ["code"]) fun _ _ _ _ _ _ us hl => match us, hl with | [_], _ => rfl
  have F_is_number_part := fun_mk (st := s_is_number_part) l_is_number_part c_is_number_part k_is_number_part
  have B_is_number_part := F_is_number_part.binds (ps := ["digits", "base"]) fun _ _ _ _ _ _ us hl => match us, hl with | [_, _], _ => rfl
  have F_character_of := fun_mk (st := s_character_of) l_character_of c_character_of k_character_of
  have B_character_of := F_character_of.binds (ps := ["digits", "base"]) fun _ _ _ _ _ _ us hl => match us, hl with | [_, _], _ => rfl
  have F_check_text := fun_mk (st := s_check_text) l_check_text c_check_text k_check_text
  have B_check_text := F_check_text.binds (ps := ["text"]) fun _ _ _ _ _ _ us hl => match us, hl with | [_], _ => rfl
  have F_check_base := fun_mk (st := s_check_base) l_check_base c_check_base k_check_base
  have B_check_base := F_check_base.binds (ps := ["base"]) fun _ _ _ _ _ _ us hl => match us, hl with | [_], _ => rfl
  have F_check_digits := fun_mk (st := s_check_digits) l_check_digits c_check_digits k_check_digits
  have B_check_digits := F_check_digits.binds (ps := ["digits", "base"]) fun _ _ _ _ _ _ us hl => match us, hl with | [_, _], _ => rfl
  have F_decoded : L2.FunD K "decoded" "decoded" (defArgs s_decoded) (defBody s_decoded) (defScope s_decoded) [.int 10] [] f_decoded _ := ⟨⟨_, _, _, _, _, _, _, _, _, _, rfl, l_decoded, c_decoded, He.dflB_ok q1_dfl_decoded, .inl rfl⟩, k_decoded⟩
  obtain ⟨ds_decoded, v_decoded, b_decoded⟩ := F_decoded.binds1 (ps := ["digits", "base"]) 2 1 (by simp) (by rfl) (fun T kV doc pm an cdv ct us its h1 h2 => match us, its, h1, h2 with | [_, _], [_], _, _ => ⟨_, rfl, rfl⟩)
  cases v_decoded
  obtain ⟨e_decoded, w_decoded, y_decoded⟩ := F_decoded.binds1 (ps := ["digits", "base"]) 1 0 (by simp) (by rfl) (fun T kV doc pm an cdv ct us its h1 h2 => match us, its, h1, h2 with | [_], [_], _, _ => ⟨_, rfl, rfl⟩)
  have F_next_digits : L2.FunD K "next_digits" "next_digits" (defArgs s_next_digits) (defBody s_next_digits) (defScope s_next_digits) [.int 10] [] f_next_digits _ := ⟨⟨_, _, _, _, _, _, _, _, _, _, rfl, l_next_digits, c_next_digits, He.dflB_ok q1_dfl_next_digits, .inl rfl⟩, k_next_digits⟩
  obtain ⟨ds_next_digits, v_next_digits, b_next_digits⟩ := F_next_digits.binds1 (ps := ["digits", "base"]) 2 1 (by simp) (by rfl) (fun T kV doc pm an cdv ct us its h1 h2 => match us, its, h1, h2 with | [_, _], [_], _, _ => ⟨_, rfl, rfl⟩)
  cases v_next_digits
  obtain ⟨e_next_digits, w_next_digits, y_next_digits⟩ := F_next_digits.binds1 (ps := ["digits", "base"]) 1 0 (by simp) (by rfl) (fun T kV doc pm an cdv ct us its h1 h2 => match us, its, h1, h2 with | [_], [_], _, _ => ⟨_, rfl, rfl⟩)
  have F__law_mixed := fun_mk (st := s__law_mixed) l__law_mixed c__law_mixed k__law_mixed
  have B__law_mixed := F__law_mixed.binds (ps := ["number", "k"]) fun _ _ _ _ _ _ us hl => match us, hl with | [_, _], _ => rfl
  have F__law_stream := fun_mk (st := s__law_stream) l__law_stream c__law_stream k__law_stream
  have B__law_stream := F__law_stream.binds (ps := ["item", "k"]) fun _ _ _ _ _ _ us hl => match us, hl with | [_, _], _ => rfl
  have F__law_draw := fun_mk (st := s__law_draw) l__law_draw c__law_draw k__law_draw
  have B__law_draw := F__law_draw.binds (ps := ["stream", "top"]) fun _ _ _ _ _ _ us hl => match us, hl with | [_, _], _ => rfl
  have F__law_signs := fun_mk (st := s__law_signs) l__law_signs c__law_signs k__law_signs
  have B__law_signs := F__law_signs.binds (ps := []) fun _ _ _ _ _ _ us hl => match us, hl with | [], _ => rfl
  have F__law_pick := fun_mk (st := s__law_pick) l__law_pick c__law_pick k__law_pick
  have B__law_pick := F__law_pick.binds (ps := ["stream", "some"]) fun _ _ _ _ _ _ us hl => match us, hl with | [_, _], _ => rfl
  have F__law_told := fun_mk (st := s__law_told) l__law_told c__law_told k__law_told
  have B__law_told := F__law_told.binds (ps := ["call"]) fun _ _ _ _ _ _ us hl => match us, hl with | [_], _ => rfl
  have F__law_digits := fun_mk (st := s__law_digits) l__law_digits c__law_digits k__law_digits
  have B__law_digits := F__law_digits.binds (ps := ["code", "radix"]) fun _ _ _ _ _ _ us hl => match us, hl with | [_, _], _ => rfl
  have F__law_table := fun_mk (st := s__law_table) l__law_table c__law_table k__law_table
  have B__law_table := F__law_table.binds (ps := ["radix"]) fun _ _ _ _ _ _ us hl => match us, hl with | [_], _ => rfl
  have F__law_short := fun_mk (st := s__law_short) l__law_short c__law_short k__law_short
  have B__law_short := F__law_short.binds (ps := ["word"]) fun _ _ _ _ _ _ us hl => match us, hl with | [_], _ => rfl
  have F__law_is_begun := fun_mk (st := s__law_is_begun) l__law_is_begun c__law_is_begun k__law_is_begun
  have B__law_is_begun := F__law_is_begun.binds (ps := ["word", "table"]) fun _ _ _ _ _ _ us hl => match us, hl with | [_, _], _ => rfl
  have F__law_front := fun_mk (st := s__law_front) l__law_front c__law_front k__law_front
  have B__law_front := F__law_front.binds (ps := ["word", "table"]) fun _ _ _ _ _ _ us hl => match us, hl with | [_, _], _ => rfl
  have F__law_right := fun_mk (st := s__law_right) l__law_right c__law_right k__law_right
  have B__law_right := F__law_right.binds (ps := ["word", "radix", "table"]) fun _ _ _ _ _ _ us hl => match us, hl with | [_, _, _], _ => rfl
  have F__law_named_right := fun_mk (st := s__law_named_right) l__law_named_right c__law_named_right k__law_named_right
  have B__law_named_right := F__law_named_right.binds (ps := ["word", "radix"]) fun _ _ _ _ _ _ us hl => match us, hl with | [_, _], _ => rfl
  have F__law_word := fun_mk (st := s__law_word) l__law_word c__law_word k__law_word
  have B__law_word := F__law_word.binds (ps := ["stream", "radix"]) fun _ _ _ _ _ _ us hl => match us, hl with | [_, _], _ => rfl
  have BM : BaseT K mg "MarkupError" C_MarkupError := ⟨PySem.W.mg_of X G b_MarkupError, m1, m2, m3⟩
  have FI_InvalidText := fun_mk (st := s_InvalidText___init__) i3_InvalidText i4_InvalidText i5_InvalidText
  have OX_InvalidText : OexC K C_InvalidText := ⟨⟨_, _, _, _, _, _, _, _, _, _, _, _, _, _, _, o1_InvalidText, rfl⟩, o2_InvalidText, o3_InvalidText, o4_InvalidText, o5_InvalidText⟩
  have FI_InvalidNumber := fun_mk (st := s_InvalidNumber___init__) i3_InvalidNumber i4_InvalidNumber i5_InvalidNumber
  have OX_InvalidNumber : OexC K C_InvalidNumber := ⟨⟨_, _, _, _, _, _, _, _, _, _, _, _, _, _, _, o1_InvalidNumber, rfl⟩, o2_InvalidNumber, o3_InvalidNumber, o4_InvalidNumber, o5_InvalidNumber⟩
  obtain ⟨T, e__law_right, e__law_named_right⟩ : ∃ T : Tx l.prog w K mg base, (T.d__law_right.f = f__law_right ∧ T.d__law_right.fd = PySem.W.fnOf "_law_right" "_law_right" (defArgs s__law_right) (defBody s__law_right) (defScope s__law_right) .none kV__law_right dc__law_right pm__law_right an__law_right (.ref cL__law_right) ct__law_right) ∧ (T.d__law_named_right.f = f__law_named_right ∧ T.d__law_named_right.fd = PySem.W.fnOf "_law_named_right" "_law_named_right" (defArgs s__law_named_right) (defBody s__law_named_right) (defScope s__law_named_right) .none kV__law_named_right dc__law_named_right pm__law_named_right an__law_named_right (.ref cL__law_named_right) ct__law_named_right) := ⟨{
    d_shortened := ⟨_, _, F_shortened, PySem.W.mg_of X G a_shortened, B_shortened⟩
    d_value_of := ⟨_, _, F_value_of, PySem.W.mg_of X G a_value_of, B_value_of⟩
    d_is_code := ⟨_, _, F_is_code, PySem.W.mg_of X G a_is_code, B_is_code⟩
    d_is_number_part := ⟨_, _, F_is_number_part, PySem.W.mg_of X G a_is_number_part, B_is_number_part⟩
    d_character_of := ⟨_, _, F_character_of, PySem.W.mg_of X G a_character_of, B_character_of⟩
    d_check_text := ⟨_, _, F_check_text, PySem.W.mg_of X G a_check_text, B_check_text⟩
    d_check_base := ⟨_, _, F_check_base, PySem.W.mg_of X G a_check_base, B_check_base⟩
    d_check_digits := ⟨_, _, F_check_digits, PySem.W.mg_of X G a_check_digits, B_check_digits⟩
    d_decoded := ⟨_, _, F_decoded, PySem.W.mg_of X G a_decoded, b_decoded, _, w_decoded, y_decoded⟩
    d_next_digits := ⟨_, _, F_next_digits, PySem.W.mg_of X G a_next_digits, b_next_digits, _, w_next_digits, y_next_digits⟩
    d__law_mixed := ⟨_, _, F__law_mixed, PySem.W.mg_of X G a__law_mixed, B__law_mixed⟩
    d__law_stream := ⟨_, _, F__law_stream, PySem.W.mg_of X G a__law_stream, B__law_stream⟩
    d__law_draw := ⟨_, _, F__law_draw, PySem.W.mg_of X G a__law_draw, B__law_draw⟩
    d__law_signs := ⟨_, _, F__law_signs, PySem.W.mg_of X G a__law_signs, B__law_signs⟩
    d__law_pick := ⟨_, _, F__law_pick, PySem.W.mg_of X G a__law_pick, B__law_pick⟩
    d__law_told := ⟨_, _, F__law_told, PySem.W.mg_of X G a__law_told, B__law_told⟩
    d__law_digits := ⟨_, _, F__law_digits, PySem.W.mg_of X G a__law_digits, B__law_digits⟩
    d__law_table := ⟨_, _, F__law_table, PySem.W.mg_of X G a__law_table, B__law_table⟩
    d__law_short := ⟨_, _, F__law_short, PySem.W.mg_of X G a__law_short, B__law_short⟩
    d__law_is_begun := ⟨_, _, F__law_is_begun, PySem.W.mg_of X G a__law_is_begun, B__law_is_begun⟩
    d__law_front := ⟨_, _, F__law_front, PySem.W.mg_of X G a__law_front, B__law_front⟩
    d__law_right := ⟨_, _, F__law_right, PySem.W.mg_of X G a__law_right, B__law_right⟩
    d__law_named_right := ⟨_, _, F__law_named_right, PySem.W.mg_of X G a__law_named_right, B__law_named_right⟩
    d__law_word := ⟨_, _, F__law_word, PySem.W.mg_of X G a__law_word, B__law_word⟩
    n_isinstance := PySem.W.mg_none_of X G n_isinstance
    n_str := PySem.W.mg_none_of X G n_str
    n_bool := PySem.W.mg_none_of X G n_bool
    n_int := PySem.W.mg_none_of X G n_int
    n_len := PySem.W.mg_none_of X G n_len
    n_range := PySem.W.mg_none_of X G n_range
    n_any := PySem.W.mg_none_of X G n_any
    n_min := PySem.W.mg_none_of X G n_min
    n_ord := PySem.W.mg_none_of X G n_ord
    n_enumerate := PySem.W.mg_none_of X G n_enumerate
    n_max := PySem.W.mg_none_of X G n_max
    n_repr := PySem.W.mg_none_of X G n_repr
    g_DIGITS := ⟨_, PySem.W.mg_of X G g_DIGITS, ⟨_, rfl⟩⟩
    g_HEXADECIMAL := ⟨_, PySem.W.mg_of X G g_HEXADECIMAL, ⟨_, rfl⟩⟩
    g_ORDERED := ⟨_, PySem.W.mg_of X G g_ORDERED, ⟨_, rfl⟩⟩
    g_SIGNS := ⟨_, PySem.W.mg_of X G g_SIGNS, ⟨_, rfl⟩⟩
    a_InvalidText := C_InvalidText
    i_InvalidText := I_InvalidText
    fd_InvalidText := _
    x_InvalidText := ⟨OX_InvalidText, PySem.W.mg_of X G b_InvalidText, i1_InvalidText, i2_InvalidText, ok_InvalidText___init__ BM FI_InvalidText i6_InvalidText, FI_InvalidText.binds (ps := ["self", "index"]) fun _ _ _ _ _ _ us hl => match us, hl with | [_, _], _ => rfl⟩
    a_InvalidNumber := C_InvalidNumber
    i_InvalidNumber := I_InvalidNumber
    fd_InvalidNumber := _
    x_InvalidNumber := ⟨OX_InvalidNumber, PySem.W.mg_of X G b_InvalidNumber, i1_InvalidNumber, i2_InvalidNumber, ok_InvalidNumber___init__ BM FI_InvalidNumber i6_InvalidNumber, FI_InvalidNumber.binds (ps := ["self", "number"]) fun _ _ _ _ _ _ us hl => match us, hl with | [_, _], _ => rfl⟩
    kb_decoded := kb_ofD F_decoded fun _ _ _ _ _ _ _ us ws its hl h1 => match us, ws, its, hl, h1 with | [], [_, _], [_], _, _ => ⟨_, rfl, rfl⟩ | [_], [_], [_], _, _ => ⟨_, rfl, rfl⟩ | [_, _], [], [_], _, _ => ⟨_, rfl, rfl⟩ | [_], _ :: _ :: _, _, hl, _ => absurd hl (by simp only [List.length_cons, List.length_nil]; omega) | [_, _], _ :: _, _, hl, _ => absurd hl (by simp only [List.length_cons, List.length_nil]; omega) | _ :: _ :: _ :: _, _, _, hl, _ => absurd hl (by simp only [List.length_cons, List.length_nil]; omega)
    kb_next_digits := kb_ofD F_next_digits fun _ _ _ _ _ _ _ us ws its hl h1 => match us, ws, its, hl, h1 with | [], [_, _], [_], _, _ => ⟨_, rfl, rfl⟩ | [_], [_], [_], _, _ => ⟨_, rfl, rfl⟩ | [_, _], [], [_], _, _ => ⟨_, rfl, rfl⟩ | [_], _ :: _ :: _, _, hl, _ => absurd hl (by simp only [List.length_cons, List.length_nil]; omega) | [_, _], _ :: _, _, hl, _ => absurd hl (by simp only [List.length_cons, List.length_nil]; omega) | _ :: _ :: _ :: _, _, _, hl, _ => absurd hl (by simp only [List.length_cons, List.length_nil]; omega)
    a_MarkupError := C_MarkupError
    m_MarkupError := PySem.W.mg_of X G b_MarkupError
    a_MarkupStateError := C_MarkupStateError
    m_MarkupStateError := PySem.W.mg_of X G b_MarkupStateError
    a_LimitError := C_LimitError
    m_LimitError := PySem.W.mg_of X G b_LimitError
    a_IllFormed := C_IllFormed
    m_IllFormed := PySem.W.mg_of X G b_IllFormed
    a_InvalidKind := C_InvalidKind
    m_InvalidKind := PySem.W.mg_of X G b_InvalidKind
    xc_InvalidText := ⟨q1_InvalidText, q2_InvalidText, q3_InvalidText, o3_InvalidText, q4_InvalidText, u1, u2, q5_InvalidText, q6_InvalidText⟩
    ex_InvalidText := xe_InvalidText
    fn_InvalidText := i6_InvalidText
    k1_InvalidText := xk1_InvalidText
    k2_InvalidText := xk2_InvalidText
    xc_InvalidNumber := ⟨q1_InvalidNumber, q2_InvalidNumber, q3_InvalidNumber, o3_InvalidNumber, q4_InvalidNumber, u1, u2, q5_InvalidNumber, q6_InvalidNumber⟩
    ex_InvalidNumber := xe_InvalidNumber
    fn_InvalidNumber := i6_InvalidNumber
    k1_InvalidNumber := xk1_InvalidNumber
    k2_InvalidNumber := xk2_InvalidNumber
    k3_InvalidNumber := xk3_InvalidNumber
     }, ⟨rfl, rfl⟩, ⟨rfl, rfl⟩⟩
  have G__law_mixed := ok__law_mixed T
  have G__law_stream := ok__law_stream T G__law_mixed
  have G__law_draw := ok__law_draw T G__law_mixed
  have G__law_signs := ok__law_signs T
  have G__law_pick := ok__law_pick T G__law_draw
  have G_shortened := ok_shortened T
  have G_value_of := ok_value_of T
  have G_is_code := ok_is_code T
  have G_is_number_part := ok_is_number_part T G_shortened G_value_of G_is_code
  have G_character_of := ok_character_of T G_shortened G_value_of
  have G_check_text := ok_check_text T
  have G_check_base := ok_check_base T
  have G_check_digits := ok_check_digits T G_is_number_part
  have G_decoded := ok_decoded T G_check_text G_check_base G_check_digits G_character_of
  have G_next_digits := ok_next_digits T G_check_text G_check_base G_check_digits G_is_number_part
  have G__law_digits := ok__law_digits T
  have G__law_short := ok__law_short T
  have G__law_table := ok__law_table T G__law_signs G__law_digits
  have G__law_is_begun := ok__law_is_begun T G__law_short
  have G__law_front := ok__law_front T G__law_is_begun
  have G__law_word := ok__law_word T G__law_draw G__law_signs G__law_pick
  have G__law_right := ok__law_right T (cL := cL__law_right) (PL := P__law_right) (Tb := [(P__law_right, "_law_right.<locals>.<lambda>"), (P__law_named_right, "_law_named_right.<locals>.<lambda>"), (P_law, "law.<locals>.<lambda>")]) (by simp) hu__law_right ⟨⟨_, _, _, _, _, _, _, _, e__law_right.2, by rw [e__law_right.1, e__law_right.2]; exact l__law_right, c__law_right⟩⟩ (tabB (cL__law_right, P__law_right) (by simp)) G__law_front G__law_short G_decoded G_next_digits G__law_is_begun
  have G__law_named_right := ok__law_named_right T (cL := cL__law_named_right) (PL := P__law_named_right) (Tb := [(P__law_right, "_law_right.<locals>.<lambda>"), (P__law_named_right, "_law_named_right.<locals>.<lambda>"), (P_law, "law.<locals>.<lambda>")]) (by simp) hu__law_named_right ⟨⟨_, _, _, _, _, _, _, _, e__law_named_right.2, by rw [e__law_named_right.1, e__law_named_right.2]; exact l__law_named_right, c__law_named_right⟩⟩ (tabB (cL__law_named_right, P__law_named_right) (by simp)) G_decoded G_next_digits
  exact ok_law T (cL := cL_law) (PL := P_law) (Tb := [(P__law_right, "_law_right.<locals>.<lambda>"), (P__law_named_right, "_law_named_right.<locals>.<lambda>"), (P_law, "law.<locals>.<lambda>")]) (by simp) hu_law ⟨⟨_, _, _, _, _, _, _, _, rfl, l_law, c_law⟩⟩ (tabB (cL_law, P_law) (by simp)) G__law_table G__law_digits G__law_right G__law_stream G__law_draw G__law_word G__law_named_right G__law_pick G_decoded G_next_digits
end K4
open PySem PySem.W PyProof.Rows
set_option maxHeartbeats 0
theorem PySem.Challenge.cw_markstream_k04_whole_numerals_holds : PySem.Challenge.rw_markstream_k04_whole_numerals.Holds := by
  w_on; o_law; k_head; (case hw => w_witness2)
  k_fill
  refine Mx.walkG (l := PySem.Challenge.rw_markstream_k04_whole_numerals) (n := 63) (k := 10) (x := "script") (CX := fun _ => L2.CX0) rfl (by decide) rfl ⟨⟨rfl, by decide, by decide⟩, rfl⟩ (fun w h Y => by first | exact PySem.W.km_in_of Y | exact PySem.W.kIn_of Y) ?F (fun _ _ _ _ _ z => z)
  case F =>
    rintro w mg mb fa h ⟨ls, mean, Tp⟩ Y KX G hmg
    refine' K4.all_mk (P__law_right := 274) (P__law_named_right := 279) (P_law := 293) KX G hmg (PySem.W.codeHd_of_K KX ?tab__law_right) (PySem.W.km_tabs_of Y _ (by decide)) ?np__law_right (by decide +kernel) (PySem.W.codeHd_of_K KX ?tab__law_named_right) (PySem.W.km_tabs_of Y _ (by decide)) ?np__law_named_right (by decide +kernel) (PySem.W.codeHd_of_K KX ?tab_law) (PySem.W.km_tabs_of Y _ (by decide)) ?np_law (by decide +kernel) ?a_shortened ?l_shortened ?c_shortened ?k_shortened ?a_value_of ?l_value_of ?c_value_of ?k_value_of ?a_is_code ?l_is_code ?c_is_code ?k_is_code ?a_is_number_part ?l_is_number_part ?c_is_number_part ?k_is_number_part ?a_character_of ?l_character_of ?c_character_of ?k_character_of ?a_check_text ?l_check_text ?c_check_text ?k_check_text ?a_check_base ?l_check_base ?c_check_base ?k_check_base ?a_check_digits ?l_check_digits ?c_check_digits ?k_check_digits ?a_decoded ?l_decoded ?q1_dfl_decoded ?c_decoded ?k_decoded ?a_next_digits ?l_next_digits ?q1_dfl_next_digits ?c_next_digits ?k_next_digits ?a__law_mixed ?l__law_mixed ?c__law_mixed ?k__law_mixed ?a__law_stream ?l__law_stream ?c__law_stream ?k__law_stream ?a__law_draw ?l__law_draw ?c__law_draw ?k__law_draw ?a__law_signs ?l__law_signs ?c__law_signs ?k__law_signs ?a__law_pick ?l__law_pick ?c__law_pick ?k__law_pick ?a__law_told ?l__law_told ?c__law_told ?k__law_told ?a__law_digits ?l__law_digits ?c__law_digits ?k__law_digits ?a__law_table ?l__law_table ?c__law_table ?k__law_table ?a__law_short ?l__law_short ?c__law_short ?k__law_short ?a__law_is_begun ?l__law_is_begun ?c__law_is_begun ?k__law_is_begun ?a__law_front ?l__law_front ?c__law_front ?k__law_front ?a__law_right ?l__law_right ?c__law_right ?k__law_right ?a__law_named_right ?l__law_named_right ?c__law_named_right ?k__law_named_right ?a__law_word ?l__law_word ?c__law_word ?k__law_word ?a_law ?l_law ?c_law ?k_law ?n_isinstance ?n_str ?n_bool ?n_int ?n_len ?n_range ?n_any ?n_min ?n_ord ?n_enumerate ?n_max ?n_repr ?g_DIGITS ?g_HEXADECIMAL ?g_ORDERED ?g_SIGNS ?b_InvalidText ?b_InvalidNumber ?b_MarkupError ?b_MarkupStateError ?b_LimitError ?b_IllFormed ?b_InvalidKind ?m1 ?m2 ?m3 ?u1 ?u2 ?o1_InvalidText ?o2_InvalidText ?o3_InvalidText ?o4_InvalidText ?o5_InvalidText ?i1_InvalidText ?i2_InvalidText ?i3_InvalidText ?i4_InvalidText ?i5_InvalidText ?i6_InvalidText ?q1_InvalidText ?q2_InvalidText ?q3_InvalidText ?q4_InvalidText ?q5_InvalidText ?q6_InvalidText ?o1_InvalidNumber ?o2_InvalidNumber ?o3_InvalidNumber ?o4_InvalidNumber ?o5_InvalidNumber ?i1_InvalidNumber ?i2_InvalidNumber ?i3_InvalidNumber ?i4_InvalidNumber ?i5_InvalidNumber ?i6_InvalidNumber ?q1_InvalidNumber ?q2_InvalidNumber ?q3_InvalidNumber ?q4_InvalidNumber ?q5_InvalidNumber ?q6_InvalidNumber ?xe_InvalidText ?xe_InvalidNumber ?xk1_InvalidText ?xk2_InvalidText ?xk1_InvalidNumber ?xk2_InvalidNumber ?xk3_InvalidNumber
    (case a_shortened => k_is)
    (case l_shortened => k_is)
    (case c_shortened => k_is)
    (case k_shortened => k_is)
    (case a_value_of => k_is)
    (case l_value_of => k_is)
    (case c_value_of => k_is)
    (case k_value_of => k_is)
    (case a_is_code => k_is)
    (case l_is_code => k_is)
    (case c_is_code => k_is)
    (case k_is_code => k_is)
    (case a_is_number_part => k_is)
    (case l_is_number_part => k_is)
    (case c_is_number_part => k_is)
    (case k_is_number_part => k_is)
    (case a_character_of => k_is)
    (case l_character_of => k_is)
    (case c_character_of => k_is)
    (case k_character_of => k_is)
    (case a_check_text => k_is)
    (case l_check_text => k_is)
    (case c_check_text => k_is)
    (case k_check_text => k_is)
    (case a_check_base => k_is)
    (case l_check_base => k_is)
    (case c_check_base => k_is)
    (case k_check_base => k_is)
    (case a_check_digits => k_is)
    (case l_check_digits => k_is)
    (case c_check_digits => k_is)
    (case k_check_digits => k_is)
    (case a_decoded => k_is)
    (case l_decoded => k_is)
    (case q1_dfl_decoded => kernel_rfl)
    (case c_decoded => k_is)
    (case k_decoded => k_is)
    (case a_next_digits => k_is)
    (case l_next_digits => k_is)
    (case q1_dfl_next_digits => kernel_rfl)
    (case c_next_digits => k_is)
    (case k_next_digits => k_is)
    (case a__law_mixed => k_is)
    (case l__law_mixed => k_is)
    (case c__law_mixed => k_is)
    (case k__law_mixed => k_is)
    (case a__law_stream => k_is)
    (case l__law_stream => k_is)
    (case c__law_stream => k_is)
    (case k__law_stream => k_is)
    (case a__law_draw => k_is)
    (case l__law_draw => k_is)
    (case c__law_draw => k_is)
    (case k__law_draw => k_is)
    (case a__law_signs => k_is)
    (case l__law_signs => k_is)
    (case c__law_signs => k_is)
    (case k__law_signs => k_is)
    (case a__law_pick => k_is)
    (case l__law_pick => k_is)
    (case c__law_pick => k_is)
    (case k__law_pick => k_is)
    (case a__law_told => k_is)
    (case l__law_told => k_is)
    (case c__law_told => k_is)
    (case k__law_told => k_is)
    (case a__law_digits => k_is)
    (case l__law_digits => k_is)
    (case c__law_digits => k_is)
    (case k__law_digits => k_is)
    (case a__law_table => k_is)
    (case l__law_table => k_is)
    (case c__law_table => k_is)
    (case k__law_table => k_is)
    (case a__law_short => k_is)
    (case l__law_short => k_is)
    (case c__law_short => k_is)
    (case k__law_short => k_is)
    (case a__law_is_begun => k_is)
    (case l__law_is_begun => k_is)
    (case c__law_is_begun => k_is)
    (case k__law_is_begun => k_is)
    (case a__law_front => k_is)
    (case l__law_front => k_is)
    (case c__law_front => k_is)
    (case k__law_front => k_is)
    (case a__law_right => k_is)
    (case l__law_right => k_is)
    (case c__law_right => k_is)
    (case k__law_right => k_is)
    (case a__law_named_right => k_is)
    (case l__law_named_right => k_is)
    (case c__law_named_right => k_is)
    (case k__law_named_right => k_is)
    (case a__law_word => k_is)
    (case l__law_word => k_is)
    (case c__law_word => k_is)
    (case k__law_word => k_is)
    (case a_law => k_is)
    (case l_law => k_is)
    (case c_law => k_is)
    (case k_law => k_is)
    (case n_isinstance => k_is)
    (case n_str => k_is)
    (case n_bool => k_is)
    (case n_int => k_is)
    (case n_len => k_is)
    (case n_range => k_is)
    (case n_any => k_is)
    (case n_min => k_is)
    (case n_ord => k_is)
    (case n_enumerate => k_is)
    (case n_max => k_is)
    (case n_repr => k_is)
    (case g_DIGITS => k_is)
    (case g_HEXADECIMAL => k_is)
    (case g_ORDERED => k_is)
    (case g_SIGNS => k_is)
    (case b_InvalidText => k_is)
    (case b_InvalidNumber => k_is)
    (case b_MarkupError => k_is)
    (case b_MarkupStateError => k_is)
    (case b_LimitError => k_is)
    (case b_IllFormed => k_is)
    (case b_InvalidKind => k_is)
    (case m1 => k_is)
    (case m2 => k_is)
    (case m3 => k_is)
    (case u1 => k_is)
    (case u2 => k_is)
    (case o1_InvalidText => k_is)
    (case o2_InvalidText => k_is)
    (case o3_InvalidText => k_is)
    (case o4_InvalidText => k_is)
    (case o5_InvalidText => k_is)
    (case i1_InvalidText => k_is)
    (case i2_InvalidText => k_is)
    (case i3_InvalidText => k_is)
    (case i4_InvalidText => k_is)
    (case i5_InvalidText => k_is)
    (case i6_InvalidText => k_is)
    (case q1_InvalidText => kernel_rfl)
    (case q2_InvalidText => k_is)
    (case q3_InvalidText => k_is)
    (case q4_InvalidText => k_is)
    (case q5_InvalidText => k_is)
    (case q6_InvalidText => k_is)
    (case o1_InvalidNumber => k_is)
    (case o2_InvalidNumber => k_is)
    (case o3_InvalidNumber => k_is)
    (case o4_InvalidNumber => k_is)
    (case o5_InvalidNumber => k_is)
    (case i1_InvalidNumber => k_is)
    (case i2_InvalidNumber => k_is)
    (case i3_InvalidNumber => k_is)
    (case i4_InvalidNumber => k_is)
    (case i5_InvalidNumber => k_is)
    (case i6_InvalidNumber => k_is)
    (case q1_InvalidNumber => kernel_rfl)
    (case q2_InvalidNumber => k_is)
    (case q3_InvalidNumber => k_is)
    (case q4_InvalidNumber => k_is)
    (case q5_InvalidNumber => k_is)
    (case q6_InvalidNumber => k_is)
    (case xe_InvalidText => kernel_rfl)
    (case xe_InvalidNumber => kernel_rfl)
    (case xk1_InvalidText => kernel_rfl)
    (case xk2_InvalidText => kernel_rfl)
    (case xk1_InvalidNumber => kernel_rfl)
    (case xk2_InvalidNumber => kernel_rfl)
    (case xk3_InvalidNumber => kernel_rfl)
    (case np__law_right => kernel_rfl)
    (case tab__law_right => kernel_rfl)
    (case np__law_named_right => kernel_rfl)
    (case tab__law_named_right => kernel_rfl)
    (case np_law => kernel_rfl)
    (case tab_law => kernel_rfl)
