import PyProof.Rows.All
import Wide.All
import OpenK.AllK
import Wide.FinOn
import HandS.ForMost
import HandS.ForExc
import HandS.Lambda
import HandS.IsInst
import HandS.Defaults
import HandS.ExcInit
import HandS.TryMany
import HandS.StrMore
import PyProof.ReprRoads
import PyProof.Draws
import KE.KExcIs
import HandS.EndTab
import HandS.Walk
import HandS.BoundDict
import HandS.Small
import KE.GoesMore
import HandS.Base
import HandS.Call
import HandS.List
import HandS.Property
import KE.KCallOwn
import HandS.Dict
import KE.KDictPairs
import HandS.StrSplit
import HandS.HeadHook2
import HandS.GenList
import HandS.FStr
import HandS.Star
import HandS.Flow
import HandS.TryOnly
import HandS.Style
import HandS.ExcField
import HandS.More
import KE.RegKSuper
import PySem.Challenge.RW_markstream_k40_names_refused
set_option Elab.async false
set_option linter.all false
set_option maxRecDepth 100000
set_option maxHeartbeats 4000000
namespace Mx
open PySem PySem.Spec PyProof.Rows L2

/-! ### promises that may lean on an empty list of guards (repr) -/
structure RmG (k : Nat) (A : Around) : Prop where
  r : Room k A
  g : A.guards = some []
theorem RmG.mono {j k : Nat} {A : Around} (h : RmG k A) (l : j ≤ k) : RmG j A := ⟨h.r.mono l, h.g⟩
theorem RmG.deeper {k : Nat} {A : Around} (h : RmG (k + 1) A) (env : Env) : RmG k (A.deeper env) := ⟨h.r.deeper env, h.g⟩

structure FnG (P : Program) (w : World) (K : PySem.W.Frag) (mg : Str → Option Value) (base : Heap) (CX : CXT) (k : Nat) (f : Addr) (fd : FuncData) (ps : List Str) (sp : Sp) : Prop where
  len : ∀ vs H Q E, sp vs H Q E → vs.length = ps.length
  run : ∀ (A : Around) (outer : List Env) (s : Shared) (H : Hp) (args : Args) (us : List Value) (vs : List V) (Q : VK) (E : XK),
    RmG k A → Env0 P w K mg base A outer s H → BindsTo s fd args (ps.zip us) → Vals vs us → sp vs H Q E →
    codeAny (model P w) A (.call (.ref f) args) (CR CX outer P w H s Q E) s
theorem FnG.of {P : Program} {w : World} {K : PySem.W.Frag} {mg : Str → Option Value} {base : Heap} {CX : CXT} {j k : Nat} {f : Addr} {fd : FuncData} {ps : List Str} {sp : Sp}
    (F : FnOk P w K mg base CX j f fd ps sp) (h : j ≤ k) : FnG P w K mg base CX k f fd ps sp :=
  ⟨F.len, fun A o s H as us vs Q E hr => F.run A o s H as us vs Q E (hr.r.mono h)⟩
theorem FnG.mono {P : Program} {w : World} {K : PySem.W.Frag} {mg : Str → Option Value} {base : Heap} {CX : CXT} {j k : Nat} {f : Addr} {fd : FuncData} {ps : List Str} {sp : Sp}
    (F : FnG P w K mg base CX j f fd ps sp) (h : j ≤ k) : FnG P w K mg base CX k f fd ps sp :=
  ⟨F.len, fun A o s H as us vs Q E hr => F.run A o s H as us vs Q E (hr.mono h)⟩

section
variable {X : Cx} {CX : CXT} {k : Nat} {f C : Addr} {fd : FuncData} {ps ks : List Str} {sp : Sp} {dvs : List V} {ds : List Value} {E : XK} {x m : Str} {p pos apos : Pos} {e o : Expr} {es : List Expr} {kws : List Keyword} {ta : TE} {t tk : TA}
  {g : List Value → List Value → List Value} {gV : List V → List V → List V}
/-- the answer of a callee's run, for the caller -/
theorem back {pins : List (Addr × Obj)} {σ : L2.St} {H : Hp} {s : Shared} {Q : VK} (hx : Passes CX X E) (I : Inv X pins σ H s) :
    ∀ (r : Result) (s' : Shared), CR CX X.stack X.prog X.w H s Q E r s' → (match r with | .ok (.ret u) => EP X pins σ Q u s' | .ok _ => False | .error e => X.xe e s')
  | .error _, _, h => hx _ _ _ _ _ _ I h
  | .ok (.ret _), _, h => I.after h
  | .ok .next, _, h => h
  | .ok .brk, _, h => h
  | .ok .cont, _, h => h
theorem runKW {pins : List (Addr × Obj)} {σ : L2.St} {H : Hp} {s : Shared} {Q : VK} {us ws : List Value} {vs zs : List V} (F : FnG X.prog X.w X.K X.mg X.base CX k f fd ps sp)
    (hr : RmG k X.A) (hb : KBinds X.K fd ps ks g gV) (hx : Passes CX X E) (I : Inv X pins σ H s) (r : Vals vs us) (rz : Vals zs ws) (h : sp (gV vs zs) H Q E) :
    wpAny (model X.prog X.w) X.A (call (.ref f) us (ks.zip ws)) (EP X pins σ Q) X.xe s := by
  have r2 := hb.rel r rz
  have hl : (g us ws).length = ps.length := r2.length.symm.trans (F.len _ _ _ _ h)
  refine wpAny_call (codeAny_mono (F.run _ _ _ _ _ _ _ _ _ hr I.env0 (hb.to s us ws I.kIn hl) r2 h) fun q s' hq => ?_)
  exact back hx I q s' hq
theorem runPos {pins : List (Addr × Obj)} {σ : L2.St} {H : Hp} {s : Shared} {Q : VK} {us : List Value} {vs : List V} (F : FnG X.prog X.w X.K X.mg X.base CX k f fd ps sp)
    (hr : RmG k X.A) (hb : Binds X.K fd ps ds) (hd : Vals dvs ds) (hx : Passes CX X E) (I : Inv X pins σ H s) (r : Vals vs us) (h : sp (vs ++ dvs) H Q E) :
    wpAny (model X.prog X.w) X.A (call (.ref f) us) (EP X pins σ Q) X.xe s := by
  have r2 : Vals (vs ++ dvs) (us ++ ds) := r.append hd
  have hl : (us ++ ds).length = ps.length := r2.length.symm.trans (F.len _ _ _ _ h)
  refine wpAny_call (codeAny_mono (F.run _ _ _ _ _ _ _ _ _ hr I.env0 (hb s us I.kIn hl) r2 h) fun q s' hq => ?_)
  exact back hx I q s' hq
/-- f(e, ..) of such a def -/
theorem pg_call (F : FnG X.prog X.w X.K X.mg X.base CX k f fd ps sp) (hr : RmG k X.A) (hg : Gl X x) (hm : X.mg x = some (.ref f)) (hk : PySem.W.keepIn X.K (.ref f) = true)
    (hb : Binds X.K fd ps ds) (hd : Vals dvs ds) (hx : Passes CX X E) (ha : PA X (e :: es) t) (hdb : (x == ("__debug__" : Str)) = false := by decide)
    (he : starEach (e :: es) X.env = (false, eval e X.env) :: starEach es X.env := by rfl) (hpl : (backTo pos (starEach es X.env)).any (·.1) = false := by rfl) :
    PE X (.Call (.Name x p) (e :: es) [] pos) (tCall sp dvs E t) :=
  ⟨fun pins s σ H Q I h => wpAny_Call_Name_kw (ld_glob I hg hm (PySem.W.callWith_K (h₀ := X.base) I.ok.mod.kin hk
    (thn (ha.run pos pins s σ H _ I h) fun us s1 ⟨vs, H1, I1, r, q⟩ => ⟨I1.kIn, runPos F hr hb hd hx I1 r q⟩) he hpl) hdb)⟩
theorem pg_call0 (F : FnG X.prog X.w X.K X.mg X.base CX k f fd ps sp) (hr : RmG k X.A) (hg : Gl X x) (hm : X.mg x = some (.ref f)) (hk : PySem.W.keepIn X.K (.ref f) = true)
    (hb : Binds X.K fd ps ds) (hd : Vals dvs ds) (hx : Passes CX X E) (hdb : (x == ("__debug__" : Str)) = false := by decide) : PE X (.Call (.Name x p) [] [] pos) (tCall sp dvs E tNil) :=
  ⟨fun pins s σ H Q I h => wpAny_Call_Name_kw (ld_glob I hg hm (PySem.W.callWith_K0 I.kIn hk (runPos (us := []) F hr hb hd hx I .nil h)) hdb)⟩
/-- f(k = v, ..), no positional argument -/
theorem pe_kw0 (F : FnOk X.prog X.w X.K X.mg X.base CX k f fd ps sp) (hr : Room k X.A) (hg : Gl X x) (hm : X.mg x = some (.ref f)) (hk : PySem.W.keepIn X.K (.ref f) = true)
    (hb : KBinds X.K fd ps ks g gV) (hx : Passes CX X E) (hkw : PK X kws tk) (hall : (backToKw pos (keywordEach kws X.env)).all (·.1.isSome) = true := by rfl)
    (hks : (backToKw pos (keywordEach kws X.env)).filterMap (·.1) = ks := by rfl) (hdb : (x == ("__debug__" : Str)) = false := by decide)
    (hpl : ((backTo pos (starEach [] X.env)).any (·.1) || (backToKw pos (keywordEach kws X.env)).any (·.1.isNone)) = false := by rfl) :
    PE X (.Call (.Name x p) [] kws pos) (tCallK sp gV E tNil tk) :=
  ⟨fun pins s σ H Q I h => wpAny_Call_Name_kw (ld_glob I hg hm (PySem.W.callWith_KW0 (h₀ := X.base) I.ok.mod.kin hk hall
    (thn (hkw.run pos pins s σ H _ I h) fun ws s1 ⟨zs, H1, I1, rz, q⟩ => ⟨I1.kIn, by rw [hks]; exact run_fnk F hr hb hx I1 .nil rz q⟩) hpl) hdb)⟩
end

section
variable {P : Program} {w : World} {K : PySem.W.Frag} {mg : Str → Option Value} {base : Heap}
/-- a def by its body, with the guards told -/
theorem okG {CX : CXT} {x qual : Str} {st : Stmt} {f : Addr} {fd : FuncData} {N ps : List Str} {k : Nat} {sp : Sp} (F : Fun K x qual st f fd) (S : FnScope N ps (defScope st)) (len : ∀ vs H Q E, sp vs H Q E → vs.length = ps.length)
    (hbody : ∀ (cdv : Value) (A : Around) (outer : List Env) (s : Shared) (H : Hp) (vs : List V) (Q : VK) (E : XK), RmG k (A.deeper (envOfC qual (defScope st) s.heap.objs.size f cdv)) → sp vs H Q E →
      ∃ t, PSs (cxOf CX P w K mg base N qual (defScope st) f cdv A outer s H E) (defBody st) t ∧ t { nx := fun _ H' => Q .non H', rt := Q } (start N vs) H) : FnG P w K mg base CX (k + 1) f fd ps sp := by
  obtain ⟨oc, od, kV, doc, pm, an, cdv, ct, osl, rfl, lk, hcd⟩ := F.ex
  refine ⟨len, fun A outer s H args us vs Q E hr e0 hb r hsp => ?_⟩
  have KX : K.In s.heap := e0.mod.kin.keeps fun b o e => (e0.bs b o e).1
  have hk : ((ps.zip us).all fun y => (defScope st).names.lookup y.1 == some .local || (defScope st).names.lookup y.1 == some .cell) = true := List.all_eq_true.mpr fun y hy => by
    rcases S.par y.1 (List.of_mem_zip (a := y.1) (b := y.2) hy).1 with q | q <;> rw [q] <;> rfl
  refine Att.call_fn KX (e0.mod.nolimit.keeps fun b o e => (e0.bs b o e).1) lk hcd hr.r.depth hb hk (fun s1 x => ?_) S.co S.gen S.kind
  obtain ⟨t, ht, hq⟩ := hbody cdv A outer s H vs Q E (hr.deeper _) hsp
  have I := inv_start (CX := CX) (E := E) (f := f) (cd := cdv) (qual := qual) (outer := outer) S hr.r.hd e0 (len _ _ _ _ hsp) r x
  refine wpAny_mono (ht.run [] s1 _ H _ I hq) (fun fl s' hs => ?_) fun _ _ hs => hs
  cases fl with
  | ret u =>
    obtain ⟨v, _, H', J, rv, q⟩ := hs
    exact ⟨v, H', J.os, J.bare, J.base, J.hok, rv, q⟩
  | next =>
    obtain ⟨_, H', J, q⟩ := hs
    exact ⟨.non, H', J.os, J.bare, J.base, J.hok, rfl, q⟩
  | brk => exact hs.elim fun _ h => h.elim fun _ h => False.elim h.2
  | cont => exact hs.elim fun _ h => h.elim fun _ h => False.elim h.2
end
end Mx

namespace Mx
open PySem PySem.Spec PyProof.Rows L2

/-! ### operators -/
/-- a list that may be read, its object told whole -/
def LsX (K : PySem.W.Frag) (H : Hp) (a : Addr) (xs : List V) : Prop := Rd H a (.lst xs) ∨
  ∃ (its : List Value) (n : Nat), K.lookup a = some { cls := .type "list", data := .seq its.toArray n } ∧ xs.length ≤ sizeLine ∧ Vals xs its
theorem LsX.of {K : PySem.W.Frag} {H : Hp} {a : Addr} {xs : List V} (h : H a = some (.lst xs)) : LsX K H a xs := .inl (.inl h)
theorem LsX.sq {K : PySem.W.Frag} {H : Hp} {a : Addr} {xs : List V} (h : LsX K H a xs) : SqL K H a xs := by
  rcases h with h | ⟨its, n, h, z, r⟩
  · exact .inl h
  · exact .inr ⟨_, its.toArray, n, h, rfl, rfl, rfl, by rw [List.size_toArray, ← r.length]; exact z, by simpa using r⟩
theorem LsX.at {X : Cx} {pins : List (Addr × Obj)} {σ : L2.St} {H : Hp} {s : Shared} {a : Addr} {xs : List V} (I : Inv X pins σ H s) (h : LsX X.K H a xs) :
    ∃ (its : List Value) (n : Nat), Vals xs its ∧ xs.length ≤ sizeLine ∧ s.heap.get? a = some { cls := .type "list", data := .seq its.toArray n } := by
  rcases h with h | ⟨its, n, h, z, r⟩
  · obtain ⟨z, its, n, r, e⟩ := h.ok I.hok
    exact ⟨its, n, r, z, e⟩
  · exact ⟨its, n, r, z, I.kIn _ _ h⟩
theorem LsX.keep {K : PySem.W.Frag} {H H' : Hp} {a : Addr} {xs : List V} (h : LsX K H a xs) (e : ∀ o, H a = some o → H' a = some o) : LsX K H' a xs := by
  rcases h with (h | ⟨o, h⟩) | h
  · exact .inl (.inl (e _ h))
  · exact .inl (.inr ⟨o, e _ h⟩)
  · exact .inr h
/-- two lists, read alone, one behind the other -/
def rCatR (K : PySem.W.Frag) : R2 := fun x y H Q => ∃ a b xs ys, x = .ref a ∧ y = .ref b ∧ LsX K H a xs ∧ LsX K H b ys ∧ xs.length + ys.length ≤ sizeLine ∧
  ∀ p, H p = none → Q (.ref p) (upd H p (.lst (xs ++ ys)))
theorem op_catR {X : Cx} : OpR X (binaryOp .Add) (rCatR X.K) := by
  intro pins s σ H x y v u Q I rx ry h
  obtain ⟨a, b, xs, ys, rfl, rfl, hA, hB, hz, q⟩ := h
  cases rx
  cases ry
  obtain ⟨ia, na, ra, za, ea⟩ := hA.at I
  obtain ⟨ib, nb, rb, zb, eb⟩ := hB.at I
  refine PySem.P.add_list ea eb ?_ (by rw [List.size_toArray, List.size_toArray, ← ra.length, ← rb.length]; exact hz)
  rw [show ia.toArray ++ ib.toArray = (ia ++ ib).toArray from by simp]
  exact ⟨.ref _, _, I.lnew (t' := s.toks) (ra.append rb) (by rw [List.length_append]; exact hz), rfl, q _ I.fresh⟩

/-! ### repr of data -/
def rRepr (K : PySem.W.Frag) : List V → Hp → VK → Prop := fun xs H Q => ∃ (a : Addr) (d : PyData), xs = [.ref a] ∧ Dp K H (.ref a) d ∧ d.showable = true ∧ d.hasDict = false ∧ d.depth ≤ 60 ∧ d.shown.length ≤ sizeLine ∧ Q (.str d.shown) H
theorem call_repr {X : Cx} {k : Nat} (hr : RmG k X.A) : CallR X (.builtin "repr") (rRepr X.K) := by
  intro pins s σ H vs us Q I r h
  obtain ⟨a, d, rfl, hd, h1, h2, h3, h4, q⟩ := h
  cases r with
  | cons ra rn =>
    cases rn
    cases ra
    obtain ⟨as, hr2⟩ := Dp.reads I d _ _ hd rfl
    have hu := hr.r.un
    refine repr_of_reads' hr2 h1 (PyData.noDict_hsm h2) hr.g (by omega) (fun _ _ e => e) (fun h' u tk hk => ?_) h4
    exact ⟨.str d.shown, H, I.kept hk, ⟨u, rfl⟩, q⟩

/-! ### enumerate of a text -/
def Itet (x : Str) : It :=
  ⟨fun i _ => i < x.cps.size, fun i H v H' => ∃ T c, v = .ref T ∧ H T = none ∧ x.cps[i]? = some c ∧ H' = upd H T (.tup [.int (i : Nat), .str ⟨#[c]⟩]), fun i _ => i = x.cps.size⟩
def IsEt (x : Str) (t : Tok) (e it : Addr) (i : Nat) (h : Heap) : Prop :=
  (∃ old, IsEnum h e it ((i : Nat) : Int) old) ∧ h.IsStrIter it (strIterType x) x t i ∧ e ≠ it
theorem drawsS {prog : Program} {w : World} {A : Around} (hh : A.handled = none) (it : Addr) (x : Str) (t : Tok) :
    Draws prog w A it [it] x.cps.size (fun i v => ∃ c u, x.cps[i]? = some c ∧ v = .str ⟨#[c]⟩ u) (fun i h => h.IsStrIter it (strIterType x) x t i) := by
  have z : strIterType x = "str_ascii_iterator" ∨ strIterType x = "str_iterator" := by
    unfold strIterType
    split <;> simp
  rcases z with e | e <;> rw [e]
  · exact Draws.strAscii hh it x t
  · exact Draws.strWide hh it x t
theorem turn_et {P : Program} {w : World} {K : PySem.W.Frag} {elts : List Expr} {kk : Nat} {tpos : Pos} (x : Str) (t : Tok) (e it : Addr) :
    Turn P w K (.Tuple elts kk tpos) (Itet x) [e, it] e (IsEt x t e it) where
  mem := by simp
  obj := fun i h st b hb => by
    obtain ⟨⟨old, he⟩, ⟨o, ho, hc, hd⟩, _⟩ := st
    rcases List.mem_cons.mp hb with z | z
    · exact ⟨_, z ▸ he, fun v q => by cases q⟩
    · exact ⟨o, (List.mem_singleton.mp z) ▸ ho, fun v q => by rw [hd] at q; cases q⟩
  keep := fun i h h' st k => ⟨let ⟨old, he⟩ := st.1; ⟨old, k e (by simp) _ he⟩, let ⟨o, ho, r⟩ := st.2.1; ⟨o, k it (by simp) _ ho, r⟩, st.2.2⟩
  item := by
    intro X hP hw hK hc i pins s σ H E I hf st hg
    subst hP hw hK
    obtain ⟨⟨old, he⟩, hit, hne⟩ := st
    have le : e < s.heap.objs.size := Heap.lt_size he
    have li : it < s.heap.objs.size := by obtain ⟨_, q, _⟩ := id hit; exact Heap.lt_size q
    have D := drawsS (prog := X.prog) (w := X.w) (A := X.A.in1) (I.ok.hd hc) it x t
    refine wpAny_pyNext_enum_itemD D he hit hg hne (by simpa using hne) fun z h' tk hz ho hit' hT hsz hk => ?_
    obtain ⟨c, u, hcx, rfl⟩ := hz
    refine ⟨_, rfl, wpAny_letOwnedTupleGo_enum (s := { s with heap := h', toks := tk + 1 }) ho fun h'' he' sb => ?_⟩
    have hT2 : h''.get? s.heap.objs.size = some { cls := .type "tuple", data := .seq #[.int i tk, .str ⟨#[c]⟩ u] } := (sb.2 _ (Nat.ne_of_gt le)).trans hT
    have new : ObjOk X.prog X.w (upd H s.heap.objs.size (.tup [.int (i : Nat), .str ⟨#[c]⟩])) h'' s.heap.objs.size (.tup [.int (i : Nat), .str ⟨#[c]⟩]) :=
      ⟨(by decide : 2 ≤ sizeLine), _, .cons ⟨_, rfl⟩ (.cons ⟨_, rfl⟩ .nil), _, hT2, rfl, _, rfl⟩
    have J : Inv X pins σ (upd H s.heap.objs.size (.tup [.int (i : Nat), .str ⟨#[c]⟩])) { s with heap := h'', toks := tk + 1 } :=
      I.turnedNew (ch := [e, it]) (fun b ob hb q => (sb.2 b (fun y => hb (by simp [y]))).trans (hk b ob (fun y => hb (by simp [y])) (fun y => hb (by simp [y])) q)) hf (Nat.le_refl _) new
    refine ⟨.ref s.heap.objs.size, _, J, rfl, ⟨_, c, rfl, I.hok.fresh (Nat.le_refl _), hcx, rfl⟩, ⟨⟨.str ⟨#[c]⟩ u, ?_⟩, ?_, hne⟩, fun b hb => ?_⟩
    · have e1 : ((i + 1 : Nat) : Int) = (i : Int) + 1 := by omega
      rw [e1]
      exact he'
    · obtain ⟨o, q, r⟩ := hit'
      exact ⟨o, (sb.2 it (Ne.symm hne)).trans q, r⟩
    · have lb : b < s.heap.objs.size := by
        rcases List.mem_cons.mp hb with z | z
        · exact z ▸ le
        · exact (List.mem_singleton.mp z) ▸ li
      rw [upd_ne (Nat.ne_of_lt lb)]
      exact (hf b hb).1
  done := by
    intro X hP hw hK hc i pins s σ H E I hf st hg
    subst hP hw hK
    obtain ⟨⟨old, he⟩, hit, hne⟩ := st
    have hg' : i = x.cps.size := hg
    subst hg'
    obtain ⟨f0, f1, f2, f3, f4, f5⟩ := hf it (by simp)
    exact wpAny_pyNext_enum_endD (St := fun i h => h.IsStrIter it (strIterType x) x t i) (drawsS (A := X.A.in1) (I.ok.hd hc) it x t) he hit fun h' eb => ⟨rfl, I.turned (t' := s.toks) (fun b o hb q => eb b o hb q) f0 f1 f3 f4 f5⟩
  self := fun A i s Q E st h => let ⟨⟨_, he⟩, _⟩ := st; wpAny_pyIter_enum he h
def iEt (ta : TA) : TI := fun σ H R => ta σ H fun vs H1 => ∃ x, vs = [.str x] ∧ R (Itet x) H1
theorem pi_enumT {X : Cx} {e : Expr} {ta : TA} {p pos tpos : Pos} {elts : List Expr} {kk : Nat} (hg : Gl X "enumerate") (hm : X.mg "enumerate" = none) (ha : PA X [e] ta)
    (hs : starEach [e] X.env = [(false, eval e X.env)] := by rfl) : PI X (.Tuple elts kk tpos) (.Call (.Name "enumerate" p) [e] [] pos) (iEt ta) := by
  refine ⟨fun pins s σ H R I h => Call_ (ld_blt I hg hm boot_enumerate (PyProof.Rows.callWith_type1 (thn (ha.run pos pins s σ H _ I h) fun us s1 ⟨vs, H1, I1, r1, q1⟩ => ?_) hs rfl))⟩
  obtain ⟨x, ex, q⟩ := q1
  subst ex
  cases r1 with
  | cons r rr =>
    cases rr
    obtain ⟨t, rfl⟩ := r
    refine call_enumerate_str fun h' he hit hsz hk => wpAny_pyIter_enum he ?_
    have I2 : Inv X pins σ H1 { s1 with heap := h' } := I1.kept (t' := s1.toks) hk
    refine ⟨s1.heap.objs.size + 1, [s1.heap.objs.size + 1, s1.heap.objs.size], _, _, H1, rfl, I2, turn_et x t (s1.heap.objs.size + 1) s1.heap.objs.size, ⟨⟨.none, he⟩, hit, Nat.succ_ne_self _⟩, fun b hb => ?_, q⟩
    have le : s1.heap.objs.size ≤ b := by
      rcases List.mem_cons.mp hb with z | z
      · rw [z]; exact Nat.le_add_right _ _
      · rw [List.mem_singleton.mp z]; exact Nat.le_refl _
    exact I1.fpOk le (I1.hok.fresh le)
end Mx

namespace Mx
open PySem PySem.Spec PyProof.Rows L2

/-! ### exceptions whose __init__ calls that of their base by its name -/
/-- a base class over ValueError, read by its name -/
structure BaseT (K : PySem.W.Frag) (mg : Str → Option Value) (bn : Str) (CM : Addr) : Prop where
  mgM : mg bn = some (.ref CM)
  rd : PySem.W.readsIn K CM (.type "type") = true
  ga : PySem.W.specialIn K (.ref CM) "__getattribute__" = some (some (.builtin "type.__getattribute__"))
  at_ : PySem.W.findCls K (.ref CM) (.type "type") "__init__" = some (.val (.builtin "ValueError.__init__"))
section
variable {X : Cx} {o e : Expr} {es : List Expr} {ta : TA} {p1 p2 pos : Pos}
theorem pe_minit {bn : Str} {CM : Addr} {pl : Sem Bool} (T : BaseT X.K X.mg bn CM) (hg : Gl X bn) (ha : PA X (e :: es) ta)
    (hc : eval (.Call (.Attribute (.Name bn p1) "__init__" p2) (e :: es) [] pos) X.env = (do
      let ov ← eval (.Name bn p1) X.env
      standAt p2.atName
      let (f, first) ← holding [ov] (getMethod ov "__init__" pl)
      callWith pos f first (backTo pos (starEach (e :: es) X.env)) (backToKw pos (keywordEach [] X.env))) := by rfl)
    (he : starEach (e :: es) X.env = (false, eval e X.env) :: starEach es X.env := by rfl) (hpl : (backTo pos (starEach es X.env)).any (·.1) = false := by rfl)
    (hdb : (bn == ("__debug__" : Str)) = false := by decide) :
    PE X (.Call (.Attribute (.Name bn p1) "__init__" p2) (e :: es) [] pos) (tVeI X.K ta) := by
  refine ⟨fun pins s σ H Q I h => PySem.W.methodCall_KW (ld_glob I hg T.mgM ?_ hdb) hc⟩
  refine PySem.W.method_cls I.kIn T.ga (PySem.W.cls_value I.kIn T.rd T.at_ (by decide +kernel) ?_)
  refine PyProof.Rows.callWith_method1 (thn (ha.run pos pins _ σ H _ (I.tok _) h) fun us s1 ⟨vs, H1, I1, r1, a, C, ws, ev, hl, Tc, ea, q⟩ => ?_) he hpl
  subst ev
  cases r1 with
  | @cons _ u0 _ ur ra rw' =>
    obtain rfl : u0 = Value.ref a := ra
    have hz : ur.length ≤ sizeLine := by
      rw [← Paired.length rw']
      exact Nat.le_trans hl (by decide)
    exact oinit_ok Tc I1 ea hz fun s' J => ⟨.non, H1, J, rfl, q⟩
end
/-- what __init__(self, f) keeps -/
def spXI (K : PySem.W.Frag) (C : Addr) (f : Str) : Sp := fun vs H Q _ => ∃ (a : Addr) (y : V), vs = [.ref a, y] ∧ OexC K C ∧ H a = some (exo a C none) ∧
  ∀ dx, H dx = none → dx ≠ a → Q .non (upd (upd H dx (exd dx [(f, y)])) a (exo a C (some dx)))
/-- the facts of such a class with one field -/
structure ExT (P : Program) (w : World) (K : PySem.W.Frag) (mg : Str → Option Value) (base : Heap) (cn f : Str) (C fI : Addr) (fd : FuncData) (ps : List Str) : Prop where
  oex : OexC K C
  mgC : mg cn = some (.ref C)
  iC : PySem.W.findIn K (.ref C) "__init__" = some (some (.ref fI))
  tI : PySem.W.typeIn K (.ref fI) = some (.type "function")
  ok : FnOk P w K mg base CX0 1 fI fd ps (spXI K C f)
  bI : Binds K fd ps []
/-- C(e): the exception's class, its own dict -/
def tXM (C : Addr) (f : Str) (ta : TA) : L2.St → Hp → XK → Prop := fun σ H Q => ta σ H fun vs H1 => ∃ y, vs = [y] ∧ ∀ d, H1 d = none → Q (.ref C) (some d) (upd H1 d (.xd [(f, y)]))
/-- arguments, the wish made weaker behind them -/
def aMono (ta : TA) : TA := fun σ H Q => ∃ Q0 : List V → Hp → Prop, ta σ H Q0 ∧ ∀ vs H1, Q0 vs H1 → Q vs H1
theorem pa_mono {X : Cx} {es : List Expr} {ta : TA} (ha : PA X es ta) : PA X es (aMono ta) :=
  ⟨fun pos pins s σ H Q I ⟨Q0, h, k⟩ => wpAny_mono (ha.run pos pins s σ H Q0 I h) (fun _ _ ⟨vs, H1, I1, r, q⟩ => ⟨vs, H1, I1, r, k _ _ q⟩) fun _ _ z => z⟩
theorem pmk_x {X : Cx} {e : Expr} {ta : TA} {p pos : Pos} {cn f : Str} {C fI : Addr} {fd : FuncData} {ps : List Str} (T : ExT X.prog X.w X.K X.mg X.base cn f C fI fd ps) (hr : Room 2 X.A) (hg : Gl X cn) (ha : PA X [e] ta)
    (hdb : (cn == ("__debug__" : Str)) = false := by decide) (he : starEach [e] X.env = (false, eval e X.env) :: starEach [] X.env := by rfl) (hpl : (backTo pos (starEach [] X.env)).any (·.1) = false := by rfl) :
    PMk X (.Call (.Name cn p) [e] [] pos) (tXM C f ta) := by
  intro pins s σ H Q I h
  refine pmk_oex T.oex T.iC T.tI T.ok hr T.bI .nil pass0 hg T.mgC (pa_mono ha) hdb he hpl pins s σ H Q I ⟨_, h, fun vs H1 hq => ?_⟩
  obtain ⟨y, rfl, hq⟩ := hq
  refine ⟨(by show 1 ≤ 1000; omega), fun a ha => ⟨a, y, rfl, T.oex, upd_same, fun dx hx hn => ⟨rfl, dx, [(f, y)], upd_same, ?_, ?_, ?_⟩⟩⟩
  · rw [upd_ne hn, upd_same]
  · rw [upd_ne hn] at hx
    exact hx
  · rw [upd_ne hn] at hx
    have e1 : upd (L2.del (upd (upd (upd H1 a (exo a C none)) dx (exd dx [(f, y)])) a (exo a C (some dx))) a) dx (.xd [(f, y)]) = upd H1 dx (.xd [(f, y)]) := by
      funext b
      by_cases h1 : b = dx
      · rw [h1, upd_same, upd_same]
      · rw [upd_ne h1, upd_ne h1]
        by_cases h2 : b = a
        · rw [h2, del_same, ha]
        · rw [del_ne h2, upd_ne h2, upd_ne h1, upd_ne h2]
    rw [e1]
    exact hq dx hx
end Mx

namespace Mx
open PySem PySem.Spec PyProof.Rows L2

/-! ### a caught exception that is kept -/
/-- the object at a is an exception of the class cls, its dict at d -/
def xoO (a : Addr) (cls : Value) (d : Option Addr) : HO := .ext fun h => ∃ o vs, h.get? a = some o ∧ o.cls = cls ∧ o.dict = d ∧ o.data = .fields vs
theorem xo_at {P : Program} {w : World} {H : Hp} {h : Heap} {a : Addr} {cls : Value} {d : Option Addr} (hok : HOk P w H h) (e : H a = some (xoO a cls d)) :
    ∃ o vs, h.get? a = some o ∧ o.cls = cls ∧ o.dict = d ∧ o.data = .fields vs := by
  have x : ObjOk P w H h a (.ext fun h => ∃ o vs, h.get? a = some o ∧ o.cls = cls ∧ o.dict = d ∧ o.data = .fields vs) := hok a _ e
  exact x.1
theorem track {X : Cx} {pins : List (Addr × Obj)} {σ : L2.St} {H : Hp} {s : Shared} {a : Addr} {o : Obj} {vs : Array Value} {cls : Value} {d : Option Addr} (I : Inv X pins σ H s) (ho : s.heap.get? a = some o) (hz : Zc cls d o) (hd : o.data = .fields vs)
    (na : H a = none) (n0 : X.s_0.heap.get? a = none) (nL : a ≠ X.env.locals) (np : ∀ p ∈ X.pn ++ pins, p.1 ≠ a) : Inv X pins σ (upd H a (xoO a cls d)) s := by
  have ne : ∀ {b : Addr} {u : HO}, H b = some u → b ≠ a := fun {b u} e => ne_of_none e na
  have n0' : ∀ {b : Addr} {o : Obj}, X.s_0.heap.get? b = some o → b ≠ a := fun {b o} e z => by rw [z, n0] at e; cases e
  refine ⟨I.ok, I.os, I.bare, ⟨I.base.keep, I.base.slot, fun b ob e n hx => ?_, I.base.there, fun b xs e => ?_, fun b ob u e => ?_, fun b ps e => ?_⟩, I.loc, I.cell, ?_, fun x c e => ?_, fun p hp => ?_, fun b u e => ?_, I.len⟩
  · rw [upd_ne (n0' e)]
    exact I.base.free b ob e n hx
  · have q := I.base.tups b xs e
    rw [upd_ne (ne q)]
    exact q
  · have q := I.base.frzs b ob u e
    rw [upd_ne (ne q)]
    exact q
  · obtain ⟨m, q⟩ := I.base.tbls b ps e
    exact ⟨m, by rw [upd_ne (ne q)]; exact q⟩
  · rw [upd_ne (Ne.symm nL)]
    exact I.free
  · have hc : c ≠ a := fun z => by
      obtain ⟨v, oc, q, hv⟩ := I.cell x c e
      rw [z, ho] at q
      cases q
      rw [hd] at hv
      cases hv
    rw [upd_ne hc]
    exact I.freeC x c e
  · obtain ⟨e, n, r⟩ := I.pin p hp
    exact ⟨e, by rw [upd_ne (np p hp)]; exact n, r⟩
  · by_cases hb : b = a
    · subst hb
      rw [upd_same] at e
      cases e
      exact ⟨⟨o, vs, ho, hz.1, hz.2, hd⟩, ⟨o, ho⟩, fun h1 h2 z k => let ⟨o', vs', q, r⟩ := z; ⟨o', vs', k _ q, r⟩⟩
    · rw [upd_ne hb] at e
      exact (I.hok b u e).stay (fun _ _ _ q => q) (fun c q => by rw [upd_ne (ne q)]; exact q) fun c xs q => by rw [upd_ne (ne q)]; exact q

/-- what 'except (x1, x2, x3) as n' wishes: behind its suite the exception is told -/
def wT (K : PySem.W.Frag) (cs : List Value) (i : Nat) (ts : Addr → Value → Option Addr → TS) (Wout : WX) (D : Ends) : WX := fun cls d σ H =>
  ∃ b, PySem.W.exmAny K cls cs = some b ∧ (b = true → ∀ a, H a = none → ts a cls d { nx := fun σ' H' => D.nx (σ'.set i none) (upd H' a (xoO a cls d)), rt := fun _ _ => False, bk := fun _ _ => False, ct := fun _ _ => False } (σ.set i (some (.ref a))) H) ∧
    (b = false → Wout cls d σ H)
/-- a class of the text by its name -/
structure Nm (X : Cx) (x : Str) (c : Value) : Prop where
  g : Gl X x
  m : X.mg x = some c
  d : (x == ("__debug__" : Str)) = false
theorem ps_try_t3 {X : Cx} {x1 x2 x3 n : Str} {c1 c2 c3 : Value} {i kk : Nat} {body suite : List Stmt} {b₀ : Stmt} {q1 q2 q3 tp pos pos' : Pos} {tb : WX → TS} {ts : Addr → Value → Option Addr → TS} {Wout : WX}
    (hs : X.stack = X.env :: X.outer) (hf : X.env.frame = some X.env.locals) (hex : X.ex = []) (hN : X.N.Nodup) (hi : X.N[i]? = some n) (hln : X.env.kindOf n = some .local) (n1 : Nm X x1 c1) (n2 : Nm X x2 c2) (n3 : Nm X x3 c3) (tk : Takes X Wout)
    (hb : ∀ (W : WX) (pn : List (Addr × Obj)) (xe : Value → Shared → Prop), Takes (X.tr pn xe) W → PassesOwn (model X.prog X.w) X.A X.env xe → PSs (X.tr pn xe) body (tb W))
    (hsu : ∀ (a : Addr) (oe : Obj) (cls : Value) (d : Option Addr) (pn : List (Addr × Obj)), Zc cls d oe → (∃ vs, oe.data = .fields vs) → PSs (X.suite a ((a, oe) :: pn)) (b₀ :: suite) (ts a cls d)) :
    PS X (.Try body [.ExceptHandler (some (.Tuple [.Name x1 q1, .Name x2 q2, .Name x3 q3] kk tp)) (some n) (b₀ :: suite) pos'] [] [] pos) (fun D σ H => tb (wT X.K [c1, c2, c3] i ts Wout D) D σ H) := by
  refine ⟨fun pins s σ H D I h => wpAny_Try_except ?_⟩
  have ok := I.ok
  have hfr : X.A.frames = some (X.env :: X.outer) := ok.frames.trans (by rw [hs])
  refine wpAny_mono ((hb (wT X.K [c1, c2, c3] i ts Wout D) (X.pn ++ pins) (fun e s₁ => wpAny (model X.prog X.w) X.A (noteFrame e X.env) (fun _ s₂ => wpAny (model X.prog X.w) X.A (setFlight e none) (fun _ s₃ =>
    wpAny (model X.prog X.w) X.A (handleBy e X.env [.ExceptHandler (some (.Tuple [.Name x1 q1, .Name x2 q2, .Name x3 q3] kk tp)) (some n) (b₀ :: suite) pos']) (SP X pins D) X.xe s₃) X.xe s₂) X.xe s₁) (fun u s' xx => ?_) PassesOwn.looking).run [] s σ H D (I.toTry _) h) (fun f s1 hsp => ?_) (fun _ _ z => z)
  · obtain ⟨a, B, sI, pins', σ', H', cls, d, rfl, J', nb, up, sky, na, os, ag, b, hb1, hyes, hno⟩ := xx
    have J : Inv X pins σ' H' sI := J'.ofTry ok
    rw [show (X.tr (X.pn ++ pins) _).stack = X.env :: X.outer from hs] at sky
    show wpAny (model X.prog X.w) X.A (noteFrame (.ref a) X.env) _ _ _
    refine Sky.land Zc.steady hfr hf sky fun h3 fl3 up3 => ?_
    have J3 : Inv X pins σ' H' { s' with heap := h3 } := J.landed nb fl3.1 (up.trans up3) os ag
    obtain ⟨oe3, vs3, he3, hz3, hd3⟩ := fl3.there
    have nfr : a ∉ frs X.stack := fun hm => by
      rw [hs] at hm
      obtain ⟨_, o', e', hnf⟩ := fl3.2.2.1.mem hm
      rw [he3] at e'
      cases e'
      exact hnf _ hd3
    have nL : a ≠ X.env.locals := fun z => nfr (by rw [hs]; exact List.mem_filterMap.mpr ⟨X.env, List.mem_cons_self, by rw [hf, z]⟩)
    have nF : a ∉ X.fs := fun hm => nfr (by
      rw [hs]
      obtain ⟨e, he, q⟩ := List.mem_filterMap.mp hm
      exact List.mem_filterMap.mpr ⟨e, List.mem_cons_of_mem _ he, q⟩)
    have nI : sI.heap.get? a = none := by
      cases e : sI.heap.get? a with
      | none => rfl
      | some o =>
        have z := nb a o e nfr
        rw [fl3.2.1] at z
        cases z
    have n0 : X.s_0.heap.get? a = none := by
      cases e : X.s_0.heap.get? a with
      | none => rfl
      | some o =>
        obtain ⟨o', z⟩ := J.base.there a o e (by rw [hex]; simp)
        rw [nI] at z
        cases z
    have np : ∀ p ∈ X.pn ++ pins, p.1 ≠ a := fun p hp z => by
      have q := (J.pin p hp).1
      rw [z, nI] at q
      cases q
    have S3 := J3.suite he3 hd3 na nL nF
    refine wpAny_handleBy_cons (codeAny_handlers_test ?_) (by intro q; cases q)
    have nm : ∀ {x : Str} {c : Value} {q : Pos} {s2 : Shared} {Q E : Value → Shared → Prop}, Nm X x c → Inv (X.suite a ((a, oe3) :: (X.pn ++ pins))) [] σ' H' s2 → Q c s2 → wpAny (model X.prog X.w) (X.A.mark (some (.ref a))) (eval (.Name x q) X.env) Q E s2 :=
      fun {x c q s2 Q E} nx S z => ld_glob (X := X.suite a ((a, oe3) :: (X.pn ++ pins))) S nx.g nx.m z nx.d
    refine PyProof.Rows.Tuple_ (PyProof.Rows.spliced_more (nm n1 S3 (PyProof.Rows.spliced_more (nm n2 S3 (PyProof.Rows.spliced_more (nm n3 S3 (PyProof.Rows.spliced_none ?_)))))))
    refine wpAny_newObj_type ?_
    have kp : ∀ b o, h3.get? b = some o → (h3.push { cls := .type "tuple", dict := none, data := .seq [c1, c2, c3].toArray }).get? b = some o := fun b o e => Heap.get?_push_of_some _ e
    have LT : PySem.W.Looks (model X.prog X.w) (h3.push { cls := .type "tuple", dict := none, data := .seq [c1, c2, c3].toArray }) (typeOf (.ref a)) cls := fun A Q E s k q => wpAny_typeOf_ref (k _ _ (kp _ _ he3)) (by rw [hz3.1]; exact q)
    have LM := PySem.W.exm_tup3 (M := model X.prog X.w) (J3.kIn.keeps kp) LT (Heap.get?_push_size h3 rfl) hb1
    refine LM.here ?_
    have fl5 : HandSPX.FlyingZ B (X.env :: X.outer) a (Zc cls d) (h3.push { cls := .type "tuple", dict := none, data := .seq [c1, c2, c3].toArray }) := by
      obtain ⟨k1, k2, k3, oe, vs, T, oT, ts', he, hz, hd, h1, hr0, hr1, hr2, hr3⟩ := id fl3
      exact ⟨fun b o e => kp _ _ (k1 b o e), k2, Heap.FunFrames.of_keeps (fun b o e _ => ⟨o, kp b o e, rfl⟩) k3, oe, vs, T, oT, ts', kp _ _ he, hz, hd, h1, hr0, hr1, kp _ _ hr2, hr3⟩
    have up5 := (up.trans up3).trans (Heap.UpToSlots.of_keeps kp)
    cases b with
    | true =>
      refine codeAny_handlers_suite_as (HandSPX.lands_againZ fl5 fun h4 fl4 up4 => ?_)
      have J4 : Inv X pins σ' H' { s' with heap := h4 } := J.landed nb fl4.1 (up5.trans up4) os ag
      obtain ⟨oe4, vs4, he4, hz4, hd4⟩ := fl4.there
      refine store_ok (X := X.suite a ((a, oe4) :: (X.pn ++ pins))) (v := .ref a) (J4.suite he4 hd4 na nL nF) hN hi (.inl hln) rfl (fun s5 S5 => ?_) (.inr hln)
      refine wpAny_mono ((hsu a oe4 cls d (X.pn ++ pins) hz4 ⟨_, hd4⟩).run [] s5 _ H' _ S5 (hyes rfl a na)) (fun f s6 hsp => ?_) (fun _ _ z => False.elim z)
      cases f with
      | next =>
        obtain ⟨σ6, H6, S6, q6⟩ := hsp
        have p6 := S6.pin (a, oe4) (List.mem_append_left _ List.mem_cons_self)
        have I6 : Inv X ((a, oe4) :: pins) σ6 H6 s6 := (S6.unsuite ok).pins_of fun p hp => by
          rcases List.mem_cons.mp hp with e | h
          · rw [e]; exact p6
          · exact (S6.unsuite ok).pin p (List.mem_append_right _ h)
        exact gone_ok I6 hN hi hln fun s7 J7 => by
          have p7 := J7.pin (a, oe4) (List.mem_append_right _ List.mem_cons_self)
          have K7 : Inv X pins (σ6.set i none) H6 s7 := J7.pins_of fun p hp => J7.pin p (List.mem_append_right _ (List.mem_cons_of_mem _ hp))
          exact ⟨_, _, track K7 p7.1 hz4 hd4 p7.2.1 n0 nL np, q6⟩
      | brk => exact hsp.elim fun _ h => h.elim fun _ h => h.2.elim
      | cont => exact hsp.elim fun _ h => h.elim fun _ h => h.2.elim
      | ret u => exact hsp.elim fun _ h => h.elim fun _ h => h.elim fun _ h => h.2.2.elim
    | false =>
      show wpAny _ X.A (handleBy (.ref a) X.env []) _ _ _
      refine wpAny_handleBy_nil ?_
      obtain ⟨k1, k2, k3, oe, vs, T, oT, ts', he, hz, hd, h1, hr⟩ := id fl5
      unfold PySem.passOn
      refine wpAny_bind (wpAny_field he hd h1 ?_)
      rw [if_neg (show ¬ ((Value.ref T == Value.none) = true) from by simp)]
      have fin : ∀ {s5 : Shared}, s5 = { s' with heap := h3.push { cls := .type "tuple", dict := none, data := .seq [c1, c2, c3].toArray } } →
          wpAny (model X.prog X.w) X.A (setFlight (.ref a) X.env.frame) (fun _ s4 => wpAny (model X.prog X.w) X.A (throw (.ref a) : Sem Flow) (SP X pins D) X.xe s4) X.xe s5 := by
        intro s5 e5
        rw [hf, e5]
        exact HandSPX.setFlight_upZ fl5 fun h4 hh4 up4 => wpAny_throw (tk _ _ ⟨a, B, sI, pins, σ', H', cls, d, rfl, J, nb, up5.trans up4, .inr (.inr (by rw [hs]; exact hh4)), na, os, ag, hno rfl⟩)
      first
        | exact wpAny_bind (wpAny_pure (wpAny_bind (fin rfl)))
        | exact wpAny_bind (fin rfl)
  · cases f with
    | next =>
      obtain ⟨σ', H', J', q⟩ := hsp
      exact wpAny_execs_nil ⟨σ', H', J'.ofTry ok, q⟩
    | brk =>
      obtain ⟨σ', H', J', q⟩ := hsp
      exact ⟨σ', H', J'.ofTry ok, q⟩
    | cont =>
      obtain ⟨σ', H', J', q⟩ := hsp
      exact ⟨σ', H', J'.ofTry ok, q⟩
    | ret u =>
      obtain ⟨v, σ', H', J', r, q⟩ := hsp
      exact ⟨v, σ', H', J'.ofTry ok, r, q⟩
end Mx

namespace Mx
open PySem PySem.Spec PyProof.Rows L2

/-! ### a kept exception asked: isinstance, its fields -/
structure XcC (K : PySem.W.Frag) (C : Addr) : Prop where
  cl : (PySem.W.clsIn K C).isSome = true
  ga : PySem.W.findIn K (.ref C) "__getattribute__" = some (some (.builtin "BaseException.__getattribute__"))
  gt : PySem.W.findIn K (.ref C) "__getattr__" = some none
  sub : PySem.W.subIn K (.ref C) (.type "BaseException") = some true
  ha : PySem.W.findIn K (.ref C) "__class__" = some (some (.builtin "object.__class__"))
  hn : PySem.W.specialIn K (.builtin "object.__class__") "__get__" = some (some (.builtin "getset_descriptor.__get__"))
  tk : PySem.W.takesIn K (.builtin "object.__class__") = some true
  hm : PySem.W.mroIn K C (.type "object") = some true
  hd : PySem.W.hasDictIn K C = true
/-- an exception of the class at C, its fields -/
def XoAt (H : Hp) (a C : Addr) (fs : List (Str × V)) : Prop := ∃ d, H a = some (xoO a (.ref C) (some d)) ∧ H d = some (.xd fs)
theorem xo_inst {X : Cx} {pins : List (Addr × Obj)} {σ : L2.St} {H : Hp} {s : Shared} {a C : Addr} {fs : List (Str × V)} (I : Inv X pins σ H s) (h : XoAt H a C fs) :
    ∃ (ox od : Obj) (mA : Str → Option Value), PySem.W.InstAt s.heap a ox C (some od) ∧ (∀ f, PySem.W.lookIn f od = some (mA f)) ∧ ∀ f, RelO (fs.lookup f) (mA f) := by
  obtain ⟨d, h1, h2⟩ := h
  obtain ⟨o, vs, e1, e2, e3, e4⟩ := xo_at I.hok h1
  obtain ⟨mA, hns, hr⟩ : ObjOk X.prog X.w H s.heap d (.xd fs) := I.hok d _ h2
  obtain ⟨od, ho, hl⟩ := lookIn_ns hns
  exact ⟨o, od, mA, ⟨e1, e2, by unfold PySem.W.notCls; rw [e4] <;> rfl, by rw [e3]; exact ho⟩, hl, hr⟩
def rIsiX (K : PySem.W.Frag) : List V → Hp → VK → Prop := fun xs H Q => ∃ (a C : Addr) (fs : List (Str × V)) (c : V) (u : Value) (b : Bool), xs = [.ref a, c] ∧ ClsV c u ∧ XoAt H a C fs ∧ XcC K C ∧ PySem.W.kitOne K (.ref C) u = some b ∧ Q (.bl b) H
theorem call_isiX {X : Cx} : CallR X (.builtin "isinstance") (rIsiX X.K) := by
  intro pins s σ H xs us Q I r h
  obtain ⟨a, C, fs, c, u, b, rfl, k, hx, T, e, q⟩ := h
  obtain ⟨u1, u2, rfl, r1, r2⟩ := vals2 r
  have e2 := k.eq r2
  subst e2
  cases (show u1 = Value.ref a from r1)
  obtain ⟨ox, od, mA, J, _, _⟩ := xo_inst I hx
  exact PySem.W.kia_one (PySem.W.kitx_exc T.cl T.ga T.gt T.sub T.ha T.hn T.tk T.hm) I.kIn J e (fun z => by cases z) fun tk => ⟨.bl b, H, I.tok tk, rfl, q⟩
/-- e.f of a kept exception -/
def tXo (K : PySem.W.Frag) (f : Str) (te : TE) : TE := fun σ H Q => te σ H fun x H1 => ∃ (a C : Addr) (fs : List (Str × V)) (v : V), x = .ref a ∧ XoAt H1 a C fs ∧ XcC K C ∧ PySem.W.findIn K (.ref C) f = some none ∧ fs.lookup f = some v ∧ Q v H1
theorem pe_xo {X : Cx} {e : Expr} {te : TE} {pos : Pos} {f : Str} (he : PE X e te) (hb : attributeBase e f X.env (eval e X.env) = eval e X.env := by rfl) : PE X (.Attribute e f pos) (tXo X.K f te) := by
  refine ⟨fun pins s σ H Q I h => attr_of hb (thn (he.run pins s σ H _ I h) fun u s1 hh => ?_)⟩
  obtain ⟨x, H1, I1, rx, a, C, fs, v, ex, hx, T, hno, l, q⟩ := hh
  subst ex
  cases (show u = Value.ref a from rx)
  obtain ⟨ox, od, mA, J, hl, hr⟩ := xo_inst I1 hx
  obtain ⟨u, hu, ru⟩ := RelO.some_of (v := v) (o := mA f) (by rw [← l]; exact hr f)
  exact HandSPX.exc_get I1.kIn J T.ga T.gt T.sub (PySem.W.findObj_own T.hd hno rfl (by rw [hl, hu])) (handed_of ru) ⟨v, H1, I1.tok _, ru, q⟩
end Mx

namespace Mx
open PySem PySem.Spec PyProof.Rows L2

/-- a def of the module: where it stands, its name, its parameters -/
structure DefT (K : PySem.W.Frag) (mg : Str → Option Value) (x : Str) (st : Stmt) (ps : List Str) : Type where
  f : Addr
  fd : FuncData
  F : Fun K x x st f fd
  m : mg x = some (.ref f)
  b : Binds K fd ps []

/-! ### heaps: all but a stays -/
def Kp (a : Addr) (H H' : Hp) : Prop := ∀ b o, b ≠ a → H b = some o → H' b = some o
theorem Kp.refl (a : Addr) (H : Hp) : Kp a H H := fun _ _ _ h => h
theorem Kp.trans {a : Addr} {H H1 H2 : Hp} (x : Kp a H H1) (y : Kp a H1 H2) : Kp a H H2 := fun b o n h => y b o n (x b o n h)
theorem Kp.upd {a : Addr} {H H1 : Hp} {o : HO} (x : Kp a H H1) : Kp a H (upd H1 a o) := fun b u n h => by rw [upd_ne n]; exact x b u n h
theorem Kp.new {a p : Addr} {H H1 : Hp} {o : HO} (x : Kp a H H1) (h : H1 p = none) : Kp a H (L2.upd H1 p o) := fun b u n e => by
  have q := x b u n e
  rw [upd_ne (ne_of_none q h)]
  exact q
theorem Kp.of {a : Addr} {H H1 : Hp} (x : Same H H1) : Kp a H H1 := fun b o _ h => x b o h
theorem Same.new {p : Addr} {H H1 : Hp} {o : HO} (x : Same H H1) (h : H1 p = none) : Same H (L2.upd H1 p o) := fun b u e => by
  have q := x b u e
  rw [upd_ne (ne_of_none q h)]
  exact q
/-! ### the law's draws: a stream is a list of three ints at a, the second counts -/
def StAt (a : Addr) (c : Int) (H : Hp) : Prop := ∃ x m n : Int, H a = some (.lst [.int x, .int n, .int m]) ∧ 0 ≤ n ∧ n ≤ c
theorem StAt.mono {a : Addr} {c d : Int} {H : Hp} (h : StAt a c H) (l : c ≤ d) : StAt a d H := let ⟨x, m, n, e, h1, h2⟩ := h; ⟨x, m, n, e, h1, by omega⟩
theorem StAt.same {a : Addr} {c : Int} {H H' : Hp} (h : StAt a c H) (e : Same H H') : StAt a c H' := let ⟨x, m, n, q, h1, h2⟩ := h; ⟨x, m, n, e _ _ q, h1, h2⟩
/-- a constant of the module -/
theorem pe_gc {X : Cx} {x : Str} {pos : Pos} {v : V} (hg : Gl X x) (h : ∃ u, X.mg x = some u ∧ RelV v u) (hd : (x == ("__debug__" : Str)) = false := by decide) : PE X (.Name x pos) (tC v) :=
  let ⟨_, e, r⟩ := h
  pe_glob hg e r hd
/-! ### a for over enumerate of a text -/
theorem for_et {x : Str} {g : TG} {tb : TS} {D : Ends} {σ : L2.St} {H : Hp} (Pv : Nat → L2.St → Hp → Prop) (h0 : Pv 0 σ H)
    (hs : ∀ (i c : Nat) (T : Addr) σ H, x.cps[i]? = some c → H T = none → Pv i σ H → g (.ref T) σ (upd H T (.tup [.int (i : Nat), .str ⟨#[c]⟩])) fun σ2 H2 => tb { D with nx := Pv (i + 1), ct := Pv (i + 1), bk := D.nx } σ2 H2)
    (hd : ∀ σ H, Pv x.cps.size σ H → D.nx σ H) :
    ∃ W : Nat → Nat → L2.St → Hp → Prop, (∃ m, W 0 m σ H) ∧ ∀ i m σ H, W i m σ H →
      ((Itet x).stop i H ∧ D.nx σ H) ∨ ((Itet x).go i H ∧ ∃ N : L2.St → Hp → Prop, (∀ σ' H', N σ' H' → ∃ m', m' < m ∧ W (i + 1) m' σ' H') ∧ ∀ v H', (Itet x).yld i H v H' → g v σ H' fun σ2 H2 => tb { D with nx := N, ct := N, bk := D.nx } σ2 H2) := by
  refine ⟨fun i m σ H => m = x.cps.size - i ∧ i ≤ x.cps.size ∧ Pv i σ H, ⟨x.cps.size, by simp, Nat.zero_le _, h0⟩, ?_⟩
  rintro i m σ H ⟨rfl, hi, p⟩
  by_cases hlt : i < x.cps.size
  · refine .inr ⟨hlt, Pv (i + 1), fun σ' H' p' => ⟨x.cps.size - (i + 1), by omega, rfl, hlt, p'⟩, fun v H' y => ?_⟩
    obtain ⟨T, c, rfl, hT, hc, rfl⟩ := y
    exact hs i c T σ H hc hT p
  · have e : i = x.cps.size := by omega
    subst e
    exact .inl ⟨rfl, hd σ H p⟩
/-! ### places -/
theorem at_int {α : Type} {xs : List α} {r : Int} (r0 : 0 ≤ r) (r1 : r < (xs.length : Int)) : ∃ (i : Nat) (x : α), xs[i]? = some x ∧ atI xs r = some x ∧ (i : Int) = r := by
  have h : r.toNat < xs.length := by omega
  obtain ⟨n, rfl⟩ := Int.eq_ofNat_of_zero_le r0
  have h2 : n < xs.length := by omega
  exact ⟨n, xs[n], List.getElem?_eq_getElem h2, atI_nat (List.getElem?_eq_getElem h2), rfl⟩
theorem at_text {z : Str} {r : Int} (r0 : 0 ≤ r) (r1 : r < (z.cps.size : Int)) : ∃ cp : Nat, cp ∈ z.cps.toList ∧ atI z.cps.toList r = some cp := by
  obtain ⟨i, x, h, e, _⟩ := at_int (xs := z.cps.toList) r0 (by simpa using r1)
  exact ⟨x, List.mem_of_getElem? h, e⟩
theorem size_add (x y : Str) : (x ++ y).cps.size = x.cps.size + y.cps.size := by
  show (x.cps ++ y.cps).size = _
  simp
theorem itT {c : Bool} {A B : Prop} (h : c = true) (a : A) : if c = true then A else B := by rw [if_pos h]; exact a
theorem itF {c : Bool} {A B : Prop} (h : c = false) (b : B) : if c = true then A else B := by rw [if_neg (by rw [h]; decide)]; exact b
theorem dVi {i j : Int} (h : i = j) : decide (V.int i = V.int j) = true := by subst h; simp
theorem dViN {i j : Int} (h : ¬ i = j) : decide (V.int i = V.int j) = false := by
  refine decide_eq_false fun e => ?_
  injection e with e
  exact h e
theorem notT {b : Bool} (h : b = false) : (!b) = true := by rw [h]; rfl
theorem notF {b : Bool} (h : b = true) : (!b) = false := by rw [h]; rfl
theorem mem_add {x y : Str} {c : Nat} (h : c ∈ (x ++ y).cps.toList) : c ∈ x.cps.toList ∨ c ∈ y.cps.toList := by
  have e : (x ++ y).cps.toList = x.cps.toList ++ y.cps.toList := by rw [Str.cps_append, Array.toList_append]
  rw [e] at h
  exact List.mem_append.mp h
/-! ### readings without a question -/
theorem tC_ {v : V} {σ : L2.St} {H : Hp} {Q : VK} (h : Q v H) : tC v σ H Q := h
theorem tNext_ {D : Ends} {σ : L2.St} {H : Hp} (h : D.nx σ H) : tNext D σ H := h
theorem tYes_ {σ : L2.St} {H : Hp} {Q : Bool → Hp → Prop} (h : Q true H) : tYes σ H Q := h
theorem tNil_ {σ : L2.St} {H : Hp} {Q : List V → Hp → Prop} (h : Q [] H) : tNil σ H Q := h
end Mx

namespace Mx
open PySem PySem.Spec PyProof.Rows L2
/-! ### comprehensions that pick -/
def picked {α : Type} (n : Nat) (f : Nat → Bool) (y : Nat → α) : List α := ((List.range n).filter f).map y
theorem picked_zero {α : Type} (f : Nat → Bool) (y : Nat → α) : picked 0 f y = [] := rfl
theorem picked_yes {α : Type} {n : Nat} {f : Nat → Bool} (y : Nat → α) (h : f n = true) : picked (n + 1) f y = picked n f y ++ [y n] := by
  unfold picked
  rw [List.range_succ, List.filter_append, List.map_append, List.filter_cons, if_pos h]
  rfl
theorem picked_no {α : Type} {n : Nat} {f : Nat → Bool} (y : Nat → α) (h : f n = false) : picked (n + 1) f y = picked n f y := by
  unfold picked
  rw [List.range_succ, List.filter_append, List.map_append, List.filter_cons, if_neg (by rw [h]; decide)]
  simp
theorem picked_len {α : Type} (n : Nat) (f : Nat → Bool) (y : Nat → α) : (picked n f y).length ≤ n := by
  unfold picked
  rw [List.length_map]
  have := List.length_filter_le f (List.range n)
  rw [List.length_range] at this
  exact this
theorem picked_map {α β : Type} (n : Nat) (f : Nat → Bool) (y : Nat → α) (g : α → β) : picked n f (fun i => g (y i)) = (picked n f y).map g := by
  unfold picked
  rw [List.map_map]
  rfl
theorem picked_empty {α : Type} (n : Nat) (f : Nat → Bool) (y : Nat → α) : (picked n f y).isEmpty = !(List.range n).any f := by
  unfold picked
  rw [Bool.eq_iff_iff]
  simp
theorem picked_mem {α : Type} {n : Nat} {f : Nat → Bool} {y : Nat → α} {v : α} (h : v ∈ picked n f y) : ∃ i, i < n ∧ f i = true ∧ v = y i := by
  unfold picked at h
  obtain ⟨i, hi, e⟩ := List.mem_map.mp h
  have := List.mem_filter.mp hi
  exact ⟨i, List.mem_range.mp this.1, this.2, e.symm⟩
theorem picked_in {α : Type} {n i : Nat} {f : Nat → Bool} {y : Nat → α} (hi : i < n) (hf : f i = true) : y i ∈ picked n f y := by
  unfold picked
  exact List.mem_map.mpr ⟨i, List.mem_filter.mpr ⟨List.mem_range.mpr hi, hf⟩, rfl⟩
theorem picked_all {α : Type} (n : Nat) (y : Nat → α) : picked n (fun _ => true) y = (List.range n).map y := by
  unfold picked
  rw [List.filter_eq_self.mpr (fun _ _ => rfl)]
theorem range_getD {α : Type} (l : List α) (d : α) : (List.range l.length).map (fun i => l.getD i d) = l := by
  refine List.ext_getElem? fun i => ?_
  rw [List.getElem?_map]
  by_cases h : i < l.length
  · rw [List.getElem?_range h, Option.map_some, List.getD_eq_getElem?_getD, List.getElem?_eq_getElem h]
    rfl
  · rw [List.getElem?_eq_none (by rw [List.length_range]; omega), List.getElem?_eq_none (by omega)]
    rfl
theorem picked_filter {α : Type} (l : List α) (d : α) (p : α → Bool) : picked l.length (fun i => p (l.getD i d)) (fun i => l.getD i d) = l.filter p := by
  unfold picked
  have e := List.filter_map (f := fun i => l.getD i d) (p := p) (l := List.range l.length)
  rw [range_getD] at e
  exact e.symm
theorem Kp.same {D : Addr} {H H' : Hp} (h : Kp D H H') (hD : H D = none) : Same H H' := fun b o e => h b o (fun z => by rw [z, hD] at e; cases e) e
section
variable {J : It} {n : Nat} {G : Hp → Prop} {Y : Nat → Hp → V → Hp → Prop}
/-- [te for g in J if tt]: turn i is kept where f i, and gives y i; all that was stays -/
theorem lc_flt (w : Walk J n G Y) {g : TG} {tt : TT} {te : TE} {vs : List Nat} {σ : L2.St} {H1 : Hp} {D : Addr} {Qd : Hp → Prop} (f : Nat → Bool) (y : Nat → V) (hD : H1 D = none) (hn : n ≤ 1000000)
    (hG : ∀ H, Same H1 H → G H) (hY : ∀ i H x H', Y i H x H' → Same H H')
    (hs : ∀ i x H H' (Nx : V → Hp → Prop) (Mx : Hp → Prop), i < n → Same H1 H → Y i H x H' → (f i = true → ∀ H4, Same H' H4 → Nx (y i) H4) → (f i = false → ∀ H3, Same H' H3 → Mx H3) →
      g x (wipe σ vs) H' fun σ2 H2 => wipe σ2 vs = wipe σ vs ∧ tt σ2 H2 fun b H3 => if b = true then te σ2 H3 Nx else Mx H3)
    (hd : ∀ H, Same H1 H → H D = some (.lst (picked n f y)) → Qd H) :
    ∃ W : Nat → Nat → Hp → Prop, (∃ m, W 0 m (upd H1 D (.lst []))) ∧ ∀ i m H, W i m H →
      (J.stop i H ∧ Qd H) ∨ (J.go i H ∧ ∃ Nx : Hp → Prop, (∀ H', Nx H' → ∃ m', m' < m ∧ W (i + 1) m' H') ∧ ∀ x H', J.yld i H x H' → g x (wipe σ vs) H' fun σ2 H2 => wipe σ2 vs = wipe σ vs ∧ tt σ2 H2 fun b H3 =>
        if b = true then te σ2 H3 fun y H4 => ∃ acc, H4 D = some (.lst acc) ∧ acc.length < sizeLine ∧ Nx (upd H4 D (.lst (acc ++ [y]))) else Nx H3) := by
  refine lc_it w (fun i H => i ≤ n ∧ Kp D H1 H ∧ H D = some (.lst (picked i f y))) ⟨Nat.zero_le _, (Kp.refl _ _).upd, upd_same⟩ (fun i H _ p => hG H (p.2.1.same hD)) ?_ (fun H p => hd H (p.2.1.same hD) p.2.2)
  rintro i x H H' hi ⟨_, kp, e⟩ yy
  have sm := hY i H x H' yy
  refine hs i x H H' _ _ hi (kp.same hD) yy (fun hf H4 s4 => ?_) (fun hf H3 s3 => ?_)
  · refine ⟨_, s4 _ _ (sm _ _ e), ?_, hi, ?_, ?_⟩
    · have := picked_len i f y
      unfold sizeLine
      omega
    · exact ((kp.trans (Kp.of sm)).trans (Kp.of s4)).upd
    · rw [upd_same, picked_yes y hf]
  · exact ⟨hi, (kp.trans (Kp.of sm)).trans (Kp.of s3), by rw [picked_no y hf]; exact s3 _ _ (sm _ _ e)⟩
end
/-! ### exceptions told with the slots' number; readings made weaker -/
theorem takes_len {X : Cx} {W : WX} (tk : Takes X W) : Takes X (fun cls d σ H => σ.length = X.N.length → W cls d σ H) :=
  fun u s' ⟨a, B, sI, pins, σ, H, cls, d, e, I, nb, up, sky, na, os, ag, w⟩ => tk u s' ⟨a, B, sI, pins, σ, H, cls, d, e, I, nb, up, sky, na, os, ag, w I.len⟩
def eMono (te : TE) : TE := fun σ H Q => ∃ Q0 : VK, te σ H Q0 ∧ ∀ v H1, Q0 v H1 → Q v H1
theorem pe_mono {X : Cx} {e : Expr} {te : TE} (h : PE X e te) : PE X e (eMono te) :=
  ⟨fun pins s σ H Q I ⟨Q0, hh, k⟩ => wpAny_mono (h.run pins s σ H Q0 I hh) (fun _ _ ⟨v, H1, I1, r, q⟩ => ⟨v, H1, I1, r, k _ _ q⟩) fun _ _ z => z⟩
theorem cutV_mem {xs : List V} {lo hi : Option Int} {x : V} (h : x ∈ cutV xs lo hi) : x ∈ xs := List.mem_of_mem_drop (List.mem_of_mem_take h)
theorem cutV_front (xs : List V) (n : Nat) : (cutV xs none (some (n : Int))).length ≤ n := by
  unfold cutV
  rw [List.length_take, HT.sIx_nat]
  have : HT.sIx xs.length 0 none = 0 := rfl
  omega
theorem ints_mem {ns : List Int} {x : V} (h : x ∈ ns.map V.int ++ [.int 0]) : ∃ z, x = .int z := by
  rcases List.mem_append.mp h with h | h
  · obtain ⟨z, _, rfl⟩ := List.mem_map.mp h
    exact ⟨z, rfl⟩
  · exact ⟨0, List.mem_singleton.mp h⟩
/-! ### lists of texts as data -/
theorem dp_strsAll {K : PySem.W.Frag} {H : Hp} : ∀ l : List Str, DpAll K H (l.map V.str) (l.map PyData.str)
  | [] => .nil
  | z :: l => .cons (.str z) (dp_strsAll l)
theorem dp_strs {K : PySem.W.Frag} {H : Hp} {a : Addr} {l : List Str} (h : SqL K H a (l.map V.str)) : Dp K H (.ref a) (.list (l.map PyData.str)) := .lst h (dp_strsAll l)
theorem lay_strs : ∀ l : List Str, (∀ z ∈ l, ∀ c ∈ z.cps.toList, c < 0x110000) → PyData.canLayAll0 (l.map PyData.str) = true ∧ PyData.depthAll (l.map PyData.str) = 0
  | [], _ => ⟨rfl, rfl⟩
  | z :: l, h => by
    obtain ⟨h1, h2⟩ := lay_strs l fun y hy => h y (List.mem_cons_of_mem _ hy)
    refine ⟨?_, ?_⟩
    · show (z.cps.all (· < 0x110000) && PyData.canLayAll0 (l.map PyData.str)) = true
      rw [h1, Bool.and_true]
      rw [Array.all_eq_true]
      intro i hi
      exact decide_eq_true (h z List.mem_cons_self _ (by simp))
    · show max 0 (PyData.depthAll (l.map PyData.str)) = 0
      rw [h2]
      rfl
theorem shaped_strs {l : List Str} (h : ∀ z ∈ l, ∀ c ∈ z.cps.toList, c < 0x110000) : SeqAt.shaped (.list (l.map PyData.str)) = true := by
  obtain ⟨h1, h2⟩ := lay_strs l h
  show (PyData.canLayAll0 _ && decide (PyData.depthAll _ + 1 ≤ 64)) = true
  rw [h1, h2]
  rfl
theorem eqv_nil : ∀ l : List Str, PyData.eqv (.list (l.map PyData.str)) (.list []) = l.isEmpty
  | [] => rfl
  | _ :: _ => rfl
/-- a list of texts against the empty list -/
theorem eq_nil {K : PySem.W.Frag} {H : Hp} {a b : Addr} {l : List Str} {Q : VK} (ha : SqL K H a (l.map V.str)) (hb : SqL K H b []) (h : ∀ z ∈ l, ∀ c ∈ z.cps.toList, c < 0x110000) (q : Q (.bl l.isEmpty) H) : rEqD K (.ref a) (.ref b) H Q :=
  ⟨_, _, dp_strs ha, .lst hb .nil, shaped_strs h, rfl, by rw [eqv_nil]; exact q⟩
end Mx

namespace Mx
open PySem PySem.Spec PyProof.Rows L2
/-! ### heaps of a law that makes lambdas: all but tables stays, the tables keep their word -/
def Go (Tb : List (Addr × Str)) (H H' : Hp) : Prop := LamX.ExtN H H' ∧ (LamX.Tabs Tb H → LamX.Tabs Tb H')
theorem Go.refl (Tb : List (Addr × Str)) (H : Hp) : Go Tb H H := ⟨LamX.ExtN.refl H, id⟩
theorem Go.trans {Tb : List (Addr × Str)} {H H1 H2 : Hp} (x : Go Tb H H1) (y : Go Tb H1 H2) : Go Tb H H2 := ⟨x.1.trans y.1, fun t => y.2 (x.2 t)⟩
theorem Go.same {Tb : List (Addr × Str)} {H H' : Hp} (x : Same H H') : Go Tb H H' := ⟨.of x, fun t => t.ext x⟩
theorem Go.new {Tb : List (Addr × Str)} {H H1 : Hp} {p : Addr} {o : HO} (x : Go Tb H H1) (h : H1 p = none) : Go Tb H (L2.upd H1 p o) := x.trans (.same (Same.new (Same.refl _) h))
theorem Go.kp {Tb : List (Addr × Str)} {H0 H H' : Hp} {a : Addr} {c : Int} (x : Go Tb H0 H) (n : H0 a = none) (st : StAt a c H) (k : Kp a H H') : Go Tb H0 H' := by
  obtain ⟨u, m, v, e, _, _⟩ := st
  refine ⟨fun b o h1 h2 => k b o (ne_of_none h1 n) (x.1 b o h1 h2), fun t p hp => ?_⟩
  obtain ⟨ps, e1, e2, e3⟩ := x.2 t p hp
  refine ⟨ps, k _ _ (fun z => by rw [z, e] at e1; cases e1) e1, e2, fun pos cv h => ?_⟩
  obtain ⟨c', rfl, e5⟩ := e3 pos cv h
  exact ⟨c', rfl, k _ _ (fun z => by rw [z, e] at e5; unfold LamX.CodeO at e5; cases e5) e5⟩
theorem Go.lst {Tb : List (Addr × Str)} {H H' : Hp} {p : Addr} {xs : List V} (x : Go Tb H H') (h : H p = some (.lst xs)) : H' p = some (.lst xs) := x.1 p _ h fun ps z => by cases z
theorem Go.tup {Tb : List (Addr × Str)} {H H' : Hp} {p : Addr} {xs : List V} (x : Go Tb H H') (h : H p = some (.tup xs)) : H' p = some (.tup xs) := x.1 p _ h fun ps z => by cases z
theorem TyOf_go {K : PySem.W.Frag} {H H' : Hp} {x : V} {t : Value} (g : LamX.ExtN H H') (h : TyOf K H x t) : TyOf K H' x t := by
  cases h with
  | non => exact .non
  | bl y => exact .bl y
  | int i => exact .int i
  | str y => exact .str y
  | flt y => exact .flt y
  | lst e => exact .lst (g _ _ e fun ps z => by cases z)
  | frz e => exact .frz (g _ _ e fun ps z => by cases z)
  | tup e => exact .tup (g _ _ e fun ps z => by cases z)
  | dK e => exact .dK (g _ _ e fun ps z => by cases z)
  | dT e => exact .dT (g _ _ e fun ps z => by cases z)
  | ins e a b c d f => exact .ins (g _ _ e fun ps z => by cases z) a b c d f
theorem TyX_go {K : PySem.W.Frag} {H H' : Hp} {x : V} {t : Value} (g : LamX.ExtN H H') (h : TyX K H x t) : TyX K H' x t := by
  cases h with
  | base b => exact .base (TyOf_go g b)
  | byt y => exact .byt y
  | set e => exact .set (g _ _ e fun ps z => by cases z)
  | kList e c => exact .kList e c
  | kTuple e c => exact .kTuple e c
  | kDict e c => exact .kDict e c
  | fTuple e => exact .fTuple (g _ _ e fun ps z => by cases z)
  | fDict e => exact .fDict (g _ _ e fun ps z => by cases z)
theorem picked_none {α : Type} (n : Nat) (y : Nat → α) : picked n (fun _ => false) y = [] := by
  unfold picked
  simp
/-! ### the law's def: its code object told, guards told -/
structure FunC (K : PySem.W.Frag) (x : Str) (st : Stmt) (f : Addr) (fd : FuncData) (c : Addr) : Prop where
  ex : ∃ (oc : Value) (od : Option Addr) (kV doc pm : Value) (an : Option Addr) (ct : Value) (osl : Array (Option Value)),
    fd = PySem.W.fnOf x x (defArgs st) (defBody st) (defScope st) .none kV doc pm an (.ref c) ct ∧ K.lookup f = some ⟨oc, od, .func fd, osl⟩ ∧ PySem.W.codeIn K (.ref c) x = true
section
variable {P : Program} {w : World} {K : PySem.W.Frag} {mg : Str → Option Value} {base : Heap}
theorem okGC {CX : CXT} {x : Str} {st : Stmt} {f c : Addr} {fd : FuncData} {N ps : List Str} {k : Nat} {sp : Sp} (F : FunC K x st f fd c) (S : FnScope N ps (defScope st)) (len : ∀ vs H Q E, sp vs H Q E → vs.length = ps.length)
    (body : ∀ (A : Around) (outer : List Env) (s : Shared) (H : Hp) (vs : List V) (Q : VK) (E : XK), RmG k (A.deeper (envOfC x (defScope st) s.heap.objs.size f (.ref c))) → sp vs H Q E →
      ∃ t, PSs (cxOf CX P w K mg base N x (defScope st) f (.ref c) A outer s H E) (defBody st) t ∧ t { nx := fun _ H' => Q .non H', rt := Q } (start N vs) H) : FnG P w K mg base CX (k + 1) f fd ps sp := by
  obtain ⟨oc, od, kV, doc, pm, an, ct, osl, rfl, look, code⟩ := F.ex
  constructor
  · exact len
  intro A outer s H args us vs Q E room e0 binds rel want
  have names : ((ps.zip us).all fun y => (defScope st).names.lookup y.1 == some .local || (defScope st).names.lookup y.1 == some .cell) = true := by
    rw [List.all_eq_true]
    rintro ⟨n, u⟩ mem
    rcases S.par n (List.of_mem_zip mem).1 with q | q <;> simp [q]
  have inK : K.In s.heap := e0.mod.kin.keeps fun b o z => (e0.bs b o z).1
  have limit : s.heap.NoLimit := e0.mod.nolimit.keeps fun b o z => (e0.bs b o z).1
  refine Att.call_fn inK limit look code room.r.depth binds names (fun s1 entered => ?_) S.co S.gen S.kind
  obtain ⟨t, term, read⟩ := body A outer s H vs Q E (room.deeper _) want
  have begin_ := inv_start (CX := CX) (E := E) (f := f) (cd := .ref c) (qual := x) (outer := outer) S room.r.hd e0 (len _ _ _ _ want) rel entered
  refine wpAny_mono (term.run [] s1 _ H _ begin_ read) (fun flow s2 out => ?_) fun _ _ z => z
  match flow, out with
  | .ret u, ⟨v, _, H2, J, r, q⟩ => exact ⟨v, H2, J.os, J.bare, J.base, J.hok, r, q⟩
  | .next, ⟨_, H2, J, q⟩ => exact ⟨.non, H2, J.os, J.bare, J.base, J.hok, rfl, q⟩
  | .brk, ⟨_, _, _, q⟩ => exact q.elim
  | .cont, ⟨_, _, _, q⟩ => exact q.elim
end
/-- keywords (and positional arguments) of a def without defaults -/
theorem kb_of {K : PySem.W.Frag} {x qual : Str} {st : Stmt} {f : Addr} {fd : FuncData} {ps ks : List Str} (F : Fun K x qual st f fd)
    (h : ∀ (kV doc pm : Value) (an : Option Addr) (cdv ct : Value) (us ws : List Value), (us ++ ws).length = ps.length → bindArgs (PySem.W.fnOf x qual (defArgs st) (defBody st) (defScope st) .none kV doc pm an cdv ct) ⟨us, ks.zip ws⟩ = pure (ps.zip (us ++ ws))) :
    KBinds K fd ps ks (fun us ws => us ++ ws) (fun vs zs => vs ++ zs) := by
  obtain ⟨oc, od, kV, doc, pm, an, cdv, ct, osl, rfl, look, code⟩ := F.ex
  exact ⟨fun s us ws _ hl => .of_eq (h kV doc pm an cdv ct us ws hl), fun a b => a.append b⟩
/-! ### the head: a script, tables of code objects -/
/-- what is tracked when the law is called: the tables (empty), and the script if K does not tell it -/
def lawH (K : PySem.W.Frag) (ts : List Addr) (a : Addr) (o : Obj) (xs : List V) : Hp := fun b =>
  if b ∈ ts then some (.tbl #[]) else if b = a then (if (K.lookup a).isNone = true then some (.frz o (.lst xs)) else none) else none
section
variable {K : PySem.W.Frag} {ts : List Addr} {a b : Addr} {o : Obj} {xs : List V}
theorem lawH_tab (h : b ∈ ts) : lawH K ts a o xs b = some (.tbl #[]) := if_pos h
theorem lawH_kinds {u : HO} (h : lawH K ts a o xs b = some u) : (b ∈ ts ∧ u = .tbl #[]) ∨ (b = a ∧ K.lookup a = none ∧ u = .frz o (.lst xs)) := by
  unfold lawH at h
  split at h
  · rename_i m
    exact .inl ⟨m, (Option.some.inj h).symm⟩
  · split at h
    · rename_i e
      split at h
      · rename_i n
        exact .inr ⟨e, Option.isNone_iff_eq_none.mp n, (Option.some.inj h).symm⟩
      · cases h
    · cases h
end
section
variable {P : Program} {w : World} {K : PySem.W.Frag} {mg mb : Str → Option Value} {CX : CXT} {k : Nat} {fa a : Addr} {cs : List (Addr × Addr)} {fd : FuncData} {x : Str} {sp : Sp} {s : Shared} {vs : List Value} {ns : List Int}
theorem lawRun (inK : K.In s.heap) (glob : s.heap.Ns mainGlobals mg) (blt : s.heap.Ns builtinsNs mb) (boot : ∀ y : Str, y ≠ "__name__" → mb y = bootBuiltins y) (limit : s.heap.NoLimit) (gens : s.gens = #[])
    (tabs : ∀ p ∈ cs, s.heap.get? p.2 = some { cls := .none, data := .fields #[] }) (notK : ∀ p ∈ cs, K.lookup p.2 = none) (heads : ∀ p ∈ cs, PySem.W.CodeHd s.heap p.1 p.2)
    (main : ∃ (bm : Addr) (ob : Obj), mg "__builtins__" = some (.ref bm) ∧ bm ≠ builtinsNs ∧ s.heap.get? bm = some ob ∧ ob.cls = .type "module" ∧ ob.dict = some builtinsNs ∧ ob.data = .plain)
    (script : s.heap.get? a = some { cls := .type "list", data := .seq vs.toArray }) (whole : IntsAre vs ns) (short : ns.length ≤ sizeLine) (room : RmG k callerA)
    (F : ∀ base : Heap, K.In base → base.Ns mainGlobals mg → (∀ p ∈ cs, LamX.TabB base mg p.1 p.2) → FnG P w K mg base CX k fa fd [x] sp) (bind : ∀ (s : Shared) (u : Value), BindsTo s fd ⟨[u], []⟩ [(x, u)])
    (want : ∀ H : Hp, (∀ p ∈ cs, H p.2 = some (.tbl #[])) → LsX K H a (ns.map V.int) → sp [.ref a] H (fun v _ => v = .bl true) fun _ _ _ => False)
    (none_ : ∀ H e s', CX [] H s (fun _ _ _ => False) e s' → False) :
    codeAny (model P w) callerA (.call (.ref fa) ⟨[.ref a], []⟩) (fun r s' => r = .ok (.ret (.bool true)) ∧ OldK s.heap s'.heap ∧ s'.os = s.os ∧ AllBare s'.gens) s := by
  have rel : Vals (ns.map V.int) vs := vals_ints whole
  have isTab : ∀ b ∈ cs.map Prod.snd, s.heap.get? b = some { cls := .none, data := .fields #[] } := by
    intro b mem
    obtain ⟨p, hp, rfl⟩ := List.mem_map.mp mem
    exact tabs p hp
  have ofTab : ∀ p ∈ cs, p.2 ∈ cs.map Prod.snd := fun p hp => List.mem_map_of_mem hp
  generalize hH : lawH K (cs.map Prod.snd) a { cls := .type "list", data := .seq vs.toArray } (ns.map V.int) = H
  have tracked : ∀ {b : Addr} {u : HO}, H b = some u → (b ∈ cs.map Prod.snd ∧ u = .tbl #[]) ∨ (b = a ∧ K.lookup a = none ∧ u = .frz { cls := .type "list", data := .seq vs.toArray } (.lst (ns.map V.int))) := fun {b u} e => lawH_kinds (by rw [hH]; exact e)
  have atTab : ∀ p ∈ cs, H p.2 = some (.tbl #[]) := fun p hp => by rw [← hH]; exact lawH_tab (ofTab p hp)
  -- an object that is neither a list nor an empty table is not tracked
  have plain : ∀ {b : Addr} {o : Obj}, s.heap.get? b = some o → o ≠ { cls := .none, data := .fields #[] } → o ≠ { cls := .type "list", data := .seq vs.toArray } → H b = none := by
    intro b o e n1 n2
    cases q : H b with
    | none => rfl
    | some u =>
      rcases tracked q with ⟨m, _⟩ | ⟨rfl, _⟩
      · exact absurd (Option.some.inj (e.symm.trans (isTab b m))) n1
      · exact absurd (Option.some.inj (e.symm.trans script)) n2
  have below : ∀ {b : Addr} {o : Obj}, s.heap.get? b = some o → o ≠ { cls := .none, data := .fields #[] } → o ≠ { cls := .type "list", data := .seq vs.toArray } → (hidT s.heap H).get? b = some o := fun e n1 n2 => hidT_get e (plain e n1 n2)
  have spaces : ∀ {b : Addr} {m : Str → Option Value}, s.heap.Ns b m → (hidT s.heap H).Ns b m := by
    rintro b m ⟨o, es, ep, e, d, r⟩
    exact ⟨o, es, ep, below e (fun z => by rw [z] at d; cases d) (fun z => by rw [z] at d; cases d), d, r⟩
  have inB : K.In (hidT s.heap H) := by
    intro b o e
    refine hidT_get (inK b o e) ?_
    cases q : H b with
    | none => rfl
    | some u =>
      rcases tracked q with ⟨m, _⟩ | ⟨rfl, n, _⟩
      · obtain ⟨p, hp, rfl⟩ := List.mem_map.mp m
        rw [notK p hp] at e
        cases e
      · rw [n] at e
        cases e
  have mod : L2.Mod K mg (hidT s.heap H) := ⟨inB, spaces glob, ⟨mb, spaces blt, boot⟩, let ⟨mc, l1, l2⟩ := limit; ⟨mc, spaces l1, l2⟩⟩
  have bases : ∀ p ∈ cs, LamX.TabB (hidT s.heap H) mg p.1 p.2 := by
    intro p hp
    have tp := tabs p hp
    constructor
    · obtain ⟨o, us, file, tf, flags, tg, inF, text, tt, e1, r1, r2, r3, rest⟩ := heads p hp
      refine ⟨o, us, file, tf, flags, tg, inF, text, tt, below e1 (fun z => ?_) (fun z => ?_), r1, r2, r3, rest⟩
      · rw [z] at r2
        cases r2
        simp at r3
      · rw [z] at r2
        cases r2
    · obtain ⟨bm, ob, b1, b2, b3, b4, b5, b6⟩ := main
      refine ⟨bm, ob, b1, b2, fun z => ?_, fun z => ?_, below b3 (fun z => by rw [z] at b6; cases b6) (fun z => by rw [z] at b6; cases b6), b4, b5, b6⟩
      · obtain ⟨o, es, ep, e, d, _⟩ := glob
        rw [z, e] at b3
        obtain rfl := Option.some.inj b3
        rw [d] at b6
        cases b6
      · rw [z, tp] at b3
        obtain rfl := Option.some.inj b3
        cases b6
    · intro z
      obtain ⟨o, es, ep, e, d, _⟩ := glob
      rw [z, tp] at e
      obtain rfl := Option.some.inj e
      cases d
  have reads : LsX K H a (ns.map V.int) := by
    cases q : K.lookup a with
    | some o =>
      have e1 := Option.some.inj ((inK a o q).symm.trans script)
      exact .inr ⟨vs, 0, by rw [q, e1], by rw [List.length_map]; exact short, rel⟩
    | none =>
      refine .inl (.inr ⟨{ cls := .type "list", data := .seq vs.toArray }, ?_⟩)
      have no : a ∉ cs.map Prod.snd := fun m => by
        have z := (isTab a m).symm.trans script
        cases Option.some.inj z
      rw [← hH]
      unfold lawH
      rw [if_neg no, if_pos rfl, if_pos (by rw [q]; rfl)]
  have hok : HOk P w H s.heap := by
    intro b u e
    rcases tracked e with ⟨m, rfl⟩ | ⟨rfl, _, rfl⟩
    · exact isTab b m
    · exact ⟨script, by rw [List.length_map]; exact short, vs, _, rel, script⟩
  have e0 : Env0 P w K mg (hidT s.heap H) callerA [] s H := ⟨rfl, mod, fun b o e => of_hidT e, Nat.le_of_eq (hidT_size _ _), trivial, (fun b m => by cases m), hok, .of_eq gens⟩
  refine codeAny_mono ((F _ inB (spaces glob) bases).run callerA [] s H ⟨[.ref a], []⟩ [.ref a] [.ref a] _ _ room e0 (bind s (.ref a)) (.cons rfl .nil) (want H atTab reads)) ?_
  intro r s' out
  match r, out with
  | .error e, z => exact (none_ H e s' z).elim
  | .ok .next, z => exact z.elim
  | .ok .brk, z => exact z.elim
  | .ok .cont, z => exact z.elim
  | .ok (.ret u), ⟨v, H', os, bare, un, hok', r', (q : v = .bl true)⟩ =>
    subst q
    have u1 : u = Value.bool true := r'
    subst u1
    have grown : ∀ b ∈ cs.map Prod.snd, ∃ more : Array Value, s'.heap.get? b = some { cls := .none, data := .fields more } := by
      intro b mem
      obtain ⟨p, hp, rfl⟩ := List.mem_map.mp mem
      obtain ⟨more, z⟩ := un.tbls p.2 #[] (atTab p hp)
      exact ⟨_, hok' _ _ z⟩
    have stays : ∀ b o, b ∉ cs.map Prod.snd → s.heap.get? b = some o → s'.heap.get? b = some o := by
      intro b o no e
      cases t : H b with
      | none => exact un.keep b o e t (fun z => by cases z) (fun z => by cases z)
      | some u =>
        rcases tracked t with ⟨m, _⟩ | ⟨rfl, _, rfl⟩
        · exact absurd m no
        · have z1 := (hok _ _ t).1
          have z2 := (hok' _ _ (un.frzs _ _ _ t)).1
          rw [← e]
          exact z2.trans z1.symm
    refine ⟨rfl, ⟨fun b o e => ?_, fun b o e => ?_⟩, os, bare⟩
    · by_cases mem : b ∈ cs.map Prod.snd
      · obtain ⟨more, z⟩ := grown b mem
        obtain ⟨p, hp, rfl⟩ := List.mem_map.mp mem
        obtain rfl := Option.some.inj (e.symm.trans (tabs p hp))
        exact .inr (.inl ⟨((heads p hp).tab (tabs p hp)).isCodeTable, rfl, #[], more, rfl, by rw [Array.empty_append]; exact z⟩)
      · exact .inl (stays b o mem e)
    · by_cases mem : b ∈ cs.map Prod.snd
      · obtain ⟨more, z⟩ := grown b mem
        exact ⟨_, z⟩
      · exact ⟨o, stays b o mem e⟩
end
/-- what is known of the law's promise behind the top -/
def LawG (l : PySem.W.OpenLaw) (w : World) (K : PySem.W.Frag) (CX : CXT) (k n : Nat) (x : Str) (mg : Str → Option Value) (fa : Addr) (h : Heap) : Prop :=
  ∃ (fd : FuncData) (cs : List (Addr × Addr)) (sp : Sp), (∀ p ∈ cs, h.get? p.2 = some { cls := .none, data := .fields #[] }) ∧ (∀ p ∈ cs, K.lookup p.2 = none) ∧ (∀ p ∈ cs, PySem.W.CodeHd h p.1 p.2) ∧ (∀ (s : Shared) (u : Value), BindsTo s fd ⟨[u], []⟩ [(x, u)]) ∧
    (∀ (H : Hp) (a : Addr) (ns : List Int), ns.length ≤ n → (∀ z ∈ ns, Builtin.Int.intBits z ≤ 1048576) → (∀ p ∈ cs, H p.2 = some (.tbl #[])) → LsX K H a (ns.map V.int) → sp [.ref a] H (fun v _ => v = .bl true) fun _ _ _ => False) ∧
    ∀ base : Heap, K.In base → base.Ns mainGlobals mg → (∀ p ∈ cs, LamX.TabB base mg p.1 p.2) → FnG l.prog w K mg base CX k fa fd [x] sp
theorem walkG {l : PySem.W.OpenLaw} {n k : Nat} {q : Program} {loose : List Str} {XP : (Str → Option Value) → Heap → Prop} {YP : World → Heap → Prop} {d : DefRec} {K : Params → PySem.W.Frag} {CX : World → CXT} {x : Str}
    (most : l.most = some n) (fits : n ≤ sizeLine) (bare : d.params.defaults = []) (room : RmG k callerA) (hY : ∀ (w : World) (h : Heap), YP w h → (K w.params).In h)
    (F : ∀ (w : World) (mg mb : Str → Option Value) (fa : Addr) (h : Heap), (∃ ls mean, PyProof.Rows.Top q ls mean mg mb h) → YP w h → (K w.params).In h → h.Ns mainGlobals mg → mg d.name = some (.ref fa) → LawG l w (K w.params) (CX w) k n x mg fa h)
    (none_ : ∀ (w : World) (H : Hp) (s : Shared) (e : Value) (s' : Shared), CX w [] H s (fun _ _ _ => False) e s' → False) :
    PySem.W.WalkO q loose XP YP l.row.toRowW d [] (fun f vs => PySem.call f vs) := by
  refine Att.attach_callB most bare ?_
  intro w s0 s mg mb fa o pm cd doc a vs ns G Y ho hd hcd hm script whole len bits gens
  have inK := hY w _ Y
  obtain ⟨fd, cs, sp, tabs, notK, heads, bind, want, run⟩ := F w mg mb fa _ ⟨_, _, G.T⟩ Y inK G.T.g hm
  exact lawRun inK G.T.g G.T.b G.T.builtins G.T.nolimit gens tabs notK heads G.T.bmain script whole (Nat.le_trans len fits) room run bind (fun H t r => want H a ns len bits t r) fun H e s' => none_ w H s e s'
end Mx

namespace Mx
open PySem PySem.Spec PyProof.Rows L2
/-! ### d.setdefault(k, v), called as a method -/
def tDSet (td ty tx : TE) : TE := fun σ H Q => td σ H fun x H1 => ∃ a, x = .ref a ∧ IsD H1 a ∧ ty σ H1 fun y H2 => tx σ H2 fun z H3 => rSetd (.ref a) [y, z] H3 Q
section
variable {X : Cx} {o e f : Expr} {apos cpos : Pos} {td ty tx : TE}
theorem pe_dset2 (ho : PE X o td) (he : PE X e ty) (hf : PE X f tx) (m : M2 X o "setdefault" apos e f cpos) : PE X (.Call (.Attribute o "setdefault" apos) [e, f] [] cpos) (tDSet td ty tx) := by
  constructor
  intro pins s σ H Q I h
  refine wpAny_Call_method m.base m.few m.line PySem.F.plainAttrs_dict PySem.F.slot_dict_setdefault PySem.F.type_dict_setdefault (thn (ho.run pins s σ H _ I h) ?_)
  rintro u s1 ⟨x, H1, I1, rx, a, rfl, d, q1⟩
  obtain rfl : u = Value.ref a := rx
  obtain ⟨t1, t2, _⟩ := isD_at I1 d
  refine ⟨t1, t2, ?_⟩
  rw [m.trees]
  refine Calls.callWith_builtin rfl (Calls.evalArgs_plain (Calls.spliced_cons (thn (he.run pins s1 σ H1 _ I1 q1) ?_)))
  rintro iv s2 ⟨y, H2, I2, ry, q2⟩
  refine Calls.spliced_cons (thn (hf.run pins s2 σ H2 _ I2 q2) ?_)
  rintro fv s3 ⟨z, H3, I3, rz, b, kvs, k, v, eb, ev, ea, hl, w1, w2⟩
  cases eb
  cases ev
  refine Calls.spliced_nil ?_
  obtain ⟨fits, notMods, vs0, rel, dd⟩ := dk_of I3.hok ea
  have small : vs0.length ≤ sizeLine := by rw [← rel.length]; exact fits
  refine call_meetsIn PySem.F.slot_dict_setdefault dd.typeIs PySem.F.entry_dict_setdefault (PySem.F.args_dict_setdefault_3 _ _ _) (kt_meets_setdefault (mixKind X.prog X.w) _ (kV_is ry) notMods _) ⟨vs0, dd, small, ?_, ?_⟩
  · intro u hu
    have there := rel.val k
    rw [hu] at there
    match hv : valV kvs k, there with
    | some x, there => exact ⟨x, H3, I3.tok _, there, w1 x hv⟩
    | none, there => exact there.elim
  · intro hn h' dd' hs
    have there := rel.val k
    rw [hn] at there
    match hv : valV kvs k, there with
    | some x, there => exact there.elim
    | none, there =>
      have grows : (putK kvs k z).length ≤ sizeLine := by have := length_putK kvs k z; omega
      exact ⟨z, _, d_write (t' := s3.toks + 1) I3 (by rw [ea]; exact True.intro) hs (let ⟨q, _, _, hq, _⟩ := dd'; ⟨q, hq⟩) (dk_new grows notMods (rel.put k rz) dd'), rz, w2 hv⟩
end
/-- a def with one default: where it stands, its name, its parameters, the default -/
structure DefD (K : PySem.W.Frag) (mg : Str → Option Value) (x : Str) (st : Stmt) (ps : List Str) (dv : V) : Type where
  f : Addr
  fd : FuncData
  F : FunD K x x (defArgs st) (defBody st) (defScope st) [dv] [] f fd
  m : mg x = some (.ref f)
  b : Binds K fd ps []
  ds : List Value
  hd : Vals [dv] ds
  b1 : Binds K fd ps ds
/-! ### a sign, n times -/
theorem rep_fold (c : Nat) : ∀ (m : Nat) (acc : Array Nat), ((List.replicate m (#[c] : Array Nat)).foldl (· ++ ·) acc).toList = acc.toList ++ List.replicate m c
  | 0, acc => by simp
  | m + 1, acc => by
    rw [List.replicate_succ, List.foldl_cons, rep_fold c m (acc ++ #[c]), List.replicate_succ]
    simp
theorem mul_one (c : Nat) (n : Int) (h : 0 ≤ n) : TL.tl (Txt.mul ⟨#[c]⟩ n) = List.replicate n.toNat c := by
  unfold Txt.mul
  by_cases h1 : n < 1
  · rw [if_pos h1]
    have : n = 0 := by omega
    subst this
    rfl
  · rw [if_neg h1]
    by_cases h2 : n = 1
    · subst h2
      rfl
    · rw [if_neg (by simp [Str.length]; exact h2)]
      show ((List.replicate n.toNat (#[c] : Array Nat)).foldl (· ++ ·) #[]).toList = _
      rw [rep_fold]
      rfl
theorem mul_ok (c : Nat) (n : Int) (h : 0 ≤ n) (h2 : n ≤ 1000) : MulOk ⟨#[c]⟩ n := by
  refine ⟨?_, ?_, ?_⟩
  · rw [decide_eq_false (by omega), decide_eq_false (by omega)]
    rfl
  · intro h1 _ h3
    have h4 : ((2 : Int) ^ 63 - 1) / n ≥ 1 := (Int.le_ediv_iff_mul_le (by omega)).mpr (by omega)
    have h5 : (((⟨#[c]⟩ : Str).length : Nat) : Int) = 1 := rfl
    omega
  · intro _ _
    exact short24 (by show 1 * n.toNat ≤ 16777216; omega)
theorem op_strMul {X : Cx} : OpR X (binaryOp .Mult) (fun x y H Q => ∃ (c : Nat) (n : Int), x = .str ⟨#[c]⟩ ∧ y = .int n ∧ (0 ≤ n ∧ n ≤ 1000) ∧ ∀ z : Str, TL.tl z = List.replicate n.toNat c → Q (.str z) H) := by
  intro pins s σ H x y v u Q I rx ry h
  obtain ⟨c, n, rfl, rfl, ⟨h1, h2⟩, q⟩ := h
  obtain ⟨t, rfl⟩ := rx
  obtain ⟨t', rfl⟩ := ry
  exact SB.mul (mul_ok c n h1 h2) fun t2 tk => ⟨.str _, H, I.tok _, ⟨_, rfl⟩, q _ (mul_one c n h1)⟩
end Mx

namespace Mx
open PySem PySem.Spec PyProof.Rows L2
/-! ### what stands, carried by rules that a tactic can chain backwards -/
section
variable {Tb : List (Addr × Str)} {H H0 H1 H' : Hp} {p q a : Addr} {o u : HO} {xs : List V} {c d : Int} {kvs : List (Key × V)}
theorem lk_new (hp : H p = none) (h : H q = some u) : upd H p o q = some u := by rw [upd_ne (ne_of_none h hp)]; exact h
theorem lk_ne (n : q ≠ p) (h : H q = some u) : upd H p o q = some u := by rw [upd_ne n]; exact h
theorem lk_same (s : Same H H') (h : H q = some u) : H' q = some u := s _ _ h
theorem lk_go_lst (g : Go Tb H H') (h : H q = some (.lst xs)) : H' q = some (.lst xs) := g.lst h
theorem lk_go_tup (g : Go Tb H H') (h : H q = some (.tup xs)) : H' q = some (.tup xs) := g.tup h
theorem lk_go_dK (g : Go Tb H H') (h : H q = some (.dK kvs)) : H' q = some (.dK kvs) := g.1 q _ h fun ps z => by cases z
theorem lk_kp (k : Kp a H H') (n : q ≠ a) (h : H q = some u) : H' q = some u := k _ _ n h
theorem lk_kp_tup (k : Kp a H H') (st : StAt a c H) (h : H q = some (.tup xs)) : H' q = some (.tup xs) := k _ _ (fun z => by obtain ⟨_, _, _, e, _⟩ := st; rw [z, e] at h; cases h) h
theorem lk_kp_dK (k : Kp a H H') (st : StAt a c H) (h : H q = some (.dK kvs)) : H' q = some (.dK kvs) := k _ _ (fun z => by obtain ⟨_, _, _, e, _⟩ := st; rw [z, e] at h; cases h) h
theorem ne_st (hp : H p = none) (st : StAt a c H) : p ≠ a := fun e => by
  obtain ⟨_, _, _, e2, _⟩ := st
  rw [e, e2] at hp
  cases hp
theorem st_new (hp : H p = none) (st : StAt a c H) : StAt a c (upd H p o) := st.same (Same.new (Same.refl _) hp)
theorem st_same (s : Same H H') (st : StAt a c H) : StAt a c H' := st.same s
theorem st_go (g : Go Tb H H') (st : StAt a c H) : StAt a c H' := let ⟨x, m, n, e, h1, h2⟩ := st; ⟨x, m, n, g.lst e, h1, h2⟩
theorem fr_new (hp : H p = none) (s : Same H0 H) : Same H0 (L2.upd H p o) := Same.new s hp
theorem fr_same (s : Same H H') (t : Same H0 H) : Same H0 H' := t.trans s
theorem go_new (hp : H p = none) (s : Go Tb H0 H) : Go Tb H0 (upd H p o) := s.new hp
theorem go_same (s : Same H H') (t : Go Tb H0 H) : Go Tb H0 H' := t.trans (.same s)
theorem go_go (s : Go Tb H H') (t : Go Tb H0 H) : Go Tb H0 H' := t.trans s
theorem go_kp (k : Kp a H H') (n : H0 a = none) (st : StAt a c H) (t : Go Tb H0 H) : Go Tb H0 H' := t.kp n st k
theorem go_set (n : H0 a = none) (h : H a = some (.lst xs)) (t : Go Tb H0 H) : Go Tb H0 (L2.upd H a o) := by
  refine ⟨fun b u h1 h2 => ?_, fun tb p hp => ?_⟩
  · rw [upd_ne (ne_of_none h1 n)]
    exact t.1 b u h1 h2
  · obtain ⟨ps, e1, e2, e3⟩ := t.2 tb p hp
    refine ⟨ps, ?_, e2, fun pos cv hc => ?_⟩
    · rw [upd_ne (fun z => by rw [z, h] at e1; cases e1)]
      exact e1
    · obtain ⟨c', rfl, e5⟩ := e3 pos cv hc
      refine ⟨c', rfl, ?_⟩
      rw [upd_ne (fun z => by rw [z, h] at e5; unfold LamX.CodeO at e5; cases e5)]
      exact e5
theorem fr_set (n : H0 a = none) (t : Same H0 H) : Same H0 (L2.upd H a o) := fun b u h1 => by
  rw [upd_ne (ne_of_none h1 n)]
  exact t b u h1
theorem none_same (t : Same H0 H) (n : H a = none) : H0 a = none := by
  cases e : H0 a with
  | none => rfl
  | some u => rw [t _ _ e] at n; cases n
theorem kp_new (hp : H p = none) (s : Kp a H0 H) : Kp a H0 (L2.upd H p o) := s.new hp
theorem kp_same (s : Same H H') (t : Kp a H0 H) : Kp a H0 H' := t.trans (.of s)
theorem kp_kp (s : Kp a H H') (t : Kp a H0 H) : Kp a H0 H' := t.trans s
theorem kp_upd (s : Kp a H0 H) : Kp a H0 (L2.upd H a o) := s.upd
end
theorem Go.tabs {Tb : List (Addr × Str)} {H0 H : Hp} (g : Go Tb H0 H) (t : LamX.Tabs Tb H0) : LamX.Tabs Tb H := g.2 t
theorem tCut {t u : TS} {D : Ends} {σ : L2.St} {H : Hp} (R : L2.St → Hp → Prop) (key : ∀ σ' H', R σ' H' → u D σ' H') (go : (∀ σ' H', R σ' H' → u D σ' H') → t { D with nx := u D } σ H) : tSeq t u D σ H := go key
theorem tCutIf {c : TT} {x y u : TS} {D : Ends} {σ : L2.St} {H : Hp} (R : L2.St → Hp → Prop) (key : ∀ σ' H', R σ' H' → u D σ' H') (go : (∀ σ' H', R σ' H' → u D σ' H') → tIfS c x y { D with nx := u D } σ H) : tSeq (tIfS c x y) u D σ H := go key
theorem str_ext {x y : Str} (h : x.cps.toList = y.cps.toList) : x = y := by
  cases x
  cases y
  congr 1
  exact Array.toList_inj.mp h
/-! ### data -/
theorem lay_str {z : Str} (h : ∀ c ∈ z.cps.toList, c < 0x110000) : PyData.canLay0 (.str z) = true := by
  rw [PyData.canLay0]
  show z.cps.all (fun c => decide (c < 0x110000)) = true
  rw [Array.all_eq_true]
  intro i hi
  exact decide_eq_true (h _ (Array.getElem_mem_toList hi))
theorem lay_str8 {z : Str} (h : ∀ c ∈ z.cps.toList, c < 128) : PyData.canLay0 (.str z) = true := lay_str fun c hc => Nat.lt_trans (h c hc) (by decide)
theorem lay_sign {c : Nat} (h : c < 128) : PyData.canLay0 (.str ⟨#[c]⟩) = true := lay_str8 fun d hd => by rw [List.mem_singleton.mp hd]; exact h
theorem lay_l (xs : List PyData) : PyData.canLay0 (.list xs) = PyData.canLayAll0 xs := by rw [PyData.canLay0]
theorem lay_t (xs : List PyData) : PyData.canLay0 (.tuple xs) = PyData.canLayAll0 xs := by rw [PyData.canLay0]
theorem lay_i (i : Int) : PyData.canLay0 (.int i) = true := by rw [PyData.canLay0]
theorem lay_b (i : Bool) : PyData.canLay0 (.bool i) = true := by rw [PyData.canLay0]
theorem lay_n : PyData.canLay0 .none = true := by rw [PyData.canLay0]
theorem lay_c (x : PyData) (xs : List PyData) : PyData.canLayAll0 (x :: xs) = (PyData.canLay0 x && PyData.canLayAll0 xs) := by rw [PyData.canLayAll0]
theorem lay_e : PyData.canLayAll0 [] = true := by rw [PyData.canLayAll0]
theorem eqv_same {d : PyData} (h : SeqAt.shaped d = true) : PyData.eqv d d = true := SeqAt.eqv_refl d (SeqAt.canLay_of_shaped h)
end Mx

namespace Mx
open PySem PySem.Spec PyProof.Rows L2
/-! ### enumerate of a tuple -/
theorem meets_enumT (l : Addr) (items : Array Value) :
    Meets (Builtin.«enumerate.__new__» ⟨[.type "enumerate", .ref l], []⟩) (fun _ R s => s.heap.IsTuple l items ∧
      R (.ok (.ret (.ref (s.heap.push { cls := .type "tuple_iterator", data := .fields #[.ref l, .int 0 0] }).objs.size)))
        { s with heap := (s.heap.push { cls := .type "tuple_iterator", data := .fields #[.ref l, .int 0 0] }).push { cls := .type "enumerate", data := .fields #[.none, .bool false, .ref s.heap.objs.size, rawInt 0, .none, .none] } }) :=
  .of_wp fun prog w A R s h => by
    obtain ⟨hp, g, d, tk, os⟩ := s; obtain ⟨hL, h⟩ := h
    have hsub := sub_enumerate
    obtain ⟨o, ho, hc, n, hd⟩ := id hL
    wp_walk using AutoSeq1.wpAny_loadPart' ho
    refine wpAny_stack_any fun st => wpAny_pure ?_
    split
    · rename_i c _ _ _ _ _
      cases (c == Value.type "enumerate")
      · wp_walk using AutoSeq1.wpAny_loadPart' ho, wpAny_pyIter_tuple hL
        exact ⟨_, rfl, h⟩
      · wp_walk using AutoSeq1.wpAny_loadPart' ho, wpAny_pyIter_tuple hL
        exact ⟨_, rfl, h⟩
    · wp_walk using AutoSeq1.wpAny_loadPart' ho, wpAny_pyIter_tuple hL
      exact ⟨_, rfl, h⟩
theorem call_enumT {prog : Program} {w : World} {A : Around} {E : Value → Shared → Prop} {s : Shared} {l : Addr} {items : Array Value} {Q : Value → Shared → Prop} (hL : s.heap.IsTuple l items)
    (h : ∀ h', IsEnum h' (s.heap.objs.size + 1) s.heap.objs.size 0 .none → h'.IsTupleIter s.heap.objs.size l 0 → h'.objs.size = s.heap.objs.size + 2 →
      (∀ b o, s.heap.get? b = some o → h'.get? b = some o) → Q (.ref (s.heap.objs.size + 1)) { s with heap := h' }) :
    wpAny (model prog w) A (call (.type "enumerate") [.ref l]) Q E s := by
  refine callType_new F.called_enumerate (by decide) (F.typeCall_enumerate_1 _) (F.newCall_enumerate_1 _) (fun obj => F.args_object_init_2 obj _) F.entry_enumerate_new
    (meets_enumT l items) ⟨hL, ?_⟩
  have hz : (s.heap.push { cls := .type "tuple_iterator", data := .fields #[.ref l, .int 0 0] }).objs.size = s.heap.objs.size + 1 := Heap.size_push ..
  show _ ∧ _
  rw [hz]
  have he : IsEnum ((s.heap.push { cls := .type "tuple_iterator", data := .fields #[.ref l, .int 0 0] }).push
      { cls := .type "enumerate", data := .fields #[.none, .bool false, .ref s.heap.objs.size, rawInt 0, .none, .none] }) (s.heap.objs.size + 1) s.heap.objs.size 0 .none := by
    have := Heap.get?_push_size (s.heap.push { cls := .type "tuple_iterator", data := .fields #[.ref l, .int 0 0] })
      (o := { cls := .type "enumerate", data := .fields #[.none, .bool false, .ref s.heap.objs.size, rawInt 0, .none, .none] }) rfl
    rw [hz] at this; exact this
  refine ⟨⟨_, he, rfl⟩, h _ he ⟨_, Heap.get?_push_of_some _ (Heap.get?_push_size _ rfl), rfl, rfl⟩ (by rw [Heap.size_push, hz]) fun b o x => Heap.get?_push_of_some _ (Heap.get?_push_of_some _ x)⟩
def Itu (K : PySem.W.Frag) (a : Addr) : It :=
  ⟨fun i H => ∃ (xs : List V) (x : V), SqT K H a xs ∧ xs[i]? = some x, fun i H v H' => ∃ T x, v = .ref T ∧ H T = none ∧ H' = upd H T (.tup [.int (i : Nat), x]) ∧ ∀ xs, SqT K H a xs → xs[i]? = some x, fun i H => ∃ xs : List V, SqT K H a xs ∧ xs.length = i⟩
theorem turn_enumT {P : Program} {w : World} {K : PySem.W.Frag} {elts : List Expr} {kk : Nat} {tpos : Pos} (a e it : Addr) :
    Turn P w K (.Tuple elts kk tpos) (Itu K a) [e, it] e (fun i h => (∃ old, IsEnum h e it ((i : Nat) : Int) old) ∧ h.IsTupleIter it a i ∧ e ≠ it) where
  mem := by simp
  obj := fun i h st b hb => by
    obtain ⟨⟨old, he⟩, ⟨o, ho, hc, hd⟩, _⟩ := st
    have e' : b = e ∨ b = it := by simpa using hb
    rcases e' with z | z
    · rw [z]; exact ⟨_, he, fun v q => nomatch q⟩
    · rw [z]; exact ⟨o, ho, fun v q => by rw [hd] at q; cases q⟩
  keep := fun i h h' st k => let ⟨⟨old, he⟩, hi, hne⟩ := st; ⟨⟨old, k e (by simp) _ he⟩, hi.at fun o q => k it (by simp) o q, hne⟩
  item := by
    intro X hP hw hK hc i pins s σ H E I hf st hg
    subst hP hw hK
    obtain ⟨⟨old, he⟩, hit, hne⟩ := st
    obtain ⟨xs, x, hq, hx⟩ := hg
    obtain ⟨its, rv, p, hz⟩ := I.tuple hq
    have p' : s.heap.IsTuple a its.toArray := p
    obtain ⟨u, hu, ru⟩ := rv.get hx
    have hel : e < s.heap.objs.size := Heap.lt_size he
    have hil : it < s.heap.objs.size := by obtain ⟨_, q, _⟩ := hit; exact Heap.lt_size q
    have hea : e ≠ a := fun z => by
      obtain ⟨o, ho, hcl, _⟩ := p'
      have he' := he
      unfold IsEnum at he'
      rw [z, ho] at he'
      obtain rfl := Option.some.inj he'
      injection hcl with hcl; exact absurd hcl (by decide)
    have hai : a ≠ it := fun z => by
      obtain ⟨o, ho, hcl, _⟩ := p'
      obtain ⟨o2, ho2, hc2, _⟩ := hit
      rw [← z, ho] at ho2
      obtain rfl := Option.some.inj ho2
      rw [hcl] at hc2
      injection hc2 with hc2; exact absurd hc2 (by decide)
    have D := Draws.tuple (prog := X.prog) (w := X.w) (A := X.A.in1) (I.ok.hd hc) it a hai its.toArray
    have hi : i < its.toArray.size := by
      have := (List.getElem?_eq_some_iff.mp hu).1
      simpa using this
    refine wpAny_pyNext_enum_itemD D he ⟨hit, p'⟩ hi hne (by simp [hne, hea]) fun z h' tk hz2 ho hst hT hsz hk => ?_
    have ezu : z = u := by
      have hz3 : its[i]? = some z := by simpa using hz2
      exact Option.some.inj (hz3.symm.trans hu)
    subst ezu
    refine ⟨_, rfl, wpAny_letOwnedTupleGo_enum (s := { s with heap := h', toks := tk + 1 }) ho fun h'' he' sb => ?_⟩
    have hT2 : h''.get? s.heap.objs.size = some { cls := .type "tuple", data := .seq #[.int i tk, z] } := (sb.2 _ (Nat.ne_of_gt hel)).trans hT
    have new : ObjOk X.prog X.w (upd H s.heap.objs.size (.tup [.int (i : Nat), x])) h'' s.heap.objs.size (.tup [.int (i : Nat), x]) :=
      ⟨by show 2 ≤ sizeLine; decide, [.int i tk, z], .cons ⟨_, rfl⟩ (.cons ru .nil), ⟨_, hT2, rfl, _, rfl⟩⟩
    have I1 : Inv X pins σ (upd H s.heap.objs.size (.tup [.int (i : Nat), x])) { s with heap := h'', toks := tk + 1 } :=
      I.turnedNew (ch := [e, it]) (fun b ob hb q => (sb.2 b (fun z => hb (by simp [z]))).trans (hk b ob (fun z => hb (by simp [z])) (fun z => hb (by simp [z])) q)) hf (Nat.le_refl _) new
    refine ⟨.ref s.heap.objs.size, _, I1, rfl, ⟨_, x, rfl, I.hok.fresh (Nat.le_refl _), rfl, fun ys hy => by rw [I.tuple_inj hy hq]; exact hx⟩, ⟨⟨z, ?_⟩, hst.1.at fun o q => (sb.2 it (Ne.symm hne)).trans q, hne⟩, fun b hb => ?_⟩
    · have e1 : ((i + 1 : Nat) : Int) = (i : Int) + 1 := by omega
      rw [e1]; exact he'
    · have hb' : b < s.heap.objs.size := by
        have e' : b = e ∨ b = it := by simpa using hb
        rcases e' with z | z
        · rw [z]; exact hel
        · rw [z]; exact hil
      rw [upd_ne (Nat.ne_of_lt hb')]
      exact (hf b hb).1
  done := by
    intro X hP hw hK hc i pins s σ H E I hf st hg
    subst hP hw hK
    obtain ⟨⟨old, he⟩, hit, hne⟩ := st
    obtain ⟨xs, hq, hx⟩ := hg
    obtain ⟨its, rv, p, hz⟩ := I.tuple hq
    have p' : s.heap.IsTuple a its.toArray := p
    have hai : a ≠ it := fun z => by
      obtain ⟨o, ho, hcl, _⟩ := p'
      obtain ⟨o2, ho2, hc2, _⟩ := hit
      rw [← z, ho] at ho2
      obtain rfl := Option.some.inj ho2
      rw [hcl] at hc2
      injection hc2 with hc2; exact absurd hc2 (by decide)
    have D := Draws.tuple (prog := X.prog) (w := X.w) (A := X.A.in1) (I.ok.hd hc) it a hai its.toArray
    obtain ⟨f0, f1, f2, f3, f4, f5⟩ := hf it (by simp)
    have hl := rv.length
    have hi : its.toArray.size = i := by rw [List.size_toArray, ← hl, hx]
    subst hi
    exact wpAny_pyNext_enum_endD D he ⟨hit, p'⟩ fun h' eb => ⟨rfl, I.turned (t' := s.toks) (fun b o hb q => eb b o hb q) f0 f1 f3 f4 f5⟩
  self := fun A i s Q E st h => let ⟨⟨_, he⟩, _⟩ := st; wpAny_pyIter_enum he h
def iEnumT (K : PySem.W.Frag) (ta : TA) : TI := fun σ H R => ta σ H fun vs H1 => ∃ a xs, vs = [.ref a] ∧ SqT K H1 a xs ∧ R (Itu K a) H1
theorem pi_enumTup {X : Cx} {e : Expr} {ta : TA} {p pos tpos : Pos} {elts : List Expr} {kk : Nat} (hg : Gl X "enumerate") (hm : X.mg "enumerate" = none) (ha : PA X [e] ta) (hs : starEach [e] X.env = [(false, eval e X.env)] := by rfl) :
    PI X (.Tuple elts kk tpos) (.Call (.Name "enumerate" p) [e] [] pos) (iEnumT X.K ta) := by
  refine ⟨fun pins s σ H R I h => ?_⟩
  refine Call_ (ld_blt I hg hm boot_enumerate (PyProof.Rows.callWith_type1 (thn (ha.run pos pins s σ H _ I h) fun us s1 ⟨vs, H1, I1, r1, q1⟩ => ?_) hs rfl))
  obtain ⟨a, xs, ex, hq, q⟩ := q1
  subst ex
  cases r1 with
  | cons r rr =>
    cases rr
    cases r
    obtain ⟨its, rv, p', hz⟩ := I1.tuple hq
    have p2 : s1.heap.IsTuple a its.toArray := p'
    refine call_enumT p2 fun h' he hit hsz hk => wpAny_pyIter_enum he ?_
    have I2 : Inv X pins σ H1 { s1 with heap := h' } := I1.kept (t' := s1.toks) hk
    refine ⟨s1.heap.objs.size + 1, [s1.heap.objs.size + 1, s1.heap.objs.size], _, _, H1, rfl, I2, turn_enumT a (s1.heap.objs.size + 1) s1.heap.objs.size, ⟨⟨.none, he⟩, hit, Nat.succ_ne_self _⟩, fun b hb => ?_, q⟩
    have e' : b = s1.heap.objs.size + 1 ∨ b = s1.heap.objs.size := by simpa using hb
    have hle : s1.heap.objs.size ≤ b := by
      rcases e' with z | z
      · rw [z]; exact Nat.le_add_right _ _
      · rw [z]; exact Nat.le_refl _
    exact I1.fpOk hle (I1.hok.fresh hle)
/-- for i, x in enumerate(t): a tuple that stands still -/
theorem for_eu {K : PySem.W.Frag} {a : Addr} {xs : List V} {g : TG} {tb : TS} {D : Ends} {σ : L2.St} {H : Hp} (Pv : Nat → L2.St → Hp → Prop) (h0 : Pv 0 σ H) (hl : ∀ i σ H, Pv i σ H → SqT K H a xs)
    (hs : ∀ (i : Nat) (x : V) (T : Addr) σ H, xs[i]? = some x → H T = none → Pv i σ H → g (.ref T) σ (upd H T (.tup [.int (i : Nat), x])) fun σ2 H2 => tb { D with nx := Pv (i + 1), ct := Pv (i + 1), bk := D.nx } σ2 H2)
    (hd : ∀ σ H, Pv xs.length σ H → D.nx σ H) :
    ∃ W : Nat → Nat → L2.St → Hp → Prop, (∃ m, W 0 m σ H) ∧ ∀ i m σ H, W i m σ H →
      ((Itu K a).stop i H ∧ D.nx σ H) ∨ ((Itu K a).go i H ∧ ∃ N : L2.St → Hp → Prop, (∀ σ' H', N σ' H' → ∃ m', m' < m ∧ W (i + 1) m' σ' H') ∧ ∀ v H', (Itu K a).yld i H v H' → g v σ H' fun σ2 H2 => tb { D with nx := N, ct := N, bk := D.nx } σ2 H2) := by
  refine ⟨fun i m σ H => m = xs.length - i ∧ i ≤ xs.length ∧ Pv i σ H, ⟨xs.length, by simp, Nat.zero_le _, h0⟩, ?_⟩
  rintro i m σ H ⟨rfl, hi, p⟩
  have hl' := hl i σ H p
  by_cases hlt : i < xs.length
  · have e : xs[i]? = some xs[i] := List.getElem?_eq_getElem hlt
    refine .inr ⟨⟨xs, xs[i], hl', e⟩, Pv (i + 1), fun σ' H' p' => ⟨xs.length - (i + 1), by omega, rfl, hlt, p'⟩, fun v H' y => ?_⟩
    obtain ⟨T, x, rfl, hT, rfl, hx⟩ := y
    exact hs i x T σ H (hx xs hl') hT p
  · have e : i = xs.length := by omega
    subst e
    exact .inl ⟨⟨xs, hl', rfl⟩, hd σ H p⟩
end Mx

namespace Mx
open PySem PySem.Spec PyProof.Rows L2
/-! ### data with dicts, read and shown -/
mutual
inductive Rs (h : Heap) : Value → PyData → Prop
  | none : Rs h .none .none
  | bool (b) : Rs h (.bool b) (.bool b)
  | int (i t) : Rs h (.int i t) (.int i)
  | str (x t) : Rs h (.str x t) (.str x)
  | list {a : Addr} {o : Obj} {vs : Array Value} {n : Nat} {xs : List PyData} : h.get? a = some o → o.cls = .type "list" → o.data = .seq vs n → RsAll h vs.toList xs → Rs h (.ref a) (.list xs)
  | tuple {a : Addr} {o : Obj} {vs : Array Value} {n : Nat} {xs : List PyData} : h.get? a = some o → o.cls = .type "tuple" → o.data = .seq vs n → RsAll h vs.toList xs → Rs h (.ref a) (.tuple xs)
  | dict {a : Addr} {o : Obj} {es : Array DictEntry} {n : Nat} {kvs : List (PyData × PyData)} : h.get? a = some o → o.cls = .type "dict" → o.data = .dict es n → (a == sysModules) = false → RsAll h (es.toList.map (·.key)) (kvs.map (·.1)) →
      RsAll h (es.toList.map (·.val)) (kvs.map (·.2)) → Rs h (.ref a) (.dict kvs)
inductive RsAll (h : Heap) : List Value → List PyData → Prop
  | nil : RsAll h [] []
  | cons {v : Value} {vs : List Value} {d : PyData} {ds : List PyData} : Rs h v d → RsAll h vs ds → RsAll h (v :: vs) (d :: ds)
end
mutual
theorem Rs.reads {h : Heap} : ∀ {v : Value} {d : PyData}, Rs h v d → ∃ as, Reads h v d as
  | _, _, .none => ⟨_, .none⟩
  | _, _, .bool b => ⟨_, .bool b⟩
  | _, _, .int i t => ⟨_, .int i t⟩
  | _, _, .str x t => ⟨_, .str x t⟩
  | _, _, .list a b c d => let ⟨_, r⟩ := RsAll.reads d; ⟨_, .list a b c r⟩
  | _, _, .tuple a b c d => let ⟨_, r⟩ := RsAll.reads d; ⟨_, .tuple a b c r⟩
  | _, _, .dict a b c _ d e => let ⟨_, r⟩ := RsAll.reads d; let ⟨_, q⟩ := RsAll.reads e; ⟨_, .dict a b c r q⟩
theorem RsAll.reads {h : Heap} : ∀ {vs : List Value} {ds : List PyData}, RsAll h vs ds → ∃ as, ReadsAll h vs ds as
  | _, _, .nil => ⟨_, .nil⟩
  | _, _, .cons a b => let ⟨_, r⟩ := Rs.reads a; let ⟨_, q⟩ := RsAll.reads b; ⟨_, .cons r q⟩
end
section
variable {prog : Program} {w : World} {h₀ : Heap}
mutual
theorem Rs.shown : ∀ {v : Value} {d : PyData}, Rs h₀ v d → d.showable = true → d.shown.length ≤ sizeLine → ∃ bs, ReadAtMost h₀ d.depth bs ∧ ReprK prog w bs h₀ d.depth v d.shown
  | _, _, .none, _, _ => ⟨[], (fun _ h => nomatch h), by simp only [PyData.shown]; exact .of_is ReprIs.none _ _ _⟩
  | _, _, .bool b, _, _ => ⟨[], (fun _ h => nomatch h), by simp only [PyData.shown]; exact .of_is (ReprIs.bool b) _ _ _⟩
  | _, _, .int i t, hs, _ => ⟨[], (fun _ h => nomatch h), by simp only [PyData.shown]; exact .of_is (ReprIs.int t (by simpa [PyData.showable] using hs)) _ _ _⟩
  | _, _, .str x t, _, hz => ⟨[], (fun _ h => nomatch h), by simp only [PyData.shown]; exact .of_is (ReprIs.str x t (by simpa only [PyData.shown] using hz)) _ _ _⟩
  | _, _, .list (a := a) (vs := vs) (xs := xs) h1 h2 h3 h4, hs, hz => by
    have hz' : (listText (PyData.shownAll xs)).length ≤ sizeLine := by simpa only [PyData.shown] using hz
    obtain ⟨bs, hb, hk⟩ := RsAll.shown h4 (by simpa [PyData.showable] using hs) (fun t ht => Nat.le_trans (listText_mem_le ht) hz')
    obtain ⟨as, r⟩ := Rs.reads (.list h1 h2 h3 h4)
    have hna : a ∉ bs := not_mem_of_deeper r (by simp only [PyData.depth]; omega) hb
    refine ⟨a :: bs, ReadAtMost.cons r (by simp only [PyData.depth]; omega) hb, ?_⟩
    simp only [PyData.depth, PyData.shown]
    obtain ⟨l⟩ := vs
    cases l with
    | nil =>
      have h4' : RsAll h₀ [] xs := h4
      cases h4'
      simp only [PyData.shownAll, listText_nil]
      exact ReprK.listEmpty h1 h2 h3
    | cons x l => exact ReprK.list h1 h2 h3 hna (by simpa using hk.length_eq) (fun i y e => hk.item i y (by simpa using e))
  | _, _, .tuple (a := a) (xs := xs) h1 h2 h3 h4, hs, hz => by
    have hz' : (tupleText (PyData.shownAll xs)).length ≤ sizeLine := by simpa only [PyData.shown] using hz
    obtain ⟨bs, hb, hk⟩ := RsAll.shown h4 (by simpa [PyData.showable] using hs) (fun t ht => Nat.le_trans (tupleText_mem_le ht) hz')
    obtain ⟨as, r⟩ := Rs.reads (.tuple h1 h2 h3 h4)
    have hna : a ∉ bs := not_mem_of_deeper r (by simp only [PyData.depth]; omega) hb
    refine ⟨a :: bs, ReadAtMost.cons r (by simp only [PyData.depth]; omega) hb, ?_⟩
    simp only [PyData.depth, PyData.shown]
    exact ReprK.tuple h1 h2 h3 hna hk
  | _, _, .dict (a := a) (es := es) (kvs := kvs) h1 h2 h3 h6 h4 h5, hs, hz => by
    have hz' : (dictText (PyData.shownKv kvs)).length ≤ sizeLine := by simpa only [PyData.shown] using hz
    obtain ⟨hs1, hs2⟩ := PyData.showableKv_split kvs (by simpa [PyData.showable] using hs)
    obtain ⟨b1, hb1, k1⟩ := RsAll.shown h4 hs1 (fun t ht => let ⟨p, hp, hl⟩ := PyData.shownKv_key_le kvs t ht; Nat.le_trans hl (Nat.le_trans (dictText_mem_le hp) hz'))
    obtain ⟨b2, hb2, k2⟩ := RsAll.shown h5 hs2 (fun t ht => let ⟨p, hp, hl⟩ := PyData.shownKv_val_le kvs t ht; Nat.le_trans hl (Nat.le_trans (dictText_mem_le hp) hz'))
    obtain ⟨as, r⟩ := Rs.reads (.dict h1 h2 h3 h6 h4 h5)
    have hb : ReadAtMost h₀ (PyData.depthKv kvs) (b1 ++ b2) := (hb1.mono (PyData.depthAll_keys_le kvs)).append (hb2.mono (PyData.depthAll_vals_le kvs))
    have hna : a ∉ b1 ++ b2 := not_mem_of_deeper r (by simp only [PyData.depth]; omega) hb
    refine ⟨a :: (b1 ++ b2), ReadAtMost.cons r (by simp only [PyData.depth]; omega) hb, ?_⟩
    simp only [PyData.depth, PyData.shown, PyData.shownKv_eq]
    exact ReprK.dict h1 h2 h3 h6 hna (ReprEntriesK.of_two es.toList _ _
      (k1.more_le (fun b hb => List.mem_append_left _ hb) (PyData.depthAll_keys_le kvs)) (k2.more_le (fun b hb => List.mem_append_right _ hb) (PyData.depthAll_vals_le kvs)))
theorem RsAll.shown : ∀ {vs : List Value} {ds : List PyData}, RsAll h₀ vs ds → PyData.showableAll ds = true → (∀ t ∈ PyData.shownAll ds, t.length ≤ sizeLine) →
    ∃ bs, ReadAtMost h₀ (PyData.depthAll ds) bs ∧ ReprAllK prog w bs h₀ (PyData.depthAll ds) vs (PyData.shownAll ds)
  | _, _, .nil, _, _ => ⟨[], (fun _ h => nomatch h), by simp only [PyData.shownAll]; exact .nil⟩
  | _, _, .cons (d := d) (ds := ds) r rs, hs, hz => by
    have hs' : d.showable = true ∧ PyData.showableAll ds = true := by simpa [PyData.showableAll] using hs
    obtain ⟨b1, hb1, k1⟩ := Rs.shown r hs'.1 (hz _ (by simp only [PyData.shownAll]; exact List.mem_cons_self ..))
    obtain ⟨b2, hb2, k2⟩ := RsAll.shown rs hs'.2 (fun t ht => hz t (by simp only [PyData.shownAll]; exact List.mem_cons_of_mem _ ht))
    refine ⟨b1 ++ b2, ?_, ?_⟩
    · intro b hm
      simp only [PyData.depthAll]
      rcases List.mem_append.mp hm with hm | hm
      · obtain ⟨d', as', r', hd'⟩ := hb1 b hm
        exact ⟨d', as', r', Nat.le_trans hd' (Nat.le_max_left _ _)⟩
      · obtain ⟨d', as', r', hd'⟩ := hb2 b hm
        exact ⟨d', as', r', Nat.le_trans hd' (Nat.le_max_right _ _)⟩
    · simp only [PyData.depthAll, PyData.shownAll]
      exact .cons ((k1.more fun b hb => List.mem_append_left _ hb).level_le (Nat.le_max_left _ _)) (k2.more_le (fun b hb => List.mem_append_right _ hb) (Nat.le_max_right _ _))
end
/-- repr of a list of data -/
theorem repr_list {a : Addr} {xs : List PyData} {A : Around} {E : Value → Shared → Prop} {s : Shared} {Q : Value → Shared → Prop} (r : Rs s.heap (.ref a) (.list xs)) (hs : (PyData.list xs).showable = true) (hg : A.guards = some []) (hu : A.units + ((PyData.list xs).depth + 1) < cLine)
    (hQ : ∀ h' u tk, (∀ b o, s.heap.get? b = some o → h'.get? b = some o) → Q (.str (PyData.list xs).shown u) { s with heap := h', toks := tk })
    (hsz : (PyData.list xs).shown.length ≤ sizeLine) : wpAny (model prog w) A (call (.builtin "repr") [.ref a]) Q E s := by
  generalize hd : PyData.list xs = d at r hs hu hQ hsz
  cases r with
  | tuple => cases hd
  | dict => cases hd
  | list h1 h2 h3 h4 =>
    rename_i o vs n xs'
    cases hd
    have hz' : (listText (PyData.shownAll xs)).length ≤ sizeLine := by simpa only [PyData.shown] using hsz
    obtain ⟨bs, hb, hk⟩ := RsAll.shown (prog := prog) (w := w) h4 (by simpa [PyData.showable] using hs) (fun t ht => Nat.le_trans (listText_mem_le ht) hz')
    obtain ⟨as, r⟩ := Rs.reads (.list h1 h2 h3 h4)
    have hna : a ∉ bs := not_mem_of_deeper r (by simp only [PyData.depth]; omega) hb
    refine call_repr_slot (by omega) ⟨o, h1, h2⟩ F.slot_list_repr.toG ?_
    have hu' : A.in1.units + (PyData.list xs).depth < cLine := by show A.units + 1 + _ < cLine; omega
    simp only [PyData.depth] at hu'
    have hQ' : ∀ h' u tk, (∀ b o, s.heap.get? b = some o → h'.get? b = some o) → ∃ x t, Value.str (PyData.list xs).shown u = .str x t ∧ Q (.str (PyData.list xs).shown u) { s with heap := h', toks := tk } := fun h' u tk k => ⟨_, _, rfl, hQ h' u tk k⟩
    simp only [PyData.shown] at hQ'
    obtain ⟨l⟩ := vs
    cases l with
    | nil =>
      have h4' : RsAll s.heap [] xs := h4
      cases h4'
      simp only [PyData.shownAll, listText_nil] at hQ'
      exact call_list_repr_empty ⟨o, h1, h2⟩ h1 h3 (hQ' s.heap _ _ fun _ _ e => e)
    | cons x l => exact call_list_reprK h1 h2 h3 hna (by simpa using hk.length_eq) (fun i y e => hk.item i y (by simpa using e)) hg (fun b _ => Clear.nil b) hu' (fun _ _ e => e) hQ' hz'
end
/-! ### the same over the abstract heap -/
def keyD : Key → PyData
  | .inl i => .int i
  | .inr x => .str x
mutual
inductive Dx (K : PySem.W.Frag) (H : Hp) : V → PyData → Prop
  | non : Dx K H .non .none
  | bl (b : Bool) : Dx K H (.bl b) (.bool b)
  | int (i : Int) : Dx K H (.int i) (.int i)
  | str (x : Str) : Dx K H (.str x) (.str x)
  | lst {a : Addr} {xs : List V} {ds : List PyData} : SqL K H a xs → DxAll K H xs ds → Dx K H (.ref a) (.list ds)
  | tup {a : Addr} {xs : List V} {ds : List PyData} : SqT K H a xs → DxAll K H xs ds → Dx K H (.ref a) (.tuple ds)
  | dct {a : Addr} {kvs : List (Key × V)} {ds : List (PyData × PyData)} : Rd H a (.dK kvs) → DxKv K H kvs ds → Dx K H (.ref a) (.dict ds)
inductive DxAll (K : PySem.W.Frag) (H : Hp) : List V → List PyData → Prop
  | nil : DxAll K H [] []
  | cons {v : V} {vs : List V} {d : PyData} {ds : List PyData} : Dx K H v d → DxAll K H vs ds → DxAll K H (v :: vs) (d :: ds)
inductive DxKv (K : PySem.W.Frag) (H : Hp) : List (Key × V) → List (PyData × PyData) → Prop
  | nil : DxKv K H [] []
  | cons {k : Key} {v : V} {vs : List (Key × V)} {d : PyData} {ds : List (PyData × PyData)} : Dx K H v d → DxKv K H vs ds → DxKv K H ((k, v) :: vs) ((keyD k, d) :: ds)
end
theorem rs_keys {P : Program} {w : World} {h : Heap} {K : PySem.W.Frag} {H : Hp} : ∀ {kvs : List (Key × V)} {ds : List (PyData × PyData)} {es : List DictEntry} {vs : List (Key × Value)}, DxKv K H kvs ds → Pairs (mixKind P w) es vs → KV kvs vs → RsAll h (es.map (·.key)) (ds.map (·.1))
  | _, _, _, _, .nil, p, r => by cases r; cases p; exact .nil
  | _, _, _, _, .cons (k := k) _ q, p, r => by
    cases r with
    | cons r1 r2 =>
      cases p with
      | cons p1 p2 p3 =>
        refine .cons ?_ (rs_keys q p3 r2)
        have hk := p1
        rw [← r1.1] at hk
        rcases keyIs_shape hk with ⟨i, t, e1, e2⟩ | ⟨x, t, e1, e2⟩
        · dsimp only at e1 e2 ⊢
          rw [e2, e1]
          exact .int i t
        · dsimp only at e1 e2 ⊢
          rw [e2, e1]
          exact .str x t
section
variable {X : Cx} {pins : List (Addr × Obj)} {σ : L2.St} {H : Hp} {s : Shared}
mutual
theorem Dx.rs (I : Inv X pins σ H s) : ∀ {v : V} {d : PyData} {u : Value}, Dx X.K H v d → RelV v u → Rs s.heap u d
  | _, _, _, .non, r => by cases r; exact .none
  | _, _, _, .bl b, r => by cases r; exact .bool b
  | _, _, _, .int i, r => by obtain ⟨t, rfl⟩ := r; exact .int i t
  | _, _, _, .str x, r => by obtain ⟨t, rfl⟩ := r; exact .str x t
  | _, _, _, .lst hs ha, r => by
    cases r
    obtain ⟨its, rv, ⟨o, n, ho, hc, _, hd⟩, _⟩ := I.list hs
    exact .list ho hc hd (DxAll.rs I ha rv)
  | _, _, _, .tup hs ha, r => by
    cases r
    obtain ⟨its, rv, ⟨o, ho, hc, n, hd⟩, _⟩ := I.tuple hs
    exact .tuple ho hc hd (DxAll.rs I ha rv)
  | _, _, _, .dct hs ha, r => by
    cases r
    obtain ⟨hz, hsm, vs, rel, o, es, ep, ho, hx, hd, _, ps, _⟩ := dk_rd I.hok hs
    exact .dict ho hx.1 hd hsm (rs_keys ha ps rel) (DxKv.rs I ha rel ps)
theorem DxAll.rs (I : Inv X pins σ H s) : ∀ {vs : List V} {ds : List PyData} {us : List Value}, DxAll X.K H vs ds → Vals vs us → RsAll s.heap us ds
  | _, _, _, .nil, r => by cases r; exact .nil
  | _, _, _, .cons h1 h2, r => by
    cases r with
    | cons r1 r2 => exact .cons (Dx.rs I h1 r1) (DxAll.rs I h2 r2)
theorem DxKv.rs (I : Inv X pins σ H s) : ∀ {kvs : List (Key × V)} {ds : List (PyData × PyData)} {vs : List (Key × Value)} {es : List DictEntry}, DxKv X.K H kvs ds → KV kvs vs → Pairs (mixKind X.prog X.w) es vs → RsAll s.heap (es.map (·.val)) (ds.map (·.2))
  | _, _, _, _, .nil, r, p => by cases r; cases p; exact .nil
  | _, _, _, _, .cons h1 h2, r, p => by
    cases r with
    | cons r1 r2 =>
      cases p with
      | cons p1 p2 p3 => exact .cons (by dsimp only; rw [p2]; exact Dx.rs I h1 r1.2) (DxKv.rs I h2 r2 p3)
end
end
def rReprX (K : PySem.W.Frag) : List V → Hp → VK → Prop := fun xs H Q => ∃ (a : Addr) (ds : List PyData), xs = [.ref a] ∧ Dx K H (.ref a) (.list ds) ∧ (PyData.list ds).showable = true ∧ (PyData.list ds).depth ≤ 60 ∧ (PyData.list ds).shown.length ≤ sizeLine ∧ Q (.str (PyData.list ds).shown) H
theorem call_reprX {X : Cx} {k : Nat} (hr : RmG k X.A) : CallR X (.builtin "repr") (rReprX X.K) := by
  intro pins s σ H vs us Q I r h
  obtain ⟨a, ds, rfl, hd, h1, h3, h4, q⟩ := h
  cases r with
  | cons ra rn =>
    cases rn
    cases ra
    have hu := hr.r.un
    refine repr_list (Dx.rs I hd rfl) h1 hr.g (by omega) (fun h' u tk hk => ?_) h4
    exact ⟨.str (PyData.list ds).shown, H, I.kept hk, ⟨u, rfl⟩, q⟩
/-! ### frames -/
section
variable {Tb : List (Addr × Str)} {K : PySem.W.Frag} {H H' : Hp}
theorem rd_ext {a : Addr} {u : HO} (g : LamX.ExtN H H') (n : ∀ ps, u ≠ .tbl ps) (h : Rd H a u) : Rd H' a u := by
  rcases h with h | ⟨o, h⟩
  · exact .inl (g _ _ h n)
  · exact .inr ⟨o, g _ _ h fun ps z => by cases z⟩
theorem sql_ext {a : Addr} {xs : List V} (g : LamX.ExtN H H') (h : SqL K H a xs) : SqL K H' a xs := h.imp (rd_ext g fun ps z => by cases z) id
theorem sqt_ext {a : Addr} {xs : List V} (g : LamX.ExtN H H') (h : SqT K H a xs) : SqT K H' a xs := h.imp (rd_ext g fun ps z => by cases z) id
mutual
theorem Dx.ext (g : LamX.ExtN H H') : ∀ {v : V} {d : PyData}, Dx K H v d → Dx K H' v d
  | _, _, .non => .non
  | _, _, .bl b => .bl b
  | _, _, .int i => .int i
  | _, _, .str x => .str x
  | _, _, .lst h r => .lst (sql_ext g h) (DxAll.ext g r)
  | _, _, .tup h r => .tup (sqt_ext g h) (DxAll.ext g r)
  | _, _, .dct h r => .dct (rd_ext g (fun ps z => by cases z) h) (DxKv.ext g r)
theorem DxAll.ext (g : LamX.ExtN H H') : ∀ {v : List V} {d : List PyData}, DxAll K H v d → DxAll K H' v d
  | _, _, .nil => .nil
  | _, _, .cons a b => .cons (Dx.ext g a) (DxAll.ext g b)
theorem DxKv.ext (g : LamX.ExtN H H') : ∀ {v : List (Key × V)} {d : List (PyData × PyData)}, DxKv K H v d → DxKv K H' v d
  | _, _, .nil => .nil
  | _, _, .cons a b => .cons (Dx.ext g a) (DxKv.ext g b)
end
mutual
theorem Dp.ext (g : LamX.ExtN H H') : ∀ {v : V} {d : PyData}, Dp K H v d → Dp K H' v d
  | _, _, .non => .non
  | _, _, .bl b => .bl b
  | _, _, .int i => .int i
  | _, _, .str x => .str x
  | _, _, .lst h r => .lst (sql_ext g h) (DpAll.ext g r)
  | _, _, .tup h r => .tup (sqt_ext g h) (DpAll.ext g r)
theorem DpAll.ext (g : LamX.ExtN H H') : ∀ {v : List V} {d : List PyData}, DpAll K H v d → DpAll K H' v d
  | _, _, .nil => .nil
  | _, _, .cons a b => .cons (Dp.ext g a) (DpAll.ext g b)
end
mutual
theorem Dx.dp : ∀ {v : V} {d : PyData}, Dp K H v d → Dx K H v d
  | _, _, .non => .non
  | _, _, .bl b => .bl b
  | _, _, .int i => .int i
  | _, _, .str x => .str x
  | _, _, .lst h r => .lst h (DxAll.dp r)
  | _, _, .tup h r => .tup h (DxAll.dp r)
theorem DxAll.dp : ∀ {v : List V} {d : List PyData}, DpAll K H v d → DxAll K H v d
  | _, _, .nil => .nil
  | _, _, .cons a b => .cons (Dx.dp a) (DxAll.dp b)
end
theorem dp_go {v : V} {d : PyData} (h : Dp K H v d) (g : Go Tb H H') : Dp K H' v d := Dp.ext g.1 h
theorem dp_same {v : V} {d : PyData} (h : Dp K H v d) (g : Same H H') : Dp K H' v d := Dp.ext (.of g) h
theorem dx_go {v : V} {d : PyData} (h : Dx K H v d) (g : Go Tb H H') : Dx K H' v d := Dx.ext g.1 h
theorem ty_go {v : V} {t : Value} (h : TyX K H v t) (g : Go Tb H H') : TyX K H' v t := TyX_go g.1 h
end
theorem vals_rev : ∀ {vs : List V} {us : List Value}, Vals vs us → Vals vs.reverse us.reverse
  | _, _, .nil => .nil
  | _, _, .cons r t => by rw [List.reverse_cons, List.reverse_cons]; exact (vals_rev t).append (.cons r .nil)
end Mx

namespace Mx
open PySem PySem.Spec PyProof.Rows L2
section
variable {Tb : List (Addr × Str)} {H H0 H1 H2 H' : Hp} {p q a : Addr} {o u : HO} {xs : List V}
theorem go_set2 (h : H a = some (.lst xs)) (n : H2 a = none) (g : Go Tb H0 H2) (t : Go Tb H0 H) : Go Tb H0 (L2.upd H a o) := by
  refine ⟨fun b u h1 h2 => ?_, fun tb p hp => ?_⟩
  · have hb : b ≠ a := fun z => by
      have e := g.1 b u h1 h2
      rw [z, n] at e
      cases e
    rw [upd_ne hb]
    exact t.1 b u h1 h2
  · obtain ⟨ps, e1, e2, e3⟩ := t.2 tb p hp
    refine ⟨ps, ?_, e2, fun pos cv hc => ?_⟩
    · rw [upd_ne (fun z => by rw [z, h] at e1; cases e1)]
      exact e1
    · obtain ⟨c', rfl, e5⟩ := e3 pos cv hc
      refine ⟨c', rfl, ?_⟩
      rw [upd_ne (fun z => by rw [z, h] at e5; unfold LamX.CodeO at e5; cases e5)]
      exact e5
theorem fr_set2 (n : H2 a = none) (g : Same H0 H2) (t : Same H0 H) : Same H0 (L2.upd H a o) := fun b u h1 => by
  have hb : b ≠ a := fun z => by
    have e := g b u h1
    rw [z, n] at e
    cases e
  rw [upd_ne hb]
  exact t b u h1
theorem lk_neN (n : H2 p = none) (h2 : H2 q = some u) (h : H q = some u) : upd H p o q = some u := lk_ne (ne_of_none h2 n) h
theorem lk_neN' (n : H2 q = none) (h2 : H2 p = some (.lst xs)) (h : H q = some u) : upd H p o q = some u := lk_ne (fun z => ne_of_none h2 n z.symm) h
def NT (u : HO) : Prop := ∀ ps, u ≠ .tbl ps
theorem nt_lst {xs : List V} : NT (.lst xs) := fun ps z => by cases z
theorem nt_tup {xs : List V} : NT (.tup xs) := fun ps z => by cases z
theorem nt_dK {xs : List (Key × V)} : NT (.dK xs) := fun ps z => by cases z
theorem nt_xd {xs : List (Str × V)} : NT (.xd xs) := fun ps z => by cases z
theorem nt_ins {C dx : Addr} {xs : List (Str × V)} : NT (.ins C dx xs) := fun ps z => by cases z
def NL (u : HO) : Prop := ∀ xs, u ≠ .lst xs
theorem nl_tup {xs : List V} : NL (.tup xs) := fun ps z => by cases z
theorem nl_dK {xs : List (Key × V)} : NL (.dK xs) := fun ps z => by cases z
theorem nl_xd {xs : List (Str × V)} : NL (.xd xs) := fun ps z => by cases z
theorem nl_ins {C dx : Addr} {xs : List (Str × V)} : NL (.ins C dx xs) := fun ps z => by cases z
theorem lk_go (g : Go Tb H H') (n : NT u) (h : H q = some u) : H' q = some u := g.1 _ _ h n
theorem lk_kp_nl {c : Int} (k : Kp a H H') (st : StAt a c H) (n : NL u) (h : H q = some u) : H' q = some u := k _ _ (fun z => by obtain ⟨_, _, _, e, _⟩ := st; rw [z, e] at h; exact n _ (Option.some.inj h).symm) h
theorem en_new (hp : H p = none) (t : LamX.ExtN H0 H) : LamX.ExtN H0 (L2.upd H p o) := t.trans (.of (Same.new (Same.refl _) hp))
theorem en_same (s : Same H H') (t : LamX.ExtN H0 H) : LamX.ExtN H0 H' := t.trans (.of s)
theorem en_go (s : Go Tb H H') (t : LamX.ExtN H0 H) : LamX.ExtN H0 H' := t.trans s.1
theorem en_set2 (n : H2 a = none) (g : LamX.ExtN H0 H2) (t : LamX.ExtN H0 H) : LamX.ExtN H0 (L2.upd H a o) := fun b u h1 h2 => by
  have hb : b ≠ a := fun z => by
    have e := g b u h1 h2
    rw [z, n] at e
    cases e
  rw [upd_ne hb]
  exact t b u h1 h2
theorem en_kp (k : Kp a H H') (n : H2 a = none) (g : LamX.ExtN H0 H2) (t : LamX.ExtN H0 H) : LamX.ExtN H0 H' := fun b u h1 h2 => by
  have hb : b ≠ a := fun z => by
    have e := g b u h1 h2
    rw [z, n] at e
    cases e
  exact k b u hb (t b u h1 h2)
theorem dp_ext {K : PySem.W.Frag} {v : V} {d : PyData} (h : Dp K H v d) (g : LamX.ExtN H H') : Dp K H' v d := Dp.ext g h
theorem dx_ext {K : PySem.W.Frag} {v : V} {d : PyData} (h : Dx K H v d) (g : LamX.ExtN H H') : Dx K H' v d := Dx.ext g h
theorem ty_ext {K : PySem.W.Frag} {v : V} {t : Value} (h : TyX K H v t) (g : LamX.ExtN H H') : TyX K H' v t := TyX_go g h
/-- what is new since H0 in H1 stands in H -/
def New (H0 H1 H : Hp) : Prop := ∀ b u, H0 b = none → H1 b = some u → NT u → H b = some u
/-- data that leans on what is new alone -/
def Dn (K : PySem.W.Frag) (H0 H1 : Hp) (v : V) (d : PyData) : Prop := ∀ H, New H0 H1 H → Dp K H v d
theorem dn_use {K : PySem.W.Frag} {v : V} {d : PyData} (h : Dn K H0 H1 v d) (g : New H0 H1 H) : Dp K H v d := h H g
theorem nw_refl : New H0 H1 H1 := fun _ _ _ h _ => h
theorem nw_new (hp : H p = none) (t : New H0 H1 H) : New H0 H1 (L2.upd H p o) := fun b u h1 h2 h3 => lk_new hp (t b u h1 h2 h3)
theorem nw_same (s : Same H H') (t : New H0 H1 H) : New H0 H1 H' := fun b u h1 h2 h3 => s _ _ (t b u h1 h2 h3)
theorem nw_go (s : Go Tb H H') (t : New H0 H1 H) : New H0 H1 H' := fun b u h1 h2 h3 => s.1 _ _ (t b u h1 h2 h3) h3
theorem nw_set (h : H0 a = some (.lst xs)) (t : New H0 H1 H) : New H0 H1 (L2.upd H a o) := fun b u h1 h2 h3 => lk_ne (fun z => by rw [z, h] at h1; cases h1) (t b u h1 h2 h3)
theorem nw_set2 (n : H2 a = none) (g : New H0 H1 H2) (t : New H0 H1 H) : New H0 H1 (L2.upd H a o) := fun b u h1 h2 h3 => lk_ne (fun z => by
  have e := g b u h1 h2 h3
  rw [z, n] at e
  cases e) (t b u h1 h2 h3)
theorem nw_kp {c : Int} (k : Kp a H H') (st : StAt a c H0) (t : New H0 H1 H) : New H0 H1 H' := fun b u h1 h2 h3 => k b u (ne_st h1 st) (t b u h1 h2 h3)
theorem lsx_ext {K : PySem.W.Frag} {xs : List V} (h : LsX K H a xs) (g : LamX.ExtN H H') : LsX K H' a xs := h.imp (rd_ext g fun ps z => by cases z) id
theorem st_ne {c : Int} (n : a ≠ p) (st : StAt a c H) : StAt a c (L2.upd H p o) := let ⟨x, m, v, e, h1, h2⟩ := st; ⟨x, m, v, lk_ne n e, h1, h2⟩
theorem tabs_new (hp : H p = none) (t : LamX.Tabs Tb H) : LamX.Tabs Tb (L2.upd H p o) := t.ext (Same.new (Same.refl _) hp)
theorem tabs_same (s : Same H H') (t : LamX.Tabs Tb H) : LamX.Tabs Tb H' := t.ext s
theorem tabs_go (s : Go Tb H H') (t : LamX.Tabs Tb H) : LamX.Tabs Tb H' := s.2 t
theorem tabs_set (h : H a = some (.lst xs)) (t : LamX.Tabs Tb H) : LamX.Tabs Tb (L2.upd H a o) := by
  intro p hp
  obtain ⟨ps, e1, e2, e3⟩ := t p hp
  refine ⟨ps, ?_, e2, fun pos cv hc => ?_⟩
  · rw [upd_ne (fun z => by rw [z, h] at e1; cases e1)]
    exact e1
  · obtain ⟨c', rfl, e5⟩ := e3 pos cv hc
    refine ⟨c', rfl, ?_⟩
    rw [upd_ne (fun z => by rw [z, h] at e5; unfold LamX.CodeO at e5; cases e5)]
    exact e5
theorem tabs_kp {c : Int} (k : Kp a H H') (st : StAt a c H) (t : LamX.Tabs Tb H) : LamX.Tabs Tb H' := by
  intro p hp
  obtain ⟨u, m, v, e, _, _⟩ := st
  obtain ⟨ps, e1, e2, e3⟩ := t p hp
  refine ⟨ps, k _ _ (fun z => by rw [z, e] at e1; cases e1) e1, e2, fun pos cv h => ?_⟩
  obtain ⟨c', rfl, e5⟩ := e3 pos cv h
  exact ⟨c', rfl, k _ _ (fun z => by rw [z, e] at e5; unfold LamX.CodeO at e5; cases e5) e5⟩
end
theorem shaped_ti (x : Str) (hx : PyData.canLay0 (.str x) = true) (k : Int) : SeqAt.shaped (.tuple [.str x, .int k]) = true := by
  simp only [SeqAt.shaped, lay_t, lay_c, lay_e, lay_i, hx, PyData.depth, PyData.depthAll, Bool.and_true, Bool.true_and]
  rfl
theorem shaped_l2 {d e : PyData} (sd : SeqAt.shaped d = true) (se : SeqAt.shaped e = true) (hd : d.depth ≤ 60) (he : e.depth ≤ 60) : SeqAt.shaped (.list [d, e]) = true := by
  have a1 := SeqAt.canLay_of_shaped sd
  have a2 := SeqAt.canLay_of_shaped se
  simp only [SeqAt.shaped, lay_l, lay_c, lay_e, a1, a2, PyData.depth, PyData.depthAll, Bool.and_true, Bool.true_and]
  exact decide_eq_true (by omega)
/-- keywords of a def with one default, each of its two parameters told: the keywords in the other order -/
theorem kb_ofD {K : PySem.W.Frag} {x qual : Str} {st : Stmt} {f : Addr} {fd : FuncData} {ps ks : List Str} {dv : V} (F : FunD K x qual (defArgs st) (defBody st) (defScope st) [dv] [] f fd)
    (h : ∀ (T : Addr) (kV doc pm : Value) (an : Option Addr) (cdv ct : Value) (us ws its : List Value), us.length + ws.length = ps.length → its.length = 1 →
      ∃ k, bindArgs (PySem.W.fnOf x qual (defArgs st) (defBody st) (defScope st) (.ref T) kV doc pm an cdv ct) ⟨us, ks.zip ws⟩ = seqItems? (.ref T) >>= k ∧ k (some its.toArray) = pure (ps.zip (us ++ ws.reverse))) :
    KBinds K fd ps ks (fun us ws => us ++ ws.reverse) (fun vs zs => vs ++ zs.reverse) := by
  obtain ⟨oc, od, dV, kV, doc, pm, an, cdv, ct, osl, rfl, lk, hcd, hD, hK⟩ := F.ex
  rcases hD with ⟨e, _⟩ | ⟨_, T, o, its, m, rfl, lT, oT, rT⟩
  · exact absurd e (by simp)
  · refine ⟨fun s us ws X hl => ?_, fun a b => a.append (vals_rev b)⟩
    rw [List.length_append, List.length_reverse] at hl
    obtain ⟨k, e1, e2⟩ := h T kV doc pm an cdv ct us ws its hl rT.length.symm
    refine BindsTo.of_looks fun M => ?_
    rw [e1]
    exact looks_items X lT oT (.of_pure e2)
end Mx

namespace Mx
open PySem PySem.Spec PyProof.Rows L2

/-! ### own exceptions over any built-in base, made as values and kept -/
/-- a built-in exception class as a base -/
structure EB : Type where
  B : String
  N : String
  I : String
  tl : List Value
structure EB.Ok (b : EB) : Prop where
  F : ExcBaseFacts b.B b.N b.I b.tl
  pass : ∀ self : Value, PySem.refuseLoop self "__setattr__" b.tl = pure ()
  obj : b.tl.contains (.type "object") = true
  ne : b.tl.isEmpty = false
def ebV : EB := ⟨"ValueError", "ValueError.__new__", "ValueError.__init__", [.type "ValueError", .type "Exception", .type "BaseException", .type "object"]⟩
def ebR : EB := ⟨"RuntimeError", "RuntimeError.__new__", "RuntimeError.__init__", [.type "RuntimeError", .type "Exception", .type "BaseException", .type "object"]⟩
def ebO : EB := ⟨"OverflowError", "OverflowError.__new__", "OverflowError.__init__", [.type "OverflowError", .type "ArithmeticError", .type "Exception", .type "BaseException", .type "object"]⟩
theorem ebV_ok : ebV.Ok := ⟨PySem.F.excBase_ValueError, fun self => by kernel_rfl, by decide +kernel, rfl⟩
theorem ebR_ok : ebR.Ok := ⟨PySem.F.excBase_RuntimeError, fun self => by kernel_rfl, by decide +kernel, rfl⟩
theorem ebO_ok : ebO.Ok := ⟨PySem.F.excBase_OverflowError, fun self => by kernel_rfl, by decide +kernel, rfl⟩
/-- own classes, then the built-in's mro -/
def mroB (own : List Addr) (b : EB) : List Value := own.map Value.ref ++ b.tl
theorem mro_has (b : EB) (X : String) : ∀ own : List Addr, (mroB own b).contains (.type X) = b.tl.contains (.type X)
  | [] => rfl
  | c :: own => by
    show (Value.ref c :: mroB own b).contains (.type X) = _
    rw [List.contains_cons, mro_has b X own]
    rfl
theorem mro_pass {b : EB} (h : b.Ok) (self : Value) : ∀ own : List Addr, PySem.refuseLoop self "__setattr__" (mroB own b) = pure ()
  | [] => h.pass self
  | c :: own => by
    show PySem.refuseLoop self "__setattr__" (Value.ref c :: mroB own b) = _
    rw [PySem.refuseLoop_ref]
    exact mro_pass h self own
theorem mro_ne {b : EB} (h : b.Ok) : ∀ own : List Addr, (mroB own b).isEmpty = false
  | [] => h.ne
  | _ :: _ => rfl
structure OexG (K : PySem.W.Frag) (b : EB) (C : Addr) : Prop where
  ok : b.Ok
  cls : ∃ nm q N bs own sn sub ab col dd k0 k1 k2 k3 k5, K.lookup C = some (excClassObj nm q C N bs (mroB own b) true sn sub ab col dd k0 k1 k2 k3 k5 b.N)
  sa : PySem.W.findIn K (.ref C) "__setattr__" = some (some (.builtin "object.__setattr__"))
  kC : PySem.W.keepIn K (.ref C) = true

def finQ (M : Model) (A : Around) (R : Result → Shared → Prop) : Fin → Shared → Prop := fun fin s' => match fin with
  | .done f => R (.ok f) s'
  | .again c => c.quiet = true ∧ codeAny M A c R s'
section
open Builtin Builtin.ObjectAttr
variable {prog : Program} {w : World} {A : Around} {R : Result → Shared → Prop} {hh : Heap} {g : Array GenState} {d : Drawn} {t : Nat} {os : OsState}
/-- object.__setattr__ on such an exception, up to its own dict -/
theorem osa_pre {K : PySem.W.Frag} {f : Str} {tk : Tok} {v : Value} {x C : Addr} {ox : Obj} {oD : Option Obj} {cd : ClassData} (KX : K.In hh) (J : PySem.W.InstAt hh x ox C oD) (hcd : PySem.W.clsIn K C = some cd)
    (e1 : cd.mro.isEmpty = false) (e2 : cd.mro.contains (.type "object") = true) (e3 : refuseLoop (.ref x) "__setattr__" cd.mro = pure ()) (ha : PySem.W.findIn K (.ref C) f = some none)
    (h : wpAny (model prog w) A.in1 (storeInOwnDict (.ref x) (.ref C) (.str f tk) f v false) (finQ (model prog w) A R) (fun e s => R (.error e) s) ⟨hh, g, d, t, os⟩) :
    codeAny (model prog w) A (.call (.builtin "object.__setattr__") ⟨[.ref x, .str f tk, v], []⟩) R ⟨hh, g, d, t, os⟩ := by
  have S0 := F.store_object
  have isO : PySem.W.Looks (model prog w) hh (isInstance (.ref x) (.type "object")) true :=
    J.type.andThen (PySem.W.looks_mroIn KX (by unfold PySem.W.mroIn; rw [hcd, Option.bind_some, if_neg (by rw [e1]; decide), e2]))
  have mr : PySem.W.Looks (model prog w) hh (mroOf (.ref C)) cd.mro := (PySem.W.looks_clsIn KX hcd).andThen .now
  have no : PySem.W.Looks (model prog w) hh (storeTaker? none) none := .now
  refine codeAny_call_builtin S0.slot.plain S0.entry ?_
  refine @PySem.W.check_slot (model prog w) _ _ ⟨hh, g, d, t, os⟩ "object.__setattr__" "object" "__setattr__" (.ref x) [.str f tk, v] [] _ S0.kind S0.split isO (S0.args (.ref x) (.str f tk) v) ?_
  rw [PySem.W.osa_eq, refuse_eq]
  refine wpAny_bind (wpAny_bind (J.type.at (wpAny_bind (mr.at ?_))))
  rw [e3]
  refine wpAny_pure (wpAny_bind (J.type.at (wpAny_bind ((PySem.W.looks_findIn KX ha).at (wpAny_bind (no.at ?_))))))
  exact wpAny_mono h (fun fin s z => by cases fin <;> exact z) fun _ _ z => z
/-- the first field -/
theorem osa_first {K : PySem.W.Frag} {f : Str} {tk : Tok} {v : Value} {x C : Addr} {fv : Array Value} {cd : ClassData} (KX : K.In hh) (hx : hh.get? x = some { cls := .ref C, data := .fields fv }) (hcd : PySem.W.clsIn K C = some cd)
    (e1 : cd.mro.isEmpty = false) (e2 : cd.mro.contains (.type "object") = true) (e3 : refuseLoop (.ref x) "__setattr__" cd.mro = pure ()) (ed : cd.hasDict = true) (ha : PySem.W.findIn K (.ref C) f = some none)
    (hq : ∀ h1 tk1 dx, (∀ b o, b ≠ x → hh.get? b = some o → h1.get? b = some o) → hh.objs.size ≤ dx → dx ≠ x → h1.get? x = some { cls := .ref C, dict := some dx, data := .fields fv } →
      h1.Ns1 dx (fun y => if y = f then some v else none) → R (.ok (.ret .none)) ⟨h1, g, d, tk1, os⟩) :
    codeAny (model prog w) A (.call (.builtin "object.__setattr__") ⟨[.ref x, .str f tk, v], []⟩) R ⟨hh, g, d, t, os⟩ := by
  refine osa_pre KX (oD := none) ⟨hx, rfl, rfl, trivial⟩ hcd e1 e2 e3 ha ?_
  have lk : PySem.W.Looks (model prog w) hh (classData C) cd := PySem.W.looks_clsIn KX hcd
  have nx : x ≠ hh.objs.size := Nat.ne_of_lt (Heap.lt_size hx)
  obtain ⟨nm, bs, mro, ns, qn, hd, sn, sb, ab, col, del⟩ := cd
  dsimp only at ed
  subst ed
  unfold storeInOwnDict ownDictForStores
  repeat (first | with_reducible refine HandSPX.store_in_new ?_ ?_ | with_reducible refine wpAny_loadPart_at hx ?_ | with_reducible refine lk.at ?_ | wp_step)
  · exact ⟨_, #[], _, (Heap.get?_update_ne _ _ _ _ nx.symm).trans (Heap.get?_push_at rfl rfl), rfl, fun e he => absurd he (by simp), fun _ => rfl⟩
  · intro h1 tk1 hn hs
    have hx1 : (hh.push { cls := .type "dict", data := .dict #[] }).get? x = some { cls := .ref C, data := .fields fv } := Heap.get?_push_of_some _ hx
    exact hq h1 tk1 hh.objs.size (fun b o hb ho => (hs.2 b (Nat.ne_of_lt (Heap.lt_size ho))).trans ((Heap.get?_update_ne _ _ _ _ hb).trans (Heap.get?_push_of_some _ ho))) (Nat.le_refl _) nx.symm
      ((hs.2 x nx).trans (Heap.get?_update_self _ hx1 rfl)) hn
/-- a further field -/
theorem osa_more {K : PySem.W.Frag} {f : Str} {tk : Tok} {v : Value} {x C dx : Addr} {fv : Array Value} {cd : ClassData} {m0 : Str → Option Value} {nl : List Str} (KX : K.In hh) (hx : hh.get? x = some { cls := .ref C, dict := some dx, data := .fields fv })
    (hns : hh.Ns1 dx m0) (hw : Within m0 nl) (hz : nl.length ≤ 1000) (hcd : PySem.W.clsIn K C = some cd)
    (e1 : cd.mro.isEmpty = false) (e2 : cd.mro.contains (.type "object") = true) (e3 : refuseLoop (.ref x) "__setattr__" cd.mro = pure ()) (ed : cd.hasDict = true) (ha : PySem.W.findIn K (.ref C) f = some none)
    (hq : ∀ h1 tk1, (∀ b o, b ≠ dx → hh.get? b = some o → h1.get? b = some o) → h1.Ns1 dx (fun y => if y = f then some v else m0 y) → R (.ok (.ret .none)) ⟨h1, g, d, tk1, os⟩) :
    codeAny (model prog w) A (.call (.builtin "object.__setattr__") ⟨[.ref x, .str f tk, v], []⟩) R ⟨hh, g, d, t, os⟩ := by
  obtain ⟨oD, _, _, hoD, _, _⟩ := hns.count hw
  refine osa_pre KX (oD := some oD) ⟨hx, rfl, rfl, hoD⟩ hcd e1 e2 e3 ha ?_
  have lk : PySem.W.Looks (model prog w) hh (classData C) cd := PySem.W.looks_clsIn KX hcd
  obtain ⟨nm, bs, mro, ns, qn, hd, sn, sb, ab, col, del⟩ := cd
  dsimp only at ed
  subst ed
  unfold storeInOwnDict ownDictForStores
  repeat (first | with_reducible refine PySem.OEX.store_in_old hns hw hz ?_ | with_reducible refine wpAny_loadPart_at hx ?_ | with_reducible refine lk.at ?_ | wp_step)
  exact fun h1 tk1 hn hs => hq h1 tk1 (fun b o hb ho => (hs.2 b hb).trans ho) hn
end
section
variable {X : Cx} {pins : List (Addr × Obj)} {σ : L2.St} {H : Hp} {s : Shared} {a C dx : Addr} {f : Str} {y : V} {u : Value} {fs : List (Str × V)} {Q : Unit → Shared → Prop} {E : Value → Shared → Prop} {A : Around} {b : EB}
theorem OexG.data {K : PySem.W.Frag} (T : OexG K b C) : ∃ cd, PySem.W.clsIn K C = some cd ∧ cd.mro.isEmpty = false ∧ cd.mro.contains (.type "object") = true ∧ (∀ self, PySem.refuseLoop self "__setattr__" cd.mro = pure ()) ∧ cd.hasDict = true := by
  obtain ⟨nm, q, N, bs, own, sn, sub, ab, col, dd, k0, k1, k2, k3, k5, hC⟩ := T.cls
  refine ⟨{ name := nm, bases := bs, mro := .ref C :: mroB own b, ns := N, qualname := q, hasDict := true, slotNames := sn, subclasses := sub, abstract := ab, collection := col, hasDel := false }, by unfold PySem.W.clsIn; rw [hC] <;> rfl, rfl, ?_, fun self => mro_pass T.ok self (C :: own), rfl⟩
  exact (mro_has b "object" (C :: own)).trans T.ok.obj
/-- self.f = y, the first -/
theorem ostG_new (T : OexG X.K b C) (I : Inv X pins σ H s) (e : H a = some (exo a C none)) (hno : PySem.W.findIn X.K (.ref C) f = some none) (ry : RelV y u)
    (h : ∀ dx s', H dx = none → dx ≠ a → Inv X pins σ (upd (upd H dx (exd dx [(f, y)])) a (exo a C (some dx))) s' → Q () s') : wpAny (model X.prog X.w) A (setAttr (.ref a) f u) Q E s := by
  obtain ⟨cd, hcl, e1, e2, e3, e4⟩ := T.data
  obtain ⟨t1, ho⟩ := exo_at I.hok e
  obtain ⟨hp, g, d, t, os⟩ := s
  refine PySem.W.set_plain I.kIn (ox := { cls := .ref C, dict := none, data := .fields #[.ref t1, .none, .none, .none, .bool false, .none] }) (od := none) ⟨ho, rfl, rfl, trivial⟩ T.sa ?_
  refine osa_first I.kIn ho hcl e1 e2 (e3 _) e4 hno (fun h' tk' dx k dn dne hx hn => ?_)
  have hnd : H dx = none := I.hok.fresh dn
  have nd : ∀ {b : Addr} {o : Obj}, hp.get? b = some o → b ≠ dx := fun q => Nat.ne_of_lt (Nat.lt_of_lt_of_le (Heap.lt_size q) dn)
  have na : ∀ {b : Addr}, H b = none → b ≠ a := fun n z => by rw [z, e] at n; cases n
  have new : Un X.fs [] H (upd (upd H dx (exd dx [(f, y)])) a (exo a C (some dx))) hp h' :=
    ⟨fun b o q n _ _ => k b o (na n) q, fun b o q n _ _ => ⟨o.slots, k b o (na n) q⟩, fun b o q n _ => by rw [upd_ne (na n), upd_ne (nd q)]; exact n,
      fun b o q _ => by
        by_cases z : b = a
        · rw [z]; exact ⟨_, hx⟩
        · exact ⟨o, k b o z q⟩,
      fun b xs q => by rw [upd_ne (at_ne e q exo_tup), upd_ne (ne_of_none q hnd)]; exact q, fun b o v q => by rw [upd_ne (at_ne e q exo_frz), upd_ne (ne_of_none q hnd)]; exact q,
      fun b ps q => ⟨#[], by rw [upd_ne (at_ne e q exo_tbl), upd_ne (ne_of_none q hnd), q]; simp⟩⟩
  refine h dx _ hnd dne (I.un (t' := tk') new fun b o q => ?_)
  by_cases hb : b = a
  · subst hb
    rw [upd_same] at q
    cases q
    exact exo_ok hx
  rw [upd_ne hb] at q
  by_cases hd : b = dx
  · subst hd
    rw [upd_same] at q
    cases q
    exact exd_ok hn (relO_put (fs := []) ry fun g => True.intro)
  rw [upd_ne hd] at q
  refine (I.hok b o q).stay (fun c v hc z => k c v ?_ z) (fun c hc => ?_) fun c xs hc => ?_
  · rcases hc with hc | hc
    · rw [hc]; exact hb
    · exact at_ne e hc exo_own
  · rw [upd_ne (at_ne e hc exo_own), upd_ne (ne_of_none hc hnd)]; exact hc
  · rw [upd_ne (at_ne e hc exo_tup), upd_ne (ne_of_none hc hnd)]; exact hc
/-- a further one -/
theorem ostG_old (T : OexG X.K b C) (I : Inv X pins σ H s) (e : H a = some (exo a C (some dx))) (ed : H dx = some (exd dx fs)) (hl : fs.length ≤ 900) (hno : PySem.W.findIn X.K (.ref C) f = some none) (ry : RelV y u)
    (h : ∀ s', Inv X pins σ (upd H dx (exd dx ((f, y) :: fs))) s' → Q () s') : wpAny (model X.prog X.w) A (setAttr (.ref a) f u) Q E s := by
  obtain ⟨cd, hcl, e1, e2, e3, e4⟩ := T.data
  obtain ⟨t1, ho⟩ := exo_at I.hok e
  obtain ⟨mA, hns, rel⟩ := exd_at I.hok ed
  have hw := within_of rel
  obtain ⟨hp, g, d, t, os⟩ := s
  obtain ⟨oD, _, _, hoD, _, _⟩ := hns.count hw
  refine PySem.W.set_plain I.kIn (ox := { cls := .ref C, dict := some dx, data := .fields #[.ref t1, .none, .none, .none, .bool false, .none] }) (od := some oD) ⟨ho, rfl, rfl, hoD⟩ T.sa ?_
  refine osa_more I.kIn ho hns hw (by rw [List.length_map]; omega) hcl e1 e2 (e3 _) e4 hno (fun h' tk' k hn => ?_)
  refine h _ (I.write (t' := tk') (x := dx) (e := dx) (o := exd dx ((f, y) :: fs)) (by rw [ed]; exact True.intro) (.inl rfl) k ?_ (exd_ok hn (relO_put ry rel)))
  obtain ⟨o, _, _, e', _⟩ := hn
  exact ⟨o, e'⟩
/-- the base's __init__(self, ..): nothing of it is told -/
theorem oinitG {us : List Value} {Q : Value → Shared → Prop} (T : OexG X.K b C) (I : Inv X pins σ H s) (e : H a = some (exo a C none)) (hl : us.length ≤ sizeLine) (h : ∀ s', Inv X pins σ H s' → Q .none s') :
    wpAny (model X.prog X.w) A (call (.builtin b.I) (.ref a :: us)) Q E s := by
  obtain ⟨nm, q, N, bs, own, sn, sub, ab, col, dd, k0, k1, k2, k3, k5, hC⟩ := T.cls
  obtain ⟨t1, ho⟩ := exo_at I.hok e
  obtain ⟨hp, g, d, t, os⟩ := s
  refine wpAny_call (PySem.HandSPX.init_base T.ok.F (fun Y => mro_has b Y own) (I.kIn _ _ hC) ho hl fun h' t2 k hx => ?_)
  have J := I.write (t' := t) (x := a) (e := a) (o := exo a C none) (by rw [e]; exact True.intro) (.inl rfl) k ⟨_, hx⟩ (exo_ok hx)
  rw [show upd H a (exo a C none) = H from funext fun b => (Classical.em (b = a)).elim (fun z => by rw [z, upd_same, e]) fun z => upd_ne z] at J
  exact h _ J
end
/-- a base class of the module over b, read by its name -/
structure BaseG (K : PySem.W.Frag) (mg : Str → Option Value) (b : EB) (bn : Str) (CM : Addr) : Prop where
  mgM : mg bn = some (.ref CM)
  rd : PySem.W.readsIn K CM (.type "type") = true
  ga : PySem.W.specialIn K (.ref CM) "__getattribute__" = some (some (.builtin "type.__getattribute__"))
  at_ : PySem.W.findCls K (.ref CM) (.type "type") "__init__" = some (.val (.builtin b.I))
  hd : PySem.W.handedIn (.builtin b.I) = true
def tVeG (K : PySem.W.Frag) (b : EB) (ta : TA) : TE := fun σ H Q => ta σ H fun vs H1 => ∃ (a C : Addr) (ws : List V), vs = .ref a :: ws ∧ ws.length ≤ 1000 ∧ OexG K b C ∧ H1 a = some (exo a C none) ∧ Q .non H1
def tOsG (K : PySem.W.Frag) (b : EB) (f : Str) (y : V) (x : V) (H2 : Hp) (N : Hp → Prop) : Prop := ∃ a C : Addr, x = .ref a ∧ OexG K b C ∧ PySem.W.findIn K (.ref C) f = some none ∧
  ((H2 a = some (exo a C none) ∧ ∀ dx, H2 dx = none → dx ≠ a → N (upd (upd H2 dx (exd dx [(f, y)])) a (exo a C (some dx)))) ∨
    ∃ (dx : Addr) (fs : List (Str × V)), H2 a = some (exo a C (some dx)) ∧ H2 dx = some (exd dx fs) ∧ fs.length ≤ 900 ∧ N (upd H2 dx (exd dx ((f, y) :: fs))))
section
variable {X : Cx} {o e : Expr} {es : List Expr} {to te : TE} {ta : TA} {f : Str} {p p' p1 p2 pos : Pos} {b : EB}
theorem pe_minitG {bn : Str} {CM : Addr} {pl : Sem Bool} (T : BaseG X.K X.mg b bn CM) (hg : Gl X bn) (ha : PA X (e :: es) ta)
    (hc : eval (.Call (.Attribute (.Name bn p1) "__init__" p2) (e :: es) [] pos) X.env = (do
      let ov ← eval (.Name bn p1) X.env
      standAt p2.atName
      let (f, first) ← holding [ov] (getMethod ov "__init__" pl)
      callWith pos f first (backTo pos (starEach (e :: es) X.env)) (backToKw pos (keywordEach [] X.env))) := by rfl)
    (he : starEach (e :: es) X.env = (false, eval e X.env) :: starEach es X.env := by rfl) (hpl : (backTo pos (starEach es X.env)).any (·.1) = false := by rfl)
    (hdb : (bn == ("__debug__" : Str)) = false := by decide) :
    PE X (.Call (.Attribute (.Name bn p1) "__init__" p2) (e :: es) [] pos) (tVeG X.K b ta) := by
  refine ⟨fun pins s σ H Q I h => PySem.W.methodCall_KW (ld_glob I hg T.mgM ?_ hdb) hc⟩
  refine PySem.W.method_cls I.kIn T.ga (PySem.W.cls_value I.kIn T.rd T.at_ T.hd ?_)
  refine PyProof.Rows.callWith_method1 (thn (ha.run pos pins _ σ H _ (I.tok _) h) fun us s1 ⟨vs, H1, I1, r1, a, C, ws, ev, hl, Tc, ea, q⟩ => ?_) he hpl
  subst ev
  cases r1 with
  | @cons _ u0 _ ur ra rw' =>
    obtain rfl : u0 = Value.ref a := ra
    have hz : ur.length ≤ sizeLine := by
      rw [← Paired.length rw']
      exact Nat.le_trans hl (by decide)
    exact oinitG Tc I1 ea hz fun s' J => ⟨.non, H1, J, rfl, q⟩
def tOsS (K : PySem.W.Frag) (b : EB) (f : Str) (to te : TE) : TS := fun D σ H => te σ H fun y H1 => to σ H1 fun x H2 => tOsG K b f y x H2 fun H3 => D.nx σ H3
theorem ps_osG (ho : PE X o to) (he : PE X e te) (hs : swapsWith e (some (.Attribute o f p')) pos.line X.env = pure false := by rfl) : PS X (.Assign [.Attribute o f p'] e pos) (tOsS X.K b f to te) := by
  refine ⟨fun pins s σ H D I h => ?_⟩
  refine plainObj_wpAny_Assign_Attribute (thn (he.run pins s σ H _ I h) fun v s1 ⟨y, H1, I1, r1, q1⟩ => thn (ho.run pins s1 σ H1 _ I1 q1) fun u s2 ⟨x, H2, I2, r2, a, C, ex, T, hno, q⟩ => ?_) hs
  subst ex
  obtain rfl : u = Value.ref a := r2
  rcases q with ⟨ea, q⟩ | ⟨dx, fs, ea, ed, hl, q⟩
  · exact ostG_new T I2 ea hno r1 fun dx s' n ne J => ⟨σ, _, J, q dx n ne⟩
  · exact ostG_old T I2 ea ed hl hno r1 fun s' J => ⟨σ, _, J, q⟩
def gOsG (K : PySem.W.Frag) (b : EB) (f : Str) (to : TE) : TG := fun y σ H Q => to σ H fun x H2 => tOsG K b f y x H2 fun H3 => Q σ H3
/-- .. self.f .. as a target among others -/
theorem pg_osG (ho : PE X o to) (ha : ∀ v, assign (.Attribute o f p') X.env v = (do
      let ov ← holding [v] (eval o X.env)
      standAt p'.atName
      holding [v, ov] (setAttr ov f v)
      release [v, ov] []) := by intro _; rfl) : PG X (.Attribute o f p') (gOsG X.K b f to) := by
  refine ⟨fun pins s σ H v u Q I r h => ?_⟩
  rw [ha]
  refine wpAny_bind (wpAny_holding (thn (ho.run pins s σ H _ I h) fun ov s1 ⟨x, H1, I1, r1, a, C, ex, T, hno, q⟩ => ?_))
  subst ex
  obtain rfl : ov = Value.ref a := r1
  refine wpAny_bind (wpAny_standAt (wpAny_bind (wpAny_holding ?_)))
  rcases q with ⟨ea, q⟩ | ⟨dx, fs, ea, ed, hl, q⟩
  · exact ostG_new T I1 ea hno r fun dx s' n ne J => wpAny_release ⟨σ, _, J, q dx n ne⟩
  · exact ostG_old T I1 ea ed hl hno r fun s' J => wpAny_release ⟨σ, _, J, q⟩
/-- C(e, ..) as a value -/
def tNewX (C : Addr) (sp : Sp) (ta : TA) : TE := fun σ H Q => ta σ H fun vs H1 => vs.length ≤ 1000 ∧ ∀ a, H1 a = none → sp (.ref a :: vs) (upd H1 a (exo a C none)) (fun v H2 => v = .non ∧ Q (.ref a) H2) (fun _ _ _ => False)
theorem xnew_call {pins : List (Addr × Obj)} {σ : L2.St} {H1 : Hp} {s1 : Shared} {C fI : Addr} {k : Nat} {fd : FuncData} {ps : List Str} {sp : Sp} {vs : List V} {us : List Value} {Q : VK} (T : OexG X.K b C) (iC : PySem.W.findIn X.K (.ref C) "__init__" = some (some (.ref fI)))
    (tI : PySem.W.typeIn X.K (.ref fI) = some (.type "function")) (F1 : FnOk X.prog X.w X.K X.mg X.base CX0 k fI fd ps sp) (hr : Room (k + 1) X.A) (hb : Binds X.K fd ps [])
    (I1 : Inv X pins σ H1 s1) (r1 : Vals vs us) (hz : vs.length ≤ 1000) (q1 : ∀ a, H1 a = none → sp (.ref a :: vs) (upd H1 a (exo a C none)) (fun v H2 => v = .non ∧ Q (.ref a) H2) (fun _ _ _ => False)) :
    wpAny (model X.prog X.w) X.A (call (.ref C) us) (fun u s' => ∃ v H', Inv X pins σ H' s' ∧ RelV v u ∧ Q v H') X.xe s1 := by
  obtain ⟨nm, q, N, bs, own, sn, sub, ab, col, dd, k0, k1, k2, k3, k5, hC⟩ := T.cls
  obtain ⟨hp, g, dr, tk, os⟩ := s1
  have hq := q1 (hp.objs.size + 1) (I1.hok.fresh (Nat.le_succ _))
  have I2 : Inv X pins σ (upd H1 (hp.objs.size + 1) (exo (hp.objs.size + 1) C none)) ⟨(hp.push (PySem.W.kdv_tup us)).push (PySem.HandSPX.excO C hp.objs.size), g, dr, tk, os⟩ :=
    I1.laid (t' := tk) (a := hp.objs.size + 1) (o := exo (hp.objs.size + 1) C none) (h' := (hp.push (PySem.W.kdv_tup us)).push (PySem.HandSPX.excO C hp.objs.size))
      (fun b o e => Heap.get?_push_of_some _ (Heap.get?_push_of_some _ e)) (Nat.le_succ _) (exo_ok (by heap_get))
  have r2 : Vals (V.ref (hp.objs.size + 1) :: vs) (Value.ref (hp.objs.size + 1) :: us ++ []) := by
    rw [List.append_nil]
    exact .cons rfl r1
  have hl : (Value.ref (hp.objs.size + 1) :: us ++ []).length = ps.length := by
    rw [← r2.length]
    exact F1.len _ _ _ _ hq
  have hus : us.length ≤ sizeLine := by
    rw [← Paired.length r1]
    exact Nat.le_trans hz (by decide)
  refine wpAny_call (PySem.HandSPX.call_own T.ok.F (fun Y => mro_has b Y own) (I1.kIn _ _ hC) (PySem.W.looks_findIn I1.kIn iC) (fun self => PySem.W.bind_fn I1.kIn self tI) hus
    (codeAny_mono (F1.run _ X.stack _ _ ⟨Value.ref (hp.objs.size + 1) :: us, []⟩ _ _ _ (fun _ _ _ => False) (hr.make C us []) (I2.env0.make C us []) (hb _ (Value.ref (hp.objs.size + 1) :: us) I2.kIn hl) r2 hq) fun r s' hq' => ?_))
  cases r with
  | error er => exact pass0 pins σ _ _ er s' I2 hq'
  | ok fl =>
    cases fl with
    | ret u =>
      obtain ⟨v, H2, os2, bare2, un2, hok2, rv, ev, q2⟩ := hq'
      subst ev
      exact ⟨rv, .ref (hp.objs.size + 1), H2, I2.call' (ch := []) os2 un2 hok2 bare2 (fun b z => absurd z (by simp)), rfl, q2⟩
    | next => exact False.elim hq'
    | brk => exact False.elim hq'
    | cont => exact False.elim hq'
/-- the facts of such a class: its __init__ keeps sp -/
structure ClT (P : Program) (w : World) (K : PySem.W.Frag) (mg : Str → Option Value) (base : Heap) (b : EB) (cn : Str) (C fI : Addr) (fd : FuncData) (ps : List Str) (sp : Sp) : Prop where
  oex : OexG K b C
  mgC : mg cn = some (.ref C)
  iC : PySem.W.findIn K (.ref C) "__init__" = some (some (.ref fI))
  tI : PySem.W.typeIn K (.ref fI) = some (.type "function")
  ok : FnOk P w K mg base CX0 1 fI fd ps sp
  bI : Binds K fd ps []
theorem pe_newX {x : Str} {C fI : Addr} {fd : FuncData} {ps : List Str} {sp : Sp} (T : ClT X.prog X.w X.K X.mg X.base b x C fI fd ps sp) (hr : Room 2 X.A) (hg : Gl X x) (ha : PA X (e :: es) ta)
    (hdb : (x == ("__debug__" : Str)) = false := by decide) (he : starEach (e :: es) X.env = (false, eval e X.env) :: starEach es X.env := by rfl) (hpl : (backTo pos (starEach es X.env)).any (·.1) = false := by rfl) :
    PE X (.Call (.Name x p) (e :: es) [] pos) (tNewX C sp ta) := by
  refine ⟨fun pins s σ H Q I h => ?_⟩
  refine wpAny_Call_Name_kw (ld_glob I hg T.mgC ?_ hdb)
  refine PySem.W.callWith_K (h₀ := X.base) I.ok.mod.kin T.oex.kC (thn (ha.run pos pins s σ H _ I h) fun us s1 ⟨vs, H1, I1, r1, hz, q1⟩ => ⟨I1.kIn, ?_⟩) he hpl
  exact xnew_call (k := 1) T.oex T.iC T.tI T.ok hr T.bI I1 r1 hz q1
theorem pe_newX0 {x : Str} {C fI : Addr} {fd : FuncData} {ps : List Str} {sp : Sp} (T : ClT X.prog X.w X.K X.mg X.base b x C fI fd ps sp) (hr : Room 2 X.A) (hg : Gl X x) (hdb : (x == ("__debug__" : Str)) = false := by decide) :
    PE X (.Call (.Name x p) [] [] pos) (tNewX C sp tNil) := by
  refine ⟨fun pins s σ H Q I h => ?_⟩
  refine wpAny_Call_Name_kw (ld_glob I hg T.mgC ?_ hdb)
  exact PySem.W.callWith_K0 (first := []) I.kIn T.oex.kC (xnew_call (k := 1) T.oex T.iC T.tI T.ok hr T.bI I .nil (Nat.zero_le _) h.2)
end
end Mx

namespace Mx
open PySem PySem.Spec PyProof.Rows L2

/-! ### an exception that its __init__ has filled, as a value -/
def XoF (H : Hp) (a C : Addr) (fs : List (Str × V)) : Prop := (∃ d, H a = some (exo a C (some d)) ∧ H d = some (exd d fs)) ∨ (H a = some (exo a C none) ∧ fs = [])
theorem XoF.same {H H' : Hp} {a C : Addr} {fs : List (Str × V)} (h : XoF H a C fs) (s : Same H H') : XoF H' a C fs := by
  rcases h with ⟨d, h1, h2⟩ | ⟨h1, h2⟩
  · exact .inl ⟨d, s _ _ h1, s _ _ h2⟩
  · exact .inr ⟨s _ _ h1, h2⟩
theorem XoF.some {H : Hp} {a C : Addr} {fs : List (Str × V)} (h : XoF H a C fs) : ∃ u, H a = Option.some u := by
  rcases h with ⟨d, h1, h2⟩ | ⟨h1, h2⟩
  · exact ⟨_, h1⟩
  · exact ⟨_, h1⟩
section
variable {X : Cx} {pins : List (Addr × Obj)} {σ : L2.St} {H : Hp} {s : Shared} {a C : Addr} {fs : List (Str × V)}
theorem xoF_inst (I : Inv X pins σ H s) (h : XoF H a C fs) : ∃ (ox : Obj) (od : Option Obj), PySem.W.InstAt s.heap a ox C od := by
  rcases h with ⟨d, h1, h2⟩ | ⟨h1, h2⟩
  · obtain ⟨t1, ho⟩ := exo_at I.hok h1
    obtain ⟨mA, hns, rel⟩ := exd_at I.hok h2
    obtain ⟨oD, _, _, hoD, _, _⟩ := hns.count (within_of rel)
    exact ⟨_, some oD, ho, rfl, rfl, hoD⟩
  · obtain ⟨t1, ho⟩ := exo_at I.hok h1
    exact ⟨_, none, ho, rfl, rfl, trivial⟩
def rIsiF (K : PySem.W.Frag) : List V → Hp → VK → Prop := fun xs H Q => ∃ (a C : Addr) (fs : List (Str × V)) (c : V) (u : Value) (b : Bool), xs = [.ref a, c] ∧ ClsV c u ∧ XoF H a C fs ∧ XcC K C ∧ PySem.W.kitOne K (.ref C) u = some b ∧ Q (.bl b) H
theorem call_isiF : CallR X (.builtin "isinstance") (rIsiF X.K) := by
  intro pins s σ H xs us Q I r h
  obtain ⟨a, C, fs, c, u, b, rfl, k, hx, T, e, q⟩ := h
  obtain ⟨u1, u2, rfl, r1, r2⟩ := vals2 r
  have e2 := k.eq r2
  subst e2
  cases (show u1 = Value.ref a from r1)
  obtain ⟨ox, od, J⟩ := xoF_inst I hx
  exact PySem.W.kia_one (PySem.W.kitx_exc T.cl T.ga T.gt T.sub T.ha T.hn T.tk T.hm) I.kIn J e (fun z => by cases z) fun tk => ⟨.bl b, H, I.tok tk, rfl, q⟩
/-- e.f of such an exception -/
def tXf (K : PySem.W.Frag) (f : Str) (te : TE) : TE := fun σ H Q => te σ H fun x H1 => ∃ (a C : Addr) (fs : List (Str × V)) (v : V), x = .ref a ∧ XoF H1 a C fs ∧ XcC K C ∧ PySem.W.findIn K (.ref C) f = some none ∧ fs.lookup f = some v ∧ Q v H1
theorem pe_xf {e : Expr} {te : TE} {pos : Pos} {f : Str} (he : PE X e te) (hb : attributeBase e f X.env (eval e X.env) = eval e X.env := by rfl) : PE X (.Attribute e f pos) (tXf X.K f te) := by
  refine ⟨fun pins s σ H Q I h => attr_of hb (thn (he.run pins s σ H _ I h) fun u s1 hh => ?_)⟩
  obtain ⟨x, H1, I1, rx, a, C, fs, v, ex, hx, T, hno, l, q⟩ := hh
  subst ex
  cases (show u = Value.ref a from rx)
  rcases hx with ⟨d, h1, h2⟩ | ⟨h1, h2⟩
  · obtain ⟨t1, ho⟩ := exo_at I1.hok h1
    obtain ⟨mA, hns, rel⟩ := exd_at I1.hok h2
    obtain ⟨od, hod, hl⟩ := lookIn_ns hns
    obtain ⟨z, hz, rz⟩ := RelO.some_of (v := v) (o := mA f) (by rw [← l]; exact rel f)
    exact HandSPX.exc_get I1.kIn ⟨ho, rfl, rfl, hod⟩ T.ga T.gt T.sub (PySem.W.findObj_own T.hd hno rfl (by rw [hl, hz])) (handed_of rz) ⟨v, H1, I1.tok _, rz, q⟩
  · rw [h2] at l
    cases l
/-! ### made with its fields -/
def fsOf (fs : List Str) (ys : List V) : List (Str × V) := (fs.zip ys).reverse
/-- what such an __init__ keeps: all but the exception stays, it has its fields -/
def spIn (C : Addr) (fs : List Str) : Sp := fun vs H Q _ => ∃ (a : Addr) (ys : List V), vs = .ref a :: ys ∧ ys.length = fs.length ∧ H a = Option.some (exo a C none) ∧ ∀ H', Kp a H H' → XoF H' a C (fsOf fs ys) → Q .non H'
def tNewF (C : Addr) (fs : List Str) (ta : TA) : TE := fun σ H Q => ta σ H fun vs H1 => (vs.length = fs.length ∧ vs.length ≤ 1000) ∧ ∀ a H', Same H1 H' → XoF H' a C (fsOf fs vs) → Q (.ref a) H'
theorem same_of_kp {a : Addr} {H H' : Hp} {o : HO} (n : H a = none) (k : Kp a (upd H a o) H') : Same H H' := fun b u e => k b u (ne_of_none e n) (by rw [upd_ne (ne_of_none e n)]; exact e)
theorem newF_of {ta : TA} {H : Hp} {Q : VK} {fs : List Str} (h : tNewF C fs ta σ H Q) : tNewX C (spIn C fs) (aMono ta) σ H Q :=
  ⟨_, h, fun vs H1 hq => ⟨hq.1.2, fun a ha => ⟨a, vs, rfl, hq.1.1, upd_same, fun H' k x => ⟨rfl, hq.2 a H' (same_of_kp ha k) x⟩⟩⟩⟩
theorem pe_newF {b : EB} {e : Expr} {es : List Expr} {ta : TA} {p pos : Pos} {x : Str} {fI : Addr} {fd : FuncData} {ps fs : List Str} (T : ClT X.prog X.w X.K X.mg X.base b x C fI fd ps (spIn C fs)) (hr : Room 2 X.A) (hg : Gl X x) (ha : PA X (e :: es) ta)
    (hdb : (x == ("__debug__" : Str)) = false := by decide) (he : starEach (e :: es) X.env = (false, eval e X.env) :: starEach es X.env := by rfl) (hpl : (backTo pos (starEach es X.env)).any (·.1) = false := by rfl) :
    PE X (.Call (.Name x p) (e :: es) [] pos) (tNewF C fs ta) :=
  ⟨fun pins s σ H Q I h => (pe_newX T hr hg (pa_mono ha) hdb he hpl).run pins s σ H Q I (newF_of h)⟩
theorem pe_newF0 {b : EB} {p pos : Pos} {x : Str} {fI : Addr} {fd : FuncData} {ps : List Str} (T : ClT X.prog X.w X.K X.mg X.base b x C fI fd ps (spIn C [])) (hr : Room 2 X.A) (hg : Gl X x) (hdb : (x == ("__debug__" : Str)) = false := by decide) :
    PE X (.Call (.Name x p) [] [] pos) (tNewF C [] tNil) :=
  ⟨fun pins s σ H Q I h => (pe_newX0 T hr hg hdb).run pins s σ H Q I ⟨Nat.zero_le _, fun a ha => ⟨a, [], rfl, rfl, upd_same, fun H' k x => ⟨rfl, h.2 a H' (same_of_kp ha k) x⟩⟩⟩⟩
end
end Mx

namespace Mx
open PySem PySem.Spec PyProof.Rows L2
section
variable {J : It} {n : Nat} {G : Hp → Prop} {Y : Nat → Hp → V → Hp → Prop} {Tb : List (Addr × Str)}
/-- lc_flt, the turns may make lambdas -/
theorem lc_fltG (w : Walk J n G Y) {g : TG} {tt : TT} {te : TE} {vs : List Nat} {σ : L2.St} {H1 : Hp} {D : Addr} {Qd : Hp → Prop} (f : Nat → Bool) (y : Nat → V) (hD : H1 D = none) (hn : n ≤ 1000000)
    (hG : ∀ H, Go Tb H1 H → G H) (hY : ∀ i H x H', Y i H x H' → Same H H')
    (hs : ∀ i x H H' (Nx : V → Hp → Prop) (Mx : Hp → Prop), i < n → Go Tb H1 H → Y i H x H' → (f i = true → ∀ H4, Go Tb H' H4 → Nx (y i) H4) → (f i = false → ∀ H3, Go Tb H' H3 → Mx H3) →
      g x (wipe σ vs) H' fun σ2 H2 => wipe σ2 vs = wipe σ vs ∧ tt σ2 H2 fun b H3 => if b = true then te σ2 H3 Nx else Mx H3)
    (hd : ∀ H, Go Tb H1 H → H D = some (.lst (picked n f y)) → Qd H) :
    ∃ W : Nat → Nat → Hp → Prop, (∃ m, W 0 m (upd H1 D (.lst []))) ∧ ∀ i m H, W i m H →
      (J.stop i H ∧ Qd H) ∨ (J.go i H ∧ ∃ Nx : Hp → Prop, (∀ H', Nx H' → ∃ m', m' < m ∧ W (i + 1) m' H') ∧ ∀ x H', J.yld i H x H' → g x (wipe σ vs) H' fun σ2 H2 => wipe σ2 vs = wipe σ vs ∧ tt σ2 H2 fun b H3 =>
        if b = true then te σ2 H3 fun y H4 => ∃ acc, H4 D = some (.lst acc) ∧ acc.length < sizeLine ∧ Nx (upd H4 D (.lst (acc ++ [y]))) else Nx H3) := by
  refine lc_it w (fun i H => i ≤ n ∧ Go Tb H1 H ∧ H D = some (.lst (picked i f y))) ⟨Nat.zero_le _, go_new hD (Go.refl _ _), upd_same⟩ (fun i H _ p => hG H p.2.1) ?_ (fun H p => hd H p.2.1 p.2.2)
  rintro i x H H' hi ⟨_, go, e⟩ yy
  have sm := hY i H x H' yy
  refine hs i x H H' _ _ hi go yy (fun hf H4 s4 => ?_) (fun hf H3 s3 => ?_)
  · refine ⟨_, s4.lst (sm _ _ e), ?_, hi, go_set hD (s4.lst (sm _ _ e)) ((go.trans (.same sm)).trans s4), ?_⟩
    · have := picked_len i f y
      unfold sizeLine
      omega
    · rw [upd_same, picked_yes y hf]
  · exact ⟨hi, (go.trans (.same sm)).trans s3, by rw [picked_no y hf]; exact s3.lst (sm _ _ e)⟩
end
end Mx

namespace Mx
open PySem PySem.Spec PyProof.Rows L2

/-! ### o.m(k = v, ..) -/
def tMethK (C : Addr) (m : Str) (sp : Sp) (gV : List V → List V → List V) (E : XK) (ta : TE) (tk : TA) : TE := fun σ H Q => ta σ H fun x H1 => ∃ a dx fs, x = .ref a ∧ H1 a = some (.ins C dx fs) ∧ fs.lookup m = none ∧
  tk σ H1 fun zs H2 => sp (gV [x] zs) H2 Q E
section
variable {X : Cx} {CX : CXT} {C : Addr} {m : Str} {k : Nat} {f : Addr} {fd : FuncData} {ps ks : List Str} {sp : Sp} {E : XK} {ta : TE} {tk : TA} {o : Expr} {kws : List Keyword} {apos pos : Pos} {g : List Value → List Value → List Value} {gV : List V → List V → List V}
theorem pe_methK0 {pl : Sem Bool} (he : PE X o ta) (c : Cls X.K C) (hm : Meth X.K C m f) (F : FnOk X.prog X.w X.K X.mg X.base CX k f fd ps sp) (hr : Room k X.A) (hb : KBinds X.K fd ps ks g gV) (hx : Passes CX X E) (hkw : PK X kws tk)
    (hall : (backToKw pos (keywordEach kws X.env)).all (·.1.isSome) = true := by rfl) (hks : (backToKw pos (keywordEach kws X.env)).filterMap (·.1) = ks := by rfl)
    (hpl : ((backTo pos (starEach [] X.env)).any (·.1) || (backToKw pos (keywordEach kws X.env)).any (·.1.isNone)) = false := by rfl)
    (ht : eval (.Call (.Attribute o m apos) [] kws pos) X.env = (do
      let ov ← eval o X.env
      standAt apos.atName
      let (f, first) ← holding [ov] (getMethod ov m pl)
      callWith pos f first (backTo pos (starEach [] X.env)) (backToKw pos (keywordEach kws X.env))) := by rfl) :
    PE X (.Call (.Attribute o m apos) [] kws pos) (tMethK C m sp gV E ta tk) := by
  refine ⟨fun pins s σ H Q I h => ?_⟩
  refine PySem.W.methodCall_KW (pl := pl) (thn (he.run pins s σ H _ I h) fun u s1 ⟨x, H1, I1, rx, a, dx, fs, ex, ea, l, q⟩ => ?_) ht
  subst ex
  obtain rfl : u = Value.ref a := rx
  refine getmeth_ok I1 ea c hm l ?_
  refine PySem.W.callWith_KW0 (first := [.ref a]) (h₀ := X.base) I1.ok.mod.kin hm.kp hall (thn (hkw.run pos pins s1 σ H1 _ I1 q) fun ws s2 ⟨zs, H2, I2, rz, q2⟩ => ⟨I2.kIn, ?_⟩) hpl
  rw [hks]
  exact run_fnk (us := [.ref a]) (vs := [.ref a]) F hr hb hx I2 (.cons rfl .nil) rz q2
end

/-! ### try: .. except X as n: the exception is told behind the suite -/
def wK1 (K : PySem.W.Frag) (c : Value) (i : Nat) (ts : Addr → Value → Option Addr → TS) (Wout : WX) (D : Ends) : WX := fun cls d σ H =>
  ∃ b, PySem.W.exmOne K cls c = some b ∧ (b = true → ∀ a, H a = none → ts a cls d { nx := fun σ' H' => D.nx (σ'.set i none) (upd H' a (xoO a cls d)), rt := fun _ _ => False, bk := fun _ _ => False, ct := fun _ _ => False } (σ.set i (some (.ref a))) H) ∧
    (b = false → Wout cls d σ H)
theorem ps_try_k1 {X : Cx} {x1 n : Str} {c1 : Value} {i : Nat} {body suite : List Stmt} {b₀ : Stmt} {q1 pos pos' : Pos} {tb : WX → TS} {ts : Addr → Value → Option Addr → TS} {Wout : WX}
    (hs : X.stack = X.env :: X.outer) (hf : X.env.frame = some X.env.locals) (hex : X.ex = []) (hN : X.N.Nodup) (hi : X.N[i]? = some n) (hln : X.env.kindOf n = some .local) (n1 : Nm X x1 c1) (tk : Takes X Wout)
    (hb : ∀ (W : WX) (pn : List (Addr × Obj)) (xe : Value → Shared → Prop), Takes (X.tr pn xe) W → PassesOwn (model X.prog X.w) X.A X.env xe → PSs (X.tr pn xe) body (tb W))
    (hsu : ∀ (a : Addr) (oe : Obj) (cls : Value) (d : Option Addr) (pn : List (Addr × Obj)), Zc cls d oe → (∃ vs, oe.data = .fields vs) → PSs (X.suite a ((a, oe) :: pn)) (b₀ :: suite) (ts a cls d)) :
    PS X (.Try body [.ExceptHandler (some (.Name x1 q1)) (some n) (b₀ :: suite) pos'] [] [] pos) (fun D σ H => tb (wK1 X.K c1 i ts Wout D) D σ H) := by
  refine ⟨fun pins s σ H D I h => wpAny_Try_except ?_⟩
  have ok := I.ok
  have hfr : X.A.frames = some (X.env :: X.outer) := ok.frames.trans (by rw [hs])
  refine wpAny_mono ((hb (wK1 X.K c1 i ts Wout D) (X.pn ++ pins) (fun e s₁ => wpAny (model X.prog X.w) X.A (noteFrame e X.env) (fun _ s₂ => wpAny (model X.prog X.w) X.A (setFlight e none) (fun _ s₃ =>
    wpAny (model X.prog X.w) X.A (handleBy e X.env [.ExceptHandler (some (.Name x1 q1)) (some n) (b₀ :: suite) pos']) (SP X pins D) X.xe s₃) X.xe s₂) X.xe s₁) (fun u s' xx => ?_) PassesOwn.looking).run [] s σ H D (I.toTry _) h) (fun f s1 hsp => ?_) (fun _ _ z => z)
  · obtain ⟨a, B, sI, pins', σ', H', cls, d, rfl, J', nb, up, sky, na, os, ag, b, hb1, hyes, hno⟩ := xx
    have J : Inv X pins σ' H' sI := J'.ofTry ok
    rw [show (X.tr (X.pn ++ pins) _).stack = X.env :: X.outer from hs] at sky
    show wpAny (model X.prog X.w) X.A (noteFrame (.ref a) X.env) _ _ _
    refine Sky.land Zc.steady hfr hf sky fun h3 fl3 up3 => ?_
    have J3 : Inv X pins σ' H' { s' with heap := h3 } := J.landed nb fl3.1 (up.trans up3) os ag
    obtain ⟨oe3, vs3, he3, hz3, hd3⟩ := fl3.there
    have nfr : a ∉ frs X.stack := fun hm => by
      rw [hs] at hm
      obtain ⟨_, o', e', hnf⟩ := fl3.2.2.1.mem hm
      rw [he3] at e'
      cases e'
      exact hnf _ hd3
    have nL : a ≠ X.env.locals := fun z => nfr (by rw [hs]; exact List.mem_filterMap.mpr ⟨X.env, List.mem_cons_self, by rw [hf, z]⟩)
    have nF : a ∉ X.fs := fun hm => nfr (by
      rw [hs]
      obtain ⟨e, he, q⟩ := List.mem_filterMap.mp hm
      exact List.mem_filterMap.mpr ⟨e, List.mem_cons_of_mem _ he, q⟩)
    have nI : sI.heap.get? a = none := by
      cases e : sI.heap.get? a with
      | none => rfl
      | some o =>
        have z := nb a o e nfr
        rw [fl3.2.1] at z
        cases z
    have n0 : X.s_0.heap.get? a = none := by
      cases e : X.s_0.heap.get? a with
      | none => rfl
      | some o =>
        obtain ⟨o', z⟩ := J.base.there a o e (by rw [hex]; simp)
        rw [nI] at z
        cases z
    have np : ∀ p ∈ X.pn ++ pins, p.1 ≠ a := fun p hp z => by
      have q := (J.pin p hp).1
      rw [z, nI] at q
      cases q
    have S3 := J3.suite he3 hd3 na nL nF
    refine wpAny_handleBy_cons (codeAny_handlers_test ?_) (by intro q; cases q)
    have nm : ∀ {x : Str} {c : Value} {q : Pos} {s2 : Shared} {Q E : Value → Shared → Prop}, Nm X x c → Inv (X.suite a ((a, oe3) :: (X.pn ++ pins))) [] σ' H' s2 → Q c s2 → wpAny (model X.prog X.w) (X.A.mark (some (.ref a))) (eval (.Name x q) X.env) Q E s2 :=
      fun {x c q s2 Q E} nx S z => ld_glob (X := X.suite a ((a, oe3) :: (X.pn ++ pins))) S nx.g nx.m z nx.d
    have LT : PySem.W.Looks (model X.prog X.w) h3 (typeOf (.ref a)) cls := fun A Q E s k q => wpAny_typeOf_ref (k _ _ he3) (by rw [hz3.1]; exact q)
    have LM := PySem.W.exm_one (M := model X.prog X.w) (J3.kIn) LT hb1
    refine nm n1 S3 ?_
    refine LM.here ?_
    have fl5 := fl3
    have up5 := up.trans up3
    cases b with
    | true =>
      refine codeAny_handlers_suite_as (HandSPX.lands_againZ fl5 fun h4 fl4 up4 => ?_)
      have J4 : Inv X pins σ' H' { s' with heap := h4 } := J.landed nb fl4.1 (up5.trans up4) os ag
      obtain ⟨oe4, vs4, he4, hz4, hd4⟩ := fl4.there
      refine store_ok (X := X.suite a ((a, oe4) :: (X.pn ++ pins))) (v := .ref a) (J4.suite he4 hd4 na nL nF) hN hi (.inl hln) rfl (fun s5 S5 => ?_) (.inr hln)
      refine wpAny_mono ((hsu a oe4 cls d (X.pn ++ pins) hz4 ⟨_, hd4⟩).run [] s5 _ H' _ S5 (hyes rfl a na)) (fun f s6 hsp => ?_) (fun _ _ z => False.elim z)
      cases f with
      | next =>
        obtain ⟨σ6, H6, S6, q6⟩ := hsp
        have p6 := S6.pin (a, oe4) (List.mem_append_left _ List.mem_cons_self)
        have I6 : Inv X ((a, oe4) :: pins) σ6 H6 s6 := (S6.unsuite ok).pins_of fun p hp => by
          rcases List.mem_cons.mp hp with e | h
          · rw [e]; exact p6
          · exact (S6.unsuite ok).pin p (List.mem_append_right _ h)
        exact gone_ok I6 hN hi hln fun s7 J7 => by
          have p7 := J7.pin (a, oe4) (List.mem_append_right _ List.mem_cons_self)
          have K7 : Inv X pins (σ6.set i none) H6 s7 := J7.pins_of fun p hp => J7.pin p (List.mem_append_right _ (List.mem_cons_of_mem _ hp))
          exact ⟨_, _, track K7 p7.1 hz4 hd4 p7.2.1 n0 nL np, q6⟩
      | brk => exact hsp.elim fun _ h => h.elim fun _ h => h.2.elim
      | cont => exact hsp.elim fun _ h => h.elim fun _ h => h.2.elim
      | ret u => exact hsp.elim fun _ h => h.elim fun _ h => h.elim fun _ h => h.2.2.elim
    | false =>
      show wpAny _ X.A (handleBy (.ref a) X.env []) _ _ _
      refine wpAny_handleBy_nil ?_
      obtain ⟨k1, k2, k3, oe, vs, T, oT, ts', he, hz, hd, h1, hr⟩ := id fl5
      unfold PySem.passOn
      refine wpAny_bind (wpAny_field he hd h1 ?_)
      rw [if_neg (show ¬ ((Value.ref T == Value.none) = true) from by simp)]
      have fin : ∀ {s5 : Shared}, s5 = { s' with heap := h3 } →
          wpAny (model X.prog X.w) X.A (setFlight (.ref a) X.env.frame) (fun _ s4 => wpAny (model X.prog X.w) X.A (throw (.ref a) : Sem Flow) (SP X pins D) X.xe s4) X.xe s5 := by
        intro s5 e5
        rw [hf, e5]
        exact HandSPX.setFlight_upZ fl5 fun h4 hh4 up4 => wpAny_throw (tk _ _ ⟨a, B, sI, pins, σ', H', cls, d, rfl, J, nb, up5.trans up4, .inr (.inr (by rw [hs]; exact hh4)), na, os, ag, hno rfl⟩)
      first
        | exact wpAny_bind (wpAny_pure (wpAny_bind (fin rfl)))
        | exact wpAny_bind (fin rfl)
  · cases f with
    | next =>
      obtain ⟨σ', H', J', q⟩ := hsp
      exact wpAny_execs_nil ⟨σ', H', J'.ofTry ok, q⟩
    | brk =>
      obtain ⟨σ', H', J', q⟩ := hsp
      exact ⟨σ', H', J'.ofTry ok, q⟩
    | cont =>
      obtain ⟨σ', H', J', q⟩ := hsp
      exact ⟨σ', H', J'.ofTry ok, q⟩
    | ret u =>
      obtain ⟨v, σ', H', J', r, q⟩ := hsp
      exact ⟨v, σ', H', J'.ofTry ok, r, q⟩
end Mx

namespace Mx
open PySem PySem.Spec PyProof.Rows L2
/-! ### repr of a tuple of data, dicts among them -/
theorem repr_tuple {prog : Program} {w : World} {a : Addr} {xs : List PyData} {A : Around} {E : Value → Shared → Prop} {s : Shared} {Q : Value → Shared → Prop} (r : Rs s.heap (.ref a) (.tuple xs)) (hs : (PyData.tuple xs).showable = true) (hg : A.guards = some []) (hu : A.units + ((PyData.tuple xs).depth + 1) < cLine)
    (hQ : ∀ h' u tk, (∀ b o, s.heap.get? b = some o → h'.get? b = some o) → Q (.str (PyData.tuple xs).shown u) { s with heap := h', toks := tk })
    (hsz : (PyData.tuple xs).shown.length ≤ sizeLine) : wpAny (model prog w) A (call (.builtin "repr") [.ref a]) Q E s := by
  generalize hd : PyData.tuple xs = d at r hs hu hQ hsz
  cases r with
  | list => cases hd
  | dict => cases hd
  | tuple h1 h2 h3 h4 =>
    rename_i o vs n xs'
    cases hd
    have hz' : (tupleText (PyData.shownAll xs)).length ≤ sizeLine := by simpa only [PyData.shown] using hsz
    obtain ⟨bs, hb, hk⟩ := RsAll.shown (prog := prog) (w := w) h4 (by simpa [PyData.showable] using hs) (fun t ht => Nat.le_trans (tupleText_mem_le ht) hz')
    obtain ⟨as, r⟩ := Rs.reads (.tuple h1 h2 h3 h4)
    have hna : a ∉ bs := not_mem_of_deeper r (by simp only [PyData.depth]; omega) hb
    refine call_repr_slot (by omega) ⟨o, h1, h2⟩ F.slot_tuple_repr ?_
    have hu' : A.in1.units + (PyData.tuple xs).depth < cLine := by show A.units + 1 + _ < cLine; omega
    simp only [PyData.depth] at hu'
    have hQ' : ∀ h' u tk, (∀ b o, s.heap.get? b = some o → h'.get? b = some o) → ∃ x t, Value.str (PyData.tuple xs).shown u = .str x t ∧ Q (.str (PyData.tuple xs).shown u) { s with heap := h', toks := tk } := fun h' u tk k => ⟨_, _, rfl, hQ h' u tk k⟩
    simp only [PyData.shown] at hQ'
    exact call_tuple_reprK h1 h2 h3 hna hk hg (fun b _ => Clear.nil b) hu' (fun _ _ e => e) hQ' hz'
def rReprT (K : PySem.W.Frag) : List V → Hp → VK → Prop := fun xs H Q => ∃ (a : Addr) (ds : List PyData), xs = [.ref a] ∧ Dx K H (.ref a) (.tuple ds) ∧ (PyData.tuple ds).showable = true ∧ (PyData.tuple ds).depth ≤ 60 ∧ (PyData.tuple ds).shown.length ≤ sizeLine ∧ Q (.str (PyData.tuple ds).shown) H
theorem call_reprT {X : Cx} {k : Nat} (hr : RmG k X.A) : CallR X (.builtin "repr") (rReprT X.K) := by
  intro pins s σ H vs us Q I r h
  obtain ⟨a, ds, rfl, hd, h1, h3, h4, q⟩ := h
  cases r with
  | cons ra rn =>
    cases rn
    cases ra
    have hu := hr.r.un
    refine repr_tuple (Dx.rs I hd rfl) h1 hr.g (by omega) (fun h' u tk hk => ?_) h4
    exact ⟨.str (PyData.tuple ds).shown, H, I.kept hk, ⟨u, rfl⟩, q⟩
/-! ### one positional argument, one keyword -/
def kg : List Value → List Value → List Value | [u], [w] => [u, w] | _, _ => []
def kgV : List V → List V → List V | [u], [w] => [u, w] | _, _ => []
theorem kg_rel {vs zs : List V} {us ws : List Value} (a : Vals vs us) (b : Vals zs ws) : Vals (kgV vs zs) (kg us ws) := by
  match vs, us, zs, ws, a, b with
  | [], [], _, _, _, _ => exact .nil
  | [_], [_], [], [], _, _ => exact .nil
  | [_], [_], [_], [_], .cons r1 _, .cons r2 _ => exact .cons r1 (.cons r2 .nil)
  | [_], [_], _ :: _ :: _, _ :: _ :: _, _, _ => exact .nil
  | _ :: _ :: _, _ :: _ :: _, _, _, _, _ => exact .nil
theorem kb_of1 {K : PySem.W.Frag} {x qual : Str} {st : Stmt} {f : Addr} {fd : FuncData} {ps ks : List Str} {dv : V} (F : FunD K x qual (defArgs st) (defBody st) (defScope st) [dv] [] f fd) (hp : ps.length = 2)
    (h : ∀ (T : Addr) (kV doc pm : Value) (an : Option Addr) (cdv ct : Value) (u w i : Value),
      ∃ k, bindArgs (PySem.W.fnOf x qual (defArgs st) (defBody st) (defScope st) (.ref T) kV doc pm an cdv ct) ⟨[u], ks.zip [w]⟩ = seqItems? (.ref T) >>= k ∧ k (some #[i]) = pure (ps.zip [u, w])) :
    KBinds K fd ps ks kg kgV := by
  obtain ⟨oc, od, dV, kV, doc, pm, an, cdv, ct, osl, rfl, lk, hcd, hD, hK⟩ := F.ex
  rcases hD with ⟨e, _⟩ | ⟨_, T, o, its, m, rfl, lT, oT, rT⟩
  · exact absurd e (by simp)
  · refine ⟨fun s us ws X hl => ?_, kg_rel⟩
    rw [hp] at hl
    match us, ws, hl with
    | [u], [w], _ =>
      match its, rT with
      | [i], _ =>
        obtain ⟨k, e1, e2⟩ := h T kV doc pm an cdv ct u w i
        refine BindsTo.of_looks fun M => ?_
        rw [e1]
        exact looks_items X lT oT (.of_pure e2)
end Mx

namespace Mx
open PySem PySem.Spec PyProof.Rows L2
/-! ### operators that a class of the text defines -/
/-- a special method, found in the class -/
structure Own (K : PySem.W.Frag) (C : Addr) (m : Str) (f : Addr) : Prop where
  at_ : PySem.W.findIn K (.ref C) m = some (some (.ref f))
  fn : PySem.W.isFn K (.ref f) = true
section
variable {X : Cx} {CX : CXT} {k : Nat} {C f a dx : Addr} {fs : List (Str × V)} {fd : FuncData} {ps : List Str} {sp : Sp} {dvs : List V} {ds : List Value} {E : XK}
theorem own_at {pins : List (Addr × Obj)} {σ : L2.St} {H : Hp} {s : Shared} (I : Inv X pins σ H s) (ea : H a = some (.ins C dx fs)) : ∃ ox od, PySem.W.InstAt s.heap a ox C od := by
  obtain ⟨mA, O, _, _, _, _⟩ := ins_get I.hok ea
  obtain ⟨od, J, _⟩ := O.look
  exact ⟨_, _, J⟩
/-- the callee runs one builtin deeper -/
theorem run_fn1 {pins : List (Addr × Obj)} {σ : L2.St} {H : Hp} {s : Shared} {Q : VK} {us : List Value} {vs : List V} (F : FnOk X.prog X.w X.K X.mg X.base CX k f fd ps sp) (hr : Room (k + 1) X.A) (hb : Binds X.K fd ps ds) (hd : Vals dvs ds) (hx : Passes CX X E)
    (I : Inv X pins σ H s) (r : Vals vs us) (h : sp (vs ++ dvs) H Q E) : wpAny (model X.prog X.w) X.A.in1 (call (.ref f) us) (EP X pins σ Q) X.xe s := by
  have r2 : Vals (vs ++ dvs) (us ++ ds) := r.append hd
  have hl : (us ++ ds).length = ps.length := by rw [← r2.length]; exact F.len _ _ _ _ h
  refine wpAny_call (codeAny_mono (F.run X.A.in1 X.stack s H ⟨us, []⟩ (us ++ ds) (vs ++ dvs) Q E hr.in1 I.env0.in1 (hb s us I.kIn hl) r2 h) fun r s' hq => ?_)
  cases r with
  | error e => exact hx pins σ H s e s' I hq
  | ok fl =>
    cases fl with
    | ret u => exact I.after hq
    | next => exact False.elim hq
    | brk => exact False.elim hq
    | cont => exact False.elim hq
/-- e in o, e not in o -/
def tInOwn (C : Addr) (neg : Bool) (sp : Sp) (E : XK) (ty td : TE) : TE := fun σ H Q => ty σ H fun y H1 => td σ H1 fun x H2 => ∃ a dx fs, x = .ref a ∧ H2 a = some (.ins C dx fs) ∧ sp [.ref a, y] H2 (fun v H3 => ∃ b, v = .bl b ∧ Q (.bl (if neg = true then !b else b)) H3) E
theorem contains_own {M : Model} {A : Around} {E' : Value → Shared → Prop} {s : Shared} {K : PySem.W.Frag} {x C f : Addr} {ox : Obj} {od : Option Obj} {v : Value} {Q : Bool → Shared → Prop} (X : K.In s.heap) (I : PySem.W.InstAt s.heap x ox C od) (o : Own K C "__contains__" f)
    (h : wpAny M A (call (.ref f) [.ref x, v]) (fun r s' => wpAny M A (truthy r) Q E' s') E' s) : wpAny M A (contains (.ref x) v) Q E' s := by
  unfold contains
  refine wpAny_holding (wpAny_bind (wpAny_bind (I.type.here ((PySem.W.looks_findIn X o.at_).here ?_))))
  rw [if_neg (by simp)]
  exact wpAny_bind (PySem.W.unlessNone_K X I o.at_ o.fn h)
variable {i o : Expr} {ty td : TE}
theorem pc_inOwn (hm : Own X.K C "__contains__" f) (F : FnOk X.prog X.w X.K X.mg X.base CX k f fd ps sp) (hr : Room k X.A) (hb : Binds X.K fd ps []) (hx : Passes CX X E) (hi : PE X i ty) (ho : PE X o td) : PC X .In i o (tInOwn C false sp E ty td) := by
  refine ⟨fun pins s σ H Q I h => ?_⟩
  refine thn (hi.run pins s σ H _ I h) fun iv s1 ⟨y, H1, I1, ry, q1⟩ => thn (ho.run pins s1 σ H1 _ I1 q1) fun u s2 ⟨x, H2, I2, rx, a, dx, fs, ex, ea, q2⟩ => ?_
  subst ex
  obtain rfl : u = Value.ref a := rx
  obtain ⟨ox, od, J⟩ := own_at I2 ea
  refine wpAny_bind (contains_own I2.kIn J hm (wpAny_mono (run_fn (us := [.ref a, iv]) (vs := [.ref a, y]) F hr hb .nil hx I2 (.cons rfl (.cons ry .nil)) q2) (fun r s3 hr => ?_) fun _ _ z => z))
  obtain ⟨v, H3, I3, rv, b, rfl, q3⟩ := hr
  cases (show r = Value.bool b from rv)
  exact wpAny_pure (wpAny_pure ⟨.bl b, H3, I3, rfl, q3⟩)
theorem pc_ninOwn (hm : Own X.K C "__contains__" f) (F : FnOk X.prog X.w X.K X.mg X.base CX k f fd ps sp) (hr : Room k X.A) (hb : Binds X.K fd ps []) (hx : Passes CX X E) (hi : PE X i ty) (ho : PE X o td) : PC X .NotIn i o (tInOwn C true sp E ty td) := by
  refine ⟨fun pins s σ H Q I h => ?_⟩
  refine thn (hi.run pins s σ H _ I h) fun iv s1 ⟨y, H1, I1, ry, q1⟩ => thn (ho.run pins s1 σ H1 _ I1 q1) fun u s2 ⟨x, H2, I2, rx, a, dx, fs, ex, ea, q2⟩ => ?_
  subst ex
  obtain rfl : u = Value.ref a := rx
  obtain ⟨ox, od, J⟩ := own_at I2 ea
  refine wpAny_bind (contains_own I2.kIn J hm (wpAny_mono (run_fn (us := [.ref a, iv]) (vs := [.ref a, y]) F hr hb .nil hx I2 (.cons rfl (.cons ry .nil)) q2) (fun r s3 hr => ?_) fun _ _ z => z))
  obtain ⟨v, H3, I3, rv, b, rfl, q3⟩ := hr
  cases (show r = Value.bool b from rv)
  exact wpAny_pure (wpAny_pure ⟨.bl (!b), H3, I3, rfl, q3⟩)
/-- o[e] by the class's own __getitem__ -/
def tIxOwn (C : Addr) (sp : Sp) (E : XK) (to ti : TE) : TE := fun σ H Q => to σ H fun x H1 => ti σ H1 fun y H2 => ∃ a dx fs, x = .ref a ∧ H2 a = some (.ins C dx fs) ∧ sp [.ref a, y] H2 Q E
theorem sub_own {prog : Program} {w : World} {A : Around} {E' : Value → Shared → Prop} {s : Shared} {K : PySem.W.Frag} {x C f : Addr} {ox : Obj} {od : Option Obj} {value slice : Expr} {i : Value} {Q : Value → Shared → Prop} (X : K.In s.heap) (I : PySem.W.InstAt s.heap x ox C od) (o : Own K C "__getitem__" f) (hf : PySem.W.fnIn K f = true)
    (h : wpAny (model prog w) A.in1 (call (.ref f) [.ref x, i]) Q E' s) (hsl : subscripted slice true (.ref x) i = runValue (.builtin "lifetime.subscript" ⟨[.ref x, i], []⟩)) :
    wpAny (model prog w) A (subscriptTail value slice (.ref x) i) Q E' s := by
  unfold PySem.W.fnIn at hf
  split at hf
  · rename_i e
    unfold subscriptTail getitemInPython
    refine wpAny_bind (wpAny_bind (wpAny_bind (I.type.here ((PySem.W.looks_findIn X o.at_).here ?_))))
    dsimp only
    refine wpAny_bind (wpAny_load (X _ _ e) (wpAny_pure ?_))
    dsimp only
    rw [hsl]
    refine wpAny_bind (wpAny_runValue (codeAny_builtin PySem.W.entry_sub ?_))
    unfold Builtin.«lifetime.subscript»
    refine wpAny_bind (PySem.W.special_fn X I o.at_ (beq_iff_eq.mp o.fn) (wpAny_mono h (fun v s' z => ?_) fun _ _ z => z))
    refine wpAny_pure ?_
    show wpAny (model prog w) A (letTemporaryGo value (.ref x) v >>= fun _ => pure v) Q E' s'
    exact wpAny_bind (wpAny_letTemporaryGo (wpAny_pure z))
  · cases hf
theorem pe_ixOwn {pos : Pos} (hm : Own X.K C "__getitem__" f) (hfn : PySem.W.fnIn X.K f = true) (F : FnOk X.prog X.w X.K X.mg X.base CX k f fd ps sp) (hr : Room (k + 1) X.A) (hb : Binds X.K fd ps []) (hx : Passes CX X E) (ho : PE X o td) (hi : PE X i ty)
    (hsl : ∀ ov iv, subscripted i true ov iv = runValue (.builtin "lifetime.subscript" ⟨[ov, iv], []⟩) := by intro _ _; rfl) : PE X (.Subscript o i pos) (tIxOwn C sp E td ty) := by
  refine ⟨fun pins s σ H Q I h => ?_⟩
  refine Subscript_ (binT ho hi I h fun v u s2 x y H2 I2 rx ry q => ?_)
  obtain ⟨a, dx, fs, ex, ea, q2⟩ := q
  subst ex
  obtain rfl : v = Value.ref a := rx
  obtain ⟨ox, od, J⟩ := own_at I2 ea
  exact sub_own I2.kIn J hm hfn (run_fn1 (us := [.ref a, u]) (vs := [.ref a, y]) F hr hb .nil hx I2 (.cons rfl (.cons ry .nil)) q2) (hsl _ _)
/-- str(o) by the class's own __str__ -/
def rStrOwn (C : Addr) (sp : Sp) (E : XK) : List V → Hp → VK → Prop := fun xs H Q => ∃ a dx fs, xs = [.ref a] ∧ H a = some (.ins C dx fs) ∧ sp [.ref a] H (fun v H2 => ∃ z, v = .str z ∧ Q (.str z) H2) E
theorem run_fnA {A' : Around} {pins : List (Addr × Obj)} {σ : L2.St} {H : Hp} {s : Shared} {Q : VK} {us : List Value} {vs : List V} (F : FnOk X.prog X.w X.K X.mg X.base CX k f fd ps sp) (hr : Room k A') (e0 : Env0 X.prog X.w X.K X.mg X.base A' X.stack s H) (hb : Binds X.K fd ps ds) (hd : Vals dvs ds) (hx : Passes CX X E)
    (I : Inv X pins σ H s) (r : Vals vs us) (h : sp (vs ++ dvs) H Q E) : wpAny (model X.prog X.w) A' (call (.ref f) us) (EP X pins σ Q) X.xe s := by
  have r2 : Vals (vs ++ dvs) (us ++ ds) := r.append hd
  have hl : (us ++ ds).length = ps.length := by rw [← r2.length]; exact F.len _ _ _ _ h
  refine wpAny_call (codeAny_mono (F.run A' X.stack s H ⟨us, []⟩ (us ++ ds) (vs ++ dvs) Q E hr e0 (hb s us I.kIn hl) r2 h) fun r s' hq => ?_)
  cases r with
  | error e => exact hx pins σ H s e s' I hq
  | ok fl =>
    cases fl with
    | ret u => exact I.after hq
    | next => exact False.elim hq
    | brk => exact False.elim hq
    | cont => exact False.elim hq
theorem call_strOwn (hm : Own X.K C "__str__" f) (F : FnOk X.prog X.w X.K X.mg X.base CX k f fd ps sp) (hr : Room (k + 2) X.A) (hb : Binds X.K fd ps []) (hx : Passes CX X E) : CallR X (.type "str") (rStrOwn C sp E) := by
  intro pins s σ H xs us Q I r h
  obtain ⟨a, dx, fs, rfl, ea, q⟩ := h
  obtain ⟨u, rfl, ru⟩ : ∃ u, us = [u] ∧ RelV (.ref a) u := by
    cases r with
    | cons p q => cases q; exact ⟨_, rfl, p⟩
  cases (show u = Value.ref a from ru)
  obtain ⟨ox, od, J⟩ := own_at I ea
  refine PySem.W.kso_call (hr.in1.in1.units0) I.kIn J hm.at_ hm.fn ?_
  refine wpAny_mono (run_fnA (us := [.ref a]) (vs := [.ref a]) F hr.in1.in1 I.env0.in1.in1 hb .nil hx I (.cons rfl .nil) q) (fun r s' hr => ?_) fun _ _ z => z
  obtain ⟨v, H2, I2, rv, z, rfl, q2⟩ := hr
  obtain ⟨t, rfl⟩ := (show ∃ t, r = Value.str z t from rv)
  exact ⟨.str z, H2, I2, ⟨t, rfl⟩, q2⟩
end
end Mx

namespace Mx
open PySem PySem.Spec PyProof.Rows L2

/-! ### exceptions, kept or made -/
def XoE (H : Hp) (a C : Addr) (fs : List (Str × V)) : Prop := XoAt H a C fs ∨ ∃ d, H a = some (exo a C (some d)) ∧ H d = some (exd d fs)
theorem XoE.mono {H H' : Hp} {a C : Addr} {fs : List (Str × V)} (h : XoE H a C fs) (g : LamX.ExtN H H') : XoE H' a C fs := by
  rcases h with ⟨d, h1, h2⟩ | ⟨d, h1, h2⟩
  · exact .inl ⟨d, g _ _ h1 (fun ps z => by unfold xoO at z; cases z), g _ _ h2 (fun ps z => by cases z)⟩
  · exact .inr ⟨d, g _ _ h1 (fun ps z => by unfold exo at z; cases z), g _ _ h2 (fun ps z => by unfold exd at z; cases z)⟩
section
variable {X : Cx} {pins : List (Addr × Obj)} {σ : L2.St} {H : Hp} {s : Shared} {a C : Addr} {fs : List (Str × V)}
theorem xoE_inst (I : Inv X pins σ H s) (h : XoE H a C fs) : ∃ (ox od : Obj) (mA : Str → Option Value), PySem.W.InstAt s.heap a ox C (some od) ∧ (∀ f, PySem.W.lookIn f od = some (mA f)) ∧ ∀ f, RelO (fs.lookup f) (mA f) := by
  rcases h with h | ⟨d, h1, h2⟩
  · exact xo_inst I h
  · obtain ⟨t1, ho⟩ := exo_at I.hok h1
    obtain ⟨mA, hns, rel⟩ := exd_at I.hok h2
    obtain ⟨od, hod, hl⟩ := lookIn_ns hns
    exact ⟨_, od, mA, ⟨ho, rfl, rfl, hod⟩, hl, rel⟩
def rIsiE (K : PySem.W.Frag) : List V → Hp → VK → Prop := fun xs H Q => ∃ (a C : Addr) (fs : List (Str × V)) (c : V) (u : Value) (b : Bool), xs = [.ref a, c] ∧ ClsV c u ∧ XoE H a C fs ∧ XcC K C ∧ PySem.W.kitOne K (.ref C) u = some b ∧ Q (.bl b) H
theorem call_isiE : CallR X (.builtin "isinstance") (rIsiE X.K) := by
  intro pins s σ H xs us Q I r h
  obtain ⟨a, C, fs, c, u, b, rfl, k, hx, T, e, q⟩ := h
  obtain ⟨u1, u2, rfl, r1, r2⟩ := vals2 r
  have e2 := k.eq r2
  subst e2
  cases (show u1 = Value.ref a from r1)
  obtain ⟨ox, od, mA, J, _, _⟩ := xoE_inst I hx
  exact PySem.W.kia_one (PySem.W.kitx_exc T.cl T.ga T.gt T.sub T.ha T.hn T.tk T.hm) I.kIn J e (fun z => by cases z) fun tk => ⟨.bl b, H, I.tok tk, rfl, q⟩
/-- e.f of such an exception -/
def tXe (K : PySem.W.Frag) (f : Str) (te : TE) : TE := fun σ H Q => te σ H fun x H1 => ∃ (a C : Addr) (fs : List (Str × V)) (v : V), x = .ref a ∧ XoE H1 a C fs ∧ XcC K C ∧ PySem.W.findIn K (.ref C) f = some none ∧ fs.lookup f = some v ∧ Q v H1
theorem pe_xe {e : Expr} {te : TE} {pos : Pos} {f : Str} (he : PE X e te) (hb : attributeBase e f X.env (eval e X.env) = eval e X.env := by rfl) : PE X (.Attribute e f pos) (tXe X.K f te) := by
  refine ⟨fun pins s σ H Q I h => attr_of hb (thn (he.run pins s σ H _ I h) fun u s1 hh => ?_)⟩
  obtain ⟨x, H1, I1, rx, a, C, fs, v, ex, hx, T, hno, l, q⟩ := hh
  subst ex
  cases (show u = Value.ref a from rx)
  obtain ⟨ox, od, mA, J, hl, hr⟩ := xoE_inst I1 hx
  obtain ⟨u, hu, ru⟩ := RelO.some_of (v := v) (o := mA f) (by rw [← l]; exact hr f)
  exact HandSPX.exc_get I1.kIn J T.ga T.gt T.sub (PySem.W.findObj_own T.hd hno rfl (by rw [hl, hu])) (handed_of ru) ⟨v, H1, I1.tok _, ru, q⟩
end
/-! ### exceptions of several fields, raised or made -/
/-- what __init__(self, f, ..) keeps -/
def spX2 (C : Addr) (fs : List Str) : Sp := fun vs H Q _ => ∃ (a : Addr) (ys : List V), vs = .ref a :: ys ∧ ys.length = fs.length ∧ H a = some (exo a C none) ∧
  ∀ H' dx, Kp a H H' → H dx = none → dx ≠ a → H' a = some (exo a C (some dx)) → H' dx = some (exd dx (fsOf fs ys)) → Q .non H'
structure ExS (P : Program) (w : World) (K : PySem.W.Frag) (mg : Str → Option Value) (base : Heap) (cn : Str) (fs : List Str) (C fI : Addr) (fd : FuncData) (ps : List Str) : Prop where
  oex : OexC K C
  cl : ClT P w K mg base ebV cn C fI fd ps (spX2 C fs)
  xc : XcC K C
def tXMs (C : Addr) (fs : List Str) (ta : TA) : L2.St → Hp → XK → Prop := fun σ H Q => ta σ H fun vs H1 => (vs.length = fs.length ∧ vs.length ≤ 1000) ∧ ∀ H' d, Same H1 H' → H' d = none → Q (.ref C) (some d) (upd H' d (.xd (fsOf fs vs)))
def del2 (H : Hp) (a b : Addr) : Hp := fun c => if c = a ∨ c = b then none else H c
section
variable {X : Cx} {e : Expr} {es : List Expr} {ta : TA} {p pos : Pos} {cn : Str} {fs : List Str} {C fI : Addr} {fd : FuncData} {ps : List Str}
theorem pmk_xs (T : ExS X.prog X.w X.K X.mg X.base cn fs C fI fd ps) (hr : Room 2 X.A) (hg : Gl X cn) (ha : PA X (e :: es) ta)
    (hdb : (cn == ("__debug__" : Str)) = false := by decide) (he : starEach (e :: es) X.env = (false, eval e X.env) :: starEach es X.env := by rfl) (hpl : (backTo pos (starEach es X.env)).any (·.1) = false := by rfl) :
    PMk X (.Call (.Name cn p) (e :: es) [] pos) (tXMs C fs ta) := by
  intro pins s σ H Q I h
  refine pmk_oex T.oex T.cl.iC T.cl.tI T.cl.ok hr T.cl.bI .nil pass0 hg T.cl.mgC (pa_mono ha) hdb he hpl pins s σ H Q I ⟨_, h, fun vs H1 hq => ?_⟩
  obtain ⟨⟨hl, hz⟩, hq⟩ := hq
  refine ⟨hz, fun a ha => ⟨a, vs, by rw [List.append_nil], hl, upd_same, fun H' dx kp nd ne e1 e2 => ⟨rfl, dx, fsOf fs vs, e1, e2, ?_, ?_⟩⟩⟩
  · rw [upd_ne ne] at nd
    exact nd
  · rw [upd_ne ne] at nd
    have sm : Same H1 (del2 H' a dx) := fun b o e => by
      have n1 := ne_of_none e ha
      have n2 := ne_of_none e nd
      unfold del2
      rw [if_neg (fun z => z.elim n1 n2)]
      exact kp b o n1 (by rw [upd_ne n1]; exact e)
    have en : upd (L2.del H' a) dx (.xd (fsOf fs vs)) = upd (del2 H' a dx) dx (.xd (fsOf fs vs)) := by
      funext b
      by_cases h1 : b = dx
      · rw [h1, upd_same, upd_same]
      · rw [upd_ne h1, upd_ne h1]
        unfold del2
        by_cases h2 : b = a
        · rw [h2, del_same, if_pos (.inl rfl)]
        · rw [del_ne h2, if_neg (fun z => z.elim h2 h1)]
    rw [en]
    exact hq _ dx sm (by unfold del2; rw [if_pos (.inr rfl)])
def tNewS (C : Addr) (fs : List Str) (ta : TA) : TE := fun σ H Q => ta σ H fun vs H1 => (vs.length = fs.length ∧ vs.length ≤ 1000) ∧ ∀ a H', Same H1 H' → H1 a = none → XoE H' a C (fsOf fs vs) → Q (.ref a) H'
theorem pe_newS (T : ExS X.prog X.w X.K X.mg X.base cn fs C fI fd ps) (hr : Room 2 X.A) (hg : Gl X cn) (ha : PA X (e :: es) ta)
    (hdb : (cn == ("__debug__" : Str)) = false := by decide) (he : starEach (e :: es) X.env = (false, eval e X.env) :: starEach es X.env := by rfl) (hpl : (backTo pos (starEach es X.env)).any (·.1) = false := by rfl) :
    PE X (.Call (.Name cn p) (e :: es) [] pos) (tNewS C fs ta) :=
  ⟨fun pins s σ H Q I h => (pe_newX T.cl hr hg (pa_mono ha) hdb he hpl).run pins s σ H Q I
    ⟨_, h, fun vs H1 hq => ⟨hq.1.2, fun a ha => ⟨a, vs, rfl, hq.1.1, upd_same, fun H' dx kp nd ne e1 e2 => ⟨rfl, hq.2 a H' (same_of_kp ha kp) ha (.inr ⟨dx, e1, e2⟩)⟩⟩⟩⟩⟩
end
end Mx

namespace Mx
open PySem PySem.Spec PyProof.Rows L2

/-! ### try: .. except (A, B, C, D) as n: the exception is told behind the suite -/
theorem ps_try_t4 {X : Cx} {x1 x2 x3 x4 n : Str} {c1 c2 c3 c4 : Value} {i kk : Nat} {body suite : List Stmt} {b₀ : Stmt} {q1 q2 q3 q4 tp pos pos' : Pos} {tb : WX → TS} {ts : Addr → Value → Option Addr → TS} {Wout : WX}
    (hs : X.stack = X.env :: X.outer) (hf : X.env.frame = some X.env.locals) (hex : X.ex = []) (hN : X.N.Nodup) (hi : X.N[i]? = some n) (hln : X.env.kindOf n = some .local) (n1 : Nm X x1 c1) (n2 : Nm X x2 c2) (n3 : Nm X x3 c3) (n4 : Nm X x4 c4) (tk : Takes X Wout)
    (hb : ∀ (W : WX) (pn : List (Addr × Obj)) (xe : Value → Shared → Prop), Takes (X.tr pn xe) W → PassesOwn (model X.prog X.w) X.A X.env xe → PSs (X.tr pn xe) body (tb W))
    (hsu : ∀ (a : Addr) (oe : Obj) (cls : Value) (d : Option Addr) (pn : List (Addr × Obj)), Zc cls d oe → (∃ vs, oe.data = .fields vs) → PSs (X.suite a ((a, oe) :: pn)) (b₀ :: suite) (ts a cls d)) :
    PS X (.Try body [.ExceptHandler (some (.Tuple [.Name x1 q1, .Name x2 q2, .Name x3 q3, .Name x4 q4] kk tp)) (some n) (b₀ :: suite) pos'] [] [] pos) (fun D σ H => tb (wT X.K [c1, c2, c3, c4] i ts Wout D) D σ H) := by
  refine ⟨fun pins s σ H D I h => wpAny_Try_except ?_⟩
  have ok := I.ok
  have hfr : X.A.frames = some (X.env :: X.outer) := ok.frames.trans (by rw [hs])
  refine wpAny_mono ((hb (wT X.K [c1, c2, c3, c4] i ts Wout D) (X.pn ++ pins) (fun e s₁ => wpAny (model X.prog X.w) X.A (noteFrame e X.env) (fun _ s₂ => wpAny (model X.prog X.w) X.A (setFlight e none) (fun _ s₃ =>
    wpAny (model X.prog X.w) X.A (handleBy e X.env [.ExceptHandler (some (.Tuple [.Name x1 q1, .Name x2 q2, .Name x3 q3, .Name x4 q4] kk tp)) (some n) (b₀ :: suite) pos']) (SP X pins D) X.xe s₃) X.xe s₂) X.xe s₁) (fun u s' xx => ?_) PassesOwn.looking).run [] s σ H D (I.toTry _) h) (fun f s1 hsp => ?_) (fun _ _ z => z)
  · obtain ⟨a, B, sI, pins', σ', H', cls, d, rfl, J', nb, up, sky, na, os, ag, b, hb1, hyes, hno⟩ := xx
    have J : Inv X pins σ' H' sI := J'.ofTry ok
    rw [show (X.tr (X.pn ++ pins) _).stack = X.env :: X.outer from hs] at sky
    show wpAny (model X.prog X.w) X.A (noteFrame (.ref a) X.env) _ _ _
    refine Sky.land Zc.steady hfr hf sky fun h3 fl3 up3 => ?_
    have J3 : Inv X pins σ' H' { s' with heap := h3 } := J.landed nb fl3.1 (up.trans up3) os ag
    obtain ⟨oe3, vs3, he3, hz3, hd3⟩ := fl3.there
    have nfr : a ∉ frs X.stack := fun hm => by
      rw [hs] at hm
      obtain ⟨_, o', e', hnf⟩ := fl3.2.2.1.mem hm
      rw [he3] at e'
      cases e'
      exact hnf _ hd3
    have nL : a ≠ X.env.locals := fun z => nfr (by rw [hs]; exact List.mem_filterMap.mpr ⟨X.env, List.mem_cons_self, by rw [hf, z]⟩)
    have nF : a ∉ X.fs := fun hm => nfr (by
      rw [hs]
      obtain ⟨e, he, q⟩ := List.mem_filterMap.mp hm
      exact List.mem_filterMap.mpr ⟨e, List.mem_cons_of_mem _ he, q⟩)
    have nI : sI.heap.get? a = none := by
      cases e : sI.heap.get? a with
      | none => rfl
      | some o =>
        have z := nb a o e nfr
        rw [fl3.2.1] at z
        cases z
    have n0 : X.s_0.heap.get? a = none := by
      cases e : X.s_0.heap.get? a with
      | none => rfl
      | some o =>
        obtain ⟨o', z⟩ := J.base.there a o e (by rw [hex]; simp)
        rw [nI] at z
        cases z
    have np : ∀ p ∈ X.pn ++ pins, p.1 ≠ a := fun p hp z => by
      have q := (J.pin p hp).1
      rw [z, nI] at q
      cases q
    have S3 := J3.suite he3 hd3 na nL nF
    refine wpAny_handleBy_cons (codeAny_handlers_test ?_) (by intro q; cases q)
    have nm : ∀ {x : Str} {c : Value} {q : Pos} {s2 : Shared} {Q E : Value → Shared → Prop}, Nm X x c → Inv (X.suite a ((a, oe3) :: (X.pn ++ pins))) [] σ' H' s2 → Q c s2 → wpAny (model X.prog X.w) (X.A.mark (some (.ref a))) (eval (.Name x q) X.env) Q E s2 :=
      fun {x c q s2 Q E} nx S z => ld_glob (X := X.suite a ((a, oe3) :: (X.pn ++ pins))) S nx.g nx.m z nx.d
    refine PyProof.Rows.Tuple_ (PyProof.Rows.spliced_more (nm n1 S3 (PyProof.Rows.spliced_more (nm n2 S3 (PyProof.Rows.spliced_more (nm n3 S3 (PyProof.Rows.spliced_more (nm n4 S3 (PyProof.Rows.spliced_none ?_)))))))))
    refine wpAny_newObj_type ?_
    have kp : ∀ b o, h3.get? b = some o → (h3.push { cls := .type "tuple", dict := none, data := .seq [c1, c2, c3, c4].toArray }).get? b = some o := fun b o e => Heap.get?_push_of_some _ e
    have LT : PySem.W.Looks (model X.prog X.w) (h3.push { cls := .type "tuple", dict := none, data := .seq [c1, c2, c3, c4].toArray }) (typeOf (.ref a)) cls := fun A Q E s k q => wpAny_typeOf_ref (k _ _ (kp _ _ he3)) (by rw [hz3.1]; exact q)
    have LM := PySem.W.exm_tup4 (M := model X.prog X.w) (J3.kIn.keeps kp) LT (Heap.get?_push_size h3 rfl) hb1
    refine LM.here ?_
    have fl5 : HandSPX.FlyingZ B (X.env :: X.outer) a (Zc cls d) (h3.push { cls := .type "tuple", dict := none, data := .seq [c1, c2, c3, c4].toArray }) := by
      obtain ⟨k1, k2, k3, oe, vs, T, oT, ts', he, hz, hd, h1, hr0, hr1, hr2, hr3⟩ := id fl3
      exact ⟨fun b o e => kp _ _ (k1 b o e), k2, Heap.FunFrames.of_keeps (fun b o e _ => ⟨o, kp b o e, rfl⟩) k3, oe, vs, T, oT, ts', kp _ _ he, hz, hd, h1, hr0, hr1, kp _ _ hr2, hr3⟩
    have up5 := (up.trans up3).trans (Heap.UpToSlots.of_keeps kp)
    cases b with
    | true =>
      refine codeAny_handlers_suite_as (HandSPX.lands_againZ fl5 fun h4 fl4 up4 => ?_)
      have J4 : Inv X pins σ' H' { s' with heap := h4 } := J.landed nb fl4.1 (up5.trans up4) os ag
      obtain ⟨oe4, vs4, he4, hz4, hd4⟩ := fl4.there
      refine store_ok (X := X.suite a ((a, oe4) :: (X.pn ++ pins))) (v := .ref a) (J4.suite he4 hd4 na nL nF) hN hi (.inl hln) rfl (fun s5 S5 => ?_) (.inr hln)
      refine wpAny_mono ((hsu a oe4 cls d (X.pn ++ pins) hz4 ⟨_, hd4⟩).run [] s5 _ H' _ S5 (hyes rfl a na)) (fun f s6 hsp => ?_) (fun _ _ z => False.elim z)
      cases f with
      | next =>
        obtain ⟨σ6, H6, S6, q6⟩ := hsp
        have p6 := S6.pin (a, oe4) (List.mem_append_left _ List.mem_cons_self)
        have I6 : Inv X ((a, oe4) :: pins) σ6 H6 s6 := (S6.unsuite ok).pins_of fun p hp => by
          rcases List.mem_cons.mp hp with e | h
          · rw [e]; exact p6
          · exact (S6.unsuite ok).pin p (List.mem_append_right _ h)
        exact gone_ok I6 hN hi hln fun s7 J7 => by
          have p7 := J7.pin (a, oe4) (List.mem_append_right _ List.mem_cons_self)
          have K7 : Inv X pins (σ6.set i none) H6 s7 := J7.pins_of fun p hp => J7.pin p (List.mem_append_right _ (List.mem_cons_of_mem _ hp))
          exact ⟨_, _, track K7 p7.1 hz4 hd4 p7.2.1 n0 nL np, q6⟩
      | brk => exact hsp.elim fun _ h => h.elim fun _ h => h.2.elim
      | cont => exact hsp.elim fun _ h => h.elim fun _ h => h.2.elim
      | ret u => exact hsp.elim fun _ h => h.elim fun _ h => h.elim fun _ h => h.2.2.elim
    | false =>
      show wpAny _ X.A (handleBy (.ref a) X.env []) _ _ _
      refine wpAny_handleBy_nil ?_
      obtain ⟨k1, k2, k3, oe, vs, T, oT, ts', he, hz, hd, h1, hr⟩ := id fl5
      unfold PySem.passOn
      refine wpAny_bind (wpAny_field he hd h1 ?_)
      rw [if_neg (show ¬ ((Value.ref T == Value.none) = true) from by simp)]
      have fin : ∀ {s5 : Shared}, s5 = { s' with heap := h3.push { cls := .type "tuple", dict := none, data := .seq [c1, c2, c3, c4].toArray } } →
          wpAny (model X.prog X.w) X.A (setFlight (.ref a) X.env.frame) (fun _ s4 => wpAny (model X.prog X.w) X.A (throw (.ref a) : Sem Flow) (SP X pins D) X.xe s4) X.xe s5 := by
        intro s5 e5
        rw [hf, e5]
        exact HandSPX.setFlight_upZ fl5 fun h4 hh4 up4 => wpAny_throw (tk _ _ ⟨a, B, sI, pins, σ', H', cls, d, rfl, J, nb, up5.trans up4, .inr (.inr (by rw [hs]; exact hh4)), na, os, ag, hno rfl⟩)
      first
        | exact wpAny_bind (wpAny_pure (wpAny_bind (fin rfl)))
        | exact wpAny_bind (fin rfl)
  · cases f with
    | next =>
      obtain ⟨σ', H', J', q⟩ := hsp
      exact wpAny_execs_nil ⟨σ', H', J'.ofTry ok, q⟩
    | brk =>
      obtain ⟨σ', H', J', q⟩ := hsp
      exact ⟨σ', H', J'.ofTry ok, q⟩
    | cont =>
      obtain ⟨σ', H', J', q⟩ := hsp
      exact ⟨σ', H', J'.ofTry ok, q⟩
    | ret u =>
      obtain ⟨v, σ', H', J', r, q⟩ := hsp
      exact ⟨v, σ', H', J'.ofTry ok, r, q⟩
end Mx

set_option maxHeartbeats 1000000
namespace Mx
open PySem PySem.Spec PyProof.Rows L2
/-! ### tuples whose object is known (no dict of their own): dict(t) asks it -/
def FzT (H : Hp) (a : Addr) (xs : List V) : Prop := ∃ o, H a = some (.frz o (.tup xs)) ∧ o.dict = none
theorem FzT.sq {K : PySem.W.Frag} {H : Hp} {a : Addr} {xs : List V} (h : FzT H a xs) : SqT K H a xs := .inl (.inr ⟨_, h.choose_spec.1⟩)
theorem FzT.mono {H H' : Hp} {a : Addr} {xs : List V} (h : FzT H a xs) (s : Same H H') : FzT H' a xs := let ⟨o, h1, h2⟩ := h; ⟨o, s _ _ h1, h2⟩
section
variable {X : Cx}
theorem Inv.fz {pins : List (Addr × Obj)} {σ : L2.St} {H : Hp} {s : Shared} {a : Addr} {xs : List V} (I : Inv X pins σ H s) (h : FzT H a xs) : ∃ its : List Value, Vals xs its ∧ PlainSeq "tuple" s.heap a its.toArray ∧ xs.length ≤ sizeLine := by
  obtain ⟨o, h1, h2⟩ := h
  obtain ⟨e, z, its, r, o', e', hc, n, hd⟩ := I.hok a _ h1
  rw [e] at e'
  cases e'
  exact ⟨its, r, ⟨_, n, e, hc, h2, hd⟩, z⟩
/-- a new tuple is laid, its object known -/
theorem Inv.laidF {pins : List (Addr × Obj)} {σ : L2.St} {H : Hp} {s : Shared} {xs : List V} {us : List Value} (I : Inv X pins σ H s) (r : Vals xs us) (hz : xs.length ≤ sizeLine) (tk : Tok) :
    ∃ H', Inv X pins σ H' { s with heap := s.heap.push { cls := .type "tuple", data := .seq us.toArray }, toks := tk } ∧ Same H H' ∧ FzT H' s.heap.objs.size xs := by
  have hf : H s.heap.objs.size = none := I.hok.fresh (Nat.le_refl _)
  have g : (s.heap.push { cls := .type "tuple", data := .seq us.toArray }).get? s.heap.objs.size = some { cls := .type "tuple", data := .seq us.toArray } := Heap.get?_push_size _ rfl
  exact ⟨upd H s.heap.objs.size (.frz { cls := .type "tuple", data := .seq us.toArray } (.tup xs)), I.laid (t' := tk) (fun b u e => Heap.get?_push_of_some _ e) (Nat.le_refl _) ⟨g, hz, us, r, ⟨_, g, rfl, _, rfl⟩⟩, (fun b u e => by rw [upd_ne (ne_of_none e hf)]; exact e), ⟨_, upd_same, rfl⟩⟩
def tTupF (t : TA) : TE := fun σ H Q => t σ H fun xs H1 => xs.length ≤ sizeLine ∧ ∀ p H', Same H1 H' → FzT H' p xs → Q (.ref p) H'
theorem pe_tupF {x1} {es : List Expr} {t : TA} {pos : Pos} (h : PA X es t) : PE X (.Tuple es x1 pos) (tTupF t) := by
  refine ⟨fun pins s σ H Q I hq => ?_⟩
  refine wpAny_Tuple_spliced (thn (h.run pos pins s σ H _ I hq) fun us s1 ⟨xs, H1, I1, r, z, q⟩ => ⟨by rw [← r.length]; exact z, ?_⟩)
  obtain ⟨H', I2, sm, f⟩ := Mx.Inv.laidF I1 r z s1.toks
  exact ⟨.ref s1.heap.objs.size, H', I2, rfl, q _ _ sm f⟩
/-- tuple(l) of a list -/
theorem call_tupleF : CallR X (.type "tuple") (fun xs H Q => ∃ p ys, xs = [.ref p] ∧ SqL X.K H p ys ∧ ∀ l H', Same H H' → FzT H' l ys → Q (.ref l) H') := by
  intro pins s σ H xs us Q I r h
  obtain ⟨p, ys, rfl, hq, q⟩ := h
  obtain ⟨u, rfl, rx⟩ := vals1 r
  cases rx
  obtain ⟨its, r', pl, hz⟩ := I.list hq
  have hlen := r'.length
  refine call_tuple_list pl.isList (fun h' kp => ?_) (by simp only [List.size_toArray] <;> omega)
  have I1 : Inv X pins σ H { s with heap := h' } := I.kept (t' := s.toks) kp
  obtain ⟨H', I2, sm, f⟩ := Mx.Inv.laidF I1 r' hz s.toks
  exact ⟨.ref h'.objs.size, H', I2, rfl, q _ _ sm f⟩
theorem cat_tup0 {prog : Program} {w : World} {A : Around} {E : Value → Shared → Prop} {s : Shared} {t b : Addr} {ws : List Value} {Q : Value → Shared → Prop} (ht : IsTup s.heap t #[]) (hb : IsTup s.heap b ws.toArray)
    (h1 : Q (.ref b) s) : wpAny (model prog w) A (binaryOp .Add (.ref t) (.ref b)) Q E s := by
  obtain ⟨⟨cls, dd, data, sl⟩, ho, hc, n, hd⟩ := id ht
  obtain ⟨⟨cls2, dd2, data2, sl2⟩, ho2, hc2, n2, hd2⟩ := id hb
  simp only at hc hd hc2 hd2
  subst hc hd hc2 hd2
  exact concat_meets ⟨_, ho, rfl⟩ ⟨_, ho2, rfl⟩ noFill_tuple_add seq_tuple_add PySem.F.slot_tuple_add PySem.F.entry_tuple_add (PySem.F.args_tuple_add_2 _ _)
      (tuple_addW0 t b #[] ws.toArray n n2 dd dd2 sl sl2 rfl) ⟨ho, ho2, h1⟩
def rCatF : R2 := fun x y H Q => ∃ a b xs ys, x = .ref a ∧ y = .ref b ∧ FzT H a xs ∧ FzT H b ys ∧ xs.length + ys.length ≤ sizeLine ∧ ∀ p H', Same H H' → FzT H' p (xs ++ ys) → Q (.ref p) H'
/-- t + t of tuples whose objects are known -/
theorem op_catTF : OpR X (binaryOp .Add) rCatF := by
  intro pins s σ H x y v u Q I rx ry h
  obtain ⟨a, b, xs, ys, rfl, rfl, ha, hb, hz, q⟩ := h
  cases rx
  cases ry
  obtain ⟨its, r1, p1, _⟩ := I.tuple (FzT.sq ha)
  obtain ⟨its2, r2, p2, _⟩ := I.tuple (FzT.sq hb)
  by_cases hx : its = []
  · subst hx
    have ex : xs = [] := List.eq_nil_of_length_eq_zero (by rw [r1.length]; rfl)
    subst ex
    exact cat_tup0 p1 p2 ⟨.ref b, H, I, rfl, q _ _ (Same.refl _) hb⟩
  · refine HT.cat_tup p1 p2 hx (fun z => ⟨.ref a, H, I, rfl, q _ _ (Same.refl _) (by subst z; rw [show ys = [] from List.eq_nil_of_length_eq_zero (by rw [r2.length]; rfl), List.append_nil]; exact ha)⟩) (fun z => ?_) (by rw [← r1.length, ← r2.length]; exact hz)
    obtain ⟨H', I2, sm, f⟩ := Mx.Inv.laidF I (r1.append r2) (by rw [List.length_append]; exact hz) s.toks
    exact ⟨.ref s.heap.objs.size, H', I2, rfl, q _ _ sm f⟩
/-- dict(t) of a tuple of pairs (key, value) -/
theorem call_dictPT (hcalm : X.calm = true) : CallR X (.type "dict") (fun xs H Q => ∃ (a : Addr) (ps : List Addr) (kvs : List (Key × V)), xs = [.ref a] ∧ FzT H a (ps.map V.ref) ∧ Paired (fun p kv => SqT X.K H p [kV kv.1, kv.2]) ps kvs ∧
    ∀ p, H p = none → Q (.ref p) (upd H p (.dK (mergeK [] kvs)))) := by
  intro pins s σ H xs us Q I r q
  obtain ⟨a, ps, kvs, ex, hq, hp, q⟩ := q
  subst ex
  obtain ⟨u, eu, rx⟩ := vals1 r
  subst eu
  cases rx
  obtain ⟨its, rv, pl, hz⟩ := Mx.Inv.fz I hq
  have ei := refs_at rv
  subst ei
  rw [List.length_map] at hz
  obtain ⟨prs, rel, hl, hpr⟩ := pairs_of I hp
  have hpi : ∃ qs : List (Value × Value), qs.length = ps.length ∧ ∀ (j : Nat) (k v : Value), qs[j]? = some (k, v) → ∃ (b : Addr) (q : Key × Value), ps[j]? = some b ∧ prs[j]? = some q ∧ v = q.2 ∧ IsTup s.heap b #[k, q.2] ∧ keyIs q.1 k = true := by
    have z : ∀ (ps : List Addr) (prs : List (Key × Value)), prs.length = ps.length → (∀ (j : Nat) (q : Key × Value), prs[j]? = some q → ∃ (b : Addr) (u : Value), ps[j]? = some b ∧ IsTup s.heap b #[u, q.2] ∧ keyIs q.1 u = true) →
        ∃ qs : List (Value × Value), qs.length = ps.length ∧ ∀ (j : Nat) (k v : Value), qs[j]? = some (k, v) → ∃ (b : Addr) (q : Key × Value), ps[j]? = some b ∧ prs[j]? = some q ∧ v = q.2 ∧ IsTup s.heap b #[k, q.2] ∧ keyIs q.1 k = true := by
      intro ps
      induction ps with
      | nil => exact fun prs _ _ => ⟨[], rfl, fun j k v e => by simp at e⟩
      | cons p ps ih =>
        intro prs hl h
        match prs, hl, h with
        | [], hl, _ => cases hl
        | q :: prs, hl, h =>
          obtain ⟨b, u, e1, e2, e3⟩ := h 0 q rfl
          obtain ⟨qs, z1, z2⟩ := ih prs (by simpa using hl) (fun j q' e => by simpa using h (j + 1) q' (by simpa using e))
          refine ⟨(u, q.2) :: qs, by simp [z1], fun j k v e => ?_⟩
          cases j with
          | zero =>
            have e' : (u, q.2) = (k, v) := Option.some.inj (by simpa using e)
            cases e'
            exact ⟨b, q, e1, rfl, rfl, e2, e3⟩
          | succ j =>
            obtain ⟨b', q', y1, y2, y3⟩ := z2 j k v (by simpa using e)
            exact ⟨b', q', by simpa using y1, by simpa using y2, y3⟩
    exact z ps prs hl hpr
  obtain ⟨qs, ql, hqs⟩ := hpi
  let Ts : Nat → Addr := fun j => (ps[j]?).getD 0
  have ok : PlainSeq "tuple" s.heap a (ps.map Value.ref).toArray ∧ PairItems s.heap (ps.map Value.ref).toArray Ts qs := ⟨pl, by simp [ql], fun j k v e => by
    obtain ⟨b, q', y1, y2, rfl, y4, y5⟩ := hqs j k v e
    refine ⟨by simp [Ts, y1], .inl ?_⟩
    simp only [Ts, y1]
    exact y4⟩
  refine PySem.call_dict_pairs (PairArg.tuple a (ps.map Value.ref).toArray Ts qs) (I.ok.hd hcalm) ok (knd := mixKind X.prog X.w) (kvs := prs) ⟨by rw [ql, hl], fun i key v e => ?_⟩ (by rw [ql]; exact hz) fun h' tk hd' k => ?_
  · obtain ⟨b, q', y1, y2, rfl, y4, y5⟩ := hqs i key v e
    exact ⟨q'.1, y2, y5⟩
  · have hm : (s.heap.objs.size == sysModules) = false := beq_eq_false_iff_ne.mpr (Nat.ne_of_gt I.big)
    have hlen : (mergeK [] kvs).length ≤ sizeLine := by
      refine Nat.le_trans (length_mergeK kvs []) ?_
      rw [List.length_nil, Nat.zero_add, rel.length, hl]
      exact hz
    exact ⟨.ref s.heap.objs.size, upd H s.heap.objs.size (.dK (mergeK [] kvs)), I.laid (t' := tk) (fun b o e => k b o (fun z => nomatch z) e) (Nat.le_refl _) (show ObjOk X.prog X.w _ _ _ (.dK (mergeK [] kvs)) from ⟨hlen, hm, PySem.merged [] prs, KV.merge rel .nil, hd'⟩), rfl, q _ (I.hok.fresh (Nat.le_refl _))⟩
end
end Mx

set_option maxHeartbeats 1000000
namespace Mx
open PySem PySem.Spec PyProof.Rows L2
/-! ### o.m(e, .., k = v, ..) -/
def tMethKW (C : Addr) (m : Str) (sp : Sp) (gV : List V → List V → List V) (E : XK) (ta : TE) (t tk : TA) : TE := fun σ H Q => ta σ H fun x H1 => ∃ a dx fs, x = .ref a ∧ H1 a = some (.ins C dx fs) ∧ fs.lookup m = none ∧
  t σ H1 fun vs H2 => tk σ H2 fun zs H3 => sp (gV (x :: vs) zs) H3 Q E
section
variable {X : Cx} {CX : CXT} {C : Addr} {m : Str} {k : Nat} {f : Addr} {fd : FuncData} {ps ks : List Str} {sp : Sp} {E : XK} {ta : TE} {t tk : TA} {o e : Expr} {es : List Expr} {kws : List Keyword} {apos pos : Pos} {g : List Value → List Value → List Value} {gV : List V → List V → List V}
theorem pe_methKW {pl : Sem Bool} (he : PE X o ta) (c : Cls X.K C) (hm : Meth X.K C m f) (F : FnOk X.prog X.w X.K X.mg X.base CX k f fd ps sp) (hr : Room k X.A) (hb : KBinds X.K fd ps ks g gV) (hx : Passes CX X E) (ha : PA X (e :: es) t) (hkw : PK X kws tk)
    (hall : (backToKw pos (keywordEach kws X.env)).all (·.1.isSome) = true := by rfl) (hks : (backToKw pos (keywordEach kws X.env)).filterMap (·.1) = ks := by rfl)
    (hst : starEach (e :: es) X.env = (false, eval e X.env) :: starEach es X.env := by rfl)
    (hpl : ((backTo pos (starEach (e :: es) X.env)).any (·.1) || (backToKw pos (keywordEach kws X.env)).any (·.1.isNone)) = false := by rfl)
    (ht : eval (.Call (.Attribute o m apos) (e :: es) kws pos) X.env = (do
      let ov ← eval o X.env
      standAt apos.atName
      let (f, first) ← holding [ov] (getMethod ov m pl)
      callWith pos f first (backTo pos (starEach (e :: es) X.env)) (backToKw pos (keywordEach kws X.env))) := by rfl) :
    PE X (.Call (.Attribute o m apos) (e :: es) kws pos) (tMethKW C m sp gV E ta t tk) := by
  refine ⟨fun pins s σ H Q I h => ?_⟩
  refine PySem.W.methodCall_KW (pl := pl) (thn (he.run pins s σ H _ I h) fun u s1 ⟨x, H1, I1, rx, a, dx, fs, ex, ea, l, q⟩ => ?_) ht
  subst ex
  obtain rfl : u = Value.ref a := rx
  refine getmeth_ok I1 ea c hm l ?_
  refine PySem.W.callWith_KW (first := [.ref a]) (h₀ := X.base) I1.ok.mod.kin hm.kp hall (thn (ha.run pos pins s1 σ H1 _ I1 q) fun us s2 ⟨vs, H2, I2, r, q⟩ => ?_) hpl hst
  refine thn (hkw.run pos pins s2 σ H2 _ I2 q) fun ws s3 ⟨zs, H3, I3, rz, q2⟩ => ⟨I3.kIn, ?_⟩
  rw [hks]
  exact run_fnk (us := .ref a :: us) (vs := .ref a :: vs) F hr hb hx I3 (.cons rfl r) rz q2
end
/-! ### two parameters and a keyword-only one with its default -/
def kg21 : List Value → List Value → List Value | [a, b], [c] => [a, b, c] | _, _ => []
def kg21V : List V → List V → List V | [a, b], [c] => [a, b, c] | _, _ => []
def kg12 : List Value → List Value → List Value | [a], [c, b] => [a, b, c] | _, _ => []
def kg12V : List V → List V → List V | [a], [c, b] => [a, b, c] | _, _ => []
theorem kg21_rel {vs zs : List V} {us ws : List Value} (a : Vals vs us) (b : Vals zs ws) : Vals (kg21V vs zs) (kg21 us ws) := by
  match vs, us, zs, ws, a, b with
  | [], [], _, _, _, _ => exact .nil
  | [_], [_], _, _, _, _ => exact .nil
  | [_, _], [_, _], [], [], _, _ => exact .nil
  | [_, _], [_, _], [_], [_], .cons r1 (.cons r2 _), .cons r3 _ => exact .cons r1 (.cons r2 (.cons r3 .nil))
  | [_, _], [_, _], _ :: _ :: _, _ :: _ :: _, _, _ => exact .nil
  | _ :: _ :: _ :: _, _ :: _ :: _ :: _, _, _, _, _ => exact .nil
theorem kg12_rel {vs zs : List V} {us ws : List Value} (a : Vals vs us) (b : Vals zs ws) : Vals (kg12V vs zs) (kg12 us ws) := by
  match vs, us, zs, ws, a, b with
  | [], [], _, _, _, _ => exact .nil
  | [_], [_], [], [], _, _ => exact .nil
  | [_], [_], [_], [_], _, _ => exact .nil
  | [_], [_], [_, _], [_, _], .cons r1 _, .cons r2 (.cons r3 _) => exact .cons r1 (.cons r3 (.cons r2 .nil))
  | [_], [_], _ :: _ :: _ :: _, _ :: _ :: _ :: _, _, _ => exact .nil
  | _ :: _ :: _, _ :: _ :: _, _, _, _, _ => exact .nil
section
variable {K : PySem.W.Frag} {x qual : Str} {st : Stmt} {f : Addr} {fd : FuncData} {ps ks : List Str} {kw : Str × V}
theorem kb_21 (F : FunD K x qual (defArgs st) (defBody st) (defScope st) [] [kw] f fd) (hp : ps.length = 3)
    (h : ∀ (kV doc pm : Value) (an : Option Addr) (cdv ct : Value) (a b c : Value), bindArgs (PySem.W.fnOf x qual (defArgs st) (defBody st) (defScope st) .none kV doc pm an cdv ct) ⟨[a, b], ks.zip [c]⟩ = pure (ps.zip [a, b, c])) :
    KBinds K fd ps ks kg21 kg21V := by
  obtain ⟨oc, od, dV, kV, doc, pm, an, cdv, ct, osl, rfl, lk, hcd, hD, hK⟩ := F.ex
  rcases hD with ⟨_, rfl⟩ | ⟨e, _⟩
  · refine ⟨fun s us ws X hl => ?_, kg21_rel⟩
    rw [hp] at hl
    match us, ws, hl with
    | [a, b], [c], _ => exact .of_eq (h kV doc pm an cdv ct a b c)
  · exact absurd rfl e
theorem kb_12 (F : FunD K x qual (defArgs st) (defBody st) (defScope st) [] [kw] f fd) (hp : ps.length = 3)
    (h : ∀ (kV doc pm : Value) (an : Option Addr) (cdv ct : Value) (a b c : Value), bindArgs (PySem.W.fnOf x qual (defArgs st) (defBody st) (defScope st) .none kV doc pm an cdv ct) ⟨[a], ks.zip [c, b]⟩ = pure (ps.zip [a, b, c])) :
    KBinds K fd ps ks kg12 kg12V := by
  obtain ⟨oc, od, dV, kV, doc, pm, an, cdv, ct, osl, rfl, lk, hcd, hD, hK⟩ := F.ex
  rcases hD with ⟨_, rfl⟩ | ⟨e, _⟩
  · refine ⟨fun s us ws X hl => ?_, kg12_rel⟩
    rw [hp] at hl
    match us, ws, hl with
    | [a], [c, b], _ => exact .of_eq (h kV doc pm an cdv ct a b c)
  · exact absurd rfl e
end
end Mx

namespace Mx
open PySem PySem.Spec PyProof.Rows L2
/-! ### the state of the draws as a dict -/
def stD (l m t : Int) : List (Key × V) := [(.inr "large", .int l), (.inr "mixed", .int m), (.inr "turn", .int t)]
def StD (a : Addr) (c : Int) (H : Hp) : Prop := ∃ l m t : Int, H a = some (.dK (stD l m t)) ∧ 0 ≤ t ∧ t ≤ c
theorem StD.mono {a : Addr} {c d : Int} {H : Hp} (h : StD a c H) (l : c ≤ d) : StD a d H := let ⟨x, m, n, e, h1, h2⟩ := h; ⟨x, m, n, e, h1, by omega⟩
theorem StD.same {a : Addr} {c : Int} {H H' : Hp} (h : StD a c H) (e : Same H H') : StD a c H' := let ⟨x, m, n, q, h1, h2⟩ := h; ⟨x, m, n, e _ _ q, h1, h2⟩
section
variable {Tb : List (Addr × Str)} {H H0 H1 H2 H' : Hp} {p q a : Addr} {o u : HO} {c : Int}
theorem ne_sd (hp : H p = none) (st : StD a c H) : p ≠ a := fun e => by
  obtain ⟨_, _, _, e2, _⟩ := st
  rw [e, e2] at hp
  cases hp
theorem sd_new (hp : H p = none) (st : StD a c H) : StD a c (upd H p o) := st.same (Same.new (Same.refl _) hp)
theorem sd_same (s : Same H H') (st : StD a c H) : StD a c H' := st.same s
theorem sd_go (g : Go Tb H H') (st : StD a c H) : StD a c H' := let ⟨x, m, n, e, h1, h2⟩ := st; ⟨x, m, n, g.1 _ _ e (fun ps z => by cases z), h1, h2⟩
theorem sd_ne (n : a ≠ p) (st : StD a c H) : StD a c (L2.upd H p o) := let ⟨x, m, v, e, h1, h2⟩ := st; ⟨x, m, v, lk_ne n e, h1, h2⟩
def ND (u : HO) : Prop := ∀ xs, u ≠ .dK xs
theorem lk_kd (k : Kp a H H') (st : StD a c H) (n : ND u) (h : H q = some u) : H' q = some u := k _ _ (fun z => by obtain ⟨_, _, _, e, _⟩ := st; rw [z, e] at h; exact n _ (Option.some.inj h).symm) h
theorem go_kd (k : Kp a H H') (n : H0 a = none) (st : StD a c H) (t : Go Tb H0 H) : Go Tb H0 H' := by
  obtain ⟨x, m, v, e, _⟩ := st
  refine ⟨fun b u h1 h2 => k b u (ne_of_none h1 n) (t.1 b u h1 h2), fun tb p hp => ?_⟩
  obtain ⟨ps, e1, e2, e3⟩ := t.2 tb p hp
  refine ⟨ps, k _ _ (fun z => by rw [z, e] at e1; cases e1) e1, e2, fun pos cv hc => ?_⟩
  obtain ⟨c', rfl, e5⟩ := e3 pos cv hc
  exact ⟨c', rfl, k _ _ (fun z => by rw [z, e] at e5; unfold LamX.CodeO at e5; cases e5) e5⟩
theorem nw_kd (k : Kp a H H') (st : StD a c H0) (t : New H0 H1 H) : New H0 H1 H' := fun b u h1 h2 h3 => k b u (ne_sd h1 st) (t b u h1 h2 h3)
theorem tabs_kd (k : Kp a H H') (st : StD a c H) (t : LamX.Tabs Tb H) : LamX.Tabs Tb H' := by
  obtain ⟨x, m, v, e, _⟩ := st
  intro p hp
  obtain ⟨ps, e1, e2, e3⟩ := t p hp
  refine ⟨ps, k _ _ (fun z => by rw [z, e] at e1; cases e1) e1, e2, fun pos cv hc => ?_⟩
  obtain ⟨c', rfl, e5⟩ := e3 pos cv hc
  exact ⟨c', rfl, k _ _ (fun z => by rw [z, e] at e5; unfold LamX.CodeO at e5; cases e5) e5⟩
/-- the dict of the draws, written by what drew -/
theorem kd_upd (st : H a = some u) (s : Kp a H0 H) : Kp a H0 (L2.upd H a o) := s.upd
end
end Mx

/-! names: plain lists of codes -/
namespace Nam
def lets : List Nat := ("abcdefghijklmnopqrstuvwxyzABCDEFGHIJKLMNOPQRSTUVWXYZ_" : String).toList.map Char.toNat
def inns : List Nat := ("abcdefghijklmnopqrstuvwxyzABCDEFGHIJKLMNOPQRSTUVWXYZ_0123456789-." : String).toList.map Char.toNat
def isL (c : Nat) : Bool := decide (c ∈ lets)
def isI (c : Nat) : Bool := decide (c ∈ inns)
theorem colonL : isL 58 = false := by decide +kernel
theorem colonI : isI 58 = false := by decide +kernel
theorem L_I {c : Nat} (h : isL c = true) : isI c = true := by
  have k : ∀ c ∈ lets, isI c = true := by decide +kernel
  exact k c (of_decide_eq_true h)
theorem L_ne {c : Nat} (h : isL c = true) : c ≠ 58 := fun e => by rw [e, colonL] at h; cases h
theorem I_ne {c : Nat} (h : isI c = true) : c ≠ 58 := fun e => by rw [e, colonI] at h; cases h

/-! what the law says -/
def cut : List Nat → List Nat → List (List Nat)
  | acc, [] => [acc]
  | acc, x :: r => if x = 58 then acc :: cut [] r else cut (acc ++ [x]) r
def part : List Nat → Bool
  | [] => false
  | c :: r => isL c && r.all isI
def name (l : List Nat) : Bool := decide ((cut [] l).length < 3) && (cut [] l).all part
def begun (l : List Nat) : Bool := decide (l = []) || name l || (decide ((cut [] l).length = 2) && decide ((cut [] l)[1]? = some []) && part ((cut [] l).getD 0 []))

/-! a machine: 0 nothing, 1 a part, 2 a part and a colon, 3 two parts -/
def step (s c : Nat) : Option Nat :=
  if s = 0 then (if isL c then some 1 else none)
  else if s = 1 then (if c = 58 then some 2 else if isI c then some 1 else none)
  else if s = 2 then (if isL c then some 3 else none)
  else (if isI c then some 3 else none)
def runO : Option Nat → List Nat → Option Nat
  | o, [] => o
  | none, _ :: _ => none
  | some s, c :: r => runO (step s c) r
def run (l : List Nat) : Option Nat := runO (some 0) l
theorem runO_none : ∀ l, runO none l = none
  | [] => rfl
  | _ :: _ => rfl
theorem runO_app : ∀ (l m : List Nat) (o : Option Nat), runO o (l ++ m) = runO (runO o l) m
  | [], m, o => by cases o <;> rfl
  | c :: r, m, none => by
    show none = runO none m
    rw [runO_none]
  | c :: r, m, some s => runO_app r m (step s c)
theorem run_snoc (l : List Nat) (c : Nat) : run (l ++ [c]) = (run l).bind fun s => step s c := by
  unfold run
  rw [runO_app]
  cases runO (some 0) l with
  | none => rfl
  | some s =>
    show runO (step s c) [] = step s c
    cases step s c <;> rfl
theorem run3 : ∀ l, runO (some 3) l = if l.all isI then some 3 else none
  | [] => rfl
  | c :: r => by
    show runO (step 3 c) r = _
    have e : step 3 c = if isI c then some 3 else none := rfl
    rw [e]
    cases h : isI c with
    | true => simp [h, run3 r]
    | false => simp [h, runO_none]
theorem run2 (l : List Nat) : runO (some 2) l = if l = [] then some 2 else if part l then some 3 else none := by
  cases l with
  | nil => rfl
  | cons c r =>
    show runO (step 2 c) r = _
    have e : step 2 c = if isL c then some 3 else none := rfl
    rw [e]
    cases h : isL c with
    | true => simp [h, run3 r, part]
    | false => simp [h, runO_none, part]
theorem run1 : ∀ l : List Nat, 58 ∉ l → runO (some 1) l = if l.all isI then some 1 else none
  | [], _ => rfl
  | c :: r, h => by
    have hc : c ≠ 58 := fun e => h (e ▸ List.mem_cons_self)
    have hr : 58 ∉ r := fun e => h (List.mem_cons_of_mem _ e)
    show runO (step 1 c) r = _
    have e : step 1 c = if isI c then some 1 else none := if_neg hc
    rw [e]
    cases h : isI c with
    | true => simp [h, run1 r hr]
    | false => simp [h, runO_none]
theorem run0 (l : List Nat) (h : 58 ∉ l) : run l = if l = [] then some 0 else if part l then some 1 else none := by
  cases l with
  | nil => rfl
  | cons c r =>
    have hr : 58 ∉ r := fun e => h (List.mem_cons_of_mem _ e)
    show runO (step 0 c) r = _
    have e : step 0 c = if isL c then some 1 else none := rfl
    rw [e]
    cases h : isL c with
    | true => simp [h, run1 r hr, part]
    | false => simp [h, runO_none, part]
theorem cut_no : ∀ (l acc : List Nat), 58 ∉ l → cut acc l = [acc ++ l]
  | [], acc, _ => by simp [cut]
  | c :: r, acc, h => by
    have hc : c ≠ 58 := fun e => h (e ▸ List.mem_cons_self)
    have hr : 58 ∉ r := fun e => h (List.mem_cons_of_mem _ e)
    simp [cut, hc, cut_no r (acc ++ [c]) hr]
theorem cut_at : ∀ (p acc r : List Nat), 58 ∉ p → cut acc (p ++ 58 :: r) = (acc ++ p) :: cut [] r
  | [], acc, r, _ => by simp [cut]
  | c :: p, acc, r, h => by
    have hc : c ≠ 58 := fun e => h (e ▸ List.mem_cons_self)
    have hr : 58 ∉ p := fun e => h (List.mem_cons_of_mem _ e)
    simp [cut, hc, cut_at p (acc ++ [c]) r hr]
theorem first_colon : ∀ l : List Nat, 58 ∈ l → ∃ p r, l = p ++ 58 :: r ∧ 58 ∉ p
  | [], h => by cases h
  | c :: l, h => by
    by_cases hc : c = 58
    · exact ⟨[], l, by rw [hc]; rfl, by simp⟩
    · obtain ⟨p, r, e, hp⟩ := first_colon l ((List.mem_cons.mp h).resolve_left (fun e => hc e.symm))
      exact ⟨c :: p, r, by rw [e]; rfl, fun z => (List.mem_cons.mp z).elim (fun e => hc e.symm) hp⟩
theorem cut_ne (l : List Nat) : cut [] l ≠ [] := by
  by_cases h : 58 ∈ l
  · obtain ⟨p, r, e, hp⟩ := first_colon l h
    rw [e, cut_at p [] r hp]
    simp
  · rw [cut_no l [] h]
    simp
/-- the three kinds of texts -/
theorem kinds (l : List Nat) : (58 ∉ l) ∨ (∃ p q, l = p ++ 58 :: q ∧ 58 ∉ p ∧ 58 ∉ q) ∨ ∃ p q r, l = p ++ 58 :: (q ++ 58 :: r) ∧ 58 ∉ p ∧ 58 ∉ q := by
  by_cases h : 58 ∈ l
  · obtain ⟨p, r, e, hp⟩ := first_colon l h
    by_cases h2 : 58 ∈ r
    · obtain ⟨q, r2, e2, hq⟩ := first_colon r h2
      exact .inr (.inr ⟨p, q, r2, by rw [e, e2], hp, hq⟩)
    · exact .inr (.inl ⟨p, r, e, hp, h2⟩)
  · exact .inl h
theorem run_at (p r : List Nat) (hp : 58 ∉ p) : run (p ++ 58 :: r) = if part p then runO (some 2) r else none := by
  unfold run
  rw [runO_app, show runO (some 0) p = run p from rfl, run0 p hp]
  by_cases h0 : p = []
  · subst h0
    show runO (step 0 58) r = _
    have e : step 0 58 = none := by decide +kernel
    rw [e, runO_none]
    rfl
  · rw [if_neg h0]
    cases h : part p with
    | true => rfl
    | false =>
      show runO none (58 :: r) = _
      rfl
theorem run_at2 (p q r : List Nat) (hp : 58 ∉ p) : run (p ++ 58 :: (q ++ 58 :: r)) = none := by
  rw [run_at p _ hp]
  split
  · rw [runO_app, run2]
    split
    · show runO (step 2 58) r = none
      have e : step 2 58 = none := by decide +kernel
      rw [e, runO_none]
    · split
      · show runO (step 3 58) r = none
        have e : step 3 58 = none := by decide +kernel
        rw [e, runO_none]
      · rfl
  · rfl
theorem name_run (l : List Nat) : name l = decide (run l = some 1 ∨ run l = some 3) := by
  rcases kinds l with h | ⟨p, q, e, hp, hq⟩ | ⟨p, q, r, e, hp, hq⟩
  · unfold name
    rw [cut_no l [] h, run0 l h]
    cases l with
    | nil => simp [part]
    | cons c r => cases hh : part (c :: r) <;> simp [hh]
  · unfold name
    rw [e, cut_at p [] _ hp, cut_no q [] hq, run_at p q hp, run2]
    cases hh : part p
    · simp [hh]
    · by_cases hq0 : q = []
      · simp [hq0, part]
      · cases h2 : part q <;> simp [hh, h2, hq0]
  · unfold name
    rw [e, cut_at p [] _ hp, cut_at q [] _ hq, run_at2 p q r hp]
    have n : 1 ≤ (cut [] r).length := List.length_pos_iff.mpr (cut_ne r)
    have e1 : decide ((([] ++ p) :: ([] ++ q) :: cut [] r).length < 3) = false := decide_eq_false (by simp only [List.length_cons]; omega)
    rw [e1]
    simp
theorem begun_run (l : List Nat) : begun l = (run l).isSome := by
  unfold begun
  rw [name_run]
  rcases kinds l with h | ⟨p, q, e, hp, hq⟩ | ⟨p, q, r, e, hp, hq⟩
  · rw [cut_no l [] h, run0 l h]
    cases l with
    | nil => simp
    | cons c r => cases hh : part (c :: r) <;> simp [hh]
  · rw [e, cut_at p [] _ hp, cut_no q [] hq, run_at p q hp, run2]
    cases hh : part p
    · simp [hh]
    · by_cases hq0 : q = []
      · simp [hq0, hh]
      · cases h2 : part q <;> simp [hh, h2, hq0]
  · rw [e, cut_at p [] _ hp, cut_at q [] _ hq, run_at2 p q r hp]
    have n : 1 ≤ (cut [] r).length := List.length_pos_iff.mpr (cut_ne r)
    have e1 : decide ((([] ++ p) :: ([] ++ q) :: cut [] r).length = 2) = false := decide_eq_false (by simp only [List.length_cons]; omega)
    rw [e1]
    simp
/-! what the program does -/
def pend : List Nat → Nat
  | [] => 0
  | c :: r => if isL c then 1 + (r.takeWhile isI).length else 0
def nend (l : List Nat) : Nat :=
  if pend l = 0 ∨ pend l = l.length ∨ l[pend l]? ≠ some 58 then pend l
  else if pend (l.drop (pend l + 1)) > 0 then pend l + 1 + pend (l.drop (pend l + 1)) else pend l
theorem takeWhile_le (r : List Nat) : (r.takeWhile isI).length ≤ r.length := (List.takeWhile_prefix isI).length_le
theorem pend_yes {c : Nat} (r : List Nat) (h : isL c = true) : pend (c :: r) = 1 + (r.takeWhile isI).length := if_pos h
theorem pend_not {c : Nat} (r : List Nat) (h : ¬ isL c = true) : pend (c :: r) = 0 := if_neg h
theorem pend_le (l : List Nat) : pend l ≤ l.length := by
  cases l with
  | nil => exact Nat.le_refl _
  | cons c r =>
    have := takeWhile_le r
    by_cases h : isL c = true
    · rw [pend_yes r h, List.length_cons]; omega
    · rw [pend_not r h]; exact Nat.zero_le _
theorem nend_le (l : List Nat) : nend l ≤ l.length := by
  have h1 := pend_le l
  have h2 := pend_le (l.drop (pend l + 1))
  rw [List.length_drop] at h2
  unfold nend
  split
  · exact h1
  · rename_i h
    split
    · by_cases h3 : pend l = l.length
      · exact absurd (.inr (.inl h3)) h
      · omega
    · exact h1
theorem tw_all : ∀ r : List Nat, ((r.takeWhile isI).length = r.length) = (r.all isI = true)
  | [] => by simp
  | c :: r => by
    cases h : isI c with
    | true =>
      have ih := tw_all r
      simp only [List.takeWhile_cons, h, if_true, List.length_cons, List.all_cons, Bool.true_and]
      rw [← ih]
      simp
    | false => simp [List.takeWhile_cons, h]
theorem pend_all (l : List Nat) (h0 : l ≠ []) : pend l = l.length ↔ part l = true := by
  cases l with
  | nil => exact absurd rfl h0
  | cons c r =>
    have e := tw_all r
    by_cases h : isL c = true
    · rw [pend_yes r h, List.length_cons, show part (c :: r) = (isL c && r.all isI) from rfl, h, Bool.true_and, ← e]
      omega
    · rw [pend_not r h, List.length_cons, show part (c :: r) = (isL c && r.all isI) from rfl]
      simp [h]
theorem tw_app : ∀ (p r : List Nat) (d : Nat), isI d = false → ((p ++ d :: r).takeWhile isI).length = (p.takeWhile isI).length
  | [], r, d, h => by simp [List.takeWhile_cons, h]
  | c :: p, r, d, h => by
    by_cases hc : isI c = true
    · simp [List.takeWhile_cons, hc, tw_app p r d h]
    · simp [List.takeWhile_cons, hc]
theorem pend_app (p r : List Nat) : pend (p ++ 58 :: r) = pend p := by
  cases p with
  | nil => exact pend_not r (by rw [colonL]; decide)
  | cons c p =>
    show pend (c :: (p ++ 58 :: r)) = pend (c :: p)
    by_cases h : isL c = true
    · rw [pend_yes _ h, pend_yes _ h, tw_app p r 58 colonI]
    · rw [pend_not _ h, pend_not _ h]
theorem part_ne {p : List Nat} (h : part p = true) : p ≠ [] := fun e => by rw [e] at h; cases h
theorem nend_at (p r : List Nat) (hp : part p = true) : nend (p ++ 58 :: r) = if pend r > 0 then p.length + 1 + pend r else p.length := by
  have e1 : pend (p ++ 58 :: r) = p.length := (pend_app p r).trans ((pend_all p (part_ne hp)).mpr hp)
  have h0 : p.length ≠ 0 := fun e => part_ne hp (List.length_eq_zero_iff.mp e)
  have e2 : (p ++ 58 :: r)[p.length]? = some 58 := by simp
  have e3 : (p ++ 58 :: r).drop (p.length + 1) = r := by
    rw [← List.drop_drop, List.drop_left]
    rfl
  have hl : (p ++ 58 :: r).length = p.length + 1 + r.length := by simp; omega
  unfold nend
  rw [e1, e2, e3, hl, if_neg]
  rintro (h | h | h)
  · exact h0 h
  · omega
  · exact h rfl
/-- is_name of the program, of the law -/
theorem name_end (l : List Nat) : (decide (l ≠ []) && decide (nend l = l.length)) = name l := by
  rw [name_run]
  by_cases h0 : l = []
  · subst h0
    decide +kernel
  have d0 : decide (l ≠ []) = true := decide_eq_true h0
  rw [d0, Bool.true_and]
  rcases kinds l with h | ⟨p, q, e, hp, hq⟩ | ⟨p, q, r, e, hp, hq⟩
  · have en : nend l = pend l := by
      unfold nend
      rw [if_pos]
      by_cases hz : pend l = l.length
      · exact .inr (.inl hz)
      · refine .inr (.inr fun z => h (List.mem_of_getElem? z))
    rw [en, run0 l h, if_neg h0]
    by_cases hh : part l = true
    · simp [hh, (pend_all l h0).mpr hh]
    · have : ¬ pend l = l.length := fun z => hh ((pend_all l h0).mp z)
      simp [hh, this]
  · subst e
    have hl : (p ++ 58 :: q).length = p.length + 1 + q.length := by simp; omega
    rw [run_at p q hp, run2]
    by_cases hh : part p = true
    · rw [nend_at p q hh, if_pos hh, hl]
      by_cases hq0 : q = []
      · subst hq0
        simp [pend]
      · have k := pend_all q hq0
        rw [if_neg hq0]
        by_cases h2 : part q = true
        · have e2 := k.mpr h2
          have : 0 < q.length := List.length_pos_iff.mpr hq0
          simp [h2, e2, this]
        · have e2 : ¬ pend q = q.length := fun z => h2 (k.mp z)
          have := pend_le q
          have e3 : ¬ (if pend q > 0 then p.length + 1 + pend q else p.length) = p.length + 1 + q.length := by split <;> omega
          simp only [decide_eq_false e3]
          simp [h2]
    · have e1 : ¬ nend (p ++ 58 :: q) = p.length + 1 + q.length := by
        intro z
        have a1 := pend_app p q
        have a2 := pend_le p
        have a3 : p ≠ [] → ¬ pend p = p.length := fun n z => hh ((pend_all p n).mp z)
        unfold nend at z
        rw [a1] at z
        split at z
        · omega
        · rename_i hn
          have h1 : pend p ≠ 0 := fun y => hn (.inl y)
          have h2 : p ≠ [] := fun y => h1 (by rw [y]; rfl)
          have h3 := a3 h2
          have h4 : (p ++ 58 :: q)[pend p]? = some 58 := Classical.byContradiction fun y => hn (.inr (.inr y))
          rw [List.getElem?_append_left (by omega)] at h4
          exact hp (List.mem_of_getElem? h4)
      rw [hl]
      simp [hh, decide_eq_false e1]
  · have e1 : ¬ nend l = l.length := by
      intro z
      have hl : l.length = p.length + 1 + (q ++ 58 :: r).length := by rw [e]; simp; omega
      by_cases hh : part p = true
      · rw [e, nend_at p _ hh, pend_app] at z
        have := pend_le q
        rw [← e, hl, List.length_append, List.length_cons] at z
        split at z <;> omega
      · have a1 : pend l = pend p := by rw [e, pend_app]
        have a2 := pend_le p
        have a3 : p ≠ [] → ¬ pend p = p.length := fun n z => hh ((pend_all p n).mp z)
        unfold nend at z
        rw [a1] at z
        split at z
        · omega
        · rename_i hn
          have h1 : pend p ≠ 0 := fun y => hn (.inl y)
          have h2 : p ≠ [] := fun y => h1 (by rw [y]; rfl)
          have h3 := a3 h2
          have h4 : l[pend p]? = some 58 := Classical.byContradiction fun y => hn (.inr (.inr y))
          rw [e, List.getElem?_append_left (by omega)] at h4
          exact hp (List.mem_of_getElem? h4)
    rw [decide_eq_false e1, e, run_at2 p q r hp]
    rfl
/-- continues_name of the program -/
def goesOn (l : List Nat) (c : Nat) : Bool :=
  if c = 58 then decide (l ≠ []) && !decide (58 ∈ l) else (if l = [] ∨ l.getLast? = some 58 then isL c else isI c)
theorem snocInd {P : List Nat → Prop} (h0 : P []) (h1 : ∀ l c, P l → P (l ++ [c])) (l : List Nat) : P l := by
  have k : ∀ r : List Nat, P r.reverse := fun r => by
    induction r with
    | nil => exact h0
    | cons c r ih => rw [List.reverse_cons]; exact h1 _ _ ih
  have := k l.reverse
  rwa [List.reverse_reverse] at this
theorem colon_state : ∀ (l : List Nat) (s : Nat), run l = some s → (58 ∈ l ↔ (s = 2 ∨ s = 3)) ∧ (l = [] ↔ s = 0) ∧ (l.getLast? = some 58 ↔ s = 2) ∧ s ≤ 3 := by
  refine snocInd ?_ ?_
  · intro s h
    have : s = 0 := (Option.some.inj h).symm
    subst this
    simp
  · intro l c ih s h
    rw [run_snoc] at h
    cases hr : run l with
    | none => rw [hr] at h; cases h
    | some u =>
      rw [hr] at h
      obtain ⟨i1, i2, i3, i4⟩ := ih u hr
      have h' : step u c = some s := h
      have hcases : u = 0 ∨ u = 1 ∨ u = 2 ∨ u = 3 := by omega
      have mem : 58 ∈ l ++ [c] ↔ (58 ∈ l ∨ c = 58) := by simp [eq_comm]
      have ne : ¬ (l ++ [c] = []) := by simp
      have lst : (l ++ [c]).getLast? = some 58 ↔ c = 58 := by simp
      rw [mem, lst]
      rcases hcases with e | e | e | e <;> subst e
      · have e : step 0 c = if isL c then some 1 else none := rfl
        rw [e] at h'
        split at h'
        · rename_i hl
          have := L_ne hl
          cases h'
          simp [i1, this]
        · cases h'
      · have e : step 1 c = if c = 58 then some 2 else if isI c then some 1 else none := rfl
        rw [e] at h'
        split at h'
        · rename_i hc
          cases h'
          simp [i1, hc]
        · split at h'
          · rename_i hc _
            cases h'
            simp [i1, hc]
          · cases h'
      · have e : step 2 c = if isL c then some 3 else none := rfl
        rw [e] at h'
        split at h'
        · rename_i hl
          have := L_ne hl
          cases h'
          simp [i1, this]
        · cases h'
      · have e : step 3 c = if isI c then some 3 else none := rfl
        rw [e] at h'
        split at h'
        · rename_i hl
          have := I_ne hl
          cases h'
          simp [i1, this]
        · cases h'
theorem goes_step (l : List Nat) (s c : Nat) (h : run l = some s) : goesOn l c = (step s c).isSome := by
  obtain ⟨i1, i2, i3, i4⟩ := colon_state l s h
  have hcases : s = 0 ∨ s = 1 ∨ s = 2 ∨ s = 3 := by omega
  unfold goesOn
  by_cases hc : c = 58
  · rw [if_pos hc]
    subst hc
    rcases hcases with e | e | e | e <;> subst e
    · simp [i2, step, colonL]
    · have : 58 ∉ l := fun z => by have := i1.mp z; omega
      have n : l ≠ [] := fun z => by have := i2.mp z; omega
      simp [this, n, step]
    · have : 58 ∈ l := i1.mpr (.inl rfl)
      simp [this, step, colonL]
    · have : 58 ∈ l := i1.mpr (.inr rfl)
      simp [this, step, colonI]
  · rw [if_neg hc]
    rcases hcases with e | e | e | e <;> subst e
    · have : l = [] := i2.mpr rfl
      rw [if_pos (.inl this)]
      show isL c = (if isL c then some 1 else none).isSome
      cases isL c <;> rfl
    · have n : ¬ (l = [] ∨ l.getLast? = some 58) := fun z => z.elim (fun y => by have := i2.mp y; omega) fun y => by have := i3.mp y; omega
      rw [if_neg n]
      have e : step 1 c = if c = 58 then some 2 else if isI c then some 1 else none := rfl
      rw [e, if_neg hc]
      cases isI c <;> rfl
    · rw [if_pos (.inr (i3.mpr rfl))]
      show isL c = (if isL c then some 3 else none).isSome
      cases isL c <;> rfl
    · have n : ¬ (l = [] ∨ l.getLast? = some 58) := fun z => z.elim (fun y => by have := i2.mp y; omega) fun y => by have := i3.mp y; omega
      rw [if_neg n]
      show isI c = (if isI c then some 3 else none).isSome
      cases isI c <;> rfl
theorem run_take (l : List Nat) {i c : Nat} (h : l[i]? = some c) : run (l.take (i + 1)) = (run (l.take i)).bind fun s => step s c := by
  rw [List.take_add_one, h]
  exact run_snoc _ _
theorem run_pre (l : List Nat) {i j : Nat} (h : run (l.take i) = none) (hij : i ≤ j) : run (l.take j) = none := by
  have e : l.take j = l.take i ++ (l.take j).drop i := by
    have := List.take_append_drop i (l.take j)
    rw [List.take_take, Nat.min_eq_left hij] at this
    exact this.symm
  unfold run at h ⊢
  rw [e, runO_app, h, runO_none]
/-- so far nothing was wrong -/
def Fine (l : List Nat) (i : Nat) : Prop := (run (l.take i)).isSome = true
theorem fine_next {l : List Nat} {i c : Nat} (h : l[i]? = some c) (f : Fine l i) : goesOn (l.take i) c = true ↔ Fine l (i + 1) := by
  obtain ⟨s, hs⟩ := Option.isSome_iff_exists.mp f
  rw [goes_step _ s c hs]
  unfold Fine
  rw [run_take l h, hs]
  rfl
/-- the greatest front part that is begun -/
def IsFar (l : List Nat) (m : Nat) : Prop := m ≤ l.length ∧ begun (l.take m) = true ∧ ∀ j, j ≤ l.length → begun (l.take j) = true → j ≤ m
theorem far_stop {l : List Nat} {i c : Nat} (h : l[i]? = some c) (f : Fine l i) (g : goesOn (l.take i) c = false) : IsFar l i ∧ name l = false := by
  have hi : i < l.length := (List.getElem?_eq_some_iff.mp h).1
  have n : ¬ Fine l (i + 1) := fun z => by rw [(fine_next h f).mpr z] at g; cases g
  have n2 : run (l.take (i + 1)) = none := by
    unfold Fine at n
    cases e : run (l.take (i + 1)) with
    | none => rfl
    | some s => rw [e] at n; exact absurd rfl n
  refine ⟨⟨Nat.le_of_lt hi, by rw [begun_run]; exact f, fun j hj hb => ?_⟩, ?_⟩
  · rw [begun_run] at hb
    refine Nat.le_of_lt_succ (Nat.lt_of_not_le fun z => ?_)
    rw [run_pre l n2 z] at hb
    cases hb
  · have e : run l = none := by
      have := run_pre l n2 (j := l.length) hi
      rwa [List.take_length] at this
    rw [name_run, e]
    rfl
theorem far_end {l : List Nat} (f : Fine l l.length) : IsFar l l.length := ⟨Nat.le_refl _, by rw [begun_run]; exact f, fun j hj _ => hj⟩
theorem far_one {l : List Nat} {m n : Nat} (a : IsFar l m) (b : IsFar l n) : m = n := Nat.le_antisymm (b.2.2 m a.1 a.2.1) (a.2.2 n b.1 b.2.1)
theorem part_end (l : List Nat) : (decide (l ≠ []) && decide (pend l = l.length)) = part l := by
  by_cases h0 : l = []
  · subst h0
    rfl
  · rw [decide_eq_true h0, Bool.true_and]
    by_cases hh : part l = true
    · rw [hh]; exact decide_eq_true ((pend_all l h0).mpr hh)
    · rw [decide_eq_false fun z => hh ((pend_all l h0).mp z)]
      simpa using hh
end Nam

/-! texts and the plain names -/
namespace Nam
open PySem PySem.Spec PyProof.Rows L2 TL
theorem str_codes (x : Str) (l : List Nat) (h : tl x = l) : x = ⟨l.toArray⟩ := by
  rw [← h]
theorem one_eq (c d : Nat) : decide (V.str ⟨#[c]⟩ = V.str ⟨#[d]⟩) = decide (c = d) := by
  by_cases h : c = d
  · subst h; simp
  · have : ¬ (V.str ⟨#[c]⟩ = V.str ⟨#[d]⟩) := fun e => by
      injection e with e
      have := congrArg tl e
      simp [tl] at this
      exact h this
    simp [this, h]
theorem empty_eq (x : Str) : decide (V.str x = V.str "") = decide (tl x = []) := by
  have e0 : tl ("" : Str) = [] := rfl
  by_cases h : tl x = []
  · have : x = "" := ext_tl (h.trans e0.symm)
    subst this
    rfl
  · have n : ¬ (V.str x = V.str "") := fun e => by
      injection e with e
      rw [e] at h
      exact h e0
    simp [n, h]
theorem tl_lets : tl ("abcdefghijklmnopqrstuvwxyzABCDEFGHIJKLMNOPQRSTUVWXYZ_" : Str) = lets := tl_ofString _
theorem tl_inns : tl ("abcdefghijklmnopqrstuvwxyzABCDEFGHIJKLMNOPQRSTUVWXYZ_0123456789-." : Str) = inns := tl_ofString _
theorem colon_codes : (":" : Str) = ⟨#[58]⟩ := rfl
theorem tl_colon : tl (":" : Str) = [58] := rfl
theorem ends_colon (x : Str) : Txt.endswith x ":" = decide ((tl x).getLast? = some 58) := by
  unfold Txt.endswith
  rw [PySem.StrLaws.subAt_eq]
  show (decide (0 + 1 ≤ x.length) && (((tl x).drop (x.length - 1)).take 1 == [58])) = _
  rw [len_tl x]
  cases h : (tl x) using snocInd with
  | h0 => rfl
  | h1 l c _ => 
    have e1 : (l ++ [c]).length - 1 = l.length := by simp
    rw [e1, List.drop_left, List.getLast?_append]
    simp
    by_cases h : c = 58 <;> simp [h]
theorem spl_cut : ∀ (l acc : List Nat), spl [58] 0 acc l = cut acc l
  | [], acc => rfl
  | c :: r, acc => by
    by_cases h : c = 58
    · subst h
      rw [spl_hit (by rfl)]
      show acc :: spl [58] 0 [] r = (if (58 : Nat) = 58 then _ else _)
      rw [if_pos rfl, spl_cut r []]
    · rw [spl_miss (pre_of_head _ _ h)]
      show _ = (if c = 58 then _ else _)
      rw [if_neg h, spl_cut r]
theorem split_colon (x : Str) : (Txt.split x ":").map tl = cut [] (tl x) := by
  rw [split_spl x ":" (by decide) (kind_ok (by decide +kernel)), tl_colon, spl_cut]
theorem cutS_take (z : Str) (i : Nat) (h : i ≤ (tl z).length) : tl (cutS z none (some (i : Int))) = (tl z).take i := by
  show (((z.cps.toList.drop (HT.sIx z.length 0 none)).take (HT.sIx z.length z.length (some (i : Int)) - HT.sIx z.length 0 none)).toArray).toList = _
  have e0 : HT.sIx z.length 0 none = 0 := rfl
  have e1 : HT.sIx z.length z.length (some (i : Int)) = i := by
    have := len_tl z
    rw [HT.sIx_nat]
    omega
  rw [e0, e1]
  rfl
/-! walking along a text -/
theorem inL (c : Nat) : decide (c ∈ ("abcdefghijklmnopqrstuvwxyzABCDEFGHIJKLMNOPQRSTUVWXYZ_" : Str).cps.toList) = isL c := by
  show decide (c ∈ tl ("abcdefghijklmnopqrstuvwxyzABCDEFGHIJKLMNOPQRSTUVWXYZ_" : Str)) = decide (c ∈ lets)
  rw [tl_lets]
theorem inI (c : Nat) : decide (c ∈ ("abcdefghijklmnopqrstuvwxyzABCDEFGHIJKLMNOPQRSTUVWXYZ_0123456789-." : Str).cps.toList) = isI c := by
  show decide (c ∈ tl ("abcdefghijklmnopqrstuvwxyzABCDEFGHIJKLMNOPQRSTUVWXYZ_0123456789-." : Str)) = decide (c ∈ inns)
  rw [tl_inns]
theorem inLI (c : Nat) : decide (c ∈ (("abcdefghijklmnopqrstuvwxyzABCDEFGHIJKLMNOPQRSTUVWXYZ_" : Str) ++ ("0123456789-." : Str)).cps.toList) = isI c := by
  rw [show (("abcdefghijklmnopqrstuvwxyzABCDEFGHIJKLMNOPQRSTUVWXYZ_" : Str) ++ ("0123456789-." : Str)) = ("abcdefghijklmnopqrstuvwxyzABCDEFGHIJKLMNOPQRSTUVWXYZ_0123456789-." : Str) from by decide +kernel]
  exact inI c
theorem range_all (l : List Nat) (p : Nat → Bool) : (!(List.range l.length).any fun i => !p (l.getD i 0)) = l.all p := by
  rw [Bool.eq_iff_iff]
  simp only [Bool.not_eq_true', List.any_eq_false, List.mem_range, List.all_eq_true, Bool.not_eq_true, Bool.not_eq_false']
  constructor
  · intro h x hx
    obtain ⟨i, hi, e⟩ := List.mem_iff_getElem.mp hx
    have := h i hi
    rw [List.getD_eq_getElem?_getD, List.getElem?_eq_getElem hi] at this
    simpa [e] using this
  · intro h i hi
    have := h (l[i]) (List.getElem_mem hi)
    rw [List.getD_eq_getElem?_getD, List.getElem?_eq_getElem hi]
    simpa using this
theorem cut_mem : ∀ (l acc : List Nat), (∀ p ∈ cut acc l, (∀ c ∈ p, c ∈ acc ∨ c ∈ l) ∧ p.length ≤ acc.length + l.length) ∧ (cut acc l).length ≤ l.length + 1
  | [], acc => by
    refine ⟨fun p hp => ?_, Nat.le_refl _⟩
    rw [List.mem_singleton.mp hp]
    exact ⟨fun c hc => .inl hc, Nat.le_add_right _ _⟩
  | x :: r, acc => by
    unfold cut
    by_cases h : x = 58
    · rw [if_pos h]
      obtain ⟨h1, h2⟩ := cut_mem r []
      refine ⟨fun p hp => ?_, ?_⟩
      · rcases List.mem_cons.mp hp with rfl | hp
        · exact ⟨fun c hc => .inl hc, Nat.le_add_right _ _⟩
        · obtain ⟨a, b⟩ := h1 p hp
          refine ⟨fun c hc => ?_, ?_⟩
          · rcases a c hc with z | z
            · cases z
            · exact .inr (List.mem_cons_of_mem _ z)
          · simp only [List.length_nil, List.length_cons] at b ⊢; omega
      · simp only [List.length_cons] at h2 ⊢; omega
    · rw [if_neg h]
      obtain ⟨h1, h2⟩ := cut_mem r (acc ++ [x])
      refine ⟨fun p hp => ?_, ?_⟩
      · obtain ⟨a, b⟩ := h1 p hp
        refine ⟨fun c hc => ?_, ?_⟩
        · rcases a c hc with z | z
          · rcases List.mem_append.mp z with z | z
            · exact .inl z
            · rw [List.mem_singleton.mp z]; exact .inr List.mem_cons_self
          · exact .inr (List.mem_cons_of_mem _ z)
        · simp only [List.length_append, List.length_cons, List.length_nil] at b ⊢; omega
      · simp only [List.length_cons] at h2 ⊢; omega
def Wd (z : Str) : Prop := (tl z).length ≤ 1000 ∧ ∀ c ∈ tl z, c < 0x110000
theorem cut_wd {z : Str} {i : Nat} (h : Wd z) (hi : i ≤ (tl z).length) : Wd (cutS z none (some (i : Int))) := by
  unfold Wd
  rw [cutS_take z i hi]
  refine ⟨?_, fun c hc => h.2 c (List.mem_of_mem_take hc)⟩
  have := h.1
  rw [List.length_take]
  omega
theorem split_wd {z : Str} (h : Wd z) : (∀ y ∈ Txt.split z ":", Wd y) ∧ (Txt.split z ":").length ≤ 1001 := by
  have e := split_colon z
  obtain ⟨h1, h2⟩ := cut_mem (tl z) []
  rw [← e] at h1 h2
  refine ⟨fun y hy => ?_, ?_⟩
  · obtain ⟨a, b⟩ := h1 (tl y) (List.mem_map_of_mem hy)
    refine ⟨?_, fun c hc => ?_⟩
    · simp only [List.length_nil] at b
      have := h.1
      omega
    · rcases a c hc with z | z
      · cases z
      · exact h.2 c z
  · rw [List.length_map] at h2
    have := h.1
    omega
theorem split_n (z : Str) : (Txt.split z ":").length = (cut [] (tl z)).length := by rw [← split_colon, List.length_map]
theorem range_allA {α : Type} (l : List α) (d : α) (p : α → Bool) : (!(List.range l.length).any fun i => !p (l.getD i d)) = l.all p := by
  rw [Bool.eq_iff_iff]
  simp only [Bool.not_eq_true', List.any_eq_false, List.mem_range, List.all_eq_true, Bool.not_eq_true, Bool.not_eq_false']
  constructor
  · intro h x hx
    obtain ⟨i, hi, e⟩ := List.mem_iff_getElem.mp hx
    have := h i hi
    rw [List.getD_eq_getElem?_getD, List.getElem?_eq_getElem hi] at this
    simpa [e] using this
  · intro h i hi
    have := h (l[i]) (List.getElem_mem hi)
    rw [List.getD_eq_getElem?_getD, List.getElem?_eq_getElem hi]
    simpa using this
theorem split_all (z : Str) : (Txt.split z ":").all (fun y => part (tl y)) = (cut [] (tl z)).all part := by
  rw [← split_colon, List.all_map]
  rfl
theorem split_at (z : Str) (i : Nat) : ((Txt.split z ":")[i]?).map tl = (cut [] (tl z))[i]? := by rw [← split_colon, List.getElem?_map]
def tw (l : List Nat) (j : Nat) : Nat := j + ((l.drop j).takeWhile isI).length
theorem drop_at {l : List Nat} {j c : Nat} (h : l[j]? = some c) : l.drop j = c :: l.drop (j + 1) := by
  obtain ⟨hj, e⟩ := List.getElem?_eq_some_iff.mp h
  rw [List.drop_eq_getElem_cons hj, e]
theorem tw_step {l : List Nat} {j c : Nat} (h : l[j]? = some c) (hc : isI c = true) : tw l j = tw l (j + 1) := by
  unfold tw
  rw [drop_at h, List.takeWhile_cons, if_pos hc, List.length_cons]
  omega
theorem tw_stop {l : List Nat} {j c : Nat} (h : l[j]? = some c) (hc : isI c = false) : tw l j = j := by
  unfold tw
  rw [drop_at h, List.takeWhile_cons, if_neg (by rw [hc]; decide)]
  rfl
theorem tw_end {l : List Nat} {j : Nat} (h : j = l.length) : tw l j = j := by
  subst h
  unfold tw
  rw [List.drop_length]
  rfl
theorem pend_step {l : List Nat} {j c : Nat} (h : l[j]? = some c) (hc : isL c = true) : j + pend (l.drop j) = tw l (j + 1) := by
  unfold tw
  rw [drop_at h, pend_yes _ hc]
  omega
theorem pend_stop {l : List Nat} {j c : Nat} (h : l[j]? = some c) (hc : isL c = false) : j + pend (l.drop j) = j := by
  rw [drop_at h, pend_not _ (by rw [hc]; decide)]
  rfl
theorem pend_end {l : List Nat} {j : Nat} (h : j = l.length) : j + pend (l.drop j) = j := by
  subst h
  rw [List.drop_length]
  rfl
theorem int_eq (i j : Nat) : decide (V.int (i : Int) = V.int (j : Int)) = decide (i = j) := by
  by_cases h : i = j
  · subst h; simp
  · have n : ¬ (V.int (i : Int) = V.int (j : Int)) := fun e => by
      injection e with e
      exact h (by omega)
    simp [n, h]
end Nam

/-! prefixes and local parts -/
namespace Nam
open PySem PySem.Spec PyProof.Rows L2 TL
abbrev cut1 (l : List Nat) : Option (List Nat × List Nat) := par [58] [] l
theorem par_cut : ∀ (l acc : List Nat), (par [58] acc l = none ∧ 58 ∉ l ∧ cut acc l = [acc ++ l]) ∨ ∃ a b, par [58] acc l = some (acc ++ a, b) ∧ l = a ++ 58 :: b ∧ 58 ∉ a ∧ cut acc l = (acc ++ a) :: cut [] b
  | [], acc => .inl ⟨rfl, by simp, by rw [cut, List.append_nil]⟩
  | c :: r, acc => by
    by_cases h : c = 58
    · subst h
      refine .inr ⟨[], r, ?_, rfl, by simp, ?_⟩
      · rw [par, if_pos (by rfl), List.append_nil]; rfl
      · rw [cut, if_pos rfl, List.append_nil]
    · have e1 : par [58] acc (c :: r) = par [58] (acc ++ [c]) r := by rw [par, if_neg (by rw [pre_of_head _ _ h]; simp)]
      have e2 : cut acc (c :: r) = cut (acc ++ [c]) r := by rw [cut, if_neg h]
      rcases par_cut r (acc ++ [c]) with ⟨p1, p2, p3⟩ | ⟨a, b, p1, p2, p3, p4⟩
      · exact .inl ⟨by rw [e1, p1], by simp [p2, Ne.symm h], by rw [e2, p3, List.append_assoc]; rfl⟩
      · exact .inr ⟨c :: a, b, by rw [e1, p1, List.append_assoc]; rfl, by rw [p2]; rfl, by simp [p3, Ne.symm h], by rw [e2, p4, List.append_assoc]; rfl⟩
theorem part_colon {l : List Nat} (h : 58 ∈ l) : part l = false := by
  cases l with
  | nil => cases h
  | cons c r =>
    show (isL c && r.all isI) = false
    rcases List.mem_cons.mp h with rfl | h
    · rw [colonL]; rfl
    · cases hr : r.all isI with
      | false => rw [Bool.and_false]
      | true =>
        have := List.all_eq_true.mp hr 58 h
        rw [colonI] at this
        cases this
/-- the parts at the first colon -/
def split1 (l : List Nat) : List (List Nat) := match cut1 l with | none => [l] | some (a, b) => [a, b]
theorem cut_pos (l acc : List Nat) : 1 ≤ (cut acc l).length := by
  rcases par_cut l acc with ⟨_, _, e⟩ | ⟨a, b, _, _, _, e⟩ <;> rw [e] <;> simp
theorem split1_name (l : List Nat) : (split1 l).all part = name l := by
  unfold split1 name
  rcases par_cut l [] with ⟨p1, p2, p3⟩ | ⟨a, b, p1, p2, p3, p4⟩
  · rw [show cut1 l = none from p1, p3]
    simp
  · rw [show cut1 l = some ([] ++ a, b) from p1, p4]
    simp only [List.nil_append, List.all_cons, List.all_nil, Bool.and_true, List.length_cons]
    rcases par_cut b [] with ⟨_, _, e⟩ | ⟨a2, b2, _, e0, _, e⟩
    · rw [e]
      simp
    · have hb : part b = false := part_colon (by rw [e0]; simp)
      have := cut_pos b2 []
      rw [hb, Bool.and_false, e]
      have hn : ¬ ((([] ++ a2) :: cut [] b2).length + 1 < 3) := by rw [List.length_cons]; omega
      simp only [decide_eq_false hn, Bool.false_and]
def preL (l : List Nat) : List Nat := match cut1 l with | none => [] | some (a, _) => a
def locL (l : List Nat) : List Nat := match cut1 l with | none => l | some (_, b) => b
theorem split1_len (l : List Nat) : (split1 l).length ≤ 2 := by
  unfold split1
  cases cut1 l with
  | none => exact Nat.le_succ 1
  | some ab => exact Nat.le_refl 2
theorem split1_mem {l x : List Nat} (h : x ∈ split1 l) : x.length ≤ l.length ∧ ∀ c ∈ x, c ∈ l := by
  unfold split1 at h
  rcases par_cut l [] with ⟨p1, p2, p3⟩ | ⟨a, b, p1, p2, p3, p4⟩
  · rw [show cut1 l = none from p1] at h
    rw [List.mem_singleton.mp h]
    exact ⟨Nat.le_refl _, fun c hc => hc⟩
  · rw [show cut1 l = some (a, b) from p1] at h
    rw [p2]
    simp only [List.mem_cons, List.not_mem_nil, or_false] at h
    rcases h with rfl | rfl
    · exact ⟨by rw [List.length_append]; omega, fun c hc => List.mem_append_left _ hc⟩
    · exact ⟨by rw [List.length_append, List.length_cons]; omega, fun c hc => List.mem_append_right _ (List.mem_cons_of_mem _ hc)⟩
/-- a name's parts as the law splits it -/
theorem name_cut {l : List Nat} (h : name l = true) : (cut [] l = [l] ∧ preL l = [] ∧ locL l = l ∧ cut1 l = none) ∨ (cut [] l = [preL l, locL l] ∧ preL l ≠ [] ∧ cut1 l = some (preL l, locL l)) := by
  unfold preL locL
  rcases par_cut l [] with ⟨p1, p2, p3⟩ | ⟨a, b, p1, p2, p3, p4⟩
  · rw [show cut1 l = none from p1]
    exact .inl ⟨p3, rfl, rfl, rfl⟩
  · rw [show cut1 l = some (a, b) from p1]
    unfold name at h
    rw [p4] at h
    simp only [List.nil_append, List.all_cons, Bool.and_eq_true, decide_eq_true_eq, List.length_cons] at h
    obtain ⟨h1, h2, h3⟩ := h
    refine .inr ⟨?_, ?_, rfl⟩
    · rw [p4]
      rcases par_cut b [] with ⟨_, _, e⟩ | ⟨a2, b2, _, e0, _, e⟩
      · rw [e]; rfl
      · have := cut_pos b2 []
        rw [e, List.length_cons] at h1
        omega
    · intro z
      rw [show a = [] from z] at h2
      cases h2
/-! texts -/
def preS (z : Str) : Str := ⟨(preL (tl z)).toArray⟩
def locS (z : Str) : Str := ⟨(locL (tl z)).toArray⟩
theorem tl_preS (z : Str) : tl (preS z) = preL (tl z) := rfl
theorem tl_locS (z : Str) : tl (locS z) = locL (tl z) := rfl
theorem part_colon3 (z : Str) : Txt.partition z ":" = (match cut1 (tl z) with | some (a, b) => ((⟨a.toArray⟩ : Str), (":" : Str), (⟨b.toArray⟩ : Str)) | none => (z, Str.empty, Str.empty)) := partition_par z ":" (by decide)
theorem splitMax_colon (z : Str) : (Txt.splitMax z ":" 1).map tl = split1 (tl z) := by
  have hp := part_colon3 z
  unfold Txt.partition at hp
  unfold Txt.splitMax
  have hl : PySem.limitOf z 1 = 1 := rfl
  rw [hl]
  have hocc := PySem.StrLaws.occ_length_le z ":" 0 z.length 1
  unfold split1
  cases ho : Builtin.Str.occurrences z ":" 0 z.length 1 with
  | nil =>
    rw [ho] at hp
    have hn : cut1 (tl z) = none := by
      cases hc : cut1 (tl z) with
      | none => rfl
      | some ab =>
        rw [hc] at hp
        have e := congrArg (fun t : Str × Str × Str => tl t.2.1) hp
        cases e
    rw [hn]
    split <;> rfl
  | cons i r =>
    rw [ho] at hp hocc
    have hr : r = [] := by
      cases r with
      | nil => rfl
      | cons a b => simp at hocc
    subst hr
    have hs : ∃ a b, cut1 (tl z) = some (a, b) := by
      cases hc : cut1 (tl z) with
      | none =>
        rw [hc] at hp
        have e := congrArg (fun t : Str × Str × Str => tl t.2.1) hp
        cases e
      | some ab => exact ⟨ab.1, ab.2, rfl⟩
    obtain ⟨a, b, hc⟩ := hs
    rw [hc] at hp
    have e1 : Builtin.Str.strSub z 0 i = ⟨a.toArray⟩ := congrArg Prod.fst hp
    have e2 : Builtin.Str.strSub z (i + (":" : Str).length) z.length = ⟨b.toArray⟩ := congrArg (fun t : Str × Str × Str => t.2.2) hp
    have hz : z.length ≠ 0 := by
      intro e
      have e0 : tl z = [] := List.eq_nil_of_length_eq_zero (by rw [← len_tl]; exact e)
      rw [e0] at hc
      cases hc
    have k1 : ¬ ((decide (z.length < (":" : Str).length) || decide (Builtin.Str.strKind z < Builtin.Str.strKind ":")) = true) := by
      rw [Bool.or_eq_true, decide_eq_true_eq, decide_eq_true_eq]
      have : (":" : Str).length = 1 := rfl
      have := kind_ok (x := z) (y := ":") (by decide +kernel)
      omega
    rw [if_neg k1, if_neg (by simp)]
    show [Builtin.Str.strSub z 0 i, Builtin.Str.strSub z (i + (":" : Str).length) z.length].map tl = _
    rw [e1, e2, hc]
    rfl
end Nam

set_option maxHeartbeats 1000000
set_option pp.maxSteps 700
set_option pp.deepTerms false
set_option pp.deepTerms.threshold 14
namespace K4
open PySem PySem.Spec PyProof.Rows L2 Mx
/-! ### the text by places -/
def topS (i : Nat) : Stmt := PySem.Challenge.pw_markstream_k40_names_refused.main.body.getD i (.Pass ⟨0, 0, 0, 0⟩)
abbrev s_InvalidName___init__ : Stmt := inClass (topS 3) 0
abbrev s_BadBinding___init__ : Stmt := inClass (topS 4) 0
abbrev s_Unbound___init__ : Stmt := inClass (topS 5) 0
abbrev s_Repeated___init__ : Stmt := inClass (topS 6) 0
abbrev s_is_part_of_name : Stmt := topS 13
abbrev s_cut_name : Stmt := topS 14
abbrev s_split_name : Stmt := topS 15
abbrev s_is_bad_binding : Stmt := topS 17
abbrev s_binding_name : Stmt := topS 18
abbrev s_check_pairs : Stmt := topS 19
abbrev s_joined_links : Stmt := topS 22
abbrev s_Scope___init__ : Stmt := inClass (topS 23) 0
abbrev s_Scope___contains__ : Stmt := inClass (topS 23) 1
abbrev s_Scope___getitem__ : Stmt := inClass (topS 23) 2
abbrev s_Scope___str__ : Stmt := inClass (topS 23) 5
abbrev s_Scope_meaning : Stmt := inClass (topS 23) 9
abbrev s_Scope_expanded : Stmt := inClass (topS 23) 10
abbrev s__law_begin : Stmt := topS 25
abbrev s__law_draw : Stmt := topS 26
abbrev s__law_word : Stmt := topS 27
abbrev s__law_error : Stmt := topS 28
abbrev s__law_pick : Stmt := topS 29
abbrev s__law_part : Stmt := topS 30
abbrev s__law_is_part : Stmt := topS 31
abbrev s__law_is_name : Stmt := topS 32
abbrev s__law_bent : Stmt := topS 33
abbrev s__law_right : Stmt := topS 34
abbrev s_law : Stmt := topS 35
theorem sc_InvalidName___init__ : FnScope ["self", "given"] ["self", "given"] (defScope s_InvalidName___init__) := ⟨rfl, rfl, rfl, by decide +kernel, rfl, by decide +kernel, by decide +kernel⟩
theorem sc_BadBinding___init__ : FnScope ["self", "spelling", "place"] ["self", "spelling", "place"] (defScope s_BadBinding___init__) := ⟨rfl, rfl, rfl, by decide +kernel, rfl, by decide +kernel, by decide +kernel⟩
theorem sc_Unbound___init__ : FnScope ["self", "spelling", "place"] ["self", "spelling", "place"] (defScope s_Unbound___init__) := ⟨rfl, rfl, rfl, by decide +kernel, rfl, by decide +kernel, by decide +kernel⟩
theorem sc_Repeated___init__ : FnScope ["self", "spelling", "place"] ["self", "spelling", "place"] (defScope s_Repeated___init__) := ⟨rfl, rfl, rfl, by decide +kernel, rfl, by decide +kernel, by decide +kernel⟩
theorem sc_is_part_of_name : FnScope ["value", "sign"] ["value"] (defScope s_is_part_of_name) := ⟨rfl, rfl, rfl, by decide +kernel, rfl, by decide +kernel, by decide +kernel⟩
theorem sc_cut_name : FnScope ["name", "prefix", "colon", "local"] ["name"] (defScope s_cut_name) := ⟨rfl, rfl, rfl, by decide +kernel, rfl, by decide +kernel, by decide +kernel⟩
theorem sc_split_name : FnScope ["name", "part"] ["name"] (defScope s_split_name) := ⟨rfl, rfl, rfl, by decide +kernel, rfl, by decide +kernel, by decide +kernel⟩
theorem sc_is_bad_binding : FnScope ["prefix", "namespace"] ["prefix", "namespace"] (defScope s_is_bad_binding) := ⟨rfl, rfl, rfl, by decide +kernel, rfl, by decide +kernel, by decide +kernel⟩
theorem sc_binding_name : FnScope ["prefix"] ["prefix"] (defScope s_binding_name) := ⟨rfl, rfl, rfl, by decide +kernel, rfl, by decide +kernel, by decide +kernel⟩
theorem sc_check_pairs : FnScope ["pairs", "is_wish", "pair", "is_empty", "index", "prefix", "namespace"] ["pairs", "is_wish"] (defScope s_check_pairs) := ⟨rfl, rfl, rfl, by decide +kernel, rfl, by decide +kernel, by decide +kernel⟩
theorem sc_joined_links : FnScope ["links", "pairs", "found", "prefix", "namespace", "pair"] ["links", "pairs"] (defScope s_joined_links) := ⟨rfl, rfl, rfl, by decide +kernel, rfl, by decide +kernel, by decide +kernel⟩
theorem sc_Scope___init__ : FnScope ["self", "pairs"] ["self", "pairs"] (defScope s_Scope___init__) := ⟨rfl, rfl, rfl, by decide +kernel, rfl, by decide +kernel, by decide +kernel⟩
theorem sc_Scope___contains__ : FnScope ["self", "prefix"] ["self", "prefix"] (defScope s_Scope___contains__) := ⟨rfl, rfl, rfl, by decide +kernel, rfl, by decide +kernel, by decide +kernel⟩
theorem sc_Scope___getitem__ : FnScope ["self", "prefix"] ["self", "prefix"] (defScope s_Scope___getitem__) := ⟨rfl, rfl, rfl, by decide +kernel, rfl, by decide +kernel, by decide +kernel⟩
theorem sc_Scope___str__ : FnScope ["self", "some", "prefix"] ["self"] (defScope s_Scope___str__) := ⟨rfl, rfl, rfl, by decide +kernel, rfl, by decide +kernel, by decide +kernel⟩
theorem sc_Scope_meaning : FnScope ["self", "name", "is_attribute", "place", "prefix", "local"] ["self", "name", "is_attribute", "place"] (defScope s_Scope_meaning) := ⟨rfl, rfl, rfl, by decide +kernel, rfl, by decide +kernel, by decide +kernel⟩
theorem sc_Scope_expanded : FnScope ["self", "name", "attribute"] ["self", "name", "attribute"] (defScope s_Scope_expanded) := ⟨rfl, rfl, rfl, by decide +kernel, rfl, by decide +kernel, by decide +kernel⟩
theorem sc__law_begin : FnScope ["script", "spot", "own"] ["script", "spot"] (defScope s__law_begin) := ⟨rfl, rfl, rfl, by decide +kernel, rfl, by decide +kernel, by decide +kernel⟩
theorem sc__law_draw : FnScope ["state", "size", "found"] ["state", "size"] (defScope s__law_draw) := ⟨rfl, rfl, rfl, by decide +kernel, rfl, by decide +kernel, by decide +kernel⟩
theorem sc__law_word : FnScope ["caught"] ["caught"] (defScope s__law_word) := ⟨rfl, rfl, rfl, by decide +kernel, rfl, by decide +kernel, by decide +kernel⟩
theorem sc__law_error : FnScope ["call", "caught", "e"] ["call"] (defScope s__law_error) := ⟨rfl, rfl, rfl, by decide +kernel, rfl, by decide +kernel, by decide +kernel⟩
theorem sc__law_pick : FnScope ["state", "items"] ["state", "items"] (defScope s__law_pick) := ⟨rfl, rfl, rfl, by decide +kernel, rfl, by decide +kernel, by decide +kernel⟩
theorem sc__law_part : FnScope ["state", "found", "turn"] ["state"] (defScope s__law_part) := ⟨rfl, rfl, rfl, by decide +kernel, rfl, by decide +kernel, by decide +kernel⟩
theorem sc__law_is_part : FnScope ["word", "first", "sign"] ["word"] (defScope s__law_is_part) := ⟨rfl, rfl, rfl, by decide +kernel, rfl, by decide +kernel, by decide +kernel⟩
theorem sc__law_is_name : FnScope ["thing", "parts", "part"] ["thing"] (defScope s__law_is_name) := ⟨rfl, rfl, rfl, by decide +kernel, rfl, by decide +kernel, by decide +kernel⟩
theorem sc__law_bent : FnScope ["state", "label", "at", "sign"] ["state", "label"] (defScope s__law_bent) := ⟨rfl, rfl, rfl, by decide +kernel, rfl, by decide +kernel, by decide +kernel⟩
theorem sc__law_right : FnScope ["scope", "thing", "shown", "told", "parts", "prefix", "rest_so", "due"] ["scope", "thing"] (defScope s__law_right) := ⟨rfl, rfl, rfl, by decide +kernel, rfl, by decide +kernel, by decide +kernel⟩
theorem sc_law : FnScope ["script", "scope", "spot", "state", "turn", "label", "bent", "thing", "some", "odd", "made", "one"] ["script"] (defScope s_law) := ⟨rfl, rfl, rfl, by decide +kernel, rfl, by decide +kernel, by decide +kernel⟩
/-! ### what the walk asks of the top -/
structure Tx (P : Program) (w : World) (K : PySem.W.Frag) (mg : Str → Option Value) (base : Heap) : Type where
  d_is_part_of_name : Mx.DefT K mg "is_part_of_name" s_is_part_of_name ["value"]
  d_cut_name : Mx.DefT K mg "cut_name" s_cut_name ["name"]
  d_split_name : Mx.DefT K mg "split_name" s_split_name ["name"]
  d_is_bad_binding : Mx.DefT K mg "is_bad_binding" s_is_bad_binding ["prefix", "namespace"]
  d_binding_name : Mx.DefT K mg "binding_name" s_binding_name ["prefix"]
  d_check_pairs : Mx.DefT K mg "check_pairs" s_check_pairs ["pairs", "is_wish"]
  d_joined_links : Mx.DefT K mg "joined_links" s_joined_links ["links", "pairs"]
  d__law_begin : Mx.DefT K mg "_law_begin" s__law_begin ["script", "spot"]
  d__law_draw : Mx.DefT K mg "_law_draw" s__law_draw ["state", "size"]
  d__law_word : Mx.DefT K mg "_law_word" s__law_word ["caught"]
  d__law_error : Mx.DefT K mg "_law_error" s__law_error ["call"]
  d__law_pick : Mx.DefT K mg "_law_pick" s__law_pick ["state", "items"]
  d__law_part : Mx.DefT K mg "_law_part" s__law_part ["state"]
  d__law_is_part : Mx.DefT K mg "_law_is_part" s__law_is_part ["word"]
  d__law_is_name : Mx.DefT K mg "_law_is_name" s__law_is_name ["thing"]
  d__law_bent : Mx.DefT K mg "_law_bent" s__law_bent ["state", "label"]
  d__law_right : Mx.DefT K mg "_law_right" s__law_right ["scope", "thing"]
  n_isinstance : mg "isinstance" = none
  n_str : mg "str" = none
  n_int : mg "int" = none
  n_len : mg "len" = none
  n_range : mg "range" = none
  n_all : mg "all" = none
  n_enumerate : mg "enumerate" = none
  n_sorted : mg "sorted" = none
  n_repr : mg "repr" = none
  n_dict : mg "dict" = none
  n_tuple : mg "tuple" = none
  n_min : mg "min" = none
  g_LETTERS : ∃ u, mg "LETTERS" = some u ∧ RelV (.str "abcdefghijklmnopqrstuvwxyzABCDEFGHIJKLMNOPQRSTUVWXYZ_") u
  g_INNER : ∃ u, mg "INNER" = some u ∧ RelV (.str "abcdefghijklmnopqrstuvwxyzABCDEFGHIJKLMNOPQRSTUVWXYZ_0123456789-.") u
  g_XML : ∃ u, mg "XML" = some u ∧ RelV (.str "http://www.w3.org/XML/1998/namespace") u
  g_XMLNS : ∃ u, mg "XMLNS" = some u ∧ RelV (.str "http://www.w3.org/2000/xmlns/") u
  a_InvalidName : Addr
  i_InvalidName : Addr
  fd_InvalidName : FuncData
  x_InvalidName : Mx.ExT P w K mg base "InvalidName" "given" a_InvalidName i_InvalidName fd_InvalidName ["self", "given"]
  a_MarkupError : Addr
  m_MarkupError : mg "MarkupError" = some (.ref a_MarkupError)
  C_Scope : Addr
  cl_Scope : Cls K C_Scope
  mg_Scope : mg "Scope" = some (.ref C_Scope)
  na_links : NoAttr K C_Scope "links"
  f_Scope___init__ : Addr
  F_Scope___init__ : ∃ fd, Fun K "__init__" "Scope.__init__" s_Scope___init__ f_Scope___init__ fd
  mk_Scope : Mk K C_Scope f_Scope___init__
  f_Scope___contains__ : Addr
  fd_Scope___contains__ : FuncData
  F_Scope___contains__ : Fun K "__contains__" "Scope.__contains__" s_Scope___contains__ f_Scope___contains__ fd_Scope___contains__
  b_Scope___contains__ : Binds K fd_Scope___contains__ ["self", "prefix"] []
  ow_Scope___contains__ : Mx.Own K C_Scope "__contains__" f_Scope___contains__
  fn_Scope___contains__ : PySem.W.fnIn K f_Scope___contains__ = true
  f_Scope___getitem__ : Addr
  fd_Scope___getitem__ : FuncData
  F_Scope___getitem__ : Fun K "__getitem__" "Scope.__getitem__" s_Scope___getitem__ f_Scope___getitem__ fd_Scope___getitem__
  b_Scope___getitem__ : Binds K fd_Scope___getitem__ ["self", "prefix"] []
  ow_Scope___getitem__ : Mx.Own K C_Scope "__getitem__" f_Scope___getitem__
  fn_Scope___getitem__ : PySem.W.fnIn K f_Scope___getitem__ = true
  f_Scope___str__ : Addr
  fd_Scope___str__ : FuncData
  F_Scope___str__ : Fun K "__str__" "Scope.__str__" s_Scope___str__ f_Scope___str__ fd_Scope___str__
  b_Scope___str__ : Binds K fd_Scope___str__ ["self"] []
  ow_Scope___str__ : Mx.Own K C_Scope "__str__" f_Scope___str__
  fn_Scope___str__ : PySem.W.fnIn K f_Scope___str__ = true
  f_Scope_meaning : Addr
  fd_Scope_meaning : FuncData
  F_Scope_meaning : Fun K "meaning" "Scope.meaning" s_Scope_meaning f_Scope_meaning fd_Scope_meaning
  b_Scope_meaning : Binds K fd_Scope_meaning ["self", "name", "is_attribute", "place"] []
  me_Scope_meaning : Meth K C_Scope "meaning" f_Scope_meaning
  f_Scope_expanded : Addr
  fd_Scope_expanded : FuncData
  F_Scope_expanded : FunD K "expanded" "Scope.expanded" (defArgs s_Scope_expanded) (defBody s_Scope_expanded) (defScope s_Scope_expanded) [] [("attribute", .bl false)] f_Scope_expanded fd_Scope_expanded
  ds_Scope_expanded : List Value
  hd_Scope_expanded : Vals [.bl false] ds_Scope_expanded
  b_Scope_expanded : Binds K fd_Scope_expanded ["self", "name", "attribute"] ds_Scope_expanded
  kb2_Scope_expanded : KBinds K fd_Scope_expanded ["self", "name", "attribute"] ["attribute"] Mx.kg21 Mx.kg21V
  kb_Scope_expanded : KBinds K fd_Scope_expanded ["self", "name", "attribute"] ["attribute", "name"] Mx.kg12 Mx.kg12V
  me_Scope_expanded : Meth K C_Scope "expanded" f_Scope_expanded
  kb_split_name : KBinds K d_split_name.fd ["name"] ["name"] (fun us ws => us ++ ws) (fun vs zs => vs ++ zs)
  a_BadBinding : Addr
  i_BadBinding : Addr
  fd_BadBinding : FuncData
  xs_BadBinding : Mx.ExS P w K mg base "BadBinding" ["spelling", "place"] a_BadBinding i_BadBinding fd_BadBinding ["self", "spelling", "place"]
  fs_BadBinding : PySem.W.findIn K (.ref a_BadBinding) "spelling" = some none
  fp_BadBinding : PySem.W.findIn K (.ref a_BadBinding) "place" = some none
  xb_BadBinding : PySem.W.kitOne K (.ref a_BadBinding) (.ref a_MarkupError) = some true
  a_Unbound : Addr
  i_Unbound : Addr
  fd_Unbound : FuncData
  xs_Unbound : Mx.ExS P w K mg base "Unbound" ["spelling", "place"] a_Unbound i_Unbound fd_Unbound ["self", "spelling", "place"]
  fs_Unbound : PySem.W.findIn K (.ref a_Unbound) "spelling" = some none
  fp_Unbound : PySem.W.findIn K (.ref a_Unbound) "place" = some none
  xb_Unbound : PySem.W.kitOne K (.ref a_Unbound) (.ref a_MarkupError) = some true
  a_Repeated : Addr
  i_Repeated : Addr
  fd_Repeated : FuncData
  xs_Repeated : Mx.ExS P w K mg base "Repeated" ["spelling", "place"] a_Repeated i_Repeated fd_Repeated ["self", "spelling", "place"]
  fs_Repeated : PySem.W.findIn K (.ref a_Repeated) "spelling" = some none
  fp_Repeated : PySem.W.findIn K (.ref a_Repeated) "place" = some none
  xb_Repeated : PySem.W.kitOne K (.ref a_Repeated) (.ref a_MarkupError) = some true
  xc_InvalidName : Mx.XcC K a_InvalidName
  fn_InvalidName : PySem.W.findIn K (.ref a_InvalidName) "given" = some none
  k_BadBinding_BadBinding : PySem.W.kitOne K (.ref a_BadBinding) (.ref a_BadBinding) = some true
  k_Unbound_BadBinding : PySem.W.kitOne K (.ref a_Unbound) (.ref a_BadBinding) = some false
  k_Unbound_Unbound : PySem.W.kitOne K (.ref a_Unbound) (.ref a_Unbound) = some true
  k_Repeated_BadBinding : PySem.W.kitOne K (.ref a_Repeated) (.ref a_BadBinding) = some false
  k_Repeated_Unbound : PySem.W.kitOne K (.ref a_Repeated) (.ref a_Unbound) = some false
  k_Repeated_Repeated : PySem.W.kitOne K (.ref a_Repeated) (.ref a_Repeated) = some true
  k_InvalidName_BadBinding : PySem.W.kitOne K (.ref a_InvalidName) (.ref a_BadBinding) = some false
  k_InvalidName_Unbound : PySem.W.kitOne K (.ref a_InvalidName) (.ref a_Unbound) = some false
  k_InvalidName_Repeated : PySem.W.kitOne K (.ref a_InvalidName) (.ref a_Repeated) = some false
  k_InvalidName_InvalidName : PySem.W.kitOne K (.ref a_InvalidName) (.ref a_InvalidName) = some true
  ex_BadBinding : PySem.W.exmAny K (.ref a_BadBinding) [.ref a_BadBinding, .ref a_InvalidName, .ref a_Repeated, .ref a_Unbound] = some true
  ex_Unbound : PySem.W.exmAny K (.ref a_Unbound) [.ref a_BadBinding, .ref a_InvalidName, .ref a_Repeated, .ref a_Unbound] = some true
  ex_Repeated : PySem.W.exmAny K (.ref a_Repeated) [.ref a_BadBinding, .ref a_InvalidName, .ref a_Repeated, .ref a_Unbound] = some true
  ex_InvalidName : PySem.W.exmAny K (.ref a_InvalidName) [.ref a_BadBinding, .ref a_InvalidName, .ref a_Repeated, .ref a_Unbound] = some true
end K4

set_option maxHeartbeats 1000000
set_option pp.maxSteps 700
set_option pp.deepTerms false
set_option pp.deepTerms.threshold 14
namespace K4
open PySem PySem.Spec PyProof.Rows L2 Mx
/-! ### the law's draws -/
def sp__law_begin (K : PySem.W.Frag) : Sp := fun vs H Q _ => ∃ (a : Addr) (ns : List Int) (k : Int), vs = [.ref a, .int k] ∧ LsX K H a (ns.map V.int) ∧ ns.length ≤ 63 ∧ 0 ≤ k ∧ k ≤ 1000000 ∧ ∀ (p : Addr) (H' : Hp), H p = none → Same H H' → StD p 0 H' → Q (.ref p) H'
def sp__law_draw : Sp := fun vs H Q _ => ∃ (a : Addr) (c top : Int), vs = [.ref a, .int top] ∧ StD a c H ∧ c ≤ 100000000 ∧ 0 < top ∧ top < 1000000 ∧
  ∀ (r : Int) (H' : Hp), 0 ≤ r → r < top → Kp a H H' → StD a (c + 1) H' → Q (.int r) H'
def sp__law_pick : Sp := fun vs H Q _ => ∃ (a : Addr) (c : Int) (b : Addr) (xs : List V), vs = [.ref a, .ref b] ∧ StD a c H ∧ c ≤ 100000000 ∧ H b = some (.lst xs) ∧ 0 < xs.length ∧ xs.length < 1000000 ∧
  ∀ (i : Nat) (x : V) (H' : Hp), xs[i]? = some x → Kp a H H' → StD a (c + 1) H' → Q x H'

theorem gdL {H : Hp} {a : Addr} {l m t : Int} (h : H a = some (.dK (stD l m t))) : DGet H a (.str "large") (some (.int l)) := .inl ⟨_, .inr "large", .inl h, rfl, rfl⟩
theorem gdM {H : Hp} {a : Addr} {l m t : Int} (h : H a = some (.dK (stD l m t))) : DGet H a (.str "mixed") (some (.int m)) := .inl ⟨_, .inr "mixed", .inl h, rfl, rfl⟩
theorem gdT {H : Hp} {a : Addr} {l m t : Int} (h : H a = some (.dK (stD l m t))) : DGet H a (.str "turn") (some (.int t)) := .inl ⟨_, .inr "turn", .inl h, rfl, rfl⟩
theorem pdL {H : Hp} {a : Addr} {l m t x : Int} (h : H a = some (.dK (stD l m t))) : DPut H a (.str "large") (.int x) (upd H a (.dK (stD x m t))) := .inl ⟨_, .inr "large", h, rfl, (by show 3 < sizeLine; decide), rfl⟩
theorem pdM {H : Hp} {a : Addr} {l m t x : Int} (h : H a = some (.dK (stD l m t))) : DPut H a (.str "mixed") (.int x) (upd H a (.dK (stD l x t))) := .inl ⟨_, .inr "mixed", h, rfl, (by show 3 < sizeLine; decide), rfl⟩
theorem pdT {H : Hp} {a : Addr} {l m t x : Int} (h : H a = some (.dK (stD l m t))) : DPut H a (.str "turn") (.int x) (upd H a (.dK (stD l m x))) := .inl ⟨_, .inr "turn", h, rfl, (by show 3 < sizeLine; decide), rfl⟩
theorem dp_intsAll {K : PySem.W.Frag} {H : Hp} : ∀ l : List Int, DpAll K H (l.map V.int) (l.map PyData.int)
  | [] => .nil
  | z :: l => .cons (.int z) (dp_intsAll l)
theorem lay_ints : ∀ l : List Int, PyData.canLayAll0 (l.map PyData.int) = true
  | [] => lay_e
  | z :: l => by rw [List.map_cons, lay_c, lay_i, lay_ints l]; rfl
theorem dep_ints : ∀ l : List Int, PyData.depthAll (l.map PyData.int) = 0
  | [] => rfl
  | z :: l => by
    show max 0 (PyData.depthAll (l.map PyData.int)) = 0
    rw [dep_ints l]
    rfl
theorem shaped_ints (l : List Int) : SeqAt.shaped (.list (l.map PyData.int)) = true := by
  show (PyData.canLayAll0 _ && decide (PyData.depthAll _ + 1 ≤ 64)) = true
  rw [lay_ints, dep_ints]
  rfl
theorem eqv_nilI : ∀ l : List Int, PyData.eqv (.list (l.map PyData.int)) (.list []) = l.isEmpty
  | [] => rfl
  | _ :: _ => rfl

local macro_rules | `(tactic| walk_at "sz") => `(tactic| first | assumption | decide | omega | (unfold sizeLine; omega) | exact Nat.le_of_ble_eq_true rfl)
local macro_rules | `(tactic| walk_at "hp") => `(tactic| (first | assumption | exact upd_same | (rw [upd_ne (by assumption)]; assumption)))
local macro_rules | `(tactic| walk_at "rd") => `(tactic| (first
  | refine ⟨_, rfl, ?_⟩
  | (refine ⟨_, _, rfl, rfl, ?rdc, ?_⟩; (case rdc => first | (show (0 : Int) < _; omega) | (exact ⟨by omega, by omega⟩) | (exact .inl ⟨by omega, by omega⟩) | (exact .inr ⟨by omega, by omega⟩) | exact ⟨by decide, by decide, by decide⟩))
  | refine ⟨_, _, rfl, rfl, ?_⟩
  | refine .inl ⟨_, rfl, ?_⟩
  | refine ⟨rfl, ?_⟩
  | refine ⟨⟨_, rfl⟩, ?_⟩
  | refine ⟨⟨_, SqL.of (by walk_at "hp")⟩, ?_⟩
  | refine ⟨_, _, _, _, rfl, rfl, SqL.of (by walk_at "hp"), (by rfl), ?_⟩
  | refine ⟨_, _, _, _, rfl, rfl, (by walk_at "hp"), (by rfl), ?_⟩
  | refine ⟨_, _, rfl, ⟨by walk_at "sz", rfl⟩, ?_⟩
  | refine ⟨_, _, _, rfl, rfl, by walk_at "sz", by assumption, ?_⟩
  | refine And.intro (by walk_at "sz") ?_
  | refine itT rfl ?_
  | refine itF rfl ?_
  | refine itT (by assumption) ?_
  | refine itF (by assumption) ?_
  | refine itT (decide_eq_true (by omega)) ?_
  | refine itF (decide_eq_false (by omega)) ?_
  | refine itT (dVi (by omega)) ?_
  | refine itF (dViN (by omega)) ?_
  | refine itT (notT (by assumption)) ?_
  | refine itF (notF (by assumption)) ?_
  | refine itT (notT (dViN (by omega))) ?_
  | refine itF (notF (dVi (by omega))) ?_
  | refine itT (decide_eq_true rfl) ?_
  | refine itF (notF (decide_eq_true rfl)) ?_
  | refine ite2 (fun _ => ?_) (fun _ => ?_)
  | with_reducible refine tC_ ?_
  | with_reducible refine tNext_ ?_
  | with_reducible refine tNil_ ?_
  | with_reducible refine tYes_ ?_))
local macro_rules | `(tactic| walk_at "rds") => `(tactic| repeat' (walk_at "rd"))
section
variable {P : Program} {w : World} {K : PySem.W.Frag} {mg : Str → Option Value} {base : Heap}

local macro_rules | `(tactic| walk_at "lk") => `(tactic| first
  | with_reducible assumption
  | with_reducible exact upd_same
  | (walk_at "lk1"; walk_at "lk")
  | fail "lk")
local macro_rules | `(tactic| walk_at "lk1") => `(tactic| first
  | ((with_reducible refine' lk_new ?a1 ?a2); (case a1 => with_reducible assumption); (case' a2 => skip))
  | ((with_reducible refine' lk_ne ?a1 ?a2); (case a1 => with_reducible assumption); (case' a2 => skip))
  | ((with_reducible refine' lk_neN ?a1 ?a2 ?a3); (case a1 => with_reducible assumption); (case a2 => walk_at "lk"); (case' a3 => skip))
  | ((with_reducible refine' lk_neN' ?a1 ?a2 ?a3); (case a1 => with_reducible assumption); (case a2 => walk_at "lk"); (case' a3 => skip))
  | ((with_reducible refine' lk_same ?a1 ?a2); (case a1 => with_reducible assumption); (case' a2 => skip))
  | ((with_reducible refine' lk_go ?a1 ?a2 ?a3); (case a1 => with_reducible assumption); (case a2 => walk_at "nt"); (case' a3 => skip))
  | ((with_reducible refine' lk_kd ?a1 ?a2 ?a3 ?a4); (case a1 => with_reducible assumption); (case a2 => walk_at "st"); (case a3 => walk_at "nl"); (case' a4 => skip))
  | ((with_reducible refine' lk_kp ?a1 ?a2 ?a3); (case a1 => with_reducible assumption); (case a2 => walk_at "ne"); (case' a3 => skip))
  | fail "lk1")
local macro_rules | `(tactic| walk_at "nt") => `(tactic| first
  | (intro _ z; cases z)
  | fail "nt")
local macro_rules | `(tactic| walk_at "nl") => `(tactic| first
  | (intro _ z; cases z)
  | fail "nl")
local macro_rules | `(tactic| walk_at "ne") => `(tactic| first
  | with_reducible assumption
  | ((with_reducible refine' ne_sd ?a1 ?a2); (case a1 => with_reducible assumption); (case a2 => walk_at "st"))
  | fail "ne")
local macro_rules | `(tactic| walk_at "st") => `(tactic| first
  | with_reducible assumption
  | with_reducible exact sd_new (by with_reducible assumption) (by walk_at "st")
  | with_reducible exact sd_same (by with_reducible assumption) (by walk_at "st")
  | with_reducible exact sd_go (by with_reducible assumption) (by walk_at "st")
  | with_reducible exact sd_ne (by walk_at "ns") (by walk_at "st")
  | fail "st")
local macro_rules | `(tactic| walk_at "ns") => `(tactic| first
  | with_reducible assumption
  | with_reducible exact Ne.symm (by with_reducible assumption)
  | with_reducible exact Ne.symm (ne_sd (by with_reducible assumption) (by walk_at "st"))
  | fail "ns")
local macro_rules | `(tactic| walk_at "fr") => `(tactic| first
  | with_reducible assumption
  | with_reducible exact Same.refl _
  | with_reducible exact Go.refl _ _
  | with_reducible exact Kp.refl _ _
  | with_reducible exact LamX.ExtN.refl _
  | with_reducible exact nw_refl
  | (walk_at "fr1"; walk_at "fr")
  | fail "fr")
local macro_rules | `(tactic| walk_at "fr1") => `(tactic| first
  | ((with_reducible refine' fr_new ?a1 ?a2); (case a1 => with_reducible assumption); (case' a2 => skip))
  | ((with_reducible refine' go_new ?a1 ?a2); (case a1 => with_reducible assumption); (case' a2 => skip))
  | ((with_reducible refine' kp_new ?a1 ?a2); (case a1 => with_reducible assumption); (case' a2 => skip))
  | ((with_reducible refine' fr_same ?a1 ?a2); (case a1 => with_reducible assumption); (case' a2 => skip))
  | ((with_reducible refine' go_same ?a1 ?a2); (case a1 => with_reducible assumption); (case' a2 => skip))
  | ((with_reducible refine' kp_same ?a1 ?a2); (case a1 => with_reducible assumption); (case' a2 => skip))
  | ((with_reducible refine' go_go ?a1 ?a2); (case a1 => with_reducible assumption); (case' a2 => skip))
  | ((with_reducible refine' go_kd ?a1 ?a2 ?a3 ?a4); (case a1 => with_reducible assumption); (case a2 => with_reducible assumption); (case a3 => walk_at "st"); (case' a4 => skip))
  | ((with_reducible refine' kp_kp ?a1 ?a2); (case a1 => with_reducible assumption); (case' a2 => skip))
  | ((with_reducible refine' kp_upd ?a1); (case' a1 => skip))
  | ((with_reducible refine' go_set2 ?a1 ?a2 ?a3 ?a4); (case a1 => walk_at "lk"); (case a2 => with_reducible assumption); (case a3 => walk_at "fr"); (case' a4 => skip))
  | ((with_reducible refine' fr_set2 ?a1 ?a2 ?a3); (case a1 => with_reducible assumption); (case a2 => walk_at "fr"); (case' a3 => skip))
  | ((with_reducible refine' en_new ?a1 ?a2); (case a1 => with_reducible assumption); (case' a2 => skip))
  | ((with_reducible refine' en_same ?a1 ?a2); (case a1 => with_reducible assumption); (case' a2 => skip))
  | ((with_reducible refine' en_go ?a1 ?a2); (case a1 => with_reducible assumption); (case' a2 => skip))
  | ((with_reducible refine' en_set2 ?a1 ?a2 ?a3); (case a1 => with_reducible assumption); (case a2 => walk_at "fr"); (case' a3 => skip))
  | ((with_reducible refine' en_kp ?a1 ?a2 ?a3 ?a4); (case a1 => with_reducible assumption); (case a2 => with_reducible assumption); (case a3 => walk_at "fr"); (case' a4 => skip))
  | ((with_reducible refine' nw_new ?a1 ?a2); (case a1 => with_reducible assumption); (case' a2 => skip))
  | ((with_reducible refine' nw_same ?a1 ?a2); (case a1 => with_reducible assumption); (case' a2 => skip))
  | ((with_reducible refine' nw_go ?a1 ?a2); (case a1 => with_reducible assumption); (case' a2 => skip))
  | ((with_reducible refine' nw_kd ?a1 ?a2 ?a3); (case a1 => with_reducible assumption); (case a2 => walk_at "st"); (case' a3 => skip))
  | ((with_reducible refine' nw_set ?a1 ?a2); (case a1 => walk_at "lk"); (case' a2 => skip))
  | ((with_reducible refine' nw_set2 ?a1 ?a2 ?a3); (case a1 => with_reducible assumption); (case a2 => walk_at "fr"); (case' a3 => skip))
  | fail "fr1")
local macro_rules | `(tactic| walk_at "tb") => `(tactic| first
  | with_reducible assumption
  | (walk_at "tb1"; walk_at "tb")
  | fail "tb")
local macro_rules | `(tactic| walk_at "tb1") => `(tactic| first
  | ((with_reducible refine' tabs_new ?a1 ?a2); (case a1 => with_reducible assumption); (case' a2 => skip))
  | ((with_reducible refine' tabs_same ?a1 ?a2); (case a1 => with_reducible assumption); (case' a2 => skip))
  | ((with_reducible refine' tabs_go ?a1 ?a2); (case a1 => with_reducible assumption); (case' a2 => skip))
  | ((with_reducible refine' tabs_kd ?a1 ?a2 ?a3); (case a1 => with_reducible assumption); (case a2 => walk_at "st"); (case' a3 => skip))
  | ((with_reducible refine' tabs_set ?a1 ?a2); (case a1 => walk_at "lk"); (case' a2 => skip))
  | fail "tb1")
local macro_rules | `(tactic| walk_at "dg") => `(tactic| first
  | assumption
  | (refine' dp_ext ?a1 ?a2; (case a1 => assumption); (case a2 => walk_at "fr"))
  | (refine' dn_use ?a1 ?a2; (case a1 => assumption); (case a2 => walk_at "fr"))
  | fail "dg")
local macro_rules | `(tactic| walk_at "dp") => `(tactic| first
  | assumption
  | exact .str _
  | exact .int _
  | exact .bl _
  | exact .non
  | (refine' Dp.lst (SqL.of ?a1) ?a2; (case a1 => walk_at "lk"); (case a2 => walk_at "dpa"))
  | (refine' Dp.tup (SqT.of ?a1) ?a2; (case a1 => walk_at "lk"); (case a2 => walk_at "dpa"))
  | (walk_at "dg")
  | fail "dp")
local macro_rules | `(tactic| walk_at "dpa") => `(tactic| first
  | assumption
  | exact .nil
  | (refine' DpAll.cons ?a1 ?a2; (case a1 => walk_at "dp"); (case a2 => walk_at "dpa"))
  | fail "dpa")
local macro_rules | `(tactic| walk_at "dx") => `(tactic| first
  | assumption
  | exact .str _
  | exact .int _
  | exact .bl _
  | exact .non
  | (refine' Dx.lst (SqL.of ?a1) ?a2; (case a1 => walk_at "lk"); (case a2 => walk_at "dxa"))
  | (refine' Dx.tup (SqT.of ?a1) ?a2; (case a1 => walk_at "lk"); (case a2 => walk_at "dxa"))
  | (refine' Dx.dct (.inl ?a1) ?a2; (case a1 => walk_at "lk"); (case a2 => exact .nil))
  | (refine' dx_ext ?a1 ?a2; (case a1 => assumption); (case a2 => walk_at "fr"))
  | fail "dx")
local macro_rules | `(tactic| walk_at "dxa") => `(tactic| first
  | assumption
  | exact .nil
  | (refine' DxAll.cons ?a1 ?a2; (case a1 => walk_at "dx"); (case a2 => walk_at "dxa"))
  | fail "dxa")
local macro_rules | `(tactic| walk_at "ty") => `(tactic| first
  | assumption
  | (refine' ty_ext ?a1 ?a2; (case a1 => assumption); (case a2 => walk_at "fr"))
  | fail "ty")
local macro_rules | `(tactic| walk_at "shp") => `(tactic| first
  | assumption
  | (simp only [SeqAt.shaped, lay_l, lay_t, lay_i, lay_b, lay_n, lay_c, lay_e, PyData.depth, PyData.depthAll, Bool.and_true, Bool.true_and, Bool.and_eq_true, decide_eq_true_eq]
     repeat' (first | assumption | (refine And.intro ?_ ?_) | (exact rfl) | (decide +kernel) | omega))
  | decide +kernel)
local macro_rules | `(tactic| walk_at "side") => `(tactic| first
  | assumption
  | (intros; trivial)
  | omega
  | (walk_at "lk")
  | (walk_at "st")
  | (walk_at "sz")
  | (walk_at "tb")
  | (walk_at "fr"))
local macro_rules | `(tactic| walk_at "cl") => `(tactic| ((repeat' (apply Exists.intro)); refine And.intro rfl ?_; repeat (refine And.intro (by walk_at "side") ?_)))
local macro_rules | `(tactic| walk_at "eqd") => `(tactic| (refine ⟨_, _, by walk_at "dp", by walk_at "dp", by walk_at "shp", by walk_at "shp", ?_⟩; rw [eqv_same (by walk_at "shp")]))
local macro_rules | `(tactic| walk_at "new") => `(tactic| refine fun (p : Addr) (hp : (_ : Hp) p = none) => ?_)
local macro_rules | `(tactic| walk_at "rdn") => `(tactic| (repeat' (first | walk_at "rd" | walk_at "new")))

theorem ok__law_begin (T : Tx P w K mg base) : FnOk P w K mg base CX0 1 T.d__law_begin.f T.d__law_begin.fd ["script", "spot"] (sp__law_begin K) := by
  have sc := sc__law_begin
  refine T.d__law_begin.F.ok sc (fun vs H Q E h => ?_) (fun cdv A outer s H vs Q E hr h => ?_)
  · obtain ⟨a, ns, k, rfl, hs, hn, h1, h2, q⟩ := h
    rfl
  · obtain ⟨a, ns, k, rfl, hs, hn, h1, h2, q⟩ := h
    refine ⟨_, (pss_cons (ps_set (i := 2) sc.nd rfl (Or.inl rfl) (pe_ifExp (pt_cmpR (op_neD hr.units) (pv 0) (pe_lst pa_nil) (nomark _)) (pe_ix ix_list (pv 0) (pe_op op_mod (pe_callTy call_int1 (by rfl) T.n_int (by decide +kernel) (pa_cons (pv 1) pa_nil)) (pe_callB call_len (by rfl) T.n_len PySem.boot_len (pa_cons (pv 0) pa_nil))) (fun _ _ => rfl)) pe_int))
      (pss_one (ps_ret (pe_disp (pps_cons pe_str (pe_ifExp (pt_cmpR op_ge (pv 2) (pe_op op_pow pe_int pe_int) (nomark _)) (pv 2) pe_int) (pps_cons pe_str (pe_op op_mod (pe_callTy call_int1 (by rfl) T.n_int (by decide +kernel) (pa_cons (pe_op op_add (pe_op op_add (pe_op op_mul pe_int (pv 2)) (pv 1)) pe_int) pa_nil)) pe_int) (pps_cons pe_str pe_int pps_nil))) rfl rfl (by simp) (by decide))))), ?_⟩
    walk_at "rds"
    intro p hp
    have hs2 : LsX K (upd H p (.lst [])) a (ns.map V.int) := hs.keep fun o e => lk_new hp e
    refine ⟨_, _, .lst hs2.sq (dp_intsAll ns), .lst (SqL.of upd_same) .nil, shaped_ints ns, rfl, _, rfl, ?_⟩
    have s1 : Same H (upd H p (.lst [])) := Same.new (Same.refl _) hp
    generalize upd H p (.lst []) = H1 at *
    have fin : ∀ (z : Int) (H2 : Hp) (l m : Int) (p2 : Addr), H1 p2 = none → H2 = upd (upd H1 p2 (.dK [])) p2 (.dK (stD l m 0)) → Q (.ref p2) H2 := fun z H2 l m p2 hp2 e => by
      rw [e, upd_upd]
      have n2 : H p2 = none := by
        cases e : H p2 with
        | none => rfl
        | some u => rw [s1 _ _ e] at hp2; cases hp2
      exact q p2 _ n2 (Same.new s1 hp2) ⟨l, m, 0, upd_same, Int.le_refl _, Int.le_refl _⟩
    rw [eqv_nilI]
    cases hne : ns.isEmpty with
    | true =>
      walk_at "rds"
      intro p2 hp2
      walk_at "rds"
      all_goals (refine ⟨upd_same, stD _ _ 0, rfl, Nat.le_of_ble_eq_true rfl, ?_⟩; exact fin 0 _ _ _ p2 hp2 rfl)
    | false =>
      have hpos : 0 < ns.length := by
        cases ns with
        | nil => cases hne
        | cons x r => exact Nat.succ_pos _
      walk_at "rds"
      refine ⟨_, _, rfl, .inl ⟨_, hs2.sq, rfl⟩, ?_⟩
      rw [List.length_map]
      walk_at "rds"
      have em : 0 ≤ k % (ns.length : Int) ∧ k % (ns.length : Int) < (ns.length : Int) := ⟨Int.emod_nonneg _ (by omega), Int.emod_lt_of_pos _ (by omega)⟩
      obtain ⟨i, x, hi, e, _⟩ := at_int (xs := ns.map V.int) em.1 (by rw [List.length_map]; exact em.2)
      obtain ⟨z, _, rfl⟩ := List.mem_map.mp (List.mem_of_getElem? hi)
      refine ⟨_, _, _, _, rfl, rfl, hs2.sq, e, ?_⟩
      intro p2 hp2
      walk_at "rds"
      all_goals (refine ⟨upd_same, stD _ _ 0, rfl, Nat.le_of_ble_eq_true rfl, ?_⟩; exact fin 0 _ _ _ p2 hp2 rfl)

theorem ok__law_draw (T : Tx P w K mg base) : FnOk P w K mg base CX0 1 T.d__law_draw.f T.d__law_draw.fd ["state", "size"] sp__law_draw := by
  have sc := sc__law_draw
  refine T.d__law_draw.F.ok sc (fun vs H Q E h => ?_) (fun cdv A outer s H vs Q E hr h => ?_)
  · obtain ⟨a, c, top, rfl, hs, hc, t0, t1, q⟩ := h
    rfl
  · obtain ⟨a, c, top, rfl, hs, hc, t0, t1, q⟩ := h
    refine ⟨_, (pss_cons (ps_if (pt_cmpR op_gt (pe_dget (hu_of hr) (pv 0) pe_str (fun _ _ => rfl)) pe_int (nomark _)) (pss_cons (ps_set (i := 2) sc.nd rfl (Or.inl rfl) (pe_op op_mod (pe_callTy call_int1 (by rfl) T.n_int (by decide +kernel) (pa_cons (pe_dget (hu_of hr) (pv 0) pe_str (fun _ _ => rfl)) pa_nil)) (pv 1)))
      (pss_cons (ps_asg (pe_op op_fdiv (pe_dget (hu_of hr) (pv 0) pe_str (fun _ _ => rfl)) (pv 1)) (pg_sub (pv 0) pe_str (set_dict (hu_of hr))))
      (pss_one (ps_ret (pv 2))))) pss_nil)
      (pss_cons (ps_asg (pe_op op_add (pe_dget (hu_of hr) (pv 0) pe_str (fun _ _ => rfl)) pe_int) (pg_sub (pv 0) pe_str (set_dict (hu_of hr))))
      (pss_cons (ps_asg (pe_op op_mod (pe_callTy call_int1 (by rfl) T.n_int (by decide +kernel) (pa_cons (pe_op op_add (pe_op op_add (pe_op op_mul (pe_dget (hu_of hr) (pv 0) pe_str (fun _ _ => rfl)) pe_int) (pe_op op_mul pe_int (pe_dget (hu_of hr) (pv 0) pe_str (fun _ _ => rfl)))) pe_int) pa_nil)) pe_int) (pg_sub (pv 0) pe_str (set_dict (hu_of hr))))
      (pss_one (ps_ret (pe_op op_mod (pe_callTy call_int1 (by rfl) T.n_int (by decide +kernel) (pa_cons (pe_op op_fdiv (pe_dget (hu_of hr) (pv 0) pe_str (fun _ _ => rfl)) pe_int) pa_nil)) (pv 1))))))), ?_⟩
    obtain ⟨l, mx, t, ha, n0, n1⟩ := hs
    walk_at "rds"
    refine ⟨a, _, rfl, gdL ha, ?_⟩
    walk_at "rds"
    · rename_i h0
      refine ⟨a, _, rfl, gdL ha, ?_⟩
      walk_at "rds"
      refine ⟨a, _, rfl, gdL ha, ?_⟩
      walk_at "rds"
      refine ⟨a, _, rfl, pdL ha, ?_⟩
      walk_at "rds"
      have em : 0 ≤ l % top ∧ l % top < top := ⟨Int.emod_nonneg _ (by omega), Int.emod_lt_of_pos _ t0⟩
      exact q _ _ em.1 em.2 (Kp.refl _ _).upd ⟨_, _, _, upd_same, n0, by omega⟩
    · rename_i h0
      refine ⟨a, _, rfl, gdT ha, ?_⟩
      walk_at "rds"
      refine ⟨a, _, rfl, pdT ha, ?_⟩
      have h1 : upd H a (.dK (stD l mx (t + 1))) a = some (.dK (stD l mx (t + 1))) := upd_same
      have k1 : Kp a H (upd H a (.dK (stD l mx (t + 1)))) := (Kp.refl _ _).upd
      generalize upd H a (.dK (stD l mx (t + 1))) = H1 at *
      walk_at "rds"
      refine ⟨a, _, rfl, gdM h1, ?_⟩
      walk_at "rds"
      refine ⟨a, _, rfl, gdT h1, ?_⟩
      walk_at "rds"
      refine ⟨a, _, rfl, pdM h1, ?_⟩
      generalize (mx * 69621 + 7 * (t + 1) + 127) % 2147483647 = m2
      have h2 : upd H1 a (.dK (stD l m2 (t + 1))) a = some (.dK (stD l m2 (t + 1))) := upd_same
      have k2 : Kp a H (upd H1 a (.dK (stD l m2 (t + 1)))) := k1.upd
      generalize upd H1 a (.dK (stD l m2 (t + 1))) = H2 at *
      walk_at "rds"
      refine ⟨a, _, rfl, gdM h2, ?_⟩
      walk_at "rds"
      have em : 0 ≤ (m2 / 37) % top ∧ (m2 / 37) % top < top := ⟨Int.emod_nonneg _ (by omega), Int.emod_lt_of_pos _ t0⟩
      exact q _ _ em.1 em.2 k2 ⟨_, _, _, h2, by omega, by omega⟩

theorem ok__law_pick (T : Tx P w K mg base) (G__law_draw : FnOk P w K mg base CX0 1 T.d__law_draw.f T.d__law_draw.fd ["state", "size"] sp__law_draw) : FnOk P w K mg base CX0 2 T.d__law_pick.f T.d__law_pick.fd ["state", "items"] sp__law_pick := by
  have sc := sc__law_pick
  refine T.d__law_pick.F.ok sc (fun vs H Q E h => ?_) (fun cdv A outer s H vs Q E hr h => ?_)
  · obtain ⟨a, c, b, xs, rfl, hs, hc, hb, x0, x1, q⟩ := h
    rfl
  · obtain ⟨a, c, b, xs, rfl, hs, hc, hb, x0, x1, q⟩ := h
    refine ⟨_, (pss_one (ps_ret (pe_ix ix_list (pv 1) (pe_call G__law_draw (hr.mono (by decide)) rfl T.d__law_draw.m T.d__law_draw.F.kp T.d__law_draw.b .nil pass0 (pa_cons (pv 0) (pa_cons (pe_callB call_len (by rfl) T.n_len PySem.boot_len (pa_cons (pv 1) pa_nil)) pa_nil))) (fun _ _ => rfl)))), ?_⟩
    walk_at "rds"
    refine ⟨_, _, rfl, .inl ⟨_, SqL.of hb, rfl⟩, ?_⟩
    walk_at "rds"
    refine ⟨a, c, _, rfl, hs, hc, by omega, by omega, fun r H' r0 r1 kp st => ?_⟩
    obtain ⟨i, x, hi, e, _⟩ := at_int r0 r1
    have hb' : H' b = some (.lst xs) := lk_kd kp hs (fun _ z => by cases z) hb
    exact ⟨_, _, _, _, rfl, rfl, SqL.of hb', e, q i x H' hi kp st⟩

/-- a text of signs below 128, of at most n signs -/
def Tx8 (n : Nat) (z : Str) : Prop := z.cps.size ≤ n ∧ ∀ c ∈ z.cps.toList, c < 128
theorem Tx8.app {n k : Nat} {x y : Str} (a : Tx8 n x) (b : Tx8 k y) : Tx8 (n + k) (x ++ y) := by
  obtain ⟨a1, a2⟩ := a
  obtain ⟨b1, b2⟩ := b
  have e : (x ++ y).cps.toList = x.cps.toList ++ y.cps.toList := TL.tl_append x y
  have e2 : (x ++ y).cps.size = x.cps.size + y.cps.size := by
    have := congrArg List.length e
    simpa using this
  refine ⟨by omega, fun c hc => ?_⟩
  rw [e] at hc
  rcases List.mem_append.mp hc with hc | hc
  · exact a2 c hc
  · exact b2 c hc
theorem Tx8.mono {n k : Nat} {x : Str} (a : Tx8 n x) (h : n ≤ k) : Tx8 k x := ⟨Nat.le_trans a.1 h, a.2⟩
theorem Tx8.one {xs : List V} (h : ∀ x ∈ xs, ∃ z : Str, x = .str z ∧ Tx8 1 z) {i : Nat} {x : V} (e : xs[i]? = some x) : ∃ z : Str, x = .str z ∧ Tx8 1 z := h x (List.mem_of_getElem? e)
instance {n : Nat} {z : Str} : Decidable (Tx8 n z) := by unfold Tx8; infer_instance
theorem cut_front8 {z : Str} {r n : Nat} (h : Tx8 n z) : Tx8 r (cutS z none (some (r : Int))) := by
  have e : (cutS z none (some (r : Int))).cps.toList = (z.cps.toList.drop 0).take (HT.sIx z.length z.length (some (r : Int)) - 0) := rfl
  rw [HT.sIx_nat] at e
  refine ⟨?_, fun c hc => ?_⟩
  · rw [← Array.length_toList, e, List.length_take]
    omega
  · rw [e] at hc
    exact h.2 c (List.mem_of_mem_drop (List.mem_of_mem_take hc))
theorem cut_back8 {z : Str} {r n : Nat} (h : Tx8 n z) : Tx8 (z.cps.size - r) (cutS z (some (r : Int)) none) := by
  have e : (cutS z (some (r : Int)) none).cps.toList = (z.cps.toList.drop (HT.sIx z.length 0 (some (r : Int)))).take (z.length - HT.sIx z.length 0 (some (r : Int))) := rfl
  rw [HT.sIx_nat] at e
  have zl : z.length = z.cps.size := rfl
  refine ⟨?_, fun c hc => ?_⟩
  · rw [← Array.length_toList, e, List.length_take, List.length_drop, Array.length_toList]
    omega
  · rw [e] at hc
    exact h.2 c (List.mem_of_mem_drop (List.mem_of_mem_take hc))
theorem tx_list {l : List Str} {n : Nat} (h : ∀ z ∈ l, Tx8 n z) : ∀ x ∈ l.map V.str, ∃ z : Str, x = .str z ∧ Tx8 n z := fun x hx => by
  obtain ⟨z, hz, rfl⟩ := List.mem_map.mp hx
  exact ⟨z, rfl, h z hz⟩
def sp__law_part : Sp := fun vs H Q _ => ∃ (a : Addr) (c : Int), vs = [.ref a] ∧ StD a c H ∧ c ≤ 1000000 ∧ ∀ (z : Str) (H' : Hp), Tx8 5 z → Kp a H H' → StD a (c + 10) H' → Q (.str z) H'
def sp__law_bent : Sp := fun vs H Q _ => ∃ (a : Addr) (c : Int) (x : Str), vs = [.ref a, .str x] ∧ StD a c H ∧ c ≤ 1000000 ∧ Tx8 100 x ∧ ∀ (z : Str) (H' : Hp), Tx8 (x.cps.size + 1) z → Kp a H H' → StD a (c + 3) H' → Q (.str z) H'

theorem ok__law_part (T : Tx P w K mg base) (G__law_draw : FnOk P w K mg base CX0 1 T.d__law_draw.f T.d__law_draw.fd ["state", "size"] sp__law_draw) (G__law_pick : FnOk P w K mg base CX0 2 T.d__law_pick.f T.d__law_pick.fd ["state", "items"] sp__law_pick) : FnOk P w K mg base CX0 3 T.d__law_part.f T.d__law_part.fd ["state"] sp__law_part := by
  have sc := sc__law_part
  refine T.d__law_part.F.ok sc (fun vs H Q E h => ?_) (fun cdv A outer s H vs Q E hr h => ?_)
  · obtain ⟨a, c, rfl, hs, hc, q⟩ := h
    rfl
  · obtain ⟨a, c, rfl, hs, hc, q⟩ := h
    refine ⟨_, (pss_cons (ps_set (i := 1) sc.nd rfl (Or.inl rfl) (pe_call G__law_pick (hr.mono (by decide)) rfl T.d__law_pick.m T.d__law_pick.F.kp T.d__law_pick.b .nil pass0 (pa_cons (pv 0) (pa_cons (pe_lst (pa_cons pe_str (pa_cons pe_str (pa_cons pe_str (pa_cons pe_str (pa_cons pe_str pa_nil)))))) pa_nil))))
      (pss_cons (ps_for PassesOwn.never rfl (pi_range1 rfl T.n_range (pa_cons (pe_call G__law_draw (hr.mono (by decide)) rfl T.d__law_draw.m T.d__law_draw.F.kp T.d__law_draw.b .nil pass0 (pa_cons (pv 0) (pa_cons pe_int pa_nil))) pa_nil)) (pg_name (i := 2) sc.nd rfl (Or.inl rfl)) (pss_one (ps_set (i := 1) sc.nd rfl (Or.inl rfl) (pe_op op_add_str (pv 1) (pe_call G__law_pick (hr.mono (by decide)) rfl T.d__law_pick.m T.d__law_pick.F.kp T.d__law_pick.b .nil pass0 (pa_cons (pv 0) (pa_cons (pe_lst (pa_cons pe_str (pa_cons pe_str (pa_cons pe_str (pa_cons pe_str (pa_cons pe_str (pa_cons pe_str (pa_cons pe_str (pa_cons pe_str pa_nil))))))))) pa_nil)))))))
      (pss_one (ps_ret (pv 1))))), ?_⟩
    walk_at "rds"
    intro p hp
    refine ⟨a, c, p, _, rfl, sd_new hp hs, by omega, upd_same, by decide, by decide, fun i x H1 hi k1 s1 => ?_⟩
    obtain ⟨z0, rfl, hz0⟩ := tx_list (l := ["a", "Z", "_", "x", "m"]) (n := 1) (by decide) _ (List.mem_of_getElem? hi)
    have k1 : Kp a H H1 := (kp_new hp (Kp.refl _ _)).trans k1
    clear hp hs hi
    walk_at "rds"
    refine ⟨a, c + 1, _, rfl, s1, by omega, by decide, by decide, fun r H2 r0 r1 k2 s2 => ?_⟩
    have k2 := k1.trans k2
    clear k1 s1
    walk_at "rds"
    refine for_range (fun j σ H' => Kp a H H' ∧ StD a (c + 2 + (j : Int)) H' ∧ ∃ z v, Tx8 (1 + j) z ∧ σ = [some (.ref a), some (.str z), v]) ⟨k2, s2.mono (by omega), z0, _, hz0, rfl⟩ ?_ ?_
    · rintro j σ H3 hj ⟨k3, s3, z, v, hz, rfl⟩
      have hj4 : j < 5 := by omega
      walk_at "rds"
      intro p hp
      refine ⟨a, _, p, _, rfl, sd_new hp s3, by omega, upd_same, by decide, by decide, fun i x H4 hi k4 s4 => ?_⟩
      obtain ⟨y, rfl, hy⟩ := tx_list (l := ["a", "Z", "_", "0", "9", "-", ".", "x"]) (n := 1) (by decide) _ (List.mem_of_getElem? hi)
      have hzl : z.length ≤ 1 + j := hz.1
      have hyl : y.length ≤ 1 := hy.1
      walk_at "rds"
      exact ⟨k3.trans ((kp_new hp (Kp.refl _ _)).trans k4), s4.mono (by omega), z ++ y, _, (hz.app hy).mono (by omega), rfl⟩
    · rintro σ H3 ⟨k3, s3, z, v, hz, rfl⟩
      walk_at "rds"
      exact q z _ (hz.mono (by omega)) k3 (s3.mono (by omega))

theorem ok__law_bent (T : Tx P w K mg base) (G__law_draw : FnOk P w K mg base CX0 1 T.d__law_draw.f T.d__law_draw.fd ["state", "size"] sp__law_draw) (G__law_pick : FnOk P w K mg base CX0 2 T.d__law_pick.f T.d__law_pick.fd ["state", "items"] sp__law_pick) : FnOk P w K mg base CX0 3 T.d__law_bent.f T.d__law_bent.fd ["state", "label"] sp__law_bent := by
  have sc := sc__law_bent
  refine T.d__law_bent.F.ok sc (fun vs H Q E h => ?_) (fun cdv A outer s H vs Q E hr h => ?_)
  · obtain ⟨a, c, x, rfl, hs, hc, hx, q⟩ := h
    rfl
  · obtain ⟨a, c, x, rfl, hs, hc, hx, q⟩ := h
    refine ⟨_, (pss_cons (ps_par (i := 2) (j := 3) (by rfl) sc.nd rfl rfl (by decide) rfl rfl (pa_cons (pe_call G__law_draw (hr.mono (by decide)) rfl T.d__law_draw.m T.d__law_draw.F.kp T.d__law_draw.b .nil pass0 (pa_cons (pv 0) (pa_cons (pe_op op_add (pe_callB call_len (by rfl) T.n_len PySem.boot_len (pa_cons (pv 1) pa_nil)) pe_int) pa_nil))) (pa_cons (pe_call G__law_pick (hr.mono (by decide)) rfl T.d__law_pick.m T.d__law_pick.F.kp T.d__law_pick.b .nil pass0 (pa_cons (pv 0) (pa_cons (pe_lst (pa_cons pe_str (pa_cons pe_str (pa_cons pe_str (pa_cons pe_str (pa_cons pe_str (pa_cons pe_str (pa_cons pe_str (pa_cons pe_str (pa_cons pe_str pa_nil)))))))))) pa_nil))) pa_nil)) (by rfl))
      (pss_one (ps_ret (pe_op op_add_str (pe_op op_add_str (pe_slice sl_str (pv 1) po_none (po_some (pv 2))) (pv 3)) (pe_slice sl_str (pv 1) (po_some (pe_op op_add (pv 2) (pe_call G__law_draw (hr.mono (by decide)) rfl T.d__law_draw.m T.d__law_draw.F.kp T.d__law_draw.b .nil pass0 (pa_cons (pv 0) (pa_cons pe_int pa_nil))))) po_none))))), ?_⟩
    have xl : x.length = x.cps.size := rfl
    have x1 := hx.1
    walk_at "rds"
    refine ⟨a, c, _, rfl, hs, by omega, by omega, by omega, fun r H1 r0 r1 k1 s1 => ?_⟩
    walk_at "rds"
    intro p hp
    refine ⟨a, _, p, _, rfl, sd_new hp s1, by omega, upd_same, by decide, by decide, fun i y H2 hi k2 s2 => ?_⟩
    obtain ⟨y, rfl, hy⟩ := tx_list (l := [":", "-", " ", "0", "a", "", "&", "\n", "."]) (n := 1) (by decide) _ (List.mem_of_getElem? hi)
    have k2 := k1.trans ((kp_new hp (Kp.refl _ _)).trans k2)
    clear k1 s1 hp hi hs
    walk_at "rds"
    refine ⟨_, _, rfl, ?_⟩
    obtain ⟨r, rfl⟩ := Int.eq_ofNat_of_zero_le r0
    have c1 := cut_front8 (r := r) hx
    have y1 := hy.1
    have yl : y.length = y.cps.size := rfl
    have cl1 : (cutS x none (some (r : Int))).length = (cutS x none (some (r : Int))).cps.size := rfl
    have cl2 := c1.1
    walk_at "rds"
    refine ⟨a, c + 1 + 1, _, rfl, s2, by omega, by decide, by decide, fun r2 H3 q0 q1 k3 s3 => ?_⟩
    obtain ⟨r2, rfl⟩ := Int.eq_ofNat_of_zero_le q0
    have ei : ((r : Int) + (r2 : Int)) = ((r + r2 : Nat) : Int) := by omega
    have c3 := cut_back8 (r := r + r2) hx
    have c4 := (c1.app hy).app c3
    have cl3 : (cutS x (some ((r + r2 : Nat) : Int)) none).length = (cutS x (some ((r + r2 : Nat) : Int)) none).cps.size := rfl
    have cl4 := c3.1
    have cl5 := (c1.app hy).1
    have cl6 : (cutS x none (some (r : Int)) ++ y).length = (cutS x none (some (r : Int)) ++ y).cps.size := rfl
    rw [← ei] at c3 c4 cl3 cl4
    walk_at "rds"
    exact q _ _ (c4.mono (by omega)) (k2.trans k3) (s3.mono (by omega))

end
end K4

set_option maxHeartbeats 1000000
set_option pp.maxSteps 700
set_option pp.deepTerms false
set_option pp.deepTerms.threshold 14
namespace K4
open PySem PySem.Spec PyProof.Rows L2 Mx
/-! ### the program -/
open TL Nam
def NoStr (K : PySem.W.Frag) (H : Hp) (v : L2.V) : Prop := ∃ t, TyX K H v (.type t) ∧ kitB t "str" = some false
theorem nostr_ext {K : PySem.W.Frag} {H H' : Hp} {v : V} (h : NoStr K H v) (g : LamX.ExtN H H') : NoStr K H' v := let ⟨t, a, b⟩ := h; ⟨t, ty_ext a g, b⟩
theorem Tx8.len {n : Nat} {z : Str} (h : Tx8 n z) : (tl z).length ≤ n := by rw [← len_tl]; exact h.1
theorem Tx8.wd {n : Nat} {z : Str} (h : Tx8 n z) (hn : n ≤ 1000) : Wd z := ⟨Nat.le_trans h.len hn, fun c hc => Nat.lt_trans (h.2 c hc) (by decide)⟩
theorem tx_of {n : Nat} {z : Str} (h1 : (tl z).length ≤ n) (h2 : ∀ c ∈ tl z, c < 128) : Tx8 n z := ⟨by rw [← len_tl] at h1; exact h1, h2⟩
theorem picked_true {α : Type} (n : Nat) (y : Nat → α) : picked n (fun _ => true) y = (List.range n).map y := by
  show ((List.range n).filter (fun _ => true)).map y = _
  rw [List.filter_eq_self.mpr (fun _ _ => rfl)]
theorem range_get {α : Type} (l : List α) (d : α) : (List.range l.length).map (fun i => l.getD i d) = l := by
  refine List.ext_getElem (by simp) fun i h1 h2 => ?_
  rw [List.getElem_map, List.getElem_range, List.getD_eq_getElem?_getD, List.getElem?_eq_getElem h2]
  rfl
theorem range_bl (f : Nat → Bool) (l : List Nat) : ((List.range l.length).map fun i => V.bl (f (l.getD i 0))) = (l.map f).map V.bl := by
  conv => rhs; rw [← range_get l 0]
  rw [List.map_map, List.map_map]
  rfl
theorem range_blA {α : Type} (f : α → Bool) (l : List α) (d : α) : ((List.range l.length).map fun i => V.bl (f (l.getD i d))) = (l.map f).map V.bl := by
  conv => rhs; rw [← range_get l d]
  rw [List.map_map, List.map_map]
  rfl
def sp_is_part_of_name (K : PySem.W.Frag) : Sp := fun vs H Q _ => ∃ v, vs = [v] ∧ ((∃ z : Str, v = .str z ∧ Tx8 1000 z ∧ ∀ H', Same H H' → Q (.bl (Nam.part (tl z))) H') ∨ (NoStr K H v ∧ Q (.bl false) H))
def sp_cut_name : Sp := fun vs H Q _ => ∃ z : Str, vs = [.str z] ∧ Tx8 1000 z ∧ ∀ H' p, Same H H' → H' p = none → Q (.ref p) (upd H' p (.tup [.str (preS z), .str (locS z)]))
def NoName (K : PySem.W.Frag) (H : Hp) (v : L2.V) : Prop := NoStr K H v ∨ ∃ z : Str, v = .str z ∧ Tx8 1000 z ∧ Nam.name (tl z) = false
def sp_split_name (K : PySem.W.Frag) (C : Addr) : Sp := fun vs H Q E => ∃ v, vs = [v] ∧ ((∃ z : Str, v = .str z ∧ Tx8 1000 z ∧ Nam.name (tl z) = true ∧ ∀ H' p, Same H H' → H' p = none → Q (.ref p) (upd H' p (.tup [.str (preS z), .str (locS z)]))) ∨
  (NoName K H v ∧ ∀ H' d, Same H H' → H' d = none → E (.ref C) (some d) (upd H' d (.xd [("given", v)]))))
def XMLN : Str := "http://www.w3.org/XML/1998/namespace"
def XMLNSN : Str := "http://www.w3.org/2000/xmlns/"
def badB (p n : Str) : Bool := decide (V.str p = .str "xmlns") || decide (V.str n = .str XMLNSN) || (decide (V.str p ≠ .str "") && decide (V.str n = .str "")) || (decide (V.str p = .str "xml") != decide (V.str n = .str XMLN))
def sp_is_bad_binding : Sp := fun vs H Q _ => ∃ p n : Str, vs = [.str p, .str n] ∧ Q (.bl (badB p n)) H
def bindS (p : Str) : Str := if p = "" then "xmlns" else ("xmlns:" : Str) ++ p
def sp_binding_name : Sp := fun vs H Q _ => ∃ p : Str, vs = [.str p] ∧ p.length ≤ 1000000 ∧ Q (.str (bindS p)) H

local macro_rules | `(tactic| walk_at "sz") => `(tactic| first | assumption | decide | omega | (unfold sizeLine; omega) | exact Nat.le_of_ble_eq_true rfl)
local macro_rules | `(tactic| walk_at "hp") => `(tactic| (first | assumption | exact upd_same | (rw [upd_ne (by assumption)]; assumption)))
local macro_rules | `(tactic| walk_at "rd") => `(tactic| (first
  | refine ⟨_, rfl, ?_⟩
  | (refine ⟨_, _, rfl, rfl, ?rdc, ?_⟩; (case rdc => first | (show (0 : Int) < _; omega) | (exact ⟨by omega, by omega⟩) | (exact .inl ⟨by omega, by omega⟩) | (exact .inr ⟨by omega, by omega⟩) | exact ⟨by decide, by decide, by decide⟩))
  | refine ⟨_, _, rfl, rfl, ?_⟩
  | refine .inl ⟨_, rfl, ?_⟩
  | refine ⟨rfl, ?_⟩
  | refine ⟨⟨_, rfl⟩, ?_⟩
  | refine ⟨⟨_, SqL.of (by walk_at "hp")⟩, ?_⟩
  | refine ⟨_, _, _, _, rfl, rfl, SqL.of (by walk_at "hp"), (by rfl), ?_⟩
  | refine ⟨_, _, _, _, rfl, rfl, (by walk_at "hp"), (by rfl), ?_⟩
  | refine ⟨_, _, rfl, ⟨by walk_at "sz", rfl⟩, ?_⟩
  | refine ⟨_, _, _, rfl, rfl, by walk_at "sz", by assumption, ?_⟩
  | refine And.intro (by walk_at "sz") ?_
  | refine itT rfl ?_
  | refine itF rfl ?_
  | refine itT (by assumption) ?_
  | refine itF (by assumption) ?_
  | refine itT (decide_eq_true (by omega)) ?_
  | refine itF (decide_eq_false (by omega)) ?_
  | refine itT (dVi (by omega)) ?_
  | refine itF (dViN (by omega)) ?_
  | refine itT (notT (by assumption)) ?_
  | refine itF (notF (by assumption)) ?_
  | refine itT (notT (dViN (by omega))) ?_
  | refine itF (notF (dVi (by omega))) ?_
  | refine itT (decide_eq_true rfl) ?_
  | refine itF (notF (decide_eq_true rfl)) ?_
  | refine ite2 (fun _ => ?_) (fun _ => ?_)
  | with_reducible refine tC_ ?_
  | with_reducible refine tNext_ ?_
  | with_reducible refine tNil_ ?_
  | with_reducible refine tYes_ ?_))
local macro_rules | `(tactic| walk_at "rds") => `(tactic| repeat' (walk_at "rd"))
section
variable {P : Program} {w : World} {K : PySem.W.Frag} {mg : Str → Option Value} {base : Heap}

local macro_rules | `(tactic| walk_at "lk") => `(tactic| first
  | with_reducible assumption
  | with_reducible exact upd_same
  | (walk_at "lk1"; walk_at "lk")
  | fail "lk")
local macro_rules | `(tactic| walk_at "lk1") => `(tactic| first
  | ((with_reducible refine' lk_new ?a1 ?a2); (case a1 => with_reducible assumption); (case' a2 => skip))
  | ((with_reducible refine' lk_ne ?a1 ?a2); (case a1 => with_reducible assumption); (case' a2 => skip))
  | ((with_reducible refine' lk_neN ?a1 ?a2 ?a3); (case a1 => with_reducible assumption); (case a2 => walk_at "lk"); (case' a3 => skip))
  | ((with_reducible refine' lk_neN' ?a1 ?a2 ?a3); (case a1 => with_reducible assumption); (case a2 => walk_at "lk"); (case' a3 => skip))
  | ((with_reducible refine' lk_same ?a1 ?a2); (case a1 => with_reducible assumption); (case' a2 => skip))
  | ((with_reducible refine' lk_go ?a1 ?a2 ?a3); (case a1 => with_reducible assumption); (case a2 => walk_at "nt"); (case' a3 => skip))
  | ((with_reducible refine' lk_kd ?a1 ?a2 ?a3 ?a4); (case a1 => with_reducible assumption); (case a2 => walk_at "st"); (case a3 => walk_at "nl"); (case' a4 => skip))
  | ((with_reducible refine' lk_kp ?a1 ?a2 ?a3); (case a1 => with_reducible assumption); (case a2 => walk_at "ne"); (case' a3 => skip))
  | fail "lk1")
local macro_rules | `(tactic| walk_at "nt") => `(tactic| first
  | (intro _ z; cases z)
  | fail "nt")
local macro_rules | `(tactic| walk_at "nl") => `(tactic| first
  | (intro _ z; cases z)
  | fail "nl")
local macro_rules | `(tactic| walk_at "ne") => `(tactic| first
  | with_reducible assumption
  | ((with_reducible refine' ne_sd ?a1 ?a2); (case a1 => with_reducible assumption); (case a2 => walk_at "st"))
  | fail "ne")
local macro_rules | `(tactic| walk_at "st") => `(tactic| first
  | with_reducible assumption
  | with_reducible exact sd_new (by with_reducible assumption) (by walk_at "st")
  | with_reducible exact sd_same (by with_reducible assumption) (by walk_at "st")
  | with_reducible exact sd_go (by with_reducible assumption) (by walk_at "st")
  | with_reducible exact sd_ne (by walk_at "ns") (by walk_at "st")
  | fail "st")
local macro_rules | `(tactic| walk_at "ns") => `(tactic| first
  | with_reducible assumption
  | with_reducible exact Ne.symm (by with_reducible assumption)
  | with_reducible exact Ne.symm (ne_sd (by with_reducible assumption) (by walk_at "st"))
  | fail "ns")
local macro_rules | `(tactic| walk_at "fr") => `(tactic| first
  | with_reducible assumption
  | with_reducible exact Same.refl _
  | with_reducible exact Go.refl _ _
  | with_reducible exact Kp.refl _ _
  | with_reducible exact LamX.ExtN.refl _
  | with_reducible exact nw_refl
  | (walk_at "fr1"; walk_at "fr")
  | fail "fr")
local macro_rules | `(tactic| walk_at "fr1") => `(tactic| first
  | ((with_reducible refine' fr_new ?a1 ?a2); (case a1 => with_reducible assumption); (case' a2 => skip))
  | ((with_reducible refine' go_new ?a1 ?a2); (case a1 => with_reducible assumption); (case' a2 => skip))
  | ((with_reducible refine' kp_new ?a1 ?a2); (case a1 => with_reducible assumption); (case' a2 => skip))
  | ((with_reducible refine' fr_same ?a1 ?a2); (case a1 => with_reducible assumption); (case' a2 => skip))
  | ((with_reducible refine' go_same ?a1 ?a2); (case a1 => with_reducible assumption); (case' a2 => skip))
  | ((with_reducible refine' kp_same ?a1 ?a2); (case a1 => with_reducible assumption); (case' a2 => skip))
  | ((with_reducible refine' go_go ?a1 ?a2); (case a1 => with_reducible assumption); (case' a2 => skip))
  | ((with_reducible refine' go_kd ?a1 ?a2 ?a3 ?a4); (case a1 => with_reducible assumption); (case a2 => with_reducible assumption); (case a3 => walk_at "st"); (case' a4 => skip))
  | ((with_reducible refine' kp_kp ?a1 ?a2); (case a1 => with_reducible assumption); (case' a2 => skip))
  | ((with_reducible refine' kp_upd ?a1); (case' a1 => skip))
  | ((with_reducible refine' go_set2 ?a1 ?a2 ?a3 ?a4); (case a1 => walk_at "lk"); (case a2 => with_reducible assumption); (case a3 => walk_at "fr"); (case' a4 => skip))
  | ((with_reducible refine' fr_set2 ?a1 ?a2 ?a3); (case a1 => with_reducible assumption); (case a2 => walk_at "fr"); (case' a3 => skip))
  | ((with_reducible refine' en_new ?a1 ?a2); (case a1 => with_reducible assumption); (case' a2 => skip))
  | ((with_reducible refine' en_same ?a1 ?a2); (case a1 => with_reducible assumption); (case' a2 => skip))
  | ((with_reducible refine' en_go ?a1 ?a2); (case a1 => with_reducible assumption); (case' a2 => skip))
  | ((with_reducible refine' en_set2 ?a1 ?a2 ?a3); (case a1 => with_reducible assumption); (case a2 => walk_at "fr"); (case' a3 => skip))
  | ((with_reducible refine' en_kp ?a1 ?a2 ?a3 ?a4); (case a1 => with_reducible assumption); (case a2 => with_reducible assumption); (case a3 => walk_at "fr"); (case' a4 => skip))
  | ((with_reducible refine' nw_new ?a1 ?a2); (case a1 => with_reducible assumption); (case' a2 => skip))
  | ((with_reducible refine' nw_same ?a1 ?a2); (case a1 => with_reducible assumption); (case' a2 => skip))
  | ((with_reducible refine' nw_go ?a1 ?a2); (case a1 => with_reducible assumption); (case' a2 => skip))
  | ((with_reducible refine' nw_kd ?a1 ?a2 ?a3); (case a1 => with_reducible assumption); (case a2 => walk_at "st"); (case' a3 => skip))
  | ((with_reducible refine' nw_set ?a1 ?a2); (case a1 => walk_at "lk"); (case' a2 => skip))
  | ((with_reducible refine' nw_set2 ?a1 ?a2 ?a3); (case a1 => with_reducible assumption); (case a2 => walk_at "fr"); (case' a3 => skip))
  | fail "fr1")
local macro_rules | `(tactic| walk_at "tb") => `(tactic| first
  | with_reducible assumption
  | (walk_at "tb1"; walk_at "tb")
  | fail "tb")
local macro_rules | `(tactic| walk_at "tb1") => `(tactic| first
  | ((with_reducible refine' tabs_new ?a1 ?a2); (case a1 => with_reducible assumption); (case' a2 => skip))
  | ((with_reducible refine' tabs_same ?a1 ?a2); (case a1 => with_reducible assumption); (case' a2 => skip))
  | ((with_reducible refine' tabs_go ?a1 ?a2); (case a1 => with_reducible assumption); (case' a2 => skip))
  | ((with_reducible refine' tabs_kd ?a1 ?a2 ?a3); (case a1 => with_reducible assumption); (case a2 => walk_at "st"); (case' a3 => skip))
  | ((with_reducible refine' tabs_set ?a1 ?a2); (case a1 => walk_at "lk"); (case' a2 => skip))
  | fail "tb1")
local macro_rules | `(tactic| walk_at "dg") => `(tactic| first
  | assumption
  | (refine' dp_ext ?a1 ?a2; (case a1 => assumption); (case a2 => walk_at "fr"))
  | (refine' dn_use ?a1 ?a2; (case a1 => assumption); (case a2 => walk_at "fr"))
  | fail "dg")
local macro_rules | `(tactic| walk_at "dp") => `(tactic| first
  | assumption
  | exact .str _
  | exact .int _
  | exact .bl _
  | exact .non
  | (refine' Dp.lst (SqL.of ?a1) ?a2; (case a1 => walk_at "lk"); (case a2 => walk_at "dpa"))
  | (refine' Dp.tup (SqT.of ?a1) ?a2; (case a1 => walk_at "lk"); (case a2 => walk_at "dpa"))
  | (walk_at "dg")
  | fail "dp")
local macro_rules | `(tactic| walk_at "dpa") => `(tactic| first
  | assumption
  | exact .nil
  | (refine' DpAll.cons ?a1 ?a2; (case a1 => walk_at "dp"); (case a2 => walk_at "dpa"))
  | fail "dpa")
local macro_rules | `(tactic| walk_at "dx") => `(tactic| first
  | assumption
  | exact .str _
  | exact .int _
  | exact .bl _
  | exact .non
  | (refine' Dx.lst (SqL.of ?a1) ?a2; (case a1 => walk_at "lk"); (case a2 => walk_at "dxa"))
  | (refine' Dx.tup (SqT.of ?a1) ?a2; (case a1 => walk_at "lk"); (case a2 => walk_at "dxa"))
  | (refine' Dx.dct (.inl ?a1) ?a2; (case a1 => walk_at "lk"); (case a2 => exact .nil))
  | (refine' dx_ext ?a1 ?a2; (case a1 => assumption); (case a2 => walk_at "fr"))
  | fail "dx")
local macro_rules | `(tactic| walk_at "dxa") => `(tactic| first
  | assumption
  | exact .nil
  | (refine' DxAll.cons ?a1 ?a2; (case a1 => walk_at "dx"); (case a2 => walk_at "dxa"))
  | fail "dxa")
local macro_rules | `(tactic| walk_at "ty") => `(tactic| first
  | assumption
  | (refine' ty_ext ?a1 ?a2; (case a1 => assumption); (case a2 => walk_at "fr"))
  | fail "ty")
local macro_rules | `(tactic| walk_at "shp") => `(tactic| first
  | assumption
  | (simp only [SeqAt.shaped, lay_l, lay_t, lay_i, lay_b, lay_n, lay_c, lay_e, PyData.depth, PyData.depthAll, Bool.and_true, Bool.true_and, Bool.and_eq_true, decide_eq_true_eq]
     repeat' (first | assumption | (refine And.intro ?_ ?_) | (exact rfl) | (decide +kernel) | omega))
  | decide +kernel)
local macro_rules | `(tactic| walk_at "side") => `(tactic| first
  | assumption
  | (intros; trivial)
  | omega
  | (walk_at "lk")
  | (walk_at "st")
  | (walk_at "sz")
  | (walk_at "tb")
  | (walk_at "fr"))
local macro_rules | `(tactic| walk_at "cl") => `(tactic| ((repeat' (apply Exists.intro)); refine And.intro rfl ?_; repeat (refine And.intro (by walk_at "side") ?_)))
local macro_rules | `(tactic| walk_at "eqd") => `(tactic| (refine ⟨_, _, by walk_at "dp", by walk_at "dp", by walk_at "shp", by walk_at "shp", ?_⟩; rw [eqv_same (by walk_at "shp")]))
local macro_rules | `(tactic| walk_at "new") => `(tactic| refine fun (p : Addr) (hp : (_ : Hp) p = none) => ?_)
local macro_rules | `(tactic| walk_at "rdn") => `(tactic| (repeat' (first | walk_at "rd" | walk_at "new")))

theorem ok_is_part_of_name (T : Tx P w K mg base) : FnOk P w K mg base CX0 1 T.d_is_part_of_name.f T.d_is_part_of_name.fd ["value"] (sp_is_part_of_name K) := by
  have sc := sc_is_part_of_name
  refine T.d_is_part_of_name.F.ok sc (fun vs H Q E h => ?_) (fun cdv A outer s H vs Q E hr h => ?_)
  · obtain ⟨v, rfl, hv⟩ := h
    rfl
  · obtain ⟨v, rfl, hv⟩ := h
    refine ⟨_, (pss_cons (ps_if (PW.pt (pw_or (pt_not (pt_val (pe_callB call_isi (by rfl) T.n_isinstance (by decide +kernel) (pa_cons (pv 0) (pa_cons ((pe_bltn (by rfl) T.n_str (by decide +kernel) (v := .ty "str") rfl)) pa_nil))))) (pw_or (pt_cmpR op_eq (pv 0) pe_str (nomark _)) (pw_or1 (pt_cmpR op_notIn_sign (pe_ix ix_str (pv 0) pe_int (fun _ _ => rfl)) (pe_gc rfl T.g_LETTERS) (by rfl)))))) (pss_one (ps_ret pe_bl)) pss_nil)
      (pss_one (ps_ret (pe_callB (cr_all rfl) (by rfl) T.n_all (by decide +kernel) (pa_cons (pe_lc (own := [("sign", 1)]) (g := gName 1) (tt := tYes) rfl sc.nd (pi_str (pv 0)) (blkOk_by (own := [("sign", 1)]) (N := ["value", "sign"]) (sc := defScope s_is_part_of_name) (by decide +kernel)) (fun _ _ _ _ _ => pg_name (i := 1) sc.nd rfl (Or.inl rfl)) (fun _ _ _ _ _ => pts_nil) (fun _ _ _ _ _ => pe_cmpR op_in_sign (pv 1) (pe_gc rfl T.g_INNER) (by rfl))) pa_nil))))), ?_⟩
    rcases hv with ⟨z, rfl, hz, q⟩ | ⟨⟨t, ht, kt⟩, q⟩
    · have hz1 := hz.len
      have zl : z.length = (tl z).length := len_tl z
      have zs : z.cps.size = (tl z).length := zl
      walk_at "rds"
      refine ⟨_, _, _, _, true, rfl, .ty _, .base (.str z), kit_ty (by decide +kernel), ?_⟩
      by_cases h0 : tl z = []
      · have h0' : decide (V.str z = V.str "") = true := by rw [Nam.empty_eq]; exact decide_eq_true h0
        have qf := q H (Same.refl _)
        rw [h0] at qf
        walk_at "rds"
        exact qf
      · have h0' : decide (V.str z = V.str "") = false := by rw [Nam.empty_eq]; exact decide_eq_false h0
        obtain ⟨c, r, hcr⟩ := List.exists_cons_of_ne_nil h0
        have hc : atI z.cps.toList 0 = some c := atI_nat (j := 0) (by show (tl z)[0]? = some c; rw [hcr]; rfl)
        have hL : decide (c ∈ ("abcdefghijklmnopqrstuvwxyzABCDEFGHIJKLMNOPQRSTUVWXYZ_" : Str).cps.toList) = isL c := Nam.inL c
        cases hlc : isL c with
        | false =>
          rw [hlc] at hL
          have qf := q H (Same.refl _)
          rw [hcr, show Nam.part (c :: r) = (isL c && r.all isI) from rfl, hlc] at qf
          walk_at "rds"
          exact qf
        | true =>
          rw [hlc] at hL
          walk_at "rds"
          intro D hD
          refine lc_flt walk_str (fun _ => true) (fun i => .bl (isI ((tl z).getD i 0))) hD (by omega) (fun _ _ => trivial) (fun i H1 x H2 y => y.1 ▸ Same.refl _) ?_ ?_
          · rintro i x H1 H2 Nx Mx hi sm ⟨rfl, d, hd, rfl⟩ k1 k2
            have e : (tl z).getD i 0 = d := by rw [List.getD_eq_getElem?_getD, Array.getElem?_toList, hd]; rfl
            simp only [e] at k1 k2
            refine ⟨rfl, ?_⟩
            walk_at "rds"
            have k3 := k1 (by trivial) _ (Same.refl _)
            rw [← Nam.inI] at k3
            exact k3
          · intro H1 sm hl
            rw [picked_true, zs, range_bl isI] at hl
            refine ⟨D, _, rfl, SqL.of hl, ?_⟩
            rw [List.all_map]
            have qf := q _ sm
            rw [hcr, show Nam.part (c :: r) = (isL c && r.all isI) from rfl, hlc] at qf
            have e2 : (tl z).all (id ∘ isI) = (true && r.all isI) := by rw [hcr]; show (isI c && r.all isI) = _; rw [L_I hlc]
            rw [e2]
            exact qf
    · walk_at "rds"
      refine ⟨_, _, _, _, false, rfl, .ty _, ht, kit_ty kt, ?_⟩
      walk_at "rds"
      exact q

theorem ok_cut_name (T : Tx P w K mg base) : FnOk P w K mg base CX0 1 T.d_cut_name.f T.d_cut_name.fd ["name"] sp_cut_name := by
  have sc := sc_cut_name
  refine T.d_cut_name.F.ok sc (fun vs H Q E h => ?_) (fun cdv A outer s H vs Q E hr h => ?_)
  · obtain ⟨z, rfl, hz, q⟩ := h
    rfl
  · obtain ⟨z, rfl, hz, q⟩ := h
    refine ⟨_, (pss_cons (ps_asg (pe_partition (pv 0) pe_str) (pg_tup (by rfl) (pgs_cons (pg_name (i := 1) sc.nd rfl (Or.inl rfl)) (pgs_cons (pg_name (i := 2) sc.nd rfl (Or.inl rfl)) (pgs_cons (pg_name (i := 3) sc.nd rfl (Or.inl rfl)) pgs_nil)))))
      (pss_one (ps_ret (pe_ifExp (pt_truth (pv 2) (by intro _; rfl)) (pe_tup (pa_cons (pv 1) (pa_cons (pv 3) pa_nil))) (pe_tup (pa_cons pe_str (pa_cons (pv 0) pa_nil))))))), ?_⟩
    have hz1 := hz.1
    have zl : z.length = z.cps.size := rfl
    have pc := part_colon3 z
    walk_at "rds"
    intro p hp
    have s1 : ∀ u, Same H (upd H p u) := fun u => Same.new (Same.refl _) hp
    rcases hc : cut1 (tl z) with _ | ⟨a, b⟩
    · rw [hc] at pc
      rw [show Txt.partition z (Str.ofString ":") = (z, Str.empty, Str.empty) from pc]
      refine ⟨p, _, rfl, SqT.of upd_same, rfl, ?_⟩
      have e1 : preS z = "" := by unfold preS preL; rw [hc]; all_goals rfl
      have e2 : locS z = z := by unfold locS locL; rw [hc]; all_goals exact mk_tl z
      rw [e1, e2] at q
      iterate 3 (refine ⟨_, _, rfl, ?_⟩)
      walk_at "rds"
      refine ⟨_, ⟨Nat.le_of_ble_eq_true rfl, rfl⟩, ?_⟩
      walk_at "rds"
      exact fun p2 hp2 => q _ p2 (s1 _) hp2
    · rw [hc] at pc
      rw [show Txt.partition z (Str.ofString ":") = ((⟨a.toArray⟩ : Str), (":" : Str), (⟨b.toArray⟩ : Str)) from pc]
      refine ⟨p, _, rfl, SqT.of upd_same, rfl, ?_⟩
      have e1 : preS z = ⟨a.toArray⟩ := by unfold preS preL; rw [hc]
      have e2 : locS z = ⟨b.toArray⟩ := by unfold locS locL; rw [hc]
      rw [e1, e2] at q
      iterate 3 (refine ⟨_, _, rfl, ?_⟩)
      walk_at "rds"
      refine ⟨_, ⟨Nat.le_of_ble_eq_true rfl, rfl⟩, ?_⟩
      walk_at "rds"
      exact fun p2 hp2 => q _ p2 (s1 _) hp2

theorem ok_split_name (T : Tx P w K mg base) (G_is_part_of_name : FnOk P w K mg base CX0 1 T.d_is_part_of_name.f T.d_is_part_of_name.fd ["value"] (sp_is_part_of_name K)) (G_cut_name : FnOk P w K mg base CX0 1 T.d_cut_name.f T.d_cut_name.fd ["name"] sp_cut_name) : FnOk P w K mg base (L2.CX P w) 3 T.d_split_name.f T.d_split_name.fd ["name"] (sp_split_name K T.a_InvalidName) := by
  have sc := sc_split_name
  refine T.d_split_name.F.okX sc (fun vs H Q E h => ?_) (fun cdv A outer s H vs Q E hr h => ?_)
  · obtain ⟨v, rfl, hv⟩ := h
    rfl
  · obtain ⟨v, rfl, hv⟩ := h
    refine ⟨_, (pss_cons (ps_if (PW.pt (pw_or (pt_not (pt_val (pe_callB call_isi (by rfl) T.n_isinstance (by decide +kernel) (pa_cons (pv 0) (pa_cons ((pe_bltn (by rfl) T.n_str (by decide +kernel) (v := .ty "str") rfl)) pa_nil))))) (pw_or1 (pt_not (pt_val (pe_callB (cr_all rfl) (by rfl) T.n_all (by decide +kernel) (pa_cons (pe_lc (own := [("part", 1)]) (g := gName 1) (tt := tYes) rfl sc.nd (pi_list (pe_bmS PySem.F.plainAttrs_str PySem.F.slot_str_split PySem.F.type_str_split mt_splitMax (pv 0) (pa_cons pe_str (pa_cons pe_int pa_nil)))) (blkOk_by (own := [("part", 1)]) (N := ["name", "part"]) (sc := defScope s_split_name) (by decide +kernel)) (fun _ _ _ _ _ => pg_name (i := 1) sc.nd rfl (Or.inl rfl)) (fun _ _ _ _ _ => pts_nil) (fun _ _ _ _ _ => pe_call G_is_part_of_name (hr.mono (by decide)) rfl T.d_is_part_of_name.m T.d_is_part_of_name.F.kp T.d_is_part_of_name.b .nil pass0 (pa_cons (pv 1) pa_nil))) pa_nil))))))) (pss_one (ps_raise rfl (takes_of rfl rfl rfl rfl) (pmk_x T.x_InvalidName (hr.mono (by decide)) rfl (pa_cons (pv 0) pa_nil)))) pss_nil)
      (pss_one (ps_ret (pe_call G_cut_name (hr.mono (by decide)) rfl T.d_cut_name.m T.d_cut_name.F.kp T.d_cut_name.b .nil pass0 (pa_cons (pv 0) pa_nil))))), ?_⟩
    rcases hv with ⟨z, rfl, hz, hn, q⟩ | ⟨⟨t, ht, kt⟩ | ⟨z, rfl, hz, hn⟩, q⟩
    · have hz1 := hz.1
      have zl : z.length = z.cps.size := rfl
      have zs := splitMax_colon z
      walk_at "rds"
      refine ⟨_, _, _, _, true, rfl, .ty _, .base (.str z), kit_ty (by decide +kernel), ?_⟩
      walk_at "rds"
      refine ⟨z, ":", 1, rfl, rfl, rfl, by decide, by decide, by unfold sizeLine; omega, fun pl hpl => ?_⟩
      have sL : Same H (upd H pl (.lst ((Txt.splitMax z ":" 1).map V.str))) := Same.new (Same.refl _) hpl
      have fL : upd H pl (.lst ((Txt.splitMax z ":" 1).map V.str)) pl = some (.lst ((Txt.splitMax z ":" 1).map V.str)) := upd_same
      have hall : (Txt.splitMax z ":" 1).all (fun y => Nam.part (tl y)) = Nam.name (tl z) := by rw [← split1_name, ← zs, List.all_map]; rfl
      have hsz : ∀ y ∈ Txt.splitMax z ":" 1, Tx8 1000 y := fun y hy => by
        have hm : tl y ∈ split1 (tl z) := by rw [← zs]; exact List.mem_map_of_mem hy
        have hm2 := split1_mem hm
        exact tx_of (Nat.le_trans hm2.1 hz.len) (fun c hc => hz.2 c (hm2.2 c hc))
      have hl2 : (Txt.splitMax z ":" 1).length ≤ 2 := by
        have e := congrArg List.length zs
        rw [List.length_map] at e
        rw [e]
        exact split1_len _
      generalize upd H pl (.lst ((Txt.splitMax z ":" 1).map V.str)) = HL at *
      generalize Txt.splitMax z ":" 1 = ys at *
      refine ⟨pl, rfl, ⟨_, SqL.of fL⟩, fun D hD => ?_⟩
      refine lc_flt walk_list (fun _ => true) (fun i => .bl (Nam.part (tl (ys.getD i "")))) hD (by rw [List.length_map]; omega) (fun H1 sm => SqL.of (sm _ _ fL)) (fun i H1 x H2 y => y.1 ▸ Same.refl _) ?_ ?_
      · rintro i x H1 H2 Nx Mx hi sm ⟨rfl, hx⟩ k1 k2
        rw [List.length_map] at hi
        rw [List.getElem?_map, List.getElem?_eq_getElem hi] at hx
        have hy : ys.getD i "" = ys[i] := by rw [List.getD_eq_getElem?_getD, List.getElem?_eq_getElem hi]; rfl
        have hm : ys[i] ∈ ys := List.getElem_mem hi
        simp only [hy] at k1 k2
        generalize ys[i] = y at *
        cases hx
        refine ⟨rfl, ?_⟩
        have hy8 := hsz y hm
        walk_at "rds"
        intro H3 s3
        exact k1 (by trivial) _ s3
      intro H1 sm hl
      have sA : Same H H1 := sL.trans sm
      rw [picked_true, List.length_map, range_blA (fun y => Nam.part (tl y)) ys ""] at hl
      refine ⟨D, _, rfl, SqL.of hl, ?_⟩
      rw [List.all_map]
      have e2 : ys.all (id ∘ fun y => Nam.part (tl y)) = Nam.name (tl z) := hall
      rw [e2, hn]
      walk_at "rds"
    
      exact fun H2 p s2 hp => q _ _ (sA.trans s2) hp
    · walk_at "rds"
      refine ⟨_, _, _, _, false, rfl, .ty _, ht, kit_ty kt, ?_⟩
      walk_at "rds"
      intro d hd
      exact q _ d (Same.refl _) hd
    · have hz1 := hz.1
      have zl : z.length = z.cps.size := rfl
      have zs := splitMax_colon z
      walk_at "rds"
      refine ⟨_, _, _, _, true, rfl, .ty _, .base (.str z), kit_ty (by decide +kernel), ?_⟩
      walk_at "rds"
      refine ⟨z, ":", 1, rfl, rfl, rfl, by decide, by decide, by unfold sizeLine; omega, fun pl hpl => ?_⟩
      have sL : Same H (upd H pl (.lst ((Txt.splitMax z ":" 1).map V.str))) := Same.new (Same.refl _) hpl
      have fL : upd H pl (.lst ((Txt.splitMax z ":" 1).map V.str)) pl = some (.lst ((Txt.splitMax z ":" 1).map V.str)) := upd_same
      have hall : (Txt.splitMax z ":" 1).all (fun y => Nam.part (tl y)) = Nam.name (tl z) := by rw [← split1_name, ← zs, List.all_map]; rfl
      have hsz : ∀ y ∈ Txt.splitMax z ":" 1, Tx8 1000 y := fun y hy => by
        have hm : tl y ∈ split1 (tl z) := by rw [← zs]; exact List.mem_map_of_mem hy
        have hm2 := split1_mem hm
        exact tx_of (Nat.le_trans hm2.1 hz.len) (fun c hc => hz.2 c (hm2.2 c hc))
      have hl2 : (Txt.splitMax z ":" 1).length ≤ 2 := by
        have e := congrArg List.length zs
        rw [List.length_map] at e
        rw [e]
        exact split1_len _
      generalize upd H pl (.lst ((Txt.splitMax z ":" 1).map V.str)) = HL at *
      generalize Txt.splitMax z ":" 1 = ys at *
      refine ⟨pl, rfl, ⟨_, SqL.of fL⟩, fun D hD => ?_⟩
      refine lc_flt walk_list (fun _ => true) (fun i => .bl (Nam.part (tl (ys.getD i "")))) hD (by rw [List.length_map]; omega) (fun H1 sm => SqL.of (sm _ _ fL)) (fun i H1 x H2 y => y.1 ▸ Same.refl _) ?_ ?_
      · rintro i x H1 H2 Nx Mx hi sm ⟨rfl, hx⟩ k1 k2
        rw [List.length_map] at hi
        rw [List.getElem?_map, List.getElem?_eq_getElem hi] at hx
        have hy : ys.getD i "" = ys[i] := by rw [List.getD_eq_getElem?_getD, List.getElem?_eq_getElem hi]; rfl
        have hm : ys[i] ∈ ys := List.getElem_mem hi
        simp only [hy] at k1 k2
        generalize ys[i] = y at *
        cases hx
        refine ⟨rfl, ?_⟩
        have hy8 := hsz y hm
        walk_at "rds"
        intro H3 s3
        exact k1 (by trivial) _ s3
      intro H1 sm hl
      have sA : Same H H1 := sL.trans sm
      rw [picked_true, List.length_map, range_blA (fun y => Nam.part (tl y)) ys ""] at hl
      refine ⟨D, _, rfl, SqL.of hl, ?_⟩
      rw [List.all_map]
      have e2 : ys.all (id ∘ fun y => Nam.part (tl y)) = Nam.name (tl z) := hall
      rw [e2, hn]
      walk_at "rds"
    
      intro d hd
      exact q _ d sA hd

theorem ok_is_bad_binding (T : Tx P w K mg base) : FnOk P w K mg base CX0 1 T.d_is_bad_binding.f T.d_is_bad_binding.fd ["prefix", "namespace"] sp_is_bad_binding := by
  have sc := sc_is_bad_binding
  refine T.d_is_bad_binding.F.ok sc (fun vs H Q E h => ?_) (fun cdv A outer s H vs Q E hr h => ?_)
  · obtain ⟨p, n, rfl, q⟩ := h
    rfl
  · obtain ⟨p, n, rfl, q⟩ := h
    refine ⟨_, (pss_cons (ps_if (PW.pt (pw_or (pt_cmpR op_eq (pv 0) pe_str (nomark _)) (pw_or (pt_cmpR op_eq (pv 1) (pe_gc rfl T.g_XMLNS) (nomark _)) (pw_or1 (PW.pt (pw_and (pt_cmpR op_ne (pv 0) pe_str (nomark _)) (pw_and1 (pt_cmpR op_eq (pv 1) pe_str (nomark _))))))))) (pss_one (ps_ret pe_bl)) pss_nil)
      (pss_one (ps_ret (pe_cmpR op_ne (pe_cmpR op_eq (pv 0) pe_str (nomark _)) (pe_cmpR op_eq (pv 1) (pe_gc rfl T.g_XML) (nomark _)) (nomark _))))), ?_⟩
    unfold badB at q
    have ne : ∀ b : Bool, (!b) = (b != true) := by decide
    cases h1 : decide (V.str p = V.str "xmlns") with
    | true =>
      rw [h1] at q
      walk_at "rds"
      exact q
    | false =>
      cases h2 : decide (V.str n = V.str "http://www.w3.org/2000/xmlns/") with
      | true =>
        rw [h1, show decide (V.str n = V.str XMLNSN) = true from h2] at q
        walk_at "rds"
        exact q
      | false =>
        rw [h1, show decide (V.str n = V.str XMLNSN) = false from h2] at q
        have fin : ∀ b1 b2 : Bool, decide (V.str p = V.str "xml") = b1 → decide (V.str n = V.str "http://www.w3.org/XML/1998/namespace") = b2 → (decide (V.str p ≠ V.str "") && decide (V.str n = V.str "")) = false → Q (.bl (!decide (V.bl b1 = V.bl b2))) H := fun b1 b2 e1 e2 e3 => by
          rw [e3, e1, show decide (V.str n = V.str XMLN) = b2 from e2] at q
          have e : (!decide (V.bl b1 = V.bl b2)) = (b1 != b2) := by cases b1 <;> cases b2 <;> rfl
          rw [e]
          exact q
        cases h3 : decide (V.str p = V.str "") with
        | true =>
          have h3' : decide (V.str p ≠ V.str "") = false := by rw [decide_not, h3]; rfl
          have f := fin _ _ rfl rfl (by rw [h3']; rfl)
          walk_at "rds"
          exact f
        | false =>
          have h3' : decide (V.str p ≠ V.str "") = true := by rw [decide_not, h3]; rfl
          cases h4 : decide (V.str n = V.str "") with
          | true =>
            rw [h3', h4] at q
            walk_at "rds"
            exact q
          | false =>
            have f := fin _ _ rfl rfl (by rw [h4, Bool.and_false])
            walk_at "rds"
            exact f

theorem ok_binding_name (T : Tx P w K mg base) : FnOk P w K mg base CX0 1 T.d_binding_name.f T.d_binding_name.fd ["prefix"] sp_binding_name := by
  have sc := sc_binding_name
  refine T.d_binding_name.F.ok sc (fun vs H Q E h => ?_) (fun cdv A outer s H vs Q E hr h => ?_)
  · obtain ⟨p, rfl, hp, q⟩ := h
    rfl
  · obtain ⟨p, rfl, hp, q⟩ := h
    refine ⟨_, (pss_one (ps_ret (pe_ifExp (pt_cmpR op_eq (pv 0) pe_str (nomark _)) pe_str (pe_joined (.cons pe_str (.cons (pe_fmt (pv 0)) .nil)))))), ?_⟩
    unfold bindS at q
    cases h3 : decide (V.str p = V.str "") with
    | true =>
      have e : p = "" := by injection of_decide_eq_true h3
      rw [if_pos e] at q
      walk_at "rds"
      exact q
    | false =>
      have e : ¬ p = "" := fun z => by rw [z] at h3; exact absurd h3 (by decide)
      rw [if_neg e] at q
      walk_at "rds"
      have e2 : Str.empty ++ Str.ofString "xmlns:" ++ p = Str.ofString "xmlns:" ++ p := by rw [show Str.empty ++ Str.ofString "xmlns:" = Str.ofString "xmlns:" from by decide]
      rw [e2]
      refine ⟨?_, q⟩
      rw [len_tl, tl_append, List.length_append, ← len_tl p, show (tl (Str.ofString "xmlns:")).length = 6 from rfl]
      unfold sizeLine
      omega

end
end K4

set_option maxHeartbeats 1000000
set_option pp.maxSteps 700
set_option pp.deepTerms false
set_option pp.deepTerms.threshold 14
namespace K4
open PySem PySem.Spec PyProof.Rows L2 Mx
/-! ### pairs of prefixes and namespaces -/
open TL Nam
theorem sqt_same {K : PySem.W.Frag} {H H' : Hp} {a : Addr} {xs : List V} (h : SqT K H a xs) (s : Same H H') : SqT K H' a xs := sqt_ext (LamX.ExtN.of s) h
theorem paired_at {α β : Type} {R : α → β → Prop} : ∀ {xs : List α} {ys : List β} {i : Nat} {x : α}, Paired R xs ys → xs[i]? = some x → ∃ y, ys[i]? = some y ∧ R x y
  | _, _, _, _, .nil, e => by simp at e
  | _, _, 0, _, .cons r _, e => by simp at e; subst e; exact ⟨_, rfl, r⟩
  | _, _, i + 1, x, .cons _ t, e => by
    obtain ⟨y, h1, h2⟩ := paired_at (i := i) (x := x) t (by simpa using e)
    exact ⟨y, by simpa using h1, h2⟩
theorem paired_map {ι α β : Type} {R : α → β → Prop} {f : ι → α} {g : ι → β} : ∀ {l : List ι}, (∀ i ∈ l, R (f i) (g i)) → Paired R (l.map f) (l.map g)
  | [], _ => .nil
  | i :: l, h => .cons (h i List.mem_cons_self) (paired_map fun j hj => h j (List.mem_cons_of_mem _ hj))
theorem paired_len {α β : Type} {R : α → β → Prop} : ∀ {xs : List α} {ys : List β}, Paired R xs ys → xs.length = ys.length
  | _, _, .nil => rfl
  | _, _, .cons _ t => congrArg Nat.succ (paired_len t)
theorem paired_app {α β : Type} {R : α → β → Prop} : ∀ {xs xs' : List α} {ys ys' : List β}, Paired R xs ys → Paired R xs' ys' → Paired R (xs ++ xs') (ys ++ ys')
  | _, _, _, _, .nil, s => s
  | _, _, _, _, .cons r t, s => .cons r (paired_app t s)
theorem paired_getD {α β : Type} {R : α → β → Prop} {xs : List α} {ys : List β} (h : Paired R xs ys) (a : α) (b : β) {i : Nat} (hi : i < xs.length) : R (xs.getD i a) (ys.getD i b) := by
  obtain ⟨y, e1, e2⟩ := paired_at h (List.getElem?_eq_getElem hi)
  rw [List.getD_eq_getElem?_getD, List.getD_eq_getElem?_getD, List.getElem?_eq_getElem hi, e1]
  exact e2
theorem paired_picked {α β : Type} {R : α → β → Prop} {xs : List α} {ys : List β} (h : Paired R xs ys) (a : α) (b : β) (g : β → Bool) :
    Paired R (picked xs.length (fun i => g (ys.getD i b)) (fun i => xs.getD i a)) (ys.filter g) := by
  rw [← picked_filter ys b g, ← paired_len h]
  exact paired_map fun i hi => paired_getD h a b (by simpa using (List.mem_filter.mp hi).1)
def PairT (H : Hp) (p : Addr) (kv : Str × Str) : Prop := H p = some (.tup [.str kv.1, .str kv.2])
abbrev PairsT (H : Hp) (ps : List Addr) (kvs : List (Str × Str)) : Prop := Paired (PairT H) ps kvs
theorem PairsT.same {H H' : Hp} {ps : List Addr} {kvs : List (Str × Str)} (h : PairsT H ps kvs) (s : Same H H') : PairsT H' ps kvs := Paired.mapP h fun _ _ e => s _ _ e
/-- a pair that may be bound -/
def GoodP (kv : Str × Str) : Prop := Tx8 1000 kv.1 ∧ (decide (V.str kv.1 ≠ V.str "") && !Nam.part (tl kv.1)) = false ∧ decide (V.str kv.2 = V.str "") = false ∧ kv.2.length ≤ 1000 ∧ badB kv.1 kv.2 = false
def sp_check_pairs (K : PySem.W.Frag) : Sp := fun vs H Q _ => ∃ (q : Addr) (ps : List Addr) (kvs : List (Str × Str)) (b : Bool), vs = [.ref q, .bl b] ∧ SqT K H q (ps.map .ref) ∧ PairsT H ps kvs ∧ ps.length ≤ 1000 ∧ (∀ kv ∈ kvs, GoodP kv) ∧ ∀ H', Same H H' → Q .non H'
/-- later pairs replace earlier ones -/
def joinK (kvs pairs : List (Str × Str)) : List (Str × Str) := pairs.foldl (fun acc p => acc.filter (fun q => !decide (V.str q.1 = V.str p.1)) ++ [p]) kvs
def sp_joined_links : Sp := fun vs H Q _ => ∃ (l q : Addr) (ls ps : List Addr) (lks kvs : List (Str × Str)), vs = [.ref l, .ref q] ∧ FzT H l (ls.map .ref) ∧ PairsT H ls lks ∧ (Rd H q (.tup (ps.map .ref))) ∧ PairsT H ps kvs ∧ ls.length + ps.length ≤ 1000 ∧ (∀ kv ∈ kvs, GoodP kv) ∧
  ∀ (r : Addr) (rs : List Addr) (H' : Hp), Same H H' → FzT H' r (rs.map .ref) → PairsT H' rs (joinK lks kvs) → Q (.ref r) H'

local macro_rules | `(tactic| walk_at "sz") => `(tactic| first | assumption | decide | omega | (unfold sizeLine; omega) | exact Nat.le_of_ble_eq_true rfl)
local macro_rules | `(tactic| walk_at "hp") => `(tactic| (first | assumption | exact upd_same | (rw [upd_ne (by assumption)]; assumption)))
local macro_rules | `(tactic| walk_at "rd") => `(tactic| (first
  | refine ⟨_, rfl, ?_⟩
  | (refine ⟨_, _, rfl, rfl, ?rdc, ?_⟩; (case rdc => first | (show (0 : Int) < _; omega) | (exact ⟨by omega, by omega⟩) | (exact .inl ⟨by omega, by omega⟩) | (exact .inr ⟨by omega, by omega⟩) | exact ⟨by decide, by decide, by decide⟩))
  | refine ⟨_, _, rfl, rfl, ?_⟩
  | refine .inl ⟨_, rfl, ?_⟩
  | refine ⟨rfl, ?_⟩
  | refine ⟨⟨_, rfl⟩, ?_⟩
  | refine ⟨⟨_, SqL.of (by walk_at "hp")⟩, ?_⟩
  | refine ⟨_, _, _, _, rfl, rfl, SqL.of (by walk_at "hp"), (by rfl), ?_⟩
  | refine ⟨_, _, _, _, rfl, rfl, (by walk_at "hp"), (by rfl), ?_⟩
  | refine ⟨_, _, rfl, ⟨by walk_at "sz", rfl⟩, ?_⟩
  | refine ⟨_, _, _, rfl, rfl, by walk_at "sz", by assumption, ?_⟩
  | refine And.intro (by walk_at "sz") ?_
  | refine itT rfl ?_
  | refine itF rfl ?_
  | refine itT (by assumption) ?_
  | refine itF (by assumption) ?_
  | refine itT (decide_eq_true (by omega)) ?_
  | refine itF (decide_eq_false (by omega)) ?_
  | refine itT (dVi (by omega)) ?_
  | refine itF (dViN (by omega)) ?_
  | refine itT (notT (by assumption)) ?_
  | refine itF (notF (by assumption)) ?_
  | refine itT (notT (dViN (by omega))) ?_
  | refine itF (notF (dVi (by omega))) ?_
  | refine itT (decide_eq_true rfl) ?_
  | refine itF (notF (decide_eq_true rfl)) ?_
  | refine ite2 (fun _ => ?_) (fun _ => ?_)
  | with_reducible refine tC_ ?_
  | with_reducible refine tNext_ ?_
  | with_reducible refine tNil_ ?_
  | with_reducible refine tYes_ ?_))
local macro_rules | `(tactic| walk_at "rds") => `(tactic| repeat' (walk_at "rd"))
section
variable {P : Program} {w : World} {K : PySem.W.Frag} {mg : Str → Option Value} {base : Heap}

local macro_rules | `(tactic| walk_at "lk") => `(tactic| first
  | with_reducible assumption
  | with_reducible exact upd_same
  | (walk_at "lk1"; walk_at "lk")
  | fail "lk")
local macro_rules | `(tactic| walk_at "lk1") => `(tactic| first
  | ((with_reducible refine' lk_new ?a1 ?a2); (case a1 => with_reducible assumption); (case' a2 => skip))
  | ((with_reducible refine' lk_ne ?a1 ?a2); (case a1 => with_reducible assumption); (case' a2 => skip))
  | ((with_reducible refine' lk_neN ?a1 ?a2 ?a3); (case a1 => with_reducible assumption); (case a2 => walk_at "lk"); (case' a3 => skip))
  | ((with_reducible refine' lk_neN' ?a1 ?a2 ?a3); (case a1 => with_reducible assumption); (case a2 => walk_at "lk"); (case' a3 => skip))
  | ((with_reducible refine' lk_same ?a1 ?a2); (case a1 => with_reducible assumption); (case' a2 => skip))
  | ((with_reducible refine' lk_go ?a1 ?a2 ?a3); (case a1 => with_reducible assumption); (case a2 => walk_at "nt"); (case' a3 => skip))
  | ((with_reducible refine' lk_kd ?a1 ?a2 ?a3 ?a4); (case a1 => with_reducible assumption); (case a2 => walk_at "st"); (case a3 => walk_at "nl"); (case' a4 => skip))
  | ((with_reducible refine' lk_kp ?a1 ?a2 ?a3); (case a1 => with_reducible assumption); (case a2 => walk_at "ne"); (case' a3 => skip))
  | fail "lk1")
local macro_rules | `(tactic| walk_at "nt") => `(tactic| first
  | (intro _ z; cases z)
  | fail "nt")
local macro_rules | `(tactic| walk_at "nl") => `(tactic| first
  | (intro _ z; cases z)
  | fail "nl")
local macro_rules | `(tactic| walk_at "ne") => `(tactic| first
  | with_reducible assumption
  | ((with_reducible refine' ne_sd ?a1 ?a2); (case a1 => with_reducible assumption); (case a2 => walk_at "st"))
  | fail "ne")
local macro_rules | `(tactic| walk_at "st") => `(tactic| first
  | with_reducible assumption
  | with_reducible exact sd_new (by with_reducible assumption) (by walk_at "st")
  | with_reducible exact sd_same (by with_reducible assumption) (by walk_at "st")
  | with_reducible exact sd_go (by with_reducible assumption) (by walk_at "st")
  | with_reducible exact sd_ne (by walk_at "ns") (by walk_at "st")
  | fail "st")
local macro_rules | `(tactic| walk_at "ns") => `(tactic| first
  | with_reducible assumption
  | with_reducible exact Ne.symm (by with_reducible assumption)
  | with_reducible exact Ne.symm (ne_sd (by with_reducible assumption) (by walk_at "st"))
  | fail "ns")
local macro_rules | `(tactic| walk_at "fr") => `(tactic| first
  | with_reducible assumption
  | with_reducible exact Same.refl _
  | with_reducible exact Go.refl _ _
  | with_reducible exact Kp.refl _ _
  | with_reducible exact LamX.ExtN.refl _
  | with_reducible exact nw_refl
  | (walk_at "fr1"; walk_at "fr")
  | fail "fr")
local macro_rules | `(tactic| walk_at "fr1") => `(tactic| first
  | ((with_reducible refine' fr_new ?a1 ?a2); (case a1 => with_reducible assumption); (case' a2 => skip))
  | ((with_reducible refine' go_new ?a1 ?a2); (case a1 => with_reducible assumption); (case' a2 => skip))
  | ((with_reducible refine' kp_new ?a1 ?a2); (case a1 => with_reducible assumption); (case' a2 => skip))
  | ((with_reducible refine' fr_same ?a1 ?a2); (case a1 => with_reducible assumption); (case' a2 => skip))
  | ((with_reducible refine' go_same ?a1 ?a2); (case a1 => with_reducible assumption); (case' a2 => skip))
  | ((with_reducible refine' kp_same ?a1 ?a2); (case a1 => with_reducible assumption); (case' a2 => skip))
  | ((with_reducible refine' go_go ?a1 ?a2); (case a1 => with_reducible assumption); (case' a2 => skip))
  | ((with_reducible refine' go_kd ?a1 ?a2 ?a3 ?a4); (case a1 => with_reducible assumption); (case a2 => with_reducible assumption); (case a3 => walk_at "st"); (case' a4 => skip))
  | ((with_reducible refine' kp_kp ?a1 ?a2); (case a1 => with_reducible assumption); (case' a2 => skip))
  | ((with_reducible refine' kp_upd ?a1); (case' a1 => skip))
  | ((with_reducible refine' go_set2 ?a1 ?a2 ?a3 ?a4); (case a1 => walk_at "lk"); (case a2 => with_reducible assumption); (case a3 => walk_at "fr"); (case' a4 => skip))
  | ((with_reducible refine' fr_set2 ?a1 ?a2 ?a3); (case a1 => with_reducible assumption); (case a2 => walk_at "fr"); (case' a3 => skip))
  | ((with_reducible refine' en_new ?a1 ?a2); (case a1 => with_reducible assumption); (case' a2 => skip))
  | ((with_reducible refine' en_same ?a1 ?a2); (case a1 => with_reducible assumption); (case' a2 => skip))
  | ((with_reducible refine' en_go ?a1 ?a2); (case a1 => with_reducible assumption); (case' a2 => skip))
  | ((with_reducible refine' en_set2 ?a1 ?a2 ?a3); (case a1 => with_reducible assumption); (case a2 => walk_at "fr"); (case' a3 => skip))
  | ((with_reducible refine' en_kp ?a1 ?a2 ?a3 ?a4); (case a1 => with_reducible assumption); (case a2 => with_reducible assumption); (case a3 => walk_at "fr"); (case' a4 => skip))
  | ((with_reducible refine' nw_new ?a1 ?a2); (case a1 => with_reducible assumption); (case' a2 => skip))
  | ((with_reducible refine' nw_same ?a1 ?a2); (case a1 => with_reducible assumption); (case' a2 => skip))
  | ((with_reducible refine' nw_go ?a1 ?a2); (case a1 => with_reducible assumption); (case' a2 => skip))
  | ((with_reducible refine' nw_kd ?a1 ?a2 ?a3); (case a1 => with_reducible assumption); (case a2 => walk_at "st"); (case' a3 => skip))
  | ((with_reducible refine' nw_set ?a1 ?a2); (case a1 => walk_at "lk"); (case' a2 => skip))
  | ((with_reducible refine' nw_set2 ?a1 ?a2 ?a3); (case a1 => with_reducible assumption); (case a2 => walk_at "fr"); (case' a3 => skip))
  | fail "fr1")
local macro_rules | `(tactic| walk_at "tb") => `(tactic| first
  | with_reducible assumption
  | (walk_at "tb1"; walk_at "tb")
  | fail "tb")
local macro_rules | `(tactic| walk_at "tb1") => `(tactic| first
  | ((with_reducible refine' tabs_new ?a1 ?a2); (case a1 => with_reducible assumption); (case' a2 => skip))
  | ((with_reducible refine' tabs_same ?a1 ?a2); (case a1 => with_reducible assumption); (case' a2 => skip))
  | ((with_reducible refine' tabs_go ?a1 ?a2); (case a1 => with_reducible assumption); (case' a2 => skip))
  | ((with_reducible refine' tabs_kd ?a1 ?a2 ?a3); (case a1 => with_reducible assumption); (case a2 => walk_at "st"); (case' a3 => skip))
  | ((with_reducible refine' tabs_set ?a1 ?a2); (case a1 => walk_at "lk"); (case' a2 => skip))
  | fail "tb1")
local macro_rules | `(tactic| walk_at "dg") => `(tactic| first
  | assumption
  | (refine' dp_ext ?a1 ?a2; (case a1 => assumption); (case a2 => walk_at "fr"))
  | (refine' dn_use ?a1 ?a2; (case a1 => assumption); (case a2 => walk_at "fr"))
  | fail "dg")
local macro_rules | `(tactic| walk_at "dp") => `(tactic| first
  | assumption
  | exact .str _
  | exact .int _
  | exact .bl _
  | exact .non
  | (refine' Dp.lst (SqL.of ?a1) ?a2; (case a1 => walk_at "lk"); (case a2 => walk_at "dpa"))
  | (refine' Dp.tup (SqT.of ?a1) ?a2; (case a1 => walk_at "lk"); (case a2 => walk_at "dpa"))
  | (walk_at "dg")
  | fail "dp")
local macro_rules | `(tactic| walk_at "dpa") => `(tactic| first
  | assumption
  | exact .nil
  | (refine' DpAll.cons ?a1 ?a2; (case a1 => walk_at "dp"); (case a2 => walk_at "dpa"))
  | fail "dpa")
local macro_rules | `(tactic| walk_at "dx") => `(tactic| first
  | assumption
  | exact .str _
  | exact .int _
  | exact .bl _
  | exact .non
  | (refine' Dx.lst (SqL.of ?a1) ?a2; (case a1 => walk_at "lk"); (case a2 => walk_at "dxa"))
  | (refine' Dx.tup (SqT.of ?a1) ?a2; (case a1 => walk_at "lk"); (case a2 => walk_at "dxa"))
  | (refine' Dx.dct (.inl ?a1) ?a2; (case a1 => walk_at "lk"); (case a2 => exact .nil))
  | (refine' dx_ext ?a1 ?a2; (case a1 => assumption); (case a2 => walk_at "fr"))
  | fail "dx")
local macro_rules | `(tactic| walk_at "dxa") => `(tactic| first
  | assumption
  | exact .nil
  | (refine' DxAll.cons ?a1 ?a2; (case a1 => walk_at "dx"); (case a2 => walk_at "dxa"))
  | fail "dxa")
local macro_rules | `(tactic| walk_at "ty") => `(tactic| first
  | assumption
  | (refine' ty_ext ?a1 ?a2; (case a1 => assumption); (case a2 => walk_at "fr"))
  | fail "ty")
local macro_rules | `(tactic| walk_at "shp") => `(tactic| first
  | assumption
  | (simp only [SeqAt.shaped, lay_l, lay_t, lay_i, lay_b, lay_n, lay_c, lay_e, PyData.depth, PyData.depthAll, Bool.and_true, Bool.true_and, Bool.and_eq_true, decide_eq_true_eq]
     repeat' (first | assumption | (refine And.intro ?_ ?_) | (exact rfl) | (decide +kernel) | omega))
  | decide +kernel)
local macro_rules | `(tactic| walk_at "side") => `(tactic| first
  | assumption
  | (intros; trivial)
  | omega
  | (walk_at "lk")
  | (walk_at "st")
  | (walk_at "sz")
  | (walk_at "tb")
  | (walk_at "fr"))
local macro_rules | `(tactic| walk_at "cl") => `(tactic| ((repeat' (apply Exists.intro)); refine And.intro rfl ?_; repeat (refine And.intro (by walk_at "side") ?_)))
local macro_rules | `(tactic| walk_at "eqd") => `(tactic| (refine ⟨_, _, by walk_at "dp", by walk_at "dp", by walk_at "shp", by walk_at "shp", ?_⟩; rw [eqv_same (by walk_at "shp")]))
local macro_rules | `(tactic| walk_at "new") => `(tactic| refine fun (p : Addr) (hp : (_ : Hp) p = none) => ?_)
local macro_rules | `(tactic| walk_at "rdn") => `(tactic| (repeat' (first | walk_at "rd" | walk_at "new")))

theorem ok_check_pairs (T : Tx P w K mg base) (G_is_part_of_name : FnOk P w K mg base CX0 1 T.d_is_part_of_name.f T.d_is_part_of_name.fd ["value"] (sp_is_part_of_name K)) (G_is_bad_binding : FnOk P w K mg base CX0 1 T.d_is_bad_binding.f T.d_is_bad_binding.fd ["prefix", "namespace"] sp_is_bad_binding) : FnOk P w K mg base (L2.CX P w) 3 T.d_check_pairs.f T.d_check_pairs.fd ["pairs", "is_wish"] (sp_check_pairs K) := by
  have sc := sc_check_pairs
  refine T.d_check_pairs.F.okX sc (fun vs H Q E h => ?_) (fun cdv A outer s H vs Q E hr h => ?_)
  · obtain ⟨q, ps, kvs, b, rfl, hq, hps, hl, hg, fin⟩ := h
    rfl
  · obtain ⟨q, ps, kvs, b, rfl, hq, hps, hl, hg, fin⟩ := h
    refine ⟨_, (pss_cons (ps_for (passes_of rfl) rfl (pi_tup (pv 0)) (pg_name (i := 2) sc.nd rfl (Or.inl rfl)) (pss_cons (ps_if (PW.pt (pw_or (pt_not (pt_val (pe_callB call_isi (by rfl) T.n_isinstance (by decide +kernel) (pa_cons (pv 2) (pa_cons ((pe_bltn (by rfl) T.n_tuple (by decide +kernel) (v := .ty "tuple") rfl)) pa_nil))))) (pw_or (pt_cmpR op_ne (pe_callB call_len (by rfl) T.n_len PySem.boot_len (pa_cons (pv 2) pa_nil)) pe_int (nomark _)) (pw_or1 (PW.pt (pw_and (pt_cmpR op_ne (pe_ix ix_tup (pv 2) pe_int (fun _ _ => rfl)) pe_str (nomark _)) (pw_and1 (pt_not (pt_val (pe_call G_is_part_of_name (hr.mono (by decide)) rfl T.d_is_part_of_name.m T.d_is_part_of_name.F.kp T.d_is_part_of_name.b .nil pass0 (pa_cons (pe_ix ix_tup (pv 2) pe_int (fun _ _ => rfl)) pa_nil))))))))))) (pss_one (ps_raise rfl (takes_of rfl rfl rfl rfl) (pmk_x T.x_InvalidName (hr.mono (by decide)) rfl (pa_cons (pv 2) pa_nil)))) pss_nil)
      (pss_cons (ps_set (i := 3) sc.nd rfl (Or.inl rfl) ((pe_and (pe_cmpR op_isN (pe_ix ix_tup (pv 2) pe_int (fun _ _ => rfl)) pe_non (nomark _)) (pe_and (pe_cmpR op_eq (pe_ix ix_tup (pv 2) pe_int (fun _ _ => rfl)) pe_str (nomark _)) (pe_one (pe_not (pv 1)))))))
      (pss_one (ps_if (PW.pt (pw_and (pt_not (pt_val (pv 3))) (pw_and1 (PW.pt (pw_or (pt_not (pt_val (pe_callB call_isi (by rfl) T.n_isinstance (by decide +kernel) (pa_cons (pe_ix ix_tup (pv 2) pe_int (fun _ _ => rfl)) (pa_cons ((pe_bltn (by rfl) T.n_str (by decide +kernel) (v := .ty "str") rfl)) pa_nil))))) (pw_or1 (pt_cmpR op_eq (pe_ix ix_tup (pv 2) pe_int (fun _ _ => rfl)) pe_str (nomark _)))))))) (pss_one (ps_raise rfl (takes_of rfl rfl rfl rfl) (pmk_x T.x_InvalidName (hr.mono (by decide)) rfl (pa_cons (pv 2) pa_nil)))) pss_nil)))))
      (pss_one (ps_for (passes_of rfl) rfl (pi_enumTup (by rfl) T.n_enumerate (pa_cons (pv 0) pa_nil)) (pg_tup (by rfl) (pgs_cons (pg_name (i := 4) sc.nd rfl (Or.inl rfl)) (pgs_cons (pg_tup (by rfl) (pgs_cons (pg_name (i := 5) sc.nd rfl (Or.inl rfl)) (pgs_cons (pg_name (i := 6) sc.nd rfl (Or.inl rfl)) pgs_nil))) pgs_nil))) (pss_one (ps_if (pt_val (pe_call G_is_bad_binding (hr.mono (by decide)) rfl T.d_is_bad_binding.m T.d_is_bad_binding.F.kp T.d_is_bad_binding.b .nil pass0 (pa_cons (pv 5) (pa_cons ((pe_orT (pv 6) (pe_one pe_str))) pa_nil)))) (pss_one (ps_raise rfl (takes_of rfl rfl rfl rfl) (Mx.pmk_xs T.xs_BadBinding (hr.mono (by decide)) rfl (pa_cons (pv 5) (pa_cons (pv 4) pa_nil))))) pss_nil))))), ?_⟩
    walk_at "rds"
    refine ⟨⟨_, hq⟩, ?_⟩
    refine for_it (D := ⟨_, _, fun _ _ => False, fun _ _ => False⟩) (walk_tup (xs := ps.map .ref)) (fun i σ H1 => Same H H1 ∧ ∃ v2 v3, σ = [some (.ref q), some (.bl b), v2, v3, none, none, none]) ⟨Same.refl _, _, _, rfl⟩ (fun i σ H1 _ h => sqt_same hq h.1) ?_ ?_
    · rintro i x σ H1 H2 hi ⟨s1, v2, v3, rfl⟩ ⟨rfl, hx⟩
      rw [List.getElem?_map] at hx
      obtain ⟨p, hp, rfl⟩ := Option.map_eq_some_iff.mp hx
      obtain ⟨kv, hkv, hpt⟩ := paired_at hps hp
      have hpt := s1 _ _ hpt
      obtain ⟨g1, g2, g3, g4, g5⟩ := hg kv (List.mem_of_getElem? hkv)
      have fx : ∀ {H9 : Hp}, Same H2 H9 → SqT K H9 p [.str kv.1, .str kv.2] := fun s9 => SqT.of (s9 _ _ hpt)
      walk_at "rds"
      refine ⟨_, _, _, _, true, rfl, .ty _, .base (.tup hpt), kit_ty (by decide +kernel), ?_⟩
      walk_at "rds"
      refine ⟨_, _, rfl, .inr ⟨_, fx (Same.refl _), rfl⟩, ?_⟩
      walk_at "rds"
      refine ⟨p, _, 0, _, rfl, rfl, fx (Same.refl _), rfl, ?_⟩
      cases h1 : decide (V.str kv.1 = V.str "") with
      | true =>
        walk_at "rds"
        refine ⟨p, _, 1, _, rfl, rfl, fx (Same.refl _), rfl, ?_⟩
        walk_at "rds"
        refine ⟨p, _, 1, _, rfl, rfl, fx (Same.refl _), rfl, ?_⟩
        walk_at "rds"
        refine ⟨_, _, _, _, true, rfl, .ty _, .base (.str _), kit_ty (by decide +kernel), ?_⟩
        walk_at "rds"
        refine ⟨p, _, 1, _, rfl, rfl, fx (Same.refl _), rfl, ?_⟩
        walk_at "rds"
        exact ⟨_, _, rfl⟩
      | false =>
        have hpart : Nam.part (tl kv.1) = true := by
          rw [decide_not, h1] at g2
          simpa using g2
        walk_at "rds"
        refine ⟨p, _, 0, _, rfl, rfl, fx (Same.refl _), rfl, ?_⟩
        walk_at "rds"
        intro H3 s3
        rw [hpart]
        walk_at "rds"
        refine ⟨p, _, 1, _, rfl, rfl, fx s3, rfl, ?_⟩
        walk_at "rds"
        refine ⟨p, _, 1, _, rfl, rfl, fx s3, rfl, ?_⟩
        walk_at "rds"
        refine ⟨_, _, _, _, true, rfl, .ty _, .base (.str _), kit_ty (by decide +kernel), ?_⟩
        walk_at "rds"
        refine ⟨p, _, 1, _, rfl, rfl, fx s3, rfl, ?_⟩
        walk_at "rds"
        exact ⟨s1.trans s3, _, _, rfl⟩
    · rintro σ H1 ⟨s1, v2, v3, rfl⟩
      walk_at "rds"
      refine ⟨q, _, rfl, sqt_same hq s1, ?_⟩
      refine for_eu (D := ⟨_, _, fun _ _ => False, fun _ _ => False⟩) (xs := ps.map .ref) (fun i σ H3 => Same H H3 ∧ ∃ v4 v5 v6, σ = [some (.ref q), some (.bl b), v2, v3, v4, v5, v6]) ⟨s1, _, _, _, rfl⟩ (fun i σ H3 h => sqt_same hq h.1) ?_ ?_
      · rintro i x T σ H3 hx hT ⟨s3, v4, v5, v6, rfl⟩
        rw [List.getElem?_map] at hx
        obtain ⟨p, hp, rfl⟩ := Option.map_eq_some_iff.mp hx
        obtain ⟨kv, hkv, hpt⟩ := paired_at hps hp
        have hpt := lk_new (o := .tup [.int (i : Nat), .ref p]) hT (s3 _ _ hpt)
        obtain ⟨g1, g2, g3, g4, g5⟩ := hg kv (List.mem_of_getElem? hkv)
        have s4 : Same H (upd H3 T (.tup [.int (i : Nat), .ref p])) := Same.new s3 hT
        have f4 : upd H3 T (.tup [.int (i : Nat), .ref p]) T = some (.tup [.int (i : Nat), .ref p]) := upd_same
        generalize upd H3 T (.tup [.int (i : Nat), .ref p]) = H4 at *
        refine ⟨T, _, rfl, SqT.of f4, rfl, ?_⟩
        refine ⟨_, _, rfl, ?_⟩
        refine ⟨_, _, rfl, ?_⟩
        refine ⟨p, _, rfl, SqT.of hpt, rfl, ?_⟩
        iterate 2 (refine ⟨_, _, rfl, ?_⟩)
        walk_at "rds"
        have ne : ((kv.2.length : Int) != 0) = true := by
          cases h0 : ((kv.2.length : Int) != 0) with
          | true => rfl
          | false =>
            have hl0 : kv.2.length = 0 := by simpa using h0
            have : kv.2 = "" := TL.ext_tl (List.eq_nil_of_length_eq_zero (by rw [← len_tl]; exact hl0))
            rw [this] at g3
            cases g3
        refine ⟨true, ⟨by unfold sizeLine; omega, ne.symm⟩, ?_⟩
        walk_at "rds"
        refine ⟨_, _, rfl, ?_⟩
        rw [g5]
        walk_at "rds"
        exact ⟨_, _, _, rfl⟩
      · rintro σ H3 ⟨s3, v4, v5, v6, rfl⟩
        walk_at "rds"
        exact fin _ s3

theorem ok_joined_links (T : Tx P w K mg base) : FnOk P w K mg base CX0 1 T.d_joined_links.f T.d_joined_links.fd ["links", "pairs"] sp_joined_links := by
  have sc := sc_joined_links
  refine T.d_joined_links.F.ok sc (fun vs H Q E h => ?_) (fun cdv A outer s H vs Q E hr h => ?_)
  · obtain ⟨l, q, ls, ps, lks, kvs, rfl, hl, hls, hq, hps, hn, hg, fin⟩ := h
    rfl
  · obtain ⟨l, q, ls, ps, lks, kvs, rfl, hl, hls, hq, hps, hn, hg, fin⟩ := h
    refine ⟨_, (pss_cons (ps_set (i := 2) sc.nd rfl (Or.inl rfl) (pv 0))
      (pss_cons (ps_for PassesOwn.never rfl (pi_tup (pv 1)) (pg_tup (by rfl) (pgs_cons (pg_name (i := 3) sc.nd rfl (Or.inr rfl)) (pgs_cons (pg_name (i := 4) sc.nd rfl (Or.inl rfl)) pgs_nil))) (pss_one (ps_set (i := 2) sc.nd rfl (Or.inl rfl) (pe_op Mx.op_catTF (pe_callTy Mx.call_tupleF (by rfl) T.n_tuple (by decide +kernel) (pa_cons (pe_lc (own := [("pair", 5)]) (g := gName 5) rfl sc.nd (pi_tup (pv 2)) (blkOk_by (own := [("pair", 5)]) (N := ["links", "pairs", "found", "prefix", "namespace", "pair"]) (sc := defScope s_joined_links) (by decide +kernel)) (fun _ _ _ _ _ => pg_name (i := 5) sc.nd rfl (Or.inl rfl)) (fun _ _ _ _ _ => (pts_one (pt_cmpR op_ne (pe_ix (show IxR _ (rIxT K) from ix_tup) (pv 5) pe_int (fun _ _ => rfl)) (pv 3) (nomark _)))) (fun _ _ _ _ _ => pv 5)) pa_nil)) (pe_ifExp (pt_truth (pv 4) (by intro _; rfl)) (Mx.pe_tupF (pa_cons (pe_tup (pa_cons (pv 3) (pa_cons (pv 4) pa_nil))) pa_nil)) (Mx.pe_tupF pa_nil))))))
      (pss_one (ps_ret (pv 2))))), ?_⟩
    walk_at "rds"
    refine ⟨⟨_, .inl hq⟩, ?_⟩
    refine for_it (walk_tup (xs := ps.map .ref)) (fun i σ H1 => Same H H1 ∧ ∃ f fs v3 v4 v5, σ = [some (.ref l), some (.ref q), some (.ref f), v3, v4, v5] ∧ FzT H1 f (fs.map .ref) ∧ PairsT H1 fs (joinK lks (kvs.take i)) ∧ fs.length ≤ ls.length + i) ⟨Same.refl _, l, ls, _, _, _, rfl, hl, hls, Nat.le_refl _⟩ (fun i σ H1 _ h => sqt_same (.inl hq) h.1) ?_ ?_
    · rintro i x σ H1 H2 hi ⟨s1, f, fs, v3, v4, v5, rfl, hf, hfs, hfl⟩ ⟨rfl, hx⟩
      rw [List.getElem?_map] at hx
      obtain ⟨p, hp, rfl⟩ := Option.map_eq_some_iff.mp hx
      obtain ⟨kv, hkv, hpt⟩ := paired_at hps hp
      have hpt := s1 _ _ hpt
      obtain ⟨g1, g2, g3, g4, g5⟩ := hg kv (List.mem_of_getElem? hkv)
      refine ⟨p, _, rfl, SqT.of hpt, rfl, ?_⟩
      iterate 2 (refine ⟨_, _, rfl, ?_⟩)
      rw [List.length_map] at hi
      have fl2 : fs.length ≤ 1000 := by omega
      walk_at "rds"
      refine ⟨⟨_, hf.sq⟩, fun D hD => ?_⟩
      refine lc_flt (walk_tup (xs := fs.map .ref)) (fun j => !decide (V.str ((joinK lks (kvs.take i)).getD j ("", "")).1 = V.str kv.1)) (fun j => .ref (fs.getD j 0)) hD (by rw [List.length_map]; omega) (fun H3 sm => (hf.mono sm).sq) (fun j H3 y H4 e => e.1 ▸ Same.refl _) ?_ ?_
      · rintro j y H3 H4 Nx Mx hj sm ⟨rfl, hy⟩ k1 k2
        rw [List.length_map] at hj
        have e : y = V.ref (fs.getD j 0) := by
          rw [List.getElem?_map, List.getElem?_eq_getElem hj] at hy
          rw [List.getD_eq_getElem?_getD, List.getElem?_eq_getElem hj]
          exact (Option.some.inj hy).symm
        subst e
        have hpj := sm _ _ (paired_getD hfs 0 ("", "") hj)
        refine ⟨rfl, ?_⟩
        walk_at "rds"
        refine ⟨_, _, 0, _, rfl, rfl, SqT.of hpj, rfl, ?_⟩
        walk_at "rds"
        · rename_i h
          exact k1 h _ (Same.refl _)
        · rename_i h
          exact k2 (by simpa using h) _ (Same.refl _)
      · intro H3 sm hl3
        rw [List.length_map, picked_map (g := V.ref)] at hl3
        have pk := paired_picked (hfs.same sm) 0 ("", "") (fun q => !decide (V.str q.1 = V.str kv.1))
        have pkl := paired_len pk
        have pkl2 : (picked fs.length (fun j => !decide (V.str ((joinK lks (kvs.take i)).getD j ("", "")).1 = V.str kv.1)) (fun j => fs.getD j 0)).length ≤ fs.length := by
          unfold picked
          rw [List.length_map]
          exact Nat.le_trans (List.length_filter_le _ _) (by simp)
        generalize picked fs.length (fun j => !decide (V.str ((joinK lks (kvs.take i)).getD j ("", "")).1 = V.str kv.1)) (fun j => fs.getD j 0) = gs at *
        walk_at "rds"
        refine ⟨D, _, rfl, SqL.of hl3, fun t1 H4 s4 f4 => ?_⟩
        have ne : ((kv.2.length : Int) != 0) = true := by
          cases h0 : ((kv.2.length : Int) != 0) with
          | true => rfl
          | false =>
            have hl0 : kv.2.length = 0 := by simpa using h0
            have : kv.2 = "" := TL.ext_tl (List.eq_nil_of_length_eq_zero (by rw [← len_tl]; exact hl0))
            rw [this] at g3
            cases g3
        walk_at "rds"
        refine ⟨true, ⟨by unfold sizeLine; omega, ne.symm⟩, ?_⟩
        walk_at "rds"
        intro p2 hp2
        walk_at "rds"
        intro t2 H5 s5 f5
        have s45 : Same H4 H5 := (Same.new (Same.refl _) hp2).trans s5
        have fp2 : H5 p2 = some (.tup [.str kv.1, .str kv.2]) := s5 _ _ upd_same
        refine ⟨t1, t2, gs.map V.ref, [p2].map V.ref, rfl, rfl, f4.mono s45, f5, by rw [List.length_map]; unfold sizeLine; show gs.length + 1 ≤ _; omega, fun t3 H6 s6 f6 => ?_⟩
        walk_at "rds"
        refine ⟨s1.trans (sm.trans (s4.trans (s45.trans s6))), t3, gs ++ [p2], _, _, _, rfl, by rw [List.map_append]; exact f6, ?_, by rw [List.length_append]; show gs.length + 1 ≤ _; omega⟩
        have ej : joinK lks (kvs.take (i + 1)) = (joinK lks (kvs.take i)).filter (fun q => !decide (V.str q.1 = V.str kv.1)) ++ [kv] := by
          have hik : i < kvs.length := (List.getElem?_eq_some_iff.mp hkv).1
          have ek : kvs[i] = kv := (List.getElem?_eq_some_iff.mp hkv).2
          unfold joinK
          rw [List.take_succ, List.getElem?_eq_getElem hik, ek]
          show List.foldl _ _ (List.take i kvs ++ [kv]) = _
          rw [List.foldl_append]
          rfl
        rw [ej]
        exact paired_app (PairsT.same pk (s4.trans (s45.trans s6))) (.cons (s6 _ _ fp2) .nil)
    · rintro σ H1 ⟨s1, f, fs, v3, v4, v5, rfl, hf, hfs, hfl⟩
      walk_at "rds"
      rw [List.length_map, paired_len hps, List.take_length] at hfs
      exact fin _ _ _ s1 hf hfs

end
end K4

set_option maxHeartbeats 1000000
set_option pp.maxSteps 700
set_option pp.deepTerms false
set_option pp.deepTerms.threshold 14
namespace K4
open PySem PySem.Spec PyProof.Rows L2 Mx
/-! ### a scope -/
open TL Nam
/-- a scope at S: its links -/
def ScAt (C : Addr) (H : Hp) (S : Addr) (kvs : List (Key × V)) : Prop := ∃ dx D, H S = some (.ins C dx [("links", .ref D)]) ∧ H D = some (.dK kvs)
theorem ScAt.same {C : Addr} {H H' : Hp} {S : Addr} {kvs : List (Key × V)} (h : ScAt C H S kvs) (s : Same H H') : ScAt C H' S kvs := let ⟨dx, D, a, b⟩ := h; ⟨dx, D, s _ _ a, s _ _ b⟩
theorem ScAt.go {C : Addr} {Tb : List (Addr × Str)} {H H' : Hp} {S : Addr} {kvs : List (Key × V)} (h : ScAt C H S kvs) (g : Go Tb H H') : ScAt C H' S kvs := let ⟨dx, D, a, b⟩ := h; ⟨dx, D, lk_go g (fun _ z => by cases z) a, lk_go g (fun _ z => by cases z) b⟩
def toK (l : List (Str × Str)) : List (Key × V) := mergeK [] (l.map fun kv => (.inr kv.1, .str kv.2))
def links3 : List (Key × V) := [(.inr "xml", .str XMLN), (.inr "", .str "u"), (.inr "p", .str "v")]
def shown3 : Str := "xmlns=\"u\" xmlns:p=\"v\""
abbrev names3 : List Str := ["", "p", "xml"]
abbrev outs2 : List Str := ["xmlns=\"u\"", "xmlns:p=\"v\""]
abbrev names2 : List Str := ["", "p"]
theorem sort3 {ys : List Str} (hp : ys.Perm ["xml", "", "p"]) (hs : sortedS ys = true) : ys = names3 := by
  have hl : ys.length = 3 := hp.length_eq
  match ys, hl with
  | [a, b, c], _ =>
    have ha : a ∈ (["xml", "", "p"] : List Str) := hp.mem_iff.mp (by simp)
    have hb : b ∈ (["xml", "", "p"] : List Str) := hp.mem_iff.mp (by simp)
    have hc : c ∈ (["xml", "", "p"] : List Str) := hp.mem_iff.mp (by simp)
    simp only [List.mem_cons, List.not_mem_nil, or_false] at ha hb hc
    rcases ha with rfl | rfl | rfl <;> rcases hb with rfl | rfl | rfl <;> rcases hc with rfl | rfl | rfl <;> first | rfl | exact absurd hs (by decide +kernel) | exact absurd hp (by decide +kernel)
theorem paired_k {K : PySem.W.Frag} {H : Hp} : ∀ {rs : List Addr} {kvs : List (Str × Str)}, PairsT H rs kvs → Paired (fun p (kv : Key × V) => SqT K H p [kV kv.1, kv.2]) rs (kvs.map fun kv => (.inr kv.1, .str kv.2))
  | _, _, .nil => .nil
  | _, _, .cons h t => .cons (SqT.of h) (paired_k t)
def sp_Scope___init__ (C : Addr) : Sp := fun vs H Q _ => ∃ (x dx q : Addr) (ps : List Addr) (kvs : List (Str × Str)), vs = [.ref x, .ref q] ∧ H x = some (.ins C dx []) ∧ H q = some (.tup (ps.map .ref)) ∧ PairsT H ps kvs ∧ ps.length ≤ 900 ∧ (∀ kv ∈ kvs, GoodP kv) ∧ ∀ H', Kp x H H' → ScAt C H' x (toK (joinK [("xml", XMLN)] kvs)) → Q .non H'
def sp_Scope___contains__ (C : Addr) : Sp := fun vs H Q _ => ∃ (S : Addr) (kvs : List (Key × V)) (z : Str), vs = [.ref S, .str z] ∧ ScAt C H S kvs ∧ Q (.bl (valV kvs (.inr z)).isSome) H
def sp_Scope___getitem__ (C U : Addr) : Sp := fun vs H Q E => ∃ (S : Addr) (kvs : List (Key × V)) (z : Str), vs = [.ref S, .str z] ∧ ScAt C H S kvs ∧ ((∃ u, valV kvs (.inr z) = some u ∧ Q u H) ∨ (valV kvs (.inr z) = none ∧ ∀ H' d, Same H H' → H' d = none → E (.ref U) (some d) (upd H' d (.xd (fsOf ["spelling", "place"] [.str z, .non])))))
/-- what a name means -/
def mean (kvs : List (Key × V)) (z : Str) (b : Bool) : Option V := if preS z = "" then some (if b = true then .non else (valV kvs (.inr "")).getD .non) else valV kvs (.inr (preS z))
def sp_Scope_meaning (C U : Addr) : Sp := fun vs H Q E => ∃ (S : Addr) (kvs : List (Key × V)) (z : Str) (b : Bool) (pl : V), vs = [.ref S, .str z, .bl b, pl] ∧ ScAt C H S kvs ∧ Tx8 1000 z ∧
  ((∃ u, mean kvs z b = some u ∧ ∀ H' p, Same H H' → H' p = none → Q (.ref p) (upd H' p (.tup [u, .str (locS z)]))) ∨ (mean kvs z b = none ∧ ∀ H' d, Same H H' → H' d = none → E (.ref U) (some d) (upd H' d (.xd (fsOf ["spelling", "place"] [.str z, pl])))))
def sp_Scope_expanded (K : PySem.W.Frag) (C U I : Addr) : Sp := fun vs H Q E => ∃ (S : Addr) (kvs : List (Key × V)) (v : V) (b : Bool), vs = [.ref S, v, .bl b] ∧ ScAt C H S kvs ∧
  ((∃ z : Str, v = .str z ∧ Tx8 1000 z ∧ Nam.name (tl z) = true ∧ ((∃ u, mean kvs z b = some u ∧ ∀ H' p, Same H H' → H' p = none → Q (.ref p) (upd H' p (.tup [u, .str (locS z)]))) ∨ (mean kvs z b = none ∧ ∀ H' d, Same H H' → H' d = none → E (.ref U) (some d) (upd H' d (.xd (fsOf ["spelling", "place"] [.str z, .non])))))) ∨
   (NoName K H v ∧ ∀ H' d, Same H H' → H' d = none → E (.ref I) (some d) (upd H' d (.xd [("given", v)]))))
def sp_Scope___str__ (C : Addr) : Sp := fun vs H Q _ => ∃ S : Addr, vs = [.ref S] ∧ ScAt C H S links3 ∧ ∀ H', Same H H' → Q (.str shown3) H'

local macro_rules | `(tactic| walk_at "sz") => `(tactic| first | assumption | decide | omega | (unfold sizeLine; omega) | exact Nat.le_of_ble_eq_true rfl)
local macro_rules | `(tactic| walk_at "hp") => `(tactic| (first | assumption | exact upd_same | (rw [upd_ne (by assumption)]; assumption)))
local macro_rules | `(tactic| walk_at "rd") => `(tactic| (first
  | refine ⟨_, rfl, ?_⟩
  | (refine ⟨_, _, rfl, rfl, ?rdc, ?_⟩; (case rdc => first | (show (0 : Int) < _; omega) | (exact ⟨by omega, by omega⟩) | (exact .inl ⟨by omega, by omega⟩) | (exact .inr ⟨by omega, by omega⟩) | exact ⟨by decide, by decide, by decide⟩))
  | refine ⟨_, _, rfl, rfl, ?_⟩
  | refine .inl ⟨_, rfl, ?_⟩
  | refine ⟨rfl, ?_⟩
  | refine ⟨⟨_, rfl⟩, ?_⟩
  | refine ⟨⟨_, SqL.of (by walk_at "hp")⟩, ?_⟩
  | refine ⟨_, _, _, _, rfl, rfl, SqL.of (by walk_at "hp"), (by rfl), ?_⟩
  | refine ⟨_, _, _, _, rfl, rfl, (by walk_at "hp"), (by rfl), ?_⟩
  | refine ⟨_, _, rfl, ⟨by walk_at "sz", rfl⟩, ?_⟩
  | refine ⟨_, _, _, rfl, rfl, by walk_at "sz", by assumption, ?_⟩
  | refine And.intro (by walk_at "sz") ?_
  | refine itT rfl ?_
  | refine itF rfl ?_
  | refine itT (by assumption) ?_
  | refine itF (by assumption) ?_
  | refine itT (decide_eq_true (by omega)) ?_
  | refine itF (decide_eq_false (by omega)) ?_
  | refine itT (dVi (by omega)) ?_
  | refine itF (dViN (by omega)) ?_
  | refine itT (notT (by assumption)) ?_
  | refine itF (notF (by assumption)) ?_
  | refine itT (notT (dViN (by omega))) ?_
  | refine itF (notF (dVi (by omega))) ?_
  | refine itT (decide_eq_true rfl) ?_
  | refine itF (notF (decide_eq_true rfl)) ?_
  | refine ite2 (fun _ => ?_) (fun _ => ?_)
  | with_reducible refine tC_ ?_
  | with_reducible refine tNext_ ?_
  | with_reducible refine tNil_ ?_
  | with_reducible refine tYes_ ?_))
local macro_rules | `(tactic| walk_at "rds") => `(tactic| repeat' (walk_at "rd"))
section
variable {P : Program} {w : World} {K : PySem.W.Frag} {mg : Str → Option Value} {base : Heap}

local macro_rules | `(tactic| walk_at "lk") => `(tactic| first
  | with_reducible assumption
  | with_reducible exact upd_same
  | (walk_at "lk1"; walk_at "lk")
  | fail "lk")
local macro_rules | `(tactic| walk_at "lk1") => `(tactic| first
  | ((with_reducible refine' lk_new ?a1 ?a2); (case a1 => with_reducible assumption); (case' a2 => skip))
  | ((with_reducible refine' lk_ne ?a1 ?a2); (case a1 => with_reducible assumption); (case' a2 => skip))
  | ((with_reducible refine' lk_neN ?a1 ?a2 ?a3); (case a1 => with_reducible assumption); (case a2 => walk_at "lk"); (case' a3 => skip))
  | ((with_reducible refine' lk_neN' ?a1 ?a2 ?a3); (case a1 => with_reducible assumption); (case a2 => walk_at "lk"); (case' a3 => skip))
  | ((with_reducible refine' lk_same ?a1 ?a2); (case a1 => with_reducible assumption); (case' a2 => skip))
  | ((with_reducible refine' lk_go ?a1 ?a2 ?a3); (case a1 => with_reducible assumption); (case a2 => walk_at "nt"); (case' a3 => skip))
  | ((with_reducible refine' lk_kd ?a1 ?a2 ?a3 ?a4); (case a1 => with_reducible assumption); (case a2 => walk_at "st"); (case a3 => walk_at "nl"); (case' a4 => skip))
  | ((with_reducible refine' lk_kp ?a1 ?a2 ?a3); (case a1 => with_reducible assumption); (case a2 => walk_at "ne"); (case' a3 => skip))
  | fail "lk1")
local macro_rules | `(tactic| walk_at "nt") => `(tactic| first
  | (intro _ z; cases z)
  | fail "nt")
local macro_rules | `(tactic| walk_at "nl") => `(tactic| first
  | (intro _ z; cases z)
  | fail "nl")
local macro_rules | `(tactic| walk_at "ne") => `(tactic| first
  | with_reducible assumption
  | ((with_reducible refine' ne_sd ?a1 ?a2); (case a1 => with_reducible assumption); (case a2 => walk_at "st"))
  | fail "ne")
local macro_rules | `(tactic| walk_at "st") => `(tactic| first
  | with_reducible assumption
  | with_reducible exact sd_new (by with_reducible assumption) (by walk_at "st")
  | with_reducible exact sd_same (by with_reducible assumption) (by walk_at "st")
  | with_reducible exact sd_go (by with_reducible assumption) (by walk_at "st")
  | with_reducible exact sd_ne (by walk_at "ns") (by walk_at "st")
  | fail "st")
local macro_rules | `(tactic| walk_at "ns") => `(tactic| first
  | with_reducible assumption
  | with_reducible exact Ne.symm (by with_reducible assumption)
  | with_reducible exact Ne.symm (ne_sd (by with_reducible assumption) (by walk_at "st"))
  | fail "ns")
local macro_rules | `(tactic| walk_at "fr") => `(tactic| first
  | with_reducible assumption
  | with_reducible exact Same.refl _
  | with_reducible exact Go.refl _ _
  | with_reducible exact Kp.refl _ _
  | with_reducible exact LamX.ExtN.refl _
  | with_reducible exact nw_refl
  | (walk_at "fr1"; walk_at "fr")
  | fail "fr")
local macro_rules | `(tactic| walk_at "fr1") => `(tactic| first
  | ((with_reducible refine' fr_new ?a1 ?a2); (case a1 => with_reducible assumption); (case' a2 => skip))
  | ((with_reducible refine' go_new ?a1 ?a2); (case a1 => with_reducible assumption); (case' a2 => skip))
  | ((with_reducible refine' kp_new ?a1 ?a2); (case a1 => with_reducible assumption); (case' a2 => skip))
  | ((with_reducible refine' fr_same ?a1 ?a2); (case a1 => with_reducible assumption); (case' a2 => skip))
  | ((with_reducible refine' go_same ?a1 ?a2); (case a1 => with_reducible assumption); (case' a2 => skip))
  | ((with_reducible refine' kp_same ?a1 ?a2); (case a1 => with_reducible assumption); (case' a2 => skip))
  | ((with_reducible refine' go_go ?a1 ?a2); (case a1 => with_reducible assumption); (case' a2 => skip))
  | ((with_reducible refine' go_kd ?a1 ?a2 ?a3 ?a4); (case a1 => with_reducible assumption); (case a2 => with_reducible assumption); (case a3 => walk_at "st"); (case' a4 => skip))
  | ((with_reducible refine' kp_kp ?a1 ?a2); (case a1 => with_reducible assumption); (case' a2 => skip))
  | ((with_reducible refine' kp_upd ?a1); (case' a1 => skip))
  | ((with_reducible refine' go_set2 ?a1 ?a2 ?a3 ?a4); (case a1 => walk_at "lk"); (case a2 => with_reducible assumption); (case a3 => walk_at "fr"); (case' a4 => skip))
  | ((with_reducible refine' fr_set2 ?a1 ?a2 ?a3); (case a1 => with_reducible assumption); (case a2 => walk_at "fr"); (case' a3 => skip))
  | ((with_reducible refine' en_new ?a1 ?a2); (case a1 => with_reducible assumption); (case' a2 => skip))
  | ((with_reducible refine' en_same ?a1 ?a2); (case a1 => with_reducible assumption); (case' a2 => skip))
  | ((with_reducible refine' en_go ?a1 ?a2); (case a1 => with_reducible assumption); (case' a2 => skip))
  | ((with_reducible refine' en_set2 ?a1 ?a2 ?a3); (case a1 => with_reducible assumption); (case a2 => walk_at "fr"); (case' a3 => skip))
  | ((with_reducible refine' en_kp ?a1 ?a2 ?a3 ?a4); (case a1 => with_reducible assumption); (case a2 => with_reducible assumption); (case a3 => walk_at "fr"); (case' a4 => skip))
  | ((with_reducible refine' nw_new ?a1 ?a2); (case a1 => with_reducible assumption); (case' a2 => skip))
  | ((with_reducible refine' nw_same ?a1 ?a2); (case a1 => with_reducible assumption); (case' a2 => skip))
  | ((with_reducible refine' nw_go ?a1 ?a2); (case a1 => with_reducible assumption); (case' a2 => skip))
  | ((with_reducible refine' nw_kd ?a1 ?a2 ?a3); (case a1 => with_reducible assumption); (case a2 => walk_at "st"); (case' a3 => skip))
  | ((with_reducible refine' nw_set ?a1 ?a2); (case a1 => walk_at "lk"); (case' a2 => skip))
  | ((with_reducible refine' nw_set2 ?a1 ?a2 ?a3); (case a1 => with_reducible assumption); (case a2 => walk_at "fr"); (case' a3 => skip))
  | fail "fr1")
local macro_rules | `(tactic| walk_at "tb") => `(tactic| first
  | with_reducible assumption
  | (walk_at "tb1"; walk_at "tb")
  | fail "tb")
local macro_rules | `(tactic| walk_at "tb1") => `(tactic| first
  | ((with_reducible refine' tabs_new ?a1 ?a2); (case a1 => with_reducible assumption); (case' a2 => skip))
  | ((with_reducible refine' tabs_same ?a1 ?a2); (case a1 => with_reducible assumption); (case' a2 => skip))
  | ((with_reducible refine' tabs_go ?a1 ?a2); (case a1 => with_reducible assumption); (case' a2 => skip))
  | ((with_reducible refine' tabs_kd ?a1 ?a2 ?a3); (case a1 => with_reducible assumption); (case a2 => walk_at "st"); (case' a3 => skip))
  | ((with_reducible refine' tabs_set ?a1 ?a2); (case a1 => walk_at "lk"); (case' a2 => skip))
  | fail "tb1")
local macro_rules | `(tactic| walk_at "dg") => `(tactic| first
  | assumption
  | (refine' dp_ext ?a1 ?a2; (case a1 => assumption); (case a2 => walk_at "fr"))
  | (refine' dn_use ?a1 ?a2; (case a1 => assumption); (case a2 => walk_at "fr"))
  | fail "dg")
local macro_rules | `(tactic| walk_at "dp") => `(tactic| first
  | assumption
  | exact .str _
  | exact .int _
  | exact .bl _
  | exact .non
  | (refine' Dp.lst (SqL.of ?a1) ?a2; (case a1 => walk_at "lk"); (case a2 => walk_at "dpa"))
  | (refine' Dp.tup (SqT.of ?a1) ?a2; (case a1 => walk_at "lk"); (case a2 => walk_at "dpa"))
  | (walk_at "dg")
  | fail "dp")
local macro_rules | `(tactic| walk_at "dpa") => `(tactic| first
  | assumption
  | exact .nil
  | (refine' DpAll.cons ?a1 ?a2; (case a1 => walk_at "dp"); (case a2 => walk_at "dpa"))
  | fail "dpa")
local macro_rules | `(tactic| walk_at "dx") => `(tactic| first
  | assumption
  | exact .str _
  | exact .int _
  | exact .bl _
  | exact .non
  | (refine' Dx.lst (SqL.of ?a1) ?a2; (case a1 => walk_at "lk"); (case a2 => walk_at "dxa"))
  | (refine' Dx.tup (SqT.of ?a1) ?a2; (case a1 => walk_at "lk"); (case a2 => walk_at "dxa"))
  | (refine' Dx.dct (.inl ?a1) ?a2; (case a1 => walk_at "lk"); (case a2 => exact .nil))
  | (refine' dx_ext ?a1 ?a2; (case a1 => assumption); (case a2 => walk_at "fr"))
  | fail "dx")
local macro_rules | `(tactic| walk_at "dxa") => `(tactic| first
  | assumption
  | exact .nil
  | (refine' DxAll.cons ?a1 ?a2; (case a1 => walk_at "dx"); (case a2 => walk_at "dxa"))
  | fail "dxa")
local macro_rules | `(tactic| walk_at "ty") => `(tactic| first
  | assumption
  | (refine' ty_ext ?a1 ?a2; (case a1 => assumption); (case a2 => walk_at "fr"))
  | fail "ty")
local macro_rules | `(tactic| walk_at "shp") => `(tactic| first
  | assumption
  | (simp only [SeqAt.shaped, lay_l, lay_t, lay_i, lay_b, lay_n, lay_c, lay_e, PyData.depth, PyData.depthAll, Bool.and_true, Bool.true_and, Bool.and_eq_true, decide_eq_true_eq]
     repeat' (first | assumption | (refine And.intro ?_ ?_) | (exact rfl) | (decide +kernel) | omega))
  | decide +kernel)
local macro_rules | `(tactic| walk_at "side") => `(tactic| first
  | assumption
  | (intros; trivial)
  | omega
  | (walk_at "lk")
  | (walk_at "st")
  | (walk_at "sz")
  | (walk_at "tb")
  | (walk_at "fr"))
local macro_rules | `(tactic| walk_at "cl") => `(tactic| ((repeat' (apply Exists.intro)); refine And.intro rfl ?_; repeat (refine And.intro (by walk_at "side") ?_)))
local macro_rules | `(tactic| walk_at "eqd") => `(tactic| (refine ⟨_, _, by walk_at "dp", by walk_at "dp", by walk_at "shp", by walk_at "shp", ?_⟩; rw [eqv_same (by walk_at "shp")]))
local macro_rules | `(tactic| walk_at "new") => `(tactic| refine fun (p : Addr) (hp : (_ : Hp) p = none) => ?_)
local macro_rules | `(tactic| walk_at "rdn") => `(tactic| (repeat' (first | walk_at "rd" | walk_at "new")))

theorem ok_Scope___contains__ (T : Tx P w K mg base) : FnOk P w K mg base CX0 1 T.f_Scope___contains__ T.fd_Scope___contains__ ["self", "prefix"] (sp_Scope___contains__ T.C_Scope) := by
  have sc := sc_Scope___contains__
  refine T.F_Scope___contains__.ok sc (fun vs H Q E h => ?_) (fun cdv A outer s H vs Q E hr h => ?_)
  · obtain ⟨S, kvs, z, rfl, ⟨dx, D, hS, hD⟩, q⟩ := h
    rfl
  · obtain ⟨S, kvs, z, rfl, ⟨dx, D, hS, hD⟩, q⟩ := h
    refine ⟨_, (pss_one (ps_ret ((pe_and (pe_callB call_isi (by rfl) T.n_isinstance (by decide +kernel) (pa_cons (pv 1) (pa_cons ((pe_bltn (by rfl) T.n_str (by decide +kernel) (v := .ty "str") rfl)) pa_nil))) (pe_one (pe_cmp (pc_din (hu_of hr) (pv 1) (pe_fld (pv 0) rfl)))))))), ?_⟩
    walk_at "rds"
    refine ⟨_, _, _, _, true, rfl, .ty _, .base (.str z), kit_ty (by decide +kernel), ?_⟩
    walk_at "rds"
    refine ⟨S, T.C_Scope, dx, _, _, rfl, hS, T.cl_Scope, T.na_links, rfl, ?_⟩
    refine ⟨D, _, rfl, .inl ⟨kvs, .inr z, .inl hD, rfl, rfl⟩, ?_⟩
    exact q

theorem ok_Scope___getitem__ (T : Tx P w K mg base) (G_Scope___contains__ : FnOk P w K mg base CX0 1 T.f_Scope___contains__ T.fd_Scope___contains__ ["self", "prefix"] (sp_Scope___contains__ T.C_Scope)) : FnOk P w K mg base (L2.CX P w) 3 T.f_Scope___getitem__ T.fd_Scope___getitem__ ["self", "prefix"] (sp_Scope___getitem__ T.C_Scope T.a_Unbound) := by
  have sc := sc_Scope___getitem__
  refine T.F_Scope___getitem__.okX sc (fun vs H Q E h => ?_) (fun cdv A outer s H vs Q E hr h => ?_)
  · obtain ⟨S, kvs, z, rfl, ⟨dx, D, hS, hD⟩, hv⟩ := h
    rfl
  · obtain ⟨S, kvs, z, rfl, ⟨dx, D, hS, hD⟩, hv⟩ := h
    refine ⟨_, (pss_cons (ps_if (pt_cmp (Mx.pc_ninOwn T.ow_Scope___contains__ G_Scope___contains__ (hr.mono (by decide)) T.b_Scope___contains__ pass0 (pv 1) (pv 0))) (pss_one (ps_raise rfl (takes_of rfl rfl rfl rfl) (Mx.pmk_xs T.xs_Unbound (hr.mono (by decide)) rfl (pa_cons (pv 1) (pa_cons pe_non pa_nil))))) pss_nil)
      (pss_one (ps_ret (pe_dget (hu_of hr) (pe_fld (pv 0) rfl) (pv 1) (fun _ _ => rfl))))), ?_⟩
    walk_at "rds"
    refine ⟨S, dx, _, rfl, hS, S, kvs, z, rfl, ⟨dx, D, hS, hD⟩, _, rfl, ?_⟩
    rcases hv with ⟨u, hu, q⟩ | ⟨hu, q⟩
    · rw [hu]
      walk_at "rds"
      refine ⟨S, T.C_Scope, dx, _, _, rfl, hS, T.cl_Scope, T.na_links, rfl, ?_⟩
      walk_at "rds"
      refine ⟨D, _, rfl, .inl ⟨kvs, .inr z, .inl hD, rfl, hu.symm⟩, ?_⟩
      exact q
    · rw [hu]
      walk_at "rds"
      exact ⟨⟨rfl, Nat.le_of_ble_eq_true rfl⟩, q⟩

theorem ok_Scope_meaning (T : Tx P w K mg base) (G_cut_name : FnOk P w K mg base CX0 1 T.d_cut_name.f T.d_cut_name.fd ["name"] sp_cut_name) : FnOk P w K mg base (L2.CX P w) 3 T.f_Scope_meaning T.fd_Scope_meaning ["self", "name", "is_attribute", "place"] (sp_Scope_meaning T.C_Scope T.a_Unbound) := by
  have sc := sc_Scope_meaning
  refine T.F_Scope_meaning.okX sc (fun vs H Q E h => ?_) (fun cdv A outer s H vs Q E hr h => ?_)
  · obtain ⟨S, kvs, z, b, pl, rfl, ⟨dx, D, hS, hD⟩, hz, hv⟩ := h
    rfl
  · obtain ⟨S, kvs, z, b, pl, rfl, ⟨dx, D, hS, hD⟩, hz, hv⟩ := h
    refine ⟨_, (pss_cons (ps_asg (pe_call G_cut_name (hr.mono (by decide)) rfl T.d_cut_name.m T.d_cut_name.F.kp T.d_cut_name.b .nil pass0 (pa_cons (pv 1) pa_nil)) (pg_tup (by rfl) (pgs_cons (pg_name (i := 4) sc.nd rfl (Or.inl rfl)) (pgs_cons (pg_name (i := 5) sc.nd rfl (Or.inl rfl)) pgs_nil))))
      (pss_cons (ps_if (pt_cmpR op_eq (pv 4) pe_str (nomark _)) (pss_one (ps_ret (pe_tup (pa_cons (pe_ifExp (pt_truth (pv 2) (by intro _; rfl)) pe_non (pe_dget2 (hu_of hr) (pe_fld (pv 0) rfl) pe_str pe_non ⟨by rfl, by rfl, by rfl, by rfl⟩)) (pa_cons (pv 5) pa_nil))))) pss_nil)
      (pss_cons (ps_if (pt_cmp (pc_dnotin (hu_of hr) (pv 4) (pe_fld (pv 0) rfl))) (pss_one (ps_raise rfl (takes_of rfl rfl rfl rfl) (Mx.pmk_xs T.xs_Unbound (hr.mono (by decide)) rfl (pa_cons (pv 1) (pa_cons (pv 3) pa_nil))))) pss_nil)
      (pss_one (ps_ret (pe_tup (pa_cons (pe_dget (hu_of hr) (pe_fld (pv 0) rfl) (pv 4) (fun _ _ => rfl)) (pa_cons (pv 5) pa_nil)))))))), ?_⟩
    walk_at "rds"
    intro H1 p s1 hp
    have hS := lk_new (o := .tup [.str (preS z), .str (locS z)]) hp (s1 _ _ hS)
    have hD := lk_new (o := .tup [.str (preS z), .str (locS z)]) hp (s1 _ _ hD)
    have s2 : Same H (upd H1 p (.tup [.str (preS z), .str (locS z)])) := Same.new s1 hp
    have fp : upd H1 p (.tup [.str (preS z), .str (locS z)]) p = some (.tup [.str (preS z), .str (locS z)]) := upd_same
    generalize upd H1 p (.tup [.str (preS z), .str (locS z)]) = H2 at *
    refine ⟨p, _, rfl, SqT.of fp, rfl, ?_⟩
    iterate 2 (refine ⟨_, _, rfl, ?_⟩)
    unfold mean at hv
    cases h1 : decide (V.str (preS z) = V.str "") with
    | true =>
      have e : preS z = "" := by injection of_decide_eq_true h1
      rw [if_pos e] at hv
      rcases hv with ⟨u, hu, q⟩ | ⟨hu, q⟩
      · cases Option.some.inj hu
        cases b with
        | true =>
          walk_at "rds"
          exact fun p2 hp2 => q _ p2 s2 hp2
        | false =>
          walk_at "rds"
          refine ⟨S, T.C_Scope, dx, _, _, rfl, hS, T.cl_Scope, T.na_links, rfl, ?_⟩
          refine ⟨D, rfl, .inl ⟨kvs, .inl hD⟩, ?_⟩
          walk_at "rds"
          refine ⟨_, .inl ⟨kvs, .inr "", .inl hD, rfl, rfl⟩, ?_⟩
          walk_at "rds"
          exact fun p2 hp2 => q _ p2 s2 hp2
      · cases hu
    | false =>
      have e : ¬ preS z = "" := fun z => by rw [z] at h1; exact absurd h1 (by decide)
      rw [if_neg e] at hv
      walk_at "rds"
      refine ⟨S, T.C_Scope, dx, _, _, rfl, hS, T.cl_Scope, T.na_links, rfl, ?_⟩
      rcases hv with ⟨u, hu, q⟩ | ⟨hu, q⟩
      · refine ⟨D, some u, rfl, .inl ⟨kvs, .inr (preS z), .inl hD, rfl, hu.symm⟩, ?_⟩
        walk_at "rds"
        refine ⟨S, T.C_Scope, dx, _, _, rfl, hS, T.cl_Scope, T.na_links, rfl, ?_⟩
        walk_at "rds"
        refine ⟨D, u, rfl, .inl ⟨kvs, .inr (preS z), .inl hD, rfl, hu.symm⟩, ?_⟩
        walk_at "rds"
        exact fun p2 hp2 => q _ p2 s2 hp2
      · refine ⟨D, none, rfl, .inl ⟨kvs, .inr (preS z), .inl hD, rfl, hu.symm⟩, ?_⟩
        walk_at "rds"
        exact ⟨⟨rfl, Nat.le_of_ble_eq_true rfl⟩, fun H3 d s3 hd => q H3 d (s2.trans s3) hd⟩

theorem ok_Scope_expanded (T : Tx P w K mg base) (G_split_name : FnOk P w K mg base (L2.CX P w) 3 T.d_split_name.f T.d_split_name.fd ["name"] (sp_split_name K T.a_InvalidName)) (G_Scope_meaning : FnOk P w K mg base (L2.CX P w) 3 T.f_Scope_meaning T.fd_Scope_meaning ["self", "name", "is_attribute", "place"] (sp_Scope_meaning T.C_Scope T.a_Unbound)) : FnOk P w K mg base (L2.CX P w) 4 T.f_Scope_expanded T.fd_Scope_expanded ["self", "name", "attribute"] (sp_Scope_expanded K T.C_Scope T.a_Unbound T.a_InvalidName) := by
  have sc := sc_Scope_expanded
  refine FunD.ok (CX := (L2.CX P w)) T.F_Scope_expanded sc (fun vs H Q E h => ?_) (fun cdv A outer s H vs Q E hr h => ?_)
  · obtain ⟨S, kvs, v, b, rfl, hS, hv⟩ := h
    rfl
  · obtain ⟨S, kvs, v, b, rfl, hS, hv⟩ := h
    refine ⟨_, (pss_cons (ps_expr (pe_call G_split_name (hr.mono (by decide)) rfl T.d_split_name.m T.d_split_name.F.kp T.d_split_name.b .nil (passes_call (takes_of rfl rfl rfl rfl) fun _ _ _ _ z => z) (pa_cons (pv 1) pa_nil)))
      (pss_one (ps_ret (pe_meth (pv 0) T.cl_Scope T.me_Scope_meaning G_Scope_meaning (hr.mono (by decide)) T.b_Scope_meaning .nil (passes_call (takes_of rfl rfl rfl rfl) fun _ _ _ _ z => z) (pa_cons (pv 1) (pa_cons (pv 2) (pa_cons pe_non pa_nil))))))), ?_⟩
    walk_at "rds"
    rcases hv with ⟨z, rfl, hz, hn, hm⟩ | ⟨hn, q⟩
    · refine .inl ⟨z, rfl, hz, hn, fun H1 p s1 hp => ?_⟩
      have hS := hS.same (Same.new (o := .tup [.str (preS z), .str (locS z)]) s1 hp)
      have s2 : Same H (upd H1 p (.tup [.str (preS z), .str (locS z)])) := Same.new s1 hp
      generalize upd H1 p (.tup [.str (preS z), .str (locS z)]) = H2 at *
      obtain ⟨dx, D, hS1, hD1⟩ := id hS
      walk_at "rds"
      refine ⟨S, dx, _, rfl, hS1, rfl, ?_⟩
      walk_at "rds"
      refine ⟨S, kvs, z, b, .non, rfl, hS, hz, ?_⟩
      rcases hm with ⟨u, hu, q⟩ | ⟨hu, q⟩
      · exact .inl ⟨u, hu, fun H3 p3 s3 hp3 => q H3 p3 (s2.trans s3) hp3⟩
      · exact .inr ⟨hu, fun H3 d s3 hd => q H3 d (s2.trans s3) hd⟩
    · exact .inr ⟨hn, q⟩

theorem ok_Scope___str__ (T : Tx P w K mg base) (G_binding_name : FnOk P w K mg base CX0 1 T.d_binding_name.f T.d_binding_name.fd ["prefix"] sp_binding_name) : FnOk P w K mg base CX0 2 T.f_Scope___str__ T.fd_Scope___str__ ["self"] (sp_Scope___str__ T.C_Scope) := by
  have sc := sc_Scope___str__
  refine T.F_Scope___str__.ok sc (fun vs H Q E h => ?_) (fun cdv A outer s H vs Q E hr h => ?_)
  · obtain ⟨S, rfl, ⟨dx, D, hS, hD⟩, q⟩ := h
    rfl
  · obtain ⟨S, rfl, ⟨dx, D, hS, hD⟩, q⟩ := h
    refine ⟨_, (pss_cons (ps_setLc (i := 1) (own := [("prefix", 2)]) (g := gName 2) rfl sc.nd rfl rfl (sw_true rfl rfl rfl (by decide +kernel)) (pi_list (pe_callB (call_sortedD (by rfl)) (by rfl) T.n_sorted (by decide +kernel) (pa_cons (pe_fld (pv 0) (by rfl)) pa_nil))) (blkOk_by (own := [("prefix", 2)]) (N := ["self", "some", "prefix"]) (sc := defScope s_Scope___str__) (by decide +kernel)) (fun _ _ _ _ _ => pg_name (i := 2) sc.nd rfl (Or.inl rfl)) (fun _ _ _ _ _ => (pts_one (pt_cmpR op_ne (pv 2) pe_str (nomark _)))) (fun _ _ _ _ _ => pv 2))
      (pss_one (ps_ret (pe_join pe_str (pe_lc (own := [("prefix", 2)]) (g := gName 2) (tt := tYes) (te := fun σ H Q => tJs [tFmt (tCall sp_binding_name [] E0 (tCons (tVar 2) tNil)), tC (.str "=\""), tFmt (tDGet (tFld K (tVar 0) "links") (tVar 2)), tC (.str "\"")] Str.empty σ H fun out H1 => Q (.str out) H1) rfl sc.nd (pi_list (pv 1)) (blkOk_by (own := [("prefix", 2)]) (N := ["self", "some", "prefix"]) (sc := defScope s_Scope___str__) (by decide +kernel)) (fun _ _ _ _ _ => pg_name (i := 2) sc.nd rfl (Or.inl rfl)) (fun _ _ _ _ _ => pts_nil) (fun _ _ _ _ _ => pe_joined (.cons (pe_fmt (pe_call G_binding_name (hr.mono (by decide)) rfl T.d_binding_name.m T.d_binding_name.F.kp T.d_binding_name.b .nil pass0 (pa_cons (pv 2) pa_nil))) (.cons pe_str (.cons (pe_fmt (pe_dget (hu_of hr) (pe_fld (pv 0) rfl) (pv 2) (fun _ _ => rfl))) (.cons pe_str .nil)))))))))), ?_⟩
    walk_at "rds"
    refine ⟨S, T.C_Scope, dx, _, _, rfl, hS, T.cl_Scope, T.na_links, rfl, ?_⟩
    refine ⟨D, links3, ["xml", "", "p"], rfl, .inl hD, rfl, by decide, fun ys p hp hs hn => ?_⟩
    cases sort3 hp hs
    have hS1 : upd H p (.lst (names3.map V.str)) S = _ := lk_new hn hS
    have hD1 : upd H p (.lst (names3.map V.str)) D = _ := lk_new hn hD
    have s1 : Same H (upd H p (.lst (names3.map V.str))) := Same.new (Same.refl _) hn
    have f1 : upd H p (.lst (names3.map V.str)) p = some (.lst (names3.map V.str)) := upd_same
    generalize upd H p (.lst (names3.map V.str)) = H1 at *
    clear hS hD hp hs hn
    refine ⟨p, rfl, ⟨_, SqL.of f1⟩, fun L hL => ?_⟩
    refine lc_flt (walk_list (xs := names3.map V.str)) (fun i => decide (i < 2)) (fun i => .str (names3.getD i "")) hL (by decide) (fun H2 sm => SqL.of (sm _ _ f1)) (fun i H2 x H3 y => y.1 ▸ Same.refl _) ?_ ?_
    · rintro i x H2 H3 Nx Mx hi sm ⟨rfl, hx⟩ k1 k2
      have hi3 : i < 3 := hi
      have : i = 0 ∨ i = 1 ∨ i = 2 := by omega
      refine ⟨rfl, ?_⟩
      rcases this with rfl | rfl | rfl
      · cases Option.some.inj hx
        walk_at "rds"
        exact k1 rfl _ (Same.refl _)
      · cases Option.some.inj hx
        walk_at "rds"
        exact k1 rfl _ (Same.refl _)
      · cases Option.some.inj hx
        walk_at "rds"
        exact k2 rfl _ (Same.refl _)
    intro H2 s2 hl
    have hl : H2 L = some (.lst (names2.map V.str)) := hl
    have hS2 := s2 _ _ hS1
    have hD2 := s2 _ _ hD1
    walk_at "rds"
    intro L2 hL2
    refine lc_flt (te := fun σ H Q => tJs [tFmt (tCall sp_binding_name [] E0 (tCons (tVar 2) tNil)), tC (.str "=\""), tFmt (tDGet (tFld K (tVar 0) "links") (tVar 2)), tC (.str "\"")] Str.empty σ H fun out H1 => Q (.str out) H1) (walk_list (xs := names2.map V.str)) (fun _ => true) (fun i => .str (outs2.getD i "")) hL2 (by decide) (fun H3 sm => SqL.of (sm _ _ hl)) (fun i H3 x H4 y => y.1 ▸ Same.refl _) ?_ ?_
    · rintro i x H3 H4 Nx Mx hi sm ⟨rfl, hx⟩ k1 k2
      have hi3 : i < 2 := hi
      have hS := sm _ _ hS2
      have hD := sm _ _ hD2
      have : i = 0 ∨ i = 1 := by omega
      refine ⟨rfl, ?_⟩
      rcases this with rfl | rfl
      · cases Option.some.inj hx
        walk_at "rds"
        refine ⟨S, T.C_Scope, dx, _, _, rfl, hS, T.cl_Scope, T.na_links, rfl, ?_⟩
        walk_at "rds"
        refine ⟨D, .str "u", rfl, .inl ⟨links3, .inr "", .inl hD, rfl, rfl⟩, ?_⟩
        walk_at "rds"
        exact (congrArg (fun z => Nx (.str z) H4) (show outs2.getD 0 "" = _ from by decide +kernel)).mp (k1 (by trivial) _ (Same.refl _))
      · cases Option.some.inj hx
        walk_at "rds"
        refine ⟨S, T.C_Scope, dx, _, _, rfl, hS, T.cl_Scope, T.na_links, rfl, ?_⟩
        walk_at "rds"
        refine ⟨D, .str "v", rfl, .inl ⟨links3, .inr "p", .inl hD, rfl, rfl⟩, ?_⟩
        walk_at "rds"
        exact (congrArg (fun z => Nx (.str z) H4) (show outs2.getD 1 "" = _ from by decide +kernel)).mp (k1 (by trivial) _ (Same.refl _))
    intro H3 s3 hl3
    have hl3 : H3 L2 = some (.lst (outs2.map V.str)) := hl3
    walk_at "rds"
    refine ⟨" ", L2, outs2, rfl, rfl, .inl (SqL.of hl3), by decide +kernel, ?_⟩
    exact (congrArg (fun z => Q (.str z) H3) (show shown3 = _ from by decide +kernel)).mp (q _ (s1.trans (s2.trans s3)))

theorem kp_put {H H' : Hp} {x : Addr} {o : HO} (s : Same H H') : Kp x H (upd H' x o) := fun b u h e => by rw [upd_ne h]; exact s _ _ e
theorem ok_Scope___init__ (T : Tx P w K mg base) (G_check_pairs : FnOk P w K mg base (L2.CX P w) 3 T.d_check_pairs.f T.d_check_pairs.fd ["pairs", "is_wish"] (sp_check_pairs K)) (G_joined_links : FnOk P w K mg base CX0 1 T.d_joined_links.f T.d_joined_links.fd ["links", "pairs"] sp_joined_links) : FnR P w K mg base (L2.CX P w) 5 T.f_Scope___init__ (fun vs H Q E => ∃ ws rest, vs = ws ++ rest ∧ ws.length = (["self"] : List Str).length ∧ rest.length ≤ sizeLine ∧ ∀ p, H p = none → sp_Scope___init__ T.C_Scope (ws ++ [V.ref p]) (upd H p (.tup rest)) Q E) := by
  have sc := sc_Scope___init__
  obtain ⟨fd, F⟩ := T.F_Scope___init__
  obtain ⟨oc, od, kV, doc, pm, an, cdv, ct, osl, rfl, lk, hcd⟩ := F.ex
  refine StX.fn_star (ps := ["self"]) (pv := "pairs") lk hcd sc StX.cxUp (StX.bind_star1 (B := fun vs => bindArgs _ ⟨vs, []⟩) (fun _ => rfl) (fun _ _ _ => rfl)) (fun A outer s H vs Q E hr h => ?_)
  obtain ⟨x, dx, q, ps, kvs, rfl, hx, hq, hps, hl, hg, fin⟩ := h
  refine ⟨_, (pss_cons (ps_expr (pe_call G_check_pairs (hr.mono (by decide)) rfl T.d_check_pairs.m T.d_check_pairs.F.kp T.d_check_pairs.b .nil (passes_call (takes_of rfl rfl rfl rfl) fun _ _ _ _ z => z) (pa_cons (pv 1) (pa_cons pe_bl pa_nil))))
      (pss_one (ps_fld (pv 0) (pe_callTy (Mx.call_dictPT rfl) (by rfl) T.n_dict (by decide +kernel) (pa_cons (pe_call G_joined_links (hr.mono (by decide)) rfl T.d_joined_links.m T.d_joined_links.F.kp T.d_joined_links.b .nil pass0 (pa_cons (Mx.pe_tupF (pa_cons (pe_tup (pa_cons pe_str (pa_cons (pe_gc rfl T.g_XML) pa_nil))) pa_nil)) (pa_cons (pv 1) pa_nil))) pa_nil)) rfl))), ?_⟩
  walk_at "rds"
  refine ⟨q, ps, kvs, false, rfl, SqT.of hq, hps, by omega, hg, fun H1 s1 => ?_⟩
  walk_at "rds"
  intro p0 hp0
  walk_at "rds"
  intro pl H2 s2 f2
  have s12 : Same H H2 := (Same.new s1 hp0).trans s2
  have fp0 : H2 p0 = some (.tup [.str "xml", .str XMLN]) := s2 _ _ upd_same
  walk_at "rds"
  refine ⟨pl, q, [p0], ps, [("xml", XMLN)], kvs, rfl, f2, .cons fp0 .nil, .inl (s12 _ _ hq), hps.same s12, by show 1 + ps.length ≤ 1000; omega, hg, fun r rs H3 s3 fr hrs => ?_⟩
  walk_at "rds"
  refine ⟨r, rs, (joinK [("xml", XMLN)] kvs).map (fun kv => (.inr kv.1, .str kv.2)), rfl, fr, paired_k hrs, fun pD hpD => ?_⟩
  walk_at "rds"
  have s13 := s12.trans s3
  have hx3 := lk_new (o := .dK (mergeK [] ((joinK [("xml", XMLN)] kvs).map fun kv => (.inr kv.1, .str kv.2)))) hpD (s13 _ _ hx)
  refine ⟨x, T.C_Scope, dx, _, rfl, hx3, T.cl_Scope, T.na_links, by decide, ?_⟩
  exact fin _ (kp_put (Same.new s13 hpD)) ⟨dx, pD, upd_same, by rw [upd_ne (ne_of_none (s13 _ _ hx) hpD).symm]; exact upd_same⟩

end
end K4

set_option maxHeartbeats 1000000
set_option pp.maxSteps 700
set_option pp.deepTerms false
set_option pp.deepTerms.threshold 14
namespace K4
open PySem PySem.Spec PyProof.Rows L2 Mx
/-! ### the law's own reading of names -/
open TL Nam
def spB (f : List Nat → Bool) : Sp := fun vs H Q _ => ∃ z : Str, vs = [.str z] ∧ Wd z ∧ ∀ H', Same H H' → Q (.bl (f (tl z))) H'
def sp__law_is_part : Sp := spB Nam.part
def sp__law_is_name (K : PySem.W.Frag) : Sp := fun vs H Q _ => ∃ v, vs = [v] ∧ ((∃ z : Str, v = .str z ∧ Tx8 1000 z ∧ Nam.name (tl z) = true ∧ ∀ H', Same H H' → Q (.bl true) H') ∨ (NoName K H v ∧ ∀ H', Same H H' → Q (.bl false) H'))

local macro_rules | `(tactic| walk_at "sz") => `(tactic| first | assumption | decide | omega | (unfold sizeLine; omega) | exact Nat.le_of_ble_eq_true rfl)
local macro_rules | `(tactic| walk_at "hp") => `(tactic| (first | assumption | exact upd_same | (rw [upd_ne (by assumption)]; assumption)))
local macro_rules | `(tactic| walk_at "rd") => `(tactic| (first
  | refine ⟨_, rfl, ?_⟩
  | (refine ⟨_, _, rfl, rfl, ?rdc, ?_⟩; (case rdc => first | (show (0 : Int) < _; omega) | (exact ⟨by omega, by omega⟩) | (exact .inl ⟨by omega, by omega⟩) | (exact .inr ⟨by omega, by omega⟩) | exact ⟨by decide, by decide, by decide⟩))
  | refine ⟨_, _, rfl, rfl, ?_⟩
  | refine .inl ⟨_, rfl, ?_⟩
  | refine ⟨rfl, ?_⟩
  | refine ⟨⟨_, rfl⟩, ?_⟩
  | refine ⟨⟨_, SqL.of (by walk_at "hp")⟩, ?_⟩
  | refine ⟨_, _, _, _, rfl, rfl, SqL.of (by walk_at "hp"), (by rfl), ?_⟩
  | refine ⟨_, _, _, _, rfl, rfl, (by walk_at "hp"), (by rfl), ?_⟩
  | refine ⟨_, _, rfl, ⟨by walk_at "sz", rfl⟩, ?_⟩
  | refine ⟨_, _, _, rfl, rfl, by walk_at "sz", by assumption, ?_⟩
  | refine And.intro (by walk_at "sz") ?_
  | refine itT rfl ?_
  | refine itF rfl ?_
  | refine itT (by assumption) ?_
  | refine itF (by assumption) ?_
  | refine itT (decide_eq_true (by omega)) ?_
  | refine itF (decide_eq_false (by omega)) ?_
  | refine itT (dVi (by omega)) ?_
  | refine itF (dViN (by omega)) ?_
  | refine itT (notT (by assumption)) ?_
  | refine itF (notF (by assumption)) ?_
  | refine itT (notT (dViN (by omega))) ?_
  | refine itF (notF (dVi (by omega))) ?_
  | refine itT (decide_eq_true rfl) ?_
  | refine itF (notF (decide_eq_true rfl)) ?_
  | refine ite2 (fun _ => ?_) (fun _ => ?_)
  | with_reducible refine tC_ ?_
  | with_reducible refine tNext_ ?_
  | with_reducible refine tNil_ ?_
  | with_reducible refine tYes_ ?_))
local macro_rules | `(tactic| walk_at "rds") => `(tactic| repeat' (walk_at "rd"))
section
variable {P : Program} {w : World} {K : PySem.W.Frag} {mg : Str → Option Value} {base : Heap}

theorem ok__law_is_part (T : Tx P w K mg base) : FnOk P w K mg base CX0 2 T.d__law_is_part.f T.d__law_is_part.fd ["word"] sp__law_is_part := by
  have sc := sc__law_is_part
  refine T.d__law_is_part.F.ok sc (fun vs H Q E h => ?_) (fun cdv A outer s H vs Q E hr h => ?_)
  · obtain ⟨z, rfl, hz, q⟩ := h
    rfl
  · obtain ⟨z, rfl, hz, q⟩ := h
    refine ⟨_, (pss_cons (ps_set (i := 1) sc.nd rfl (Or.inr rfl) pe_str)
      (pss_cons (ps_if (PW.pt (pw_or (pt_cmpR op_eq (pv 0) pe_str (nomark _)) (pw_or1 (pt_cmpR op_notIn_sign (pe_ix ix_str (pv 0) pe_int (fun _ _ => rfl)) (pv 1) (by rfl))))) (pss_one (ps_ret pe_bl)) pss_nil)
      (pss_one (ps_ret (pe_cmpR (op_eqD hr.units) (pe_lc (own := [("sign", 2)]) (g := gName 2) rfl sc.nd (pi_str (pv 0)) (blkOk_by (own := [("sign", 2)]) (N := ["word", "first", "sign"]) (sc := defScope s__law_is_part) (by decide +kernel)) (fun _ _ _ _ _ => pg_name (i := 2) sc.nd rfl (Or.inl rfl)) (fun _ _ _ _ _ => (pts_one (pt_cmpR op_notIn_sign (pv 2) (pe_op op_add_str (pv 1) pe_str) (by rfl)))) (fun _ _ _ _ _ => pv 2)) (pe_lst pa_nil) (nomark _)))))), ?_⟩
    have zl : z.length = (tl z).length := len_tl z
    have zs : z.cps.size = (tl z).length := zl
    have fin : ∀ b H', Same H H' → Nam.part (tl z) = b → Q (.bl b) H' := fun b H' sm e => e ▸ q H' sm
    obtain ⟨hz1, hz2⟩ := hz
    by_cases h0 : tl z = []
    · have h0' : decide (V.str z = V.str "") = true := by rw [Nam.empty_eq]; exact decide_eq_true h0
      walk_at "rds"
      exact fin _ _ (Same.refl _) (by rw [h0]; rfl)
    · have h0' : decide (V.str z = V.str "") = false := by rw [Nam.empty_eq]; exact decide_eq_false h0
      obtain ⟨c, r, hcr⟩ := List.exists_cons_of_ne_nil h0
      have hc : atI z.cps.toList 0 = some c := atI_nat (j := 0) (by show (tl z)[0]? = some c; rw [hcr]; rfl)
      walk_at "rds"
      · rename_i h1
        rw [Nam.inL] at h1
        exact fin _ _ (Same.refl _) (by rw [hcr]; show (Nam.isL c && r.all Nam.isI) = false; simp at h1; rw [h1]; rfl)
      · rename_i h1
        rw [Nam.inL] at h1
        have h1 : Nam.isL c = true := by simpa using h1
        intro D hD
        refine lc_flt walk_str (fun i => !Nam.isI ((tl z).getD i 0)) (fun i => .str ⟨#[(tl z).getD i 0]⟩) hD (by omega) (fun _ _ => trivial) (fun i H1 x H2 y => y.1 ▸ Same.refl _) ?_ ?_
        · rintro i x H1 H2 Nx Mx hi sm ⟨rfl, d, hd, rfl⟩ k1 k2
          have e : (tl z).getD i 0 = d := by rw [List.getD_eq_getElem?_getD, Array.getElem?_toList, hd]; rfl
          simp only [e] at k1 k2
          refine ⟨rfl, ?_⟩
          walk_at "rds"
          · rename_i h2
            rw [Nam.inLI] at h2
            exact k1 h2 _ (Same.refl _)
          · rename_i h2
            rw [Nam.inLI] at h2
            exact k2 (by simpa using h2) _ (Same.refl _)
        · intro H1 sm hl
          walk_at "rds"
          intro p hp
          rw [picked_map (g := V.str)] at hl
          refine eq_nil (SqL.of (by rw [upd_ne (ne_of_none hl hp)]; exact hl)) (SqL.of upd_same) ?_ (fin _ _ (Same.new sm hp) ?_)
          · intro y hy d hd
            obtain ⟨i, hi, _, rfl⟩ := picked_mem hy
            rw [List.mem_singleton.mp hd]
            have hi2 : i < (tl z).length := by omega
            rw [List.getD_eq_getElem?_getD, List.getElem?_eq_getElem hi2]
            exact hz2 _ (List.getElem_mem hi2)
          · rw [picked_empty, zs, Nam.range_all, hcr]
            show (Nam.isL c && r.all Nam.isI) = (Nam.isI c && r.all Nam.isI)
            rw [h1, Nam.L_I h1]

theorem ok__law_is_name (T : Tx P w K mg base) (G__law_is_part : FnOk P w K mg base CX0 2 T.d__law_is_part.f T.d__law_is_part.fd ["word"] sp__law_is_part) : FnOk P w K mg base CX0 3 T.d__law_is_name.f T.d__law_is_name.fd ["thing"] (sp__law_is_name K) := by
  have sc := sc__law_is_name
  refine T.d__law_is_name.F.ok sc (fun vs H Q E h => ?_) (fun cdv A outer s H vs Q E hr h => ?_)
  · obtain ⟨v, rfl, hv⟩ := h
    rfl
  · obtain ⟨v, rfl, hv⟩ := h
    refine ⟨_, (pss_cons (ps_if (pt_not (pt_val (pe_callB call_isi (by rfl) T.n_isinstance (by decide +kernel) (pa_cons (pv 0) (pa_cons ((pe_bltn (by rfl) T.n_str (by decide +kernel) (v := .ty "str") rfl)) pa_nil))))) (pss_one (ps_ret pe_bl)) pss_nil)
      (pss_cons (ps_set (i := 1) sc.nd rfl (Or.inl rfl) (pe_split (pv 0) pe_str))
      (pss_one (ps_ret ((pe_and (pe_cmpR op_lt (pe_callB call_len (by rfl) T.n_len PySem.boot_len (pa_cons (pv 1) pa_nil)) pe_int (nomark _)) (pe_one (pe_cmpR (op_eqD hr.units) (pe_lc (own := [("part", 2)]) (g := gName 2) rfl sc.nd (pi_list (pv 1)) (blkOk_by (own := [("part", 2)]) (N := ["thing", "parts", "part"]) (sc := defScope s__law_is_name) (by decide +kernel)) (fun _ _ _ _ _ => pg_name (i := 2) sc.nd rfl (Or.inl rfl)) (fun _ _ _ _ _ => (pts_one (pt_not (pt_val (pe_call G__law_is_part (hr.mono (by decide)) rfl T.d__law_is_part.m T.d__law_is_part.F.kp T.d__law_is_part.b .nil pass0 (pa_cons (pv 2) pa_nil)))))) (fun _ _ _ _ _ => pv 2)) (pe_lst pa_nil) (nomark _))))))))), ?_⟩
    rcases hv with ⟨z, rfl, hz, hn, q⟩ | ⟨⟨t, ht, kt⟩ | ⟨z, rfl, hz, hn⟩, q⟩
    · have q : ∀ H', Same H H' → Q (.bl (Nam.name (tl z))) H' := fun H' s => by rw [hn]; exact q H' s
      have hz := hz.wd (by decide)
      clear hn
      have zl : z.length = (tl z).length := len_tl z
      have fin : ∀ b H', Same H H' → Nam.name (tl z) = b → Q (.bl b) H' := fun b H' sm e => e ▸ q H' sm
      obtain ⟨w1, w2⟩ := split_wd hz
      obtain ⟨hz1, hz2⟩ := hz
      have sl := split_n z
      have sa := split_all z
      walk_at "rds"
      refine ⟨_, _, _, _, true, rfl, .ty _, .base (.str z), kit_ty (by decide +kernel), ?_⟩
      walk_at "rds"
      intro p hp
      walk_at "rds"
      generalize hys : Txt.split z ":" = ys at *
      refine ⟨_, _, rfl, .inl ⟨_, SqL.of upd_same, rfl⟩, ?_⟩
      rw [List.length_map]
      by_cases hl : ys.length < 3
      · walk_at "rds"
        intro D hD
        refine lc_flt walk_list (fun i => !Nam.part (tl (ys.getD i ""))) (fun i => .str (ys.getD i "")) hD (by rw [List.length_map]; omega) (fun H1 sm => SqL.of (sm _ _ upd_same)) (fun i H1 x H2 y => y.1 ▸ Same.refl _) ?_ ?_
        · rintro i x H1 H2 Nx Mx hi sm ⟨rfl, hx⟩ k1 k2
          rw [List.length_map] at hi
          rw [List.getElem?_map, List.getElem?_eq_getElem hi] at hx
          have hy : ys.getD i "" = ys[i] := by rw [List.getD_eq_getElem?_getD, List.getElem?_eq_getElem hi]; rfl
          have hm : ys[i] ∈ ys := List.getElem_mem hi
          rw [hy] at k1 k2
          generalize ys[i] = y at *
          cases hx
          refine ⟨rfl, ?_⟩
          have wy := w1 y hm
          walk_at "rds"
          intro H3 s3
          cases hp2 : Nam.part (tl y) with
          | true =>
            walk_at "rds"
            exact k2 (by rw [hp2]; rfl) _ s3
          | false =>
            walk_at "rds"
            exact k1 (by rw [hp2]; rfl) _ s3
        · intro H1 sm hl2
          walk_at "rds"
          intro p2 hp2
          rw [picked_map (g := V.str)] at hl2
          refine eq_nil (SqL.of (by rw [upd_ne (ne_of_none hl2 hp2)]; exact hl2)) (SqL.of upd_same) ?_ (fin _ _ (Same.new ((Same.new (Same.refl _) hp).trans sm) hp2) ?_)
          · intro y hy d hd
            obtain ⟨i, hi, _, rfl⟩ := picked_mem hy
            rw [List.length_map] at hi
            rw [List.getD_eq_getElem?_getD, List.getElem?_eq_getElem hi] at hd
            exact (w1 _ (List.getElem_mem hi)).2 d hd
          · rw [picked_empty, List.length_map, range_allA ys "" (fun y => Nam.part (tl y)), sa]
            unfold Nam.name
            rw [← sl, decide_eq_true hl, Bool.true_and]
      · walk_at "rds"
        refine fin _ _ (Same.new (Same.refl _) hp) ?_
        unfold Nam.name
        rw [← sl, decide_eq_false hl]
        rfl
    · walk_at "rds"
      refine ⟨_, _, _, _, false, rfl, .ty _, ht, kit_ty kt, ?_⟩
      walk_at "rds"
      exact q _ (Same.refl _)
    · have q : ∀ H', Same H H' → Q (.bl (Nam.name (tl z))) H' := fun H' s => by rw [hn]; exact q H' s
      have hz := hz.wd (by decide)
      clear hn
      have zl : z.length = (tl z).length := len_tl z
      have fin : ∀ b H', Same H H' → Nam.name (tl z) = b → Q (.bl b) H' := fun b H' sm e => e ▸ q H' sm
      obtain ⟨w1, w2⟩ := split_wd hz
      obtain ⟨hz1, hz2⟩ := hz
      have sl := split_n z
      have sa := split_all z
      walk_at "rds"
      refine ⟨_, _, _, _, true, rfl, .ty _, .base (.str z), kit_ty (by decide +kernel), ?_⟩
      walk_at "rds"
      intro p hp
      walk_at "rds"
      generalize hys : Txt.split z ":" = ys at *
      refine ⟨_, _, rfl, .inl ⟨_, SqL.of upd_same, rfl⟩, ?_⟩
      rw [List.length_map]
      by_cases hl : ys.length < 3
      · walk_at "rds"
        intro D hD
        refine lc_flt walk_list (fun i => !Nam.part (tl (ys.getD i ""))) (fun i => .str (ys.getD i "")) hD (by rw [List.length_map]; omega) (fun H1 sm => SqL.of (sm _ _ upd_same)) (fun i H1 x H2 y => y.1 ▸ Same.refl _) ?_ ?_
        · rintro i x H1 H2 Nx Mx hi sm ⟨rfl, hx⟩ k1 k2
          rw [List.length_map] at hi
          rw [List.getElem?_map, List.getElem?_eq_getElem hi] at hx
          have hy : ys.getD i "" = ys[i] := by rw [List.getD_eq_getElem?_getD, List.getElem?_eq_getElem hi]; rfl
          have hm : ys[i] ∈ ys := List.getElem_mem hi
          rw [hy] at k1 k2
          generalize ys[i] = y at *
          cases hx
          refine ⟨rfl, ?_⟩
          have wy := w1 y hm
          walk_at "rds"
          intro H3 s3
          cases hp2 : Nam.part (tl y) with
          | true =>
            walk_at "rds"
            exact k2 (by rw [hp2]; rfl) _ s3
          | false =>
            walk_at "rds"
            exact k1 (by rw [hp2]; rfl) _ s3
        · intro H1 sm hl2
          walk_at "rds"
          intro p2 hp2
          rw [picked_map (g := V.str)] at hl2
          refine eq_nil (SqL.of (by rw [upd_ne (ne_of_none hl2 hp2)]; exact hl2)) (SqL.of upd_same) ?_ (fin _ _ (Same.new ((Same.new (Same.refl _) hp).trans sm) hp2) ?_)
          · intro y hy d hd
            obtain ⟨i, hi, _, rfl⟩ := picked_mem hy
            rw [List.length_map] at hi
            rw [List.getD_eq_getElem?_getD, List.getElem?_eq_getElem hi] at hd
            exact (w1 _ (List.getElem_mem hi)).2 d hd
          · rw [picked_empty, List.length_map, range_allA ys "" (fun y => Nam.part (tl y)), sa]
            unfold Nam.name
            rw [← sl, decide_eq_true hl, Bool.true_and]
      · walk_at "rds"
        refine fin _ _ (Same.new (Same.refl _) hp) ?_
        unfold Nam.name
        rw [← sl, decide_eq_false hl]
        rfl

end
end K4

set_option maxHeartbeats 1000000
set_option pp.maxSteps 700
set_option pp.deepTerms false
set_option pp.deepTerms.threshold 14
namespace K4
open PySem PySem.Spec PyProof.Rows L2 Mx
/-! ### the word of an exception -/
open TL Nam
def two (a b : V) : List (Str × V) := fsOf ["spelling", "place"] [a, b]
def one (a : V) : List (Str × V) := [("given", a)]
def WordOf (b u r i C : Addr) (fs : List (Str × V)) (ws : List V) : Prop :=
  (C = b ∧ ∃ x y, fs = two x y ∧ ws = [.str "bad", x, y]) ∨ (C = u ∧ ∃ x y, fs = two x y ∧ ws = [.str "unbound", x, y]) ∨ (C = r ∧ ∃ x y, fs = two x y ∧ ws = [.str "repeated", x, y]) ∨ (C = i ∧ ∃ x, fs = one x ∧ ws = [.str "name", x])
def sp__law_word (K : PySem.W.Frag) (b u r i : Addr) : Sp := fun vs H Q _ => ∃ (a C : Addr) (fs : List (Str × V)) (ws : List V), vs = [.ref a] ∧ XoE H a C fs ∧ WordOf b u r i C fs ws ∧ ∀ p, H p = none → Q (.ref p) (upd H p (.tup ws))
theorem look_sp (x y : V) : (two x y).lookup (Str.ofString "spelling") = some x := rfl
theorem look_pl (x y : V) : (two x y).lookup (Str.ofString "place") = some y := rfl

local macro_rules | `(tactic| walk_at "sz") => `(tactic| first | assumption | decide | omega | (unfold sizeLine; omega) | exact Nat.le_of_ble_eq_true rfl)
local macro_rules | `(tactic| walk_at "hp") => `(tactic| (first | assumption | exact upd_same | (rw [upd_ne (by assumption)]; assumption)))
local macro_rules | `(tactic| walk_at "rd") => `(tactic| (first
  | refine ⟨_, rfl, ?_⟩
  | (refine ⟨_, _, rfl, rfl, ?rdc, ?_⟩; (case rdc => first | (show (0 : Int) < _; omega) | (exact ⟨by omega, by omega⟩) | (exact .inl ⟨by omega, by omega⟩) | (exact .inr ⟨by omega, by omega⟩) | exact ⟨by decide, by decide, by decide⟩))
  | refine ⟨_, _, rfl, rfl, ?_⟩
  | refine .inl ⟨_, rfl, ?_⟩
  | refine ⟨rfl, ?_⟩
  | refine ⟨⟨_, rfl⟩, ?_⟩
  | refine ⟨⟨_, SqL.of (by walk_at "hp")⟩, ?_⟩
  | refine ⟨_, _, _, _, rfl, rfl, SqL.of (by walk_at "hp"), (by rfl), ?_⟩
  | refine ⟨_, _, _, _, rfl, rfl, (by walk_at "hp"), (by rfl), ?_⟩
  | refine ⟨_, _, rfl, ⟨by walk_at "sz", rfl⟩, ?_⟩
  | refine ⟨_, _, _, rfl, rfl, by walk_at "sz", by assumption, ?_⟩
  | refine And.intro (by walk_at "sz") ?_
  | refine itT rfl ?_
  | refine itF rfl ?_
  | refine itT (by assumption) ?_
  | refine itF (by assumption) ?_
  | refine itT (decide_eq_true (by omega)) ?_
  | refine itF (decide_eq_false (by omega)) ?_
  | refine itT (dVi (by omega)) ?_
  | refine itF (dViN (by omega)) ?_
  | refine itT (notT (by assumption)) ?_
  | refine itF (notF (by assumption)) ?_
  | refine itT (notT (dViN (by omega))) ?_
  | refine itF (notF (dVi (by omega))) ?_
  | refine itT (decide_eq_true rfl) ?_
  | refine itF (notF (decide_eq_true rfl)) ?_
  | refine ite2 (fun _ => ?_) (fun _ => ?_)
  | with_reducible refine tC_ ?_
  | with_reducible refine tNext_ ?_
  | with_reducible refine tNil_ ?_
  | with_reducible refine tYes_ ?_))
local macro_rules | `(tactic| walk_at "rds") => `(tactic| repeat' (walk_at "rd"))
section
variable {P : Program} {w : World} {K : PySem.W.Frag} {mg : Str → Option Value} {base : Heap}

local macro_rules | `(tactic| walk_at "lk") => `(tactic| first
  | with_reducible assumption
  | with_reducible exact upd_same
  | (walk_at "lk1"; walk_at "lk")
  | fail "lk")
local macro_rules | `(tactic| walk_at "lk1") => `(tactic| first
  | ((with_reducible refine' lk_new ?a1 ?a2); (case a1 => with_reducible assumption); (case' a2 => skip))
  | ((with_reducible refine' lk_ne ?a1 ?a2); (case a1 => with_reducible assumption); (case' a2 => skip))
  | ((with_reducible refine' lk_neN ?a1 ?a2 ?a3); (case a1 => with_reducible assumption); (case a2 => walk_at "lk"); (case' a3 => skip))
  | ((with_reducible refine' lk_neN' ?a1 ?a2 ?a3); (case a1 => with_reducible assumption); (case a2 => walk_at "lk"); (case' a3 => skip))
  | ((with_reducible refine' lk_same ?a1 ?a2); (case a1 => with_reducible assumption); (case' a2 => skip))
  | ((with_reducible refine' lk_go ?a1 ?a2 ?a3); (case a1 => with_reducible assumption); (case a2 => walk_at "nt"); (case' a3 => skip))
  | ((with_reducible refine' lk_kd ?a1 ?a2 ?a3 ?a4); (case a1 => with_reducible assumption); (case a2 => walk_at "st"); (case a3 => walk_at "nl"); (case' a4 => skip))
  | ((with_reducible refine' lk_kp ?a1 ?a2 ?a3); (case a1 => with_reducible assumption); (case a2 => walk_at "ne"); (case' a3 => skip))
  | fail "lk1")
local macro_rules | `(tactic| walk_at "nt") => `(tactic| first
  | (intro _ z; cases z)
  | fail "nt")
local macro_rules | `(tactic| walk_at "nl") => `(tactic| first
  | (intro _ z; cases z)
  | fail "nl")
local macro_rules | `(tactic| walk_at "ne") => `(tactic| first
  | with_reducible assumption
  | ((with_reducible refine' ne_sd ?a1 ?a2); (case a1 => with_reducible assumption); (case a2 => walk_at "st"))
  | fail "ne")
local macro_rules | `(tactic| walk_at "st") => `(tactic| first
  | with_reducible assumption
  | with_reducible exact sd_new (by with_reducible assumption) (by walk_at "st")
  | with_reducible exact sd_same (by with_reducible assumption) (by walk_at "st")
  | with_reducible exact sd_go (by with_reducible assumption) (by walk_at "st")
  | with_reducible exact sd_ne (by walk_at "ns") (by walk_at "st")
  | fail "st")
local macro_rules | `(tactic| walk_at "ns") => `(tactic| first
  | with_reducible assumption
  | with_reducible exact Ne.symm (by with_reducible assumption)
  | with_reducible exact Ne.symm (ne_sd (by with_reducible assumption) (by walk_at "st"))
  | fail "ns")
local macro_rules | `(tactic| walk_at "fr") => `(tactic| first
  | with_reducible assumption
  | with_reducible exact Same.refl _
  | with_reducible exact Go.refl _ _
  | with_reducible exact Kp.refl _ _
  | with_reducible exact LamX.ExtN.refl _
  | with_reducible exact nw_refl
  | (walk_at "fr1"; walk_at "fr")
  | fail "fr")
local macro_rules | `(tactic| walk_at "fr1") => `(tactic| first
  | ((with_reducible refine' fr_new ?a1 ?a2); (case a1 => with_reducible assumption); (case' a2 => skip))
  | ((with_reducible refine' go_new ?a1 ?a2); (case a1 => with_reducible assumption); (case' a2 => skip))
  | ((with_reducible refine' kp_new ?a1 ?a2); (case a1 => with_reducible assumption); (case' a2 => skip))
  | ((with_reducible refine' fr_same ?a1 ?a2); (case a1 => with_reducible assumption); (case' a2 => skip))
  | ((with_reducible refine' go_same ?a1 ?a2); (case a1 => with_reducible assumption); (case' a2 => skip))
  | ((with_reducible refine' kp_same ?a1 ?a2); (case a1 => with_reducible assumption); (case' a2 => skip))
  | ((with_reducible refine' go_go ?a1 ?a2); (case a1 => with_reducible assumption); (case' a2 => skip))
  | ((with_reducible refine' go_kd ?a1 ?a2 ?a3 ?a4); (case a1 => with_reducible assumption); (case a2 => with_reducible assumption); (case a3 => walk_at "st"); (case' a4 => skip))
  | ((with_reducible refine' kp_kp ?a1 ?a2); (case a1 => with_reducible assumption); (case' a2 => skip))
  | ((with_reducible refine' kp_upd ?a1); (case' a1 => skip))
  | ((with_reducible refine' go_set2 ?a1 ?a2 ?a3 ?a4); (case a1 => walk_at "lk"); (case a2 => with_reducible assumption); (case a3 => walk_at "fr"); (case' a4 => skip))
  | ((with_reducible refine' fr_set2 ?a1 ?a2 ?a3); (case a1 => with_reducible assumption); (case a2 => walk_at "fr"); (case' a3 => skip))
  | ((with_reducible refine' en_new ?a1 ?a2); (case a1 => with_reducible assumption); (case' a2 => skip))
  | ((with_reducible refine' en_same ?a1 ?a2); (case a1 => with_reducible assumption); (case' a2 => skip))
  | ((with_reducible refine' en_go ?a1 ?a2); (case a1 => with_reducible assumption); (case' a2 => skip))
  | ((with_reducible refine' en_set2 ?a1 ?a2 ?a3); (case a1 => with_reducible assumption); (case a2 => walk_at "fr"); (case' a3 => skip))
  | ((with_reducible refine' en_kp ?a1 ?a2 ?a3 ?a4); (case a1 => with_reducible assumption); (case a2 => with_reducible assumption); (case a3 => walk_at "fr"); (case' a4 => skip))
  | ((with_reducible refine' nw_new ?a1 ?a2); (case a1 => with_reducible assumption); (case' a2 => skip))
  | ((with_reducible refine' nw_same ?a1 ?a2); (case a1 => with_reducible assumption); (case' a2 => skip))
  | ((with_reducible refine' nw_go ?a1 ?a2); (case a1 => with_reducible assumption); (case' a2 => skip))
  | ((with_reducible refine' nw_kd ?a1 ?a2 ?a3); (case a1 => with_reducible assumption); (case a2 => walk_at "st"); (case' a3 => skip))
  | ((with_reducible refine' nw_set ?a1 ?a2); (case a1 => walk_at "lk"); (case' a2 => skip))
  | ((with_reducible refine' nw_set2 ?a1 ?a2 ?a3); (case a1 => with_reducible assumption); (case a2 => walk_at "fr"); (case' a3 => skip))
  | fail "fr1")
local macro_rules | `(tactic| walk_at "tb") => `(tactic| first
  | with_reducible assumption
  | (walk_at "tb1"; walk_at "tb")
  | fail "tb")
local macro_rules | `(tactic| walk_at "tb1") => `(tactic| first
  | ((with_reducible refine' tabs_new ?a1 ?a2); (case a1 => with_reducible assumption); (case' a2 => skip))
  | ((with_reducible refine' tabs_same ?a1 ?a2); (case a1 => with_reducible assumption); (case' a2 => skip))
  | ((with_reducible refine' tabs_go ?a1 ?a2); (case a1 => with_reducible assumption); (case' a2 => skip))
  | ((with_reducible refine' tabs_kd ?a1 ?a2 ?a3); (case a1 => with_reducible assumption); (case a2 => walk_at "st"); (case' a3 => skip))
  | ((with_reducible refine' tabs_set ?a1 ?a2); (case a1 => walk_at "lk"); (case' a2 => skip))
  | fail "tb1")
local macro_rules | `(tactic| walk_at "dg") => `(tactic| first
  | assumption
  | (refine' dp_ext ?a1 ?a2; (case a1 => assumption); (case a2 => walk_at "fr"))
  | (refine' dn_use ?a1 ?a2; (case a1 => assumption); (case a2 => walk_at "fr"))
  | fail "dg")
local macro_rules | `(tactic| walk_at "dp") => `(tactic| first
  | assumption
  | exact .str _
  | exact .int _
  | exact .bl _
  | exact .non
  | (refine' Dp.lst (SqL.of ?a1) ?a2; (case a1 => walk_at "lk"); (case a2 => walk_at "dpa"))
  | (refine' Dp.tup (SqT.of ?a1) ?a2; (case a1 => walk_at "lk"); (case a2 => walk_at "dpa"))
  | (walk_at "dg")
  | fail "dp")
local macro_rules | `(tactic| walk_at "dpa") => `(tactic| first
  | assumption
  | exact .nil
  | (refine' DpAll.cons ?a1 ?a2; (case a1 => walk_at "dp"); (case a2 => walk_at "dpa"))
  | fail "dpa")
local macro_rules | `(tactic| walk_at "dx") => `(tactic| first
  | assumption
  | exact .str _
  | exact .int _
  | exact .bl _
  | exact .non
  | (refine' Dx.lst (SqL.of ?a1) ?a2; (case a1 => walk_at "lk"); (case a2 => walk_at "dxa"))
  | (refine' Dx.tup (SqT.of ?a1) ?a2; (case a1 => walk_at "lk"); (case a2 => walk_at "dxa"))
  | (refine' Dx.dct (.inl ?a1) ?a2; (case a1 => walk_at "lk"); (case a2 => exact .nil))
  | (refine' dx_ext ?a1 ?a2; (case a1 => assumption); (case a2 => walk_at "fr"))
  | fail "dx")
local macro_rules | `(tactic| walk_at "dxa") => `(tactic| first
  | assumption
  | exact .nil
  | (refine' DxAll.cons ?a1 ?a2; (case a1 => walk_at "dx"); (case a2 => walk_at "dxa"))
  | fail "dxa")
local macro_rules | `(tactic| walk_at "ty") => `(tactic| first
  | assumption
  | (refine' ty_ext ?a1 ?a2; (case a1 => assumption); (case a2 => walk_at "fr"))
  | fail "ty")
local macro_rules | `(tactic| walk_at "shp") => `(tactic| first
  | assumption
  | (simp only [SeqAt.shaped, lay_l, lay_t, lay_i, lay_b, lay_n, lay_c, lay_e, PyData.depth, PyData.depthAll, Bool.and_true, Bool.true_and, Bool.and_eq_true, decide_eq_true_eq]
     repeat' (first | assumption | (refine And.intro ?_ ?_) | (exact rfl) | (decide +kernel) | omega))
  | decide +kernel)
local macro_rules | `(tactic| walk_at "side") => `(tactic| first
  | assumption
  | (intros; trivial)
  | omega
  | (walk_at "lk")
  | (walk_at "st")
  | (walk_at "sz")
  | (walk_at "tb")
  | (walk_at "fr"))
local macro_rules | `(tactic| walk_at "cl") => `(tactic| ((repeat' (apply Exists.intro)); refine And.intro rfl ?_; repeat (refine And.intro (by walk_at "side") ?_)))
local macro_rules | `(tactic| walk_at "eqd") => `(tactic| (refine ⟨_, _, by walk_at "dp", by walk_at "dp", by walk_at "shp", by walk_at "shp", ?_⟩; rw [eqv_same (by walk_at "shp")]))
local macro_rules | `(tactic| walk_at "new") => `(tactic| refine fun (p : Addr) (hp : (_ : Hp) p = none) => ?_)
local macro_rules | `(tactic| walk_at "rdn") => `(tactic| (repeat' (first | walk_at "rd" | walk_at "new")))

theorem ok__law_word (T : Tx P w K mg base) : FnOk P w K mg base CX0 1 T.d__law_word.f T.d__law_word.fd ["caught"] (sp__law_word K T.a_BadBinding T.a_Unbound T.a_Repeated T.a_InvalidName) := by
  have sc := sc__law_word
  refine T.d__law_word.F.ok sc (fun vs H Q E h => ?_) (fun cdv A outer s H vs Q E hr h => ?_)
  · obtain ⟨a, C, fs, ws, rfl, hx, hw, q⟩ := h
    rfl
  · obtain ⟨a, C, fs, ws, rfl, hx, hw, q⟩ := h
    refine ⟨_, (pss_cons (ps_if (pt_val (pe_callB Mx.call_isiE (by rfl) T.n_isinstance (by decide +kernel) (pa_cons (pv 0) (pa_cons (pe_glob (v := .ref T.a_BadBinding) rfl T.xs_BadBinding.cl.mgC rfl) pa_nil)))) (pss_one (ps_ret (pe_tup (pa_cons pe_str (pa_cons (Mx.pe_xe (pv 0)) (pa_cons (Mx.pe_xe (pv 0)) pa_nil)))))) pss_nil)
      (pss_cons (ps_if (pt_val (pe_callB Mx.call_isiE (by rfl) T.n_isinstance (by decide +kernel) (pa_cons (pv 0) (pa_cons (pe_glob (v := .ref T.a_Unbound) rfl T.xs_Unbound.cl.mgC rfl) pa_nil)))) (pss_one (ps_ret (pe_tup (pa_cons pe_str (pa_cons (Mx.pe_xe (pv 0)) (pa_cons (Mx.pe_xe (pv 0)) pa_nil)))))) pss_nil)
      (pss_cons (ps_if (pt_val (pe_callB Mx.call_isiE (by rfl) T.n_isinstance (by decide +kernel) (pa_cons (pv 0) (pa_cons (pe_glob (v := .ref T.a_Repeated) rfl T.xs_Repeated.cl.mgC rfl) pa_nil)))) (pss_one (ps_ret (pe_tup (pa_cons pe_str (pa_cons (Mx.pe_xe (pv 0)) (pa_cons (Mx.pe_xe (pv 0)) pa_nil)))))) pss_nil)
      (pss_one (ps_ret (pe_ifExp (pt_val (pe_callB Mx.call_isiE (by rfl) T.n_isinstance (by decide +kernel) (pa_cons (pv 0) (pa_cons (pe_glob (v := .ref T.a_InvalidName) rfl T.x_InvalidName.mgC rfl) pa_nil)))) (pe_tup (pa_cons pe_str (pa_cons (Mx.pe_xe (pv 0)) pa_nil))) (pe_tup (pa_cons pe_str pa_nil)))))))), ?_⟩
    rcases hw with ⟨rfl, x, y, rfl, rfl⟩ | ⟨rfl, x, y, rfl, rfl⟩ | ⟨rfl, x, y, rfl, rfl⟩ | ⟨rfl, x, rfl, rfl⟩
    · walk_at "rds"
      refine ⟨a, T.a_BadBinding, _, _, _, _, rfl, .own _, hx, T.xs_BadBinding.xc, T.k_BadBinding_BadBinding, ?_⟩
      walk_at "rds"
      refine ⟨a, T.a_BadBinding, _, x, rfl, hx, T.xs_BadBinding.xc, T.fs_BadBinding, look_sp x y, ?_⟩
      walk_at "rds"
      refine ⟨a, T.a_BadBinding, _, y, rfl, hx, T.xs_BadBinding.xc, T.fp_BadBinding, look_pl x y, ?_⟩
      walk_at "rds"
      exact q
    · walk_at "rds"
      refine ⟨a, T.a_Unbound, _, _, _, _, rfl, .own _, hx, T.xs_Unbound.xc, T.k_Unbound_BadBinding, ?_⟩
      walk_at "rds"
      refine ⟨a, T.a_Unbound, _, _, _, _, rfl, .own _, hx, T.xs_Unbound.xc, T.k_Unbound_Unbound, ?_⟩
      walk_at "rds"
      refine ⟨a, T.a_Unbound, _, x, rfl, hx, T.xs_Unbound.xc, T.fs_Unbound, look_sp x y, ?_⟩
      walk_at "rds"
      refine ⟨a, T.a_Unbound, _, y, rfl, hx, T.xs_Unbound.xc, T.fp_Unbound, look_pl x y, ?_⟩
      walk_at "rds"
      exact q
    · walk_at "rds"
      refine ⟨a, T.a_Repeated, _, _, _, _, rfl, .own _, hx, T.xs_Repeated.xc, T.k_Repeated_BadBinding, ?_⟩
      walk_at "rds"
      refine ⟨a, T.a_Repeated, _, _, _, _, rfl, .own _, hx, T.xs_Repeated.xc, T.k_Repeated_Unbound, ?_⟩
      walk_at "rds"
      refine ⟨a, T.a_Repeated, _, _, _, _, rfl, .own _, hx, T.xs_Repeated.xc, T.k_Repeated_Repeated, ?_⟩
      walk_at "rds"
      refine ⟨a, T.a_Repeated, _, x, rfl, hx, T.xs_Repeated.xc, T.fs_Repeated, look_sp x y, ?_⟩
      walk_at "rds"
      refine ⟨a, T.a_Repeated, _, y, rfl, hx, T.xs_Repeated.xc, T.fp_Repeated, look_pl x y, ?_⟩
      walk_at "rds"
      exact q
    · walk_at "rds"
      refine ⟨a, T.a_InvalidName, _, _, _, _, rfl, .own _, hx, T.xc_InvalidName, T.k_InvalidName_BadBinding, ?_⟩
      walk_at "rds"
      refine ⟨a, T.a_InvalidName, _, _, _, _, rfl, .own _, hx, T.xc_InvalidName, T.k_InvalidName_Unbound, ?_⟩
      walk_at "rds"
      refine ⟨a, T.a_InvalidName, _, _, _, _, rfl, .own _, hx, T.xc_InvalidName, T.k_InvalidName_Repeated, ?_⟩
      walk_at "rds"
      refine ⟨a, T.a_InvalidName, _, _, _, _, rfl, .own _, hx, T.xc_InvalidName, T.k_InvalidName_InvalidName, ?_⟩
      walk_at "rds"
      refine ⟨a, T.a_InvalidName, _, x, rfl, hx, T.xc_InvalidName, T.fn_InvalidName, rfl, ?_⟩
      walk_at "rds"
      exact q

end

/-! ### the law's word on what a call does -/
def ToldE (K : PySem.W.Frag) (cs : List Value) (b u r i : Addr) (Q : VK) : XK := fun cls d H' => ∃ (C dd : Addr) (fs : List (Str × V)) (ws : List V), cls = .ref C ∧ d = some dd ∧ H' dd = some (.xd fs) ∧ PySem.W.exmAny K (.ref C) cs = some true ∧ WordOf b u r i C fs ws ∧
  ∀ H2 p, Same H' H2 → H2 p = none → Q (.ref p) (upd H2 p (.tup ws))
def TTold (K : PySem.W.Frag) (cs : List Value) (b u r i : Addr) : (XK → Hp → VK → Prop) → Hp → VK → Prop := fun tl H Q =>
  tl (ToldE K cs b u r i Q) H (fun v H1 => ∀ p, H1 p = none → Q (.ref p) (upd H1 p (.tup [])))
local macro_rules | `(tactic| walk_at "sz") => `(tactic| first | assumption | decide | omega | (unfold sizeLine; omega) | exact Nat.le_of_ble_eq_true rfl)
local macro_rules | `(tactic| walk_at "hp") => `(tactic| (first | assumption | exact upd_same | (rw [upd_ne (by assumption)]; assumption)))
local macro_rules | `(tactic| walk_at "rd") => `(tactic| (first
  | refine ⟨_, rfl, ?_⟩
  | (refine ⟨_, _, rfl, rfl, ?rdc, ?_⟩; (case rdc => first | (show (0 : Int) < _; omega) | (exact ⟨by omega, by omega⟩) | (exact .inl ⟨by omega, by omega⟩) | (exact .inr ⟨by omega, by omega⟩) | exact ⟨by decide, by decide, by decide⟩))
  | refine ⟨_, _, rfl, rfl, ?_⟩
  | refine .inl ⟨_, rfl, ?_⟩
  | refine ⟨rfl, ?_⟩
  | refine ⟨⟨_, rfl⟩, ?_⟩
  | refine ⟨⟨_, SqL.of (by walk_at "hp")⟩, ?_⟩
  | refine ⟨_, _, _, _, rfl, rfl, SqL.of (by walk_at "hp"), (by rfl), ?_⟩
  | refine ⟨_, _, _, _, rfl, rfl, (by walk_at "hp"), (by rfl), ?_⟩
  | refine ⟨_, _, rfl, ⟨by walk_at "sz", rfl⟩, ?_⟩
  | refine ⟨_, _, _, rfl, rfl, by walk_at "sz", by assumption, ?_⟩
  | refine And.intro (by walk_at "sz") ?_
  | refine itT rfl ?_
  | refine itF rfl ?_
  | refine itT (by assumption) ?_
  | refine itF (by assumption) ?_
  | refine itT (decide_eq_true (by omega)) ?_
  | refine itF (decide_eq_false (by omega)) ?_
  | refine itT (dVi (by omega)) ?_
  | refine itF (dViN (by omega)) ?_
  | refine itT (notT (by assumption)) ?_
  | refine itF (notF (by assumption)) ?_
  | refine itT (notT (dViN (by omega))) ?_
  | refine itF (notF (dVi (by omega))) ?_
  | refine itT (decide_eq_true rfl) ?_
  | refine itF (notF (decide_eq_true rfl)) ?_
  | refine ite2 (fun _ => ?_) (fun _ => ?_)
  | with_reducible refine tC_ ?_
  | with_reducible refine tNext_ ?_
  | with_reducible refine tNil_ ?_
  | with_reducible refine tYes_ ?_))
local macro_rules | `(tactic| walk_at "rds") => `(tactic| repeat' (walk_at "rd"))

theorem told_gives {X : Cx} (T : Tx X.prog X.w X.K X.mg X.base) (hr : Room 2 X.A) (G__law_word : FnOk X.prog X.w X.K X.mg X.base CX0 1 T.d__law_word.f T.d__law_word.fd ["caught"] (sp__law_word X.K T.a_BadBinding T.a_Unbound T.a_Repeated T.a_InvalidName)) (q : Str) (g : Addr) (cdg : Value) :
    LamX.GivesTo X ["call", "caught", "e"] "_law_error" (defScope s__law_error) g cdg (defBody s__law_error) "call" q
      (TTold X.K [.ref T.a_BadBinding, .ref T.a_InvalidName, .ref T.a_Repeated, .ref T.a_Unbound] T.a_BadBinding T.a_Unbound T.a_Repeated T.a_InvalidName) := by
  intro f c' s H Q tl act hc h
  have sc := sc__law_error
  refine ⟨_, pss_cons (ps_set (i := 1) sc.nd rfl (Or.inl rfl) pe_non)
      (pss_cons (ps_try_t4 (X := (cxOf C8.CX0 X.prog X.w X.K X.mg X.base ["call", "caught", "e"] "_law_error" (defScope s__law_error) g cdg X.A X.stack s H C8.E0).nox) (i := 2) (Wout := fun _ _ _ _ => False)
        (tb := fun W D σ H => ∃ (Ech : XK) (Q0 : VK), (∀ cls d σ' H', Ech cls d H' → σ'.length = 3 → W cls d σ' H') ∧ σ[0]? = some (some (.ref f)) ∧ H c' = some (LamX.CodeO c' q) ∧ tl Ech H Q0 ∧ ∀ v H1, Q0 v H1 → D.nx σ H1)
        rfl rfl rfl sc.nd rfl rfl ⟨rfl, T.xs_BadBinding.cl.mgC, by decide⟩ ⟨rfl, T.x_InvalidName.mgC, by decide⟩ ⟨rfl, T.xs_Repeated.cl.mgC, by decide⟩ ⟨rfl, T.xs_Unbound.cl.mgC, by decide⟩ LamX.takes0 (fun W pn xe tk _ => ?_)
        (fun a oe cls d pn hz hd => pss_one (ps_set (i := 1) sc.nd rfl (Or.inl rfl) (pv 2))))
      (pss_one (ps_ret (pe_ifExp (pt_cmpR op_isN (pv 1) pe_non (nomark _)) (pe_tup pa_nil) (pe_call G__law_word (Room.deeper hr _) rfl T.d__law_word.m T.d__law_word.F.kp T.d__law_word.b .nil pass0 (pa_cons (pv 1) pa_nil)))))), ?_⟩
  · refine ⟨fun pins s' σ H' D I hh => ?_⟩
    obtain ⟨Ech, Q0, hW, h1, h2, h3, h4⟩ := hh
    have tk2 := takes_len tk
    refine PSs.run (t := tDrop (eMono fun σZ HZ Q => σZ[0]? = some (some (V.ref f)) ∧ HZ c' = some (LamX.CodeO c' q) ∧ tl Ech HZ Q)) ?hb pins s' σ H' D I ?_
    case hb => exact pss_one (ps_expr (pe_mono (act (fun cls d σ H => σ.length = 3 → W cls d σ H) pn xe Ech _ _ tk2 (fun cls d σ' H' e hl => hW cls d σ' H' e hl))))
    exact ⟨Q0, ⟨h1, h2, h3⟩, fun v H1 q0 => h4 v H1 q0⟩
  · walk_at "rds"
    refine ⟨ToldE X.K [.ref T.a_BadBinding, .ref T.a_InvalidName, .ref T.a_Repeated, .ref T.a_Unbound] T.a_BadBinding T.a_Unbound T.a_Repeated T.a_InvalidName Q, fun v H1 => ∀ p, H1 p = none → Q (.ref p) (upd H1 p (.tup [])), ?_, rfl, hc, h, ?_⟩
    · rintro cls d σ' H' ⟨C, dd, fs, ws, rfl, rfl, hd, ex, hw, k⟩ hl
      refine ⟨true, ex, fun _ a ha => ?_, fun z => by cases z⟩
      match σ', hl with
      | [x0, x1, x2], _ =>
        have xa : XoAt (upd H' a (xoO a (.ref C) (some dd))) a C fs := ⟨dd, upd_same, by rw [upd_ne (ne_of_none hd ha)]; exact hd⟩
        walk_at "rds"
        refine ⟨a, C, fs, ws, rfl, .inl xa, hw, fun p hp => ?_⟩
        exact k _ p (Same.new (Same.refl _) ha) hp
    · intro v H1 q0
      walk_at "rds"
      exact q0
end K4

set_option maxHeartbeats 1000000
set_option pp.maxSteps 700
set_option pp.deepTerms false
set_option pp.deepTerms.threshold 14
namespace K4
open PySem PySem.Spec PyProof.Rows L2 Mx
/-! ### one value -/
open TL Nam
theorem lam_in {Tb : List (Addr × Str)} {TTd : (XK → Hp → VK → Prop) → Hp → VK → Prop} {t : XK → TE} {σ : L2.St} {H : Hp} {Q : VK} (tb : LamX.Tabs Tb H) (h : ∀ H1, Go Tb H H1 → TTd (fun E H' Q' => t E σ H' Q') H1 Q) : LamX.tLam Tb TTd t σ H Q :=
  ⟨tb, fun H1 e t => h H1 ⟨e, fun _ => t⟩⟩
theorem told_name {P : Program} {w : World} {K : PySem.W.Frag} {mg : Str → Option Value} {base : Heap} (T : Tx P w K mg base) {Q : VK} {H : Hp} {d : Addr} {v : V} (hd : H d = some (.xd [("given", v)])) (k : ∀ H2 p, Same H H2 → H2 p = none → Q (.ref p) (upd H2 p (.tup [.str "name", v]))) :
    ToldE K [.ref T.a_BadBinding, .ref T.a_InvalidName, .ref T.a_Repeated, .ref T.a_Unbound] T.a_BadBinding T.a_Unbound T.a_Repeated T.a_InvalidName Q (.ref T.a_InvalidName) (some d) H :=
  ⟨T.a_InvalidName, d, _, _, rfl, rfl, hd, T.ex_InvalidName, .inr (.inr (.inr ⟨rfl, v, rfl, rfl⟩)), k⟩
theorem told_unbound {P : Program} {w : World} {K : PySem.W.Frag} {mg : Str → Option Value} {base : Heap} (T : Tx P w K mg base) {Q : VK} {H : Hp} {d : Addr} {v x : V} (hd : H d = some (.xd (fsOf ["spelling", "place"] [v, x]))) (k : ∀ H2 p, Same H H2 → H2 p = none → Q (.ref p) (upd H2 p (.tup [.str "unbound", v, x]))) :
    ToldE K [.ref T.a_BadBinding, .ref T.a_InvalidName, .ref T.a_Repeated, .ref T.a_Unbound] T.a_BadBinding T.a_Unbound T.a_Repeated T.a_InvalidName Q (.ref T.a_Unbound) (some d) H :=
  ⟨T.a_Unbound, d, _, _, rfl, rfl, hd, T.ex_Unbound, .inr (.inl ⟨rfl, v, x, rfl, rfl⟩), k⟩
def NoN (K : PySem.W.Frag) (H : Hp) (v : V) : Prop := NoStr K H v ∨ ∃ z : Str, v = .str z ∧ Tx8 200 z ∧ Nam.name (tl z) = false
theorem NoN.ext {K : PySem.W.Frag} {H H' : Hp} {v : V} (h : NoN K H v) (g : LamX.ExtN H H') : NoName K H' v := h.imp (fun h => nostr_ext h g) (fun ⟨z, e, h1, h2⟩ => ⟨z, e, h1.mono (by decide), h2⟩)
abbrev name4 (d : PyData) : PyData := .list [.tuple [.str "name", d], .tuple [.str "name", d], .tuple [.str "name", d], .tuple [.str "name", d]]
def ShowOk (d : PyData) : Prop := (name4 d).showable = true ∧ (name4 d).depth ≤ 60 ∧ (name4 d).shown.length ≤ sizeLine
/-- a value that the law draws -/
def Thing (K : PySem.W.Frag) (H : Hp) (v : V) : Prop := (∃ z : Str, v = .str z ∧ Tx8 200 z ∧ Nam.name (tl z) = true) ∨ (NoN K H v ∧ ∃ d, Dx K H v d ∧ ShowOk d)
def sp__law_right (K : PySem.W.Frag) (C : Addr) (Tb : List (Addr × Str)) : Sp := fun vs H Q _ => ∃ (S : Addr) (v : V), vs = [.ref S, v] ∧ ScAt C H S links3 ∧ Thing K H v ∧ LamX.Tabs Tb H ∧ ∀ H', Go Tb H H' → Q (.bl true) H'

local macro_rules | `(tactic| walk_at "sz") => `(tactic| first | assumption | decide | omega | (unfold sizeLine; omega) | exact Nat.le_of_ble_eq_true rfl)
local macro_rules | `(tactic| walk_at "hp") => `(tactic| (first | assumption | exact upd_same | (rw [upd_ne (by assumption)]; assumption)))
local macro_rules | `(tactic| walk_at "rd") => `(tactic| (first
  | refine ⟨_, rfl, ?_⟩
  | (refine ⟨_, _, rfl, rfl, ?rdc, ?_⟩; (case rdc => first | (show (0 : Int) < _; omega) | (exact ⟨by omega, by omega⟩) | (exact .inl ⟨by omega, by omega⟩) | (exact .inr ⟨by omega, by omega⟩) | exact ⟨by decide, by decide, by decide⟩))
  | refine ⟨_, _, rfl, rfl, ?_⟩
  | refine .inl ⟨_, rfl, ?_⟩
  | refine ⟨rfl, ?_⟩
  | refine ⟨⟨_, rfl⟩, ?_⟩
  | refine ⟨⟨_, SqL.of (by walk_at "hp")⟩, ?_⟩
  | refine ⟨_, _, _, _, rfl, rfl, SqL.of (by walk_at "hp"), (by rfl), ?_⟩
  | refine ⟨_, _, _, _, rfl, rfl, (by walk_at "hp"), (by rfl), ?_⟩
  | refine ⟨_, _, rfl, ⟨by walk_at "sz", rfl⟩, ?_⟩
  | refine ⟨_, _, _, rfl, rfl, by walk_at "sz", by assumption, ?_⟩
  | refine And.intro (by walk_at "sz") ?_
  | refine itT rfl ?_
  | refine itF rfl ?_
  | refine itT (by assumption) ?_
  | refine itF (by assumption) ?_
  | refine itT (decide_eq_true (by omega)) ?_
  | refine itF (decide_eq_false (by omega)) ?_
  | refine itT (dVi (by omega)) ?_
  | refine itF (dViN (by omega)) ?_
  | refine itT (notT (by assumption)) ?_
  | refine itF (notF (by assumption)) ?_
  | refine itT (notT (dViN (by omega))) ?_
  | refine itF (notF (dVi (by omega))) ?_
  | refine itT (decide_eq_true rfl) ?_
  | refine itF (notF (decide_eq_true rfl)) ?_
  | refine ite2 (fun _ => ?_) (fun _ => ?_)
  | with_reducible refine tC_ ?_
  | with_reducible refine tNext_ ?_
  | with_reducible refine tNil_ ?_
  | with_reducible refine tYes_ ?_))
local macro_rules | `(tactic| walk_at "rds") => `(tactic| repeat' (walk_at "rd"))
section
variable {P : Program} {w : World} {K : PySem.W.Frag} {mg : Str → Option Value} {base : Heap}

local macro_rules | `(tactic| walk_at "lk") => `(tactic| first
  | with_reducible assumption
  | with_reducible exact upd_same
  | (walk_at "lk1"; walk_at "lk")
  | fail "lk")
local macro_rules | `(tactic| walk_at "lk1") => `(tactic| first
  | ((with_reducible refine' lk_new ?a1 ?a2); (case a1 => with_reducible assumption); (case' a2 => skip))
  | ((with_reducible refine' lk_ne ?a1 ?a2); (case a1 => with_reducible assumption); (case' a2 => skip))
  | ((with_reducible refine' lk_neN ?a1 ?a2 ?a3); (case a1 => with_reducible assumption); (case a2 => walk_at "lk"); (case' a3 => skip))
  | ((with_reducible refine' lk_neN' ?a1 ?a2 ?a3); (case a1 => with_reducible assumption); (case a2 => walk_at "lk"); (case' a3 => skip))
  | ((with_reducible refine' lk_same ?a1 ?a2); (case a1 => with_reducible assumption); (case' a2 => skip))
  | ((with_reducible refine' lk_go ?a1 ?a2 ?a3); (case a1 => with_reducible assumption); (case a2 => walk_at "nt"); (case' a3 => skip))
  | ((with_reducible refine' lk_kd ?a1 ?a2 ?a3 ?a4); (case a1 => with_reducible assumption); (case a2 => walk_at "st"); (case a3 => walk_at "nl"); (case' a4 => skip))
  | ((with_reducible refine' lk_kp ?a1 ?a2 ?a3); (case a1 => with_reducible assumption); (case a2 => walk_at "ne"); (case' a3 => skip))
  | fail "lk1")
local macro_rules | `(tactic| walk_at "nt") => `(tactic| first
  | (intro _ z; cases z)
  | fail "nt")
local macro_rules | `(tactic| walk_at "nl") => `(tactic| first
  | (intro _ z; cases z)
  | fail "nl")
local macro_rules | `(tactic| walk_at "ne") => `(tactic| first
  | with_reducible assumption
  | ((with_reducible refine' ne_sd ?a1 ?a2); (case a1 => with_reducible assumption); (case a2 => walk_at "st"))
  | fail "ne")
local macro_rules | `(tactic| walk_at "st") => `(tactic| first
  | with_reducible assumption
  | with_reducible exact sd_new (by with_reducible assumption) (by walk_at "st")
  | with_reducible exact sd_same (by with_reducible assumption) (by walk_at "st")
  | with_reducible exact sd_go (by with_reducible assumption) (by walk_at "st")
  | with_reducible exact sd_ne (by walk_at "ns") (by walk_at "st")
  | fail "st")
local macro_rules | `(tactic| walk_at "ns") => `(tactic| first
  | with_reducible assumption
  | with_reducible exact Ne.symm (by with_reducible assumption)
  | with_reducible exact Ne.symm (ne_sd (by with_reducible assumption) (by walk_at "st"))
  | fail "ns")
local macro_rules | `(tactic| walk_at "fr") => `(tactic| first
  | with_reducible assumption
  | with_reducible exact Same.refl _
  | with_reducible exact Go.refl _ _
  | with_reducible exact Kp.refl _ _
  | with_reducible exact LamX.ExtN.refl _
  | with_reducible exact nw_refl
  | (walk_at "fr1"; walk_at "fr")
  | fail "fr")
local macro_rules | `(tactic| walk_at "fr1") => `(tactic| first
  | ((with_reducible refine' fr_new ?a1 ?a2); (case a1 => with_reducible assumption); (case' a2 => skip))
  | ((with_reducible refine' go_new ?a1 ?a2); (case a1 => with_reducible assumption); (case' a2 => skip))
  | ((with_reducible refine' kp_new ?a1 ?a2); (case a1 => with_reducible assumption); (case' a2 => skip))
  | ((with_reducible refine' fr_same ?a1 ?a2); (case a1 => with_reducible assumption); (case' a2 => skip))
  | ((with_reducible refine' go_same ?a1 ?a2); (case a1 => with_reducible assumption); (case' a2 => skip))
  | ((with_reducible refine' kp_same ?a1 ?a2); (case a1 => with_reducible assumption); (case' a2 => skip))
  | ((with_reducible refine' go_go ?a1 ?a2); (case a1 => with_reducible assumption); (case' a2 => skip))
  | ((with_reducible refine' go_kd ?a1 ?a2 ?a3 ?a4); (case a1 => with_reducible assumption); (case a2 => with_reducible assumption); (case a3 => walk_at "st"); (case' a4 => skip))
  | ((with_reducible refine' kp_kp ?a1 ?a2); (case a1 => with_reducible assumption); (case' a2 => skip))
  | ((with_reducible refine' kp_upd ?a1); (case' a1 => skip))
  | ((with_reducible refine' go_set2 ?a1 ?a2 ?a3 ?a4); (case a1 => walk_at "lk"); (case a2 => with_reducible assumption); (case a3 => walk_at "fr"); (case' a4 => skip))
  | ((with_reducible refine' fr_set2 ?a1 ?a2 ?a3); (case a1 => with_reducible assumption); (case a2 => walk_at "fr"); (case' a3 => skip))
  | ((with_reducible refine' en_new ?a1 ?a2); (case a1 => with_reducible assumption); (case' a2 => skip))
  | ((with_reducible refine' en_same ?a1 ?a2); (case a1 => with_reducible assumption); (case' a2 => skip))
  | ((with_reducible refine' en_go ?a1 ?a2); (case a1 => with_reducible assumption); (case' a2 => skip))
  | ((with_reducible refine' en_set2 ?a1 ?a2 ?a3); (case a1 => with_reducible assumption); (case a2 => walk_at "fr"); (case' a3 => skip))
  | ((with_reducible refine' en_kp ?a1 ?a2 ?a3 ?a4); (case a1 => with_reducible assumption); (case a2 => with_reducible assumption); (case a3 => walk_at "fr"); (case' a4 => skip))
  | ((with_reducible refine' nw_new ?a1 ?a2); (case a1 => with_reducible assumption); (case' a2 => skip))
  | ((with_reducible refine' nw_same ?a1 ?a2); (case a1 => with_reducible assumption); (case' a2 => skip))
  | ((with_reducible refine' nw_go ?a1 ?a2); (case a1 => with_reducible assumption); (case' a2 => skip))
  | ((with_reducible refine' nw_kd ?a1 ?a2 ?a3); (case a1 => with_reducible assumption); (case a2 => walk_at "st"); (case' a3 => skip))
  | ((with_reducible refine' nw_set ?a1 ?a2); (case a1 => walk_at "lk"); (case' a2 => skip))
  | ((with_reducible refine' nw_set2 ?a1 ?a2 ?a3); (case a1 => with_reducible assumption); (case a2 => walk_at "fr"); (case' a3 => skip))
  | fail "fr1")
local macro_rules | `(tactic| walk_at "tb") => `(tactic| first
  | with_reducible assumption
  | (walk_at "tb1"; walk_at "tb")
  | fail "tb")
local macro_rules | `(tactic| walk_at "tb1") => `(tactic| first
  | ((with_reducible refine' tabs_new ?a1 ?a2); (case a1 => with_reducible assumption); (case' a2 => skip))
  | ((with_reducible refine' tabs_same ?a1 ?a2); (case a1 => with_reducible assumption); (case' a2 => skip))
  | ((with_reducible refine' tabs_go ?a1 ?a2); (case a1 => with_reducible assumption); (case' a2 => skip))
  | ((with_reducible refine' tabs_kd ?a1 ?a2 ?a3); (case a1 => with_reducible assumption); (case a2 => walk_at "st"); (case' a3 => skip))
  | ((with_reducible refine' tabs_set ?a1 ?a2); (case a1 => walk_at "lk"); (case' a2 => skip))
  | fail "tb1")
local macro_rules | `(tactic| walk_at "dg") => `(tactic| first
  | assumption
  | (refine' dp_ext ?a1 ?a2; (case a1 => assumption); (case a2 => walk_at "fr"))
  | (refine' dn_use ?a1 ?a2; (case a1 => assumption); (case a2 => walk_at "fr"))
  | fail "dg")
local macro_rules | `(tactic| walk_at "dp") => `(tactic| first
  | assumption
  | exact .str _
  | exact .int _
  | exact .bl _
  | exact .non
  | (refine' Dp.lst (SqL.of ?a1) ?a2; (case a1 => walk_at "lk"); (case a2 => walk_at "dpa"))
  | (refine' Dp.tup (SqT.of ?a1) ?a2; (case a1 => walk_at "lk"); (case a2 => walk_at "dpa"))
  | (walk_at "dg")
  | fail "dp")
local macro_rules | `(tactic| walk_at "dpa") => `(tactic| first
  | assumption
  | exact .nil
  | (refine' DpAll.cons ?a1 ?a2; (case a1 => walk_at "dp"); (case a2 => walk_at "dpa"))
  | fail "dpa")
local macro_rules | `(tactic| walk_at "dx") => `(tactic| first
  | assumption
  | exact .str _
  | exact .int _
  | exact .bl _
  | exact .non
  | (refine' Dx.lst (SqL.of ?a1) ?a2; (case a1 => walk_at "lk"); (case a2 => walk_at "dxa"))
  | (refine' Dx.tup (SqT.of ?a1) ?a2; (case a1 => walk_at "lk"); (case a2 => walk_at "dxa"))
  | (refine' Dx.dct (.inl ?a1) ?a2; (case a1 => walk_at "lk"); (case a2 => exact .nil))
  | (refine' dx_ext ?a1 ?a2; (case a1 => assumption); (case a2 => walk_at "fr"))
  | fail "dx")
local macro_rules | `(tactic| walk_at "dxa") => `(tactic| first
  | assumption
  | exact .nil
  | (refine' DxAll.cons ?a1 ?a2; (case a1 => walk_at "dx"); (case a2 => walk_at "dxa"))
  | fail "dxa")
local macro_rules | `(tactic| walk_at "ty") => `(tactic| first
  | assumption
  | (refine' ty_ext ?a1 ?a2; (case a1 => assumption); (case a2 => walk_at "fr"))
  | fail "ty")
local macro_rules | `(tactic| walk_at "shp") => `(tactic| first
  | assumption
  | (simp only [SeqAt.shaped, lay_l, lay_t, lay_i, lay_b, lay_n, lay_c, lay_e, PyData.depth, PyData.depthAll, Bool.and_true, Bool.true_and, Bool.and_eq_true, decide_eq_true_eq]
     repeat' (first | assumption | (refine And.intro ?_ ?_) | (exact rfl) | (decide +kernel) | omega))
  | decide +kernel)
local macro_rules | `(tactic| walk_at "side") => `(tactic| first
  | assumption
  | (intros; trivial)
  | omega
  | (walk_at "lk")
  | (walk_at "st")
  | (walk_at "sz")
  | (walk_at "tb")
  | (walk_at "fr"))
local macro_rules | `(tactic| walk_at "cl") => `(tactic| ((repeat' (apply Exists.intro)); refine And.intro rfl ?_; repeat (refine And.intro (by walk_at "side") ?_)))
local macro_rules | `(tactic| walk_at "eqd") => `(tactic| (refine ⟨_, _, by walk_at "dp", by walk_at "dp", by walk_at "shp", by walk_at "shp", ?_⟩; rw [eqv_same (by walk_at "shp")]))
local macro_rules | `(tactic| walk_at "new") => `(tactic| refine fun (p : Addr) (hp : (_ : Hp) p = none) => ?_)
local macro_rules | `(tactic| walk_at "rdn") => `(tactic| (repeat' (first | walk_at "rd" | walk_at "new")))

theorem mem_loc {l : List Nat} {c : Nat} (h : c ∈ locL l) : c ∈ l := by
  unfold locL at h
  rcases par_cut l [] with ⟨p1, _, _⟩ | ⟨a, b, p1, p2, _, _⟩
  · rw [show cut1 l = none from p1] at h
    exact h
  · rw [show cut1 l = some (a, b) from p1] at h
    rw [p2]
    exact List.mem_append_right _ (List.mem_cons_of_mem _ h)
theorem mem_pre {l : List Nat} {c : Nat} (h : c ∈ preL l) : c ∈ l := by
  unfold preL at h
  rcases par_cut l [] with ⟨p1, _, _⟩ | ⟨a, b, p1, p2, _, _⟩
  · rw [show cut1 l = none from p1] at h
    cases h
  · rw [show cut1 l = some (a, b) from p1] at h
    rw [p2]
    exact List.mem_append_left _ h
theorem name_split {z : Str} (h : Nam.name (tl z) = true) : (Txt.split z ":" = [z] ∧ preS z = "" ∧ locS z = z) ∨ Txt.split z ":" = [preS z, locS z] := by
  have e := split_colon z
  rcases name_cut h with ⟨h1, h2, h3, _⟩ | ⟨h1, _, _⟩
  · refine .inl ⟨TL.map_tl_inj (by rw [e, h1]; rfl), ?_, ?_⟩
    · unfold preS
      rw [h2]
      all_goals rfl
    · unfold locS
      rw [h3]
      all_goals exact TL.mk_tl z
  · exact .inr (TL.map_tl_inj (by rw [e, h1]; rfl))
theorem lay_loc {n : Nat} {z : Str} (h : Tx8 n z) : PyData.canLay0 (.str (locS z)) = true := lay_str8 fun c hc => h.2 c (mem_loc hc)
theorem lay_pre {n : Nat} {z : Str} (h : Tx8 n z) : PyData.canLay0 (.str (preS z)) = true := lay_str8 fun c hc => h.2 c (mem_pre hc)
theorem lay_zz {n : Nat} {z : Str} (h : Tx8 n z) : PyData.canLay0 (.str z) = true := lay_str8 h.2
theorem lay_X : PyData.canLay0 (.str XMLN) = true := lay_str8 (by decide +kernel)
theorem lay_u : PyData.canLay0 (.str "u") = true := lay_str8 (by decide +kernel)
theorem lay_v : PyData.canLay0 (.str "v") = true := lay_str8 (by decide +kernel)
theorem lay_unb : PyData.canLay0 (.str "unbound") = true := lay_str8 (by decide +kernel)

theorem right_7 (T : Tx P w K mg base) {cL PL : Addr} {Tb : List (Addr × Str)} (hm : (PL, ("_law_right.<locals>.<lambda>" : Str)) ∈ Tb) (hu : ∀ p ∈ Tb, p.1 = PL → p.2 = ("_law_right.<locals>.<lambda>" : Str)) (F : FunC K "_law_right" s__law_right T.d__law_right.f T.d__law_right.fd cL) (TB : LamX.TabB base mg cL PL) (G_split_name : FnOk P w K mg base (L2.CX P w) 3 T.d_split_name.f T.d_split_name.fd ["name"] (sp_split_name K T.a_InvalidName)) (G_Scope_expanded : FnOk P w K mg base (L2.CX P w) 4 T.f_Scope_expanded T.fd_Scope_expanded ["self", "name", "attribute"] (sp_Scope_expanded K T.C_Scope T.a_Unbound T.a_InvalidName)) (G_Scope___getitem__ : FnOk P w K mg base (L2.CX P w) 3 T.f_Scope___getitem__ T.fd_Scope___getitem__ ["self", "prefix"] (sp_Scope___getitem__ T.C_Scope T.a_Unbound)) (G_Scope___str__ : FnOk P w K mg base CX0 2 T.f_Scope___str__ T.fd_Scope___str__ ["self"] (sp_Scope___str__ T.C_Scope)) (G__law_is_name : FnOk P w K mg base CX0 3 T.d__law_is_name.f T.d__law_is_name.fd ["thing"] (sp__law_is_name K)) (G__law_word : FnOk P w K mg base CX0 1 T.d__law_word.f T.d__law_word.fd ["caught"] (sp__law_word K T.a_BadBinding T.a_Unbound T.a_Repeated T.a_InvalidName))
    {A : Around} {outer : List Env} {s : Shared} {H0 : Hp} {E : XK} (hr : RmG 8 (A.deeper (envOfC "_law_right" (defScope s__law_right) s.heap.objs.size T.d__law_right.f (.ref cL)))) :
    ∃ t, PSs (cxOf CX0 P w K mg base ["scope", "thing", "shown", "told", "parts", "prefix", "rest_so", "due"] "_law_right" (defScope s__law_right) T.d__law_right.f (.ref cL) A outer s H0 E) ((defBody s__law_right).drop 7) t ∧ ∀ (S : Addr) (z : Str) (x3 x4 : Option V) (H : Hp) (Q : VK), ScAt T.C_Scope H S links3 → LamX.Tabs Tb H → Tx8 200 z → Nam.name (tl z) = true → (∀ H', Go Tb H H' → Q (.bl true) H') →
      t { nx := fun _ H' => Q .non H', rt := Q } [some (.ref S), some (.str z), some (.str shown3), x3, x4, some (.str (preS z)), some (.str (locS z)), none] H := by
  have sc := sc__law_right
  obtain ⟨oc, od, kV, doc, pm, an, cdT, ct, osl, fdT, lkT, cdT'⟩ := T.d__law_error.F.ex
  have bT := T.d__law_error.b
  have cdT := cdT'
  rw [fdT] at lkT bT
  refine ⟨_, (pss_cons (ps_if (PW.pt (pw_and (pt_cmpR op_ne (pv 5) pe_str (nomark _)) (pw_and1 (pt_cmpR op_notIn_seq (pv 5) (pe_tup (pa_cons pe_str (pa_cons pe_str pa_nil))) (by rfl))))) (pss_cons (ps_set (i := 3) sc.nd rfl (Or.inl rfl) (pe_lst (pa_cons ((LamX.pe_lamcall (T := Tb) (k := 5) (c := cL) (P := PL) rfl T.d__law_error.m T.d__law_error.F.kp lkT cdT bT sc__law_error rfl (Or.inl rfl) (told_gives (X := _) T (hr.r.mono (by decide)) G__law_word _ _ _) TB rfl hm hu (hr.r.mono (by decide)) (LamX.lamS_by (sc := defScope s__law_right) (by decide +kernel)) rfl (fun _ _ _ _ _ => rfl) (fun A outer s H E f c' hr2 => pe_meth (pv 0) T.cl_Scope T.me_Scope_expanded G_Scope_expanded (hr2.mono (by decide)) T.b_Scope_expanded T.hd_Scope_expanded (passes_call (takes_of rfl rfl rfl rfl) fun _ _ _ _ z => z) (pa_cons (pv 1) pa_nil)))) pa_nil)))
      (pss_cons (ps_expr (pe_bm PySem.F.plainAttrs_list PySem.F.slot_list_append PySem.F.type_list_append mt_append (pv 3) (pa_cons ((LamX.pe_lamcall (T := Tb) (k := 5) (c := cL) (P := PL) rfl T.d__law_error.m T.d__law_error.F.kp lkT cdT bT sc__law_error rfl (Or.inl rfl) (told_gives (X := _) T (hr.r.mono (by decide)) G__law_word _ _ _) TB rfl hm hu (hr.r.mono (by decide)) (LamX.lamS_by (sc := defScope s__law_right) (by decide +kernel)) rfl (fun _ _ _ _ _ => rfl) (fun A outer s H E f c' hr2 => Mx.pe_methKW (pv 0) T.cl_Scope T.me_Scope_expanded G_Scope_expanded (hr2.mono (by decide)) T.kb2_Scope_expanded (passes_call (takes_of rfl rfl rfl rfl) fun _ _ _ _ z => z) (pa_cons (pv 1) pa_nil) (pk_cons pe_bl pk_nil)))) pa_nil)))
      (pss_one (ps_ret ((pe_and (pe_cmpR (op_eqD hr.r.units) (pv 3) (pe_op op_rep (pe_lst (pa_cons (pe_tup (pa_cons pe_str (pa_cons (pv 1) (pa_cons pe_non pa_nil)))) pa_nil)) pe_int) (nomark _)) (pe_one (pe_cmpR (op_eqD hr.r.units) ((LamX.pe_lamcall (T := Tb) (k := 5) (c := cL) (P := PL) rfl T.d__law_error.m T.d__law_error.F.kp lkT cdT bT sc__law_error rfl (Or.inl rfl) (told_gives (X := _) T (hr.r.mono (by decide)) G__law_word _ _ _) TB rfl hm hu (hr.r.mono (by decide)) (LamX.lamS_by (sc := defScope s__law_right) (by decide +kernel)) rfl (fun _ _ _ _ _ => rfl) (fun A outer s H E f c' hr2 => Mx.pe_ixOwn T.ow_Scope___getitem__ T.fn_Scope___getitem__ G_Scope___getitem__ (hr2.mono (by decide)) T.b_Scope___getitem__ (passes_call (takes_of rfl rfl rfl rfl) fun _ _ _ _ z => z) (pv 0) (pv 5)))) (pe_tup (pa_cons pe_str (pa_cons (pv 5) (pa_cons pe_non pa_nil)))) (nomark _))))))))) pss_nil)
      (pss_cons (ps_set (i := 7) sc.nd rfl (Or.inl rfl) (pe_dget (hu_of hr.r) (pe_disp (pps_cons pe_str pe_str (pps_cons pe_str pe_str (pps_cons pe_str pe_str pps_nil))) rfl rfl (by simp) (by decide)) (pv 5) (fun _ _ => rfl)))
      (pss_cons (ps_if (pt_cmpR (op_neD hr.r.units) (Mx.pe_methKW (pv 0) T.cl_Scope T.me_Scope_expanded G_Scope_expanded (hr.r.mono (by decide)) T.kb2_Scope_expanded passL (pa_cons (pv 1) pa_nil) (pk_cons pe_bl pk_nil)) (pe_tup (pa_cons (pe_ifExp (pt_cmpR op_eq (pv 5) pe_str (nomark _)) pe_non (pv 7)) (pa_cons (pv 6) pa_nil))) (nomark _)) (pss_one (ps_ret pe_bl)) pss_nil)
      (pss_one (ps_ret ((pe_and (pe_cmpR (op_eqD hr.r.units) (pe_meth (pv 0) T.cl_Scope T.me_Scope_expanded G_Scope_expanded (hr.r.mono (by decide)) T.b_Scope_expanded T.hd_Scope_expanded passL (pa_cons (pv 1) pa_nil)) (pe_tup (pa_cons (pv 7) (pa_cons (pv 6) pa_nil))) (nomark _)) (pe_one (pe_cmpR op_eq (Mx.pe_ixOwn T.ow_Scope___getitem__ T.fn_Scope___getitem__ G_Scope___getitem__ (hr.r.mono (by decide)) T.b_Scope___getitem__ passL (pv 0) (pv 5)) (pv 7) (nomark _)))))))))), ?_⟩
  intro S z x3 x4 H Q hsc tb hz hn q
  by_cases e : preS z = ""
  · rw [e]
    walk_at "rds"
    obtain ⟨H1, eH, g0⟩ : ∃ H1, H1 = H ∧ Go Tb H H1 := ⟨H, rfl, Go.refl _ _⟩
    rw [← eH]
    have hsc0 := hsc.go g0
    clear eH
    refine fun (p : Addr) (hp : (_ : Hp) p = none) => ?_
    refine ⟨upd_same, [(.inr "", .str "u"), (.inr "p", .str "v"), (.inr "xml", .str XMLN)], rfl, Nat.le_of_ble_eq_true rfl, ?_⟩
    rw [upd_upd]
    have fD : upd H1 p (.dK (mergeK [] [(.inr "", .str "u"), (.inr "p", .str "v"), (.inr "xml", .str XMLN)])) p = some (.dK (mergeK [] [(.inr "", .str "u"), (.inr "p", .str "v"), (.inr "xml", .str XMLN)])) := upd_same
    have g1 := g0.new (o := .dK (mergeK [] [(.inr "", .str "u"), (.inr "p", .str "v"), (.inr "xml", .str XMLN)])) hp
    generalize upd H1 p (.dK (mergeK [] [(.inr "", .str "u"), (.inr "p", .str "v"), (.inr "xml", .str XMLN)])) = H2 at *
    refine ⟨_, rfl, ?_⟩
    refine ⟨p, .str "u", rfl, .inl ⟨_, .inr "", .inl fD, rfl, by decide +kernel⟩, ?_⟩
    have hsc2 := hsc.go g1
    obtain ⟨dx2, D2, hS2, hD2⟩ := id hsc2
    clear g0 hsc0 fD
    walk_at "rds"
    refine ⟨S, dx2, _, rfl, hS2, rfl, ?_⟩
    walk_at "rds"
    refine ⟨S, links3, _, true, rfl, hsc2, ?_⟩
    refine .inl ⟨z, rfl, hz.mono (by decide), hn, .inl ⟨.non, by unfold mean; rw [if_pos e]; rfl, fun H3 p3 s3 hp3 => ?_⟩⟩
    have g3 := (g1.trans (Go.same (Tb := Tb) s3)).new (o := .tup [.non, .str (locS z)]) hp3
    have f3 : upd H3 p3 (.tup [.non, .str (locS z)]) p3 = some (.tup [.non, .str (locS z)]) := upd_same
    generalize upd H3 p3 (.tup [.non, .str (locS z)]) = H4 at *
    clear s3 hp3 g1 hsc2 hS2 hD2 dx2 D2
    walk_at "rds"
    refine fun (p4 : Addr) (hp4 : (_ : Hp) p4 = none) => ?_
    have f4 : upd H4 p4 (.tup [.non, .str (locS z)]) p4 = some (.tup [.non, .str (locS z)]) := upd_same
    have f3 := lk_new (o := .tup [.non, .str (locS z)]) hp4 f3
    have g4 := g3.new (o := .tup [.non, .str (locS z)]) hp4
    generalize upd H4 p4 (.tup [.non, .str (locS z)]) = H5 at *
    have l1 := lay_loc hz
    have l2 := lay_u
    walk_at "eqd"
    refine ⟨_, rfl, ?_⟩
    refine itF rfl ?_
    have hsc2 := hsc.go g4
    obtain ⟨dx2, D2, hS2, hD2⟩ := id hsc2
    clear g3 hp4 f3 f4
    walk_at "rds"
    refine ⟨S, dx2, _, rfl, hS2, rfl, ?_⟩
    walk_at "rds"
    refine ⟨S, links3, _, false, rfl, hsc2, ?_⟩
    refine .inl ⟨z, rfl, hz.mono (by decide), hn, .inl ⟨.str "u", by unfold mean; rw [if_pos e]; rfl, fun H3 p3 s3 hp3 => ?_⟩⟩
    have g5 := (g4.trans (Go.same (Tb := Tb) s3)).new (o := .tup [.str "u", .str (locS z)]) hp3
    have f3 : upd H3 p3 (.tup [.str "u", .str (locS z)]) p3 = some (.tup [.str "u", .str (locS z)]) := upd_same
    generalize upd H3 p3 (.tup [.str "u", .str (locS z)]) = H6 at *
    clear s3 hp3 g4 hsc2 hS2 hD2 dx2 D2
    walk_at "rds"
    refine fun (p4 : Addr) (hp4 : (_ : Hp) p4 = none) => ?_
    have f4 : upd H6 p4 (.tup [.str "u", .str (locS z)]) p4 = some (.tup [.str "u", .str (locS z)]) := upd_same
    have f3 := lk_new (o := .tup [.str "u", .str (locS z)]) hp4 f3
    have g6 := g5.new (o := .tup [.str "u", .str (locS z)]) hp4
    generalize upd H6 p4 (.tup [.str "u", .str (locS z)]) = H7 at *
    walk_at "eqd"
    refine ⟨_, rfl, ?_⟩
    refine itT rfl ?_
    have hsc2 := hsc.go g6
    obtain ⟨dx2, D2, hS2, hD2⟩ := id hsc2
    clear g5 hp4 f3 f4
    walk_at "rds"
    refine ⟨S, dx2, _, rfl, hS2, S, links3, "", rfl, hsc2, .inl ⟨.str "u", by decide +kernel, ?_⟩⟩
    walk_at "rds"
    have f := q _ g6
    rw [← show decide (V.str "u" = V.str "u") = true from decide_eq_true rfl] at f
    exact f
  by_cases e2 : preS z = "p"
  · have e := e2
    clear e2
    rw [e]
    have d1 : decide (V.str "p" = V.str "") = false := by decide
    walk_at "rds"
    intro pn hpn
    refine ⟨pn, _, rfl, .inr (SqT.of upd_same), rfl, rfl, ?_⟩
    have g0 := Go.new (Go.refl Tb H) (o := .tup [.str "p", .str "xml"]) hpn
    have hsc0 := hsc.go g0
    generalize upd H pn (.tup [.str "p", .str "xml"]) = H1 at *
    refine ⟨_, rfl, ?_⟩
    refine itF (by decide) ?_
    walk_at "rds"
    refine fun (p : Addr) (hp : (_ : Hp) p = none) => ?_
    refine ⟨upd_same, [(.inr "", .str "u"), (.inr "p", .str "v"), (.inr "xml", .str XMLN)], rfl, Nat.le_of_ble_eq_true rfl, ?_⟩
    rw [upd_upd]
    have fD : upd H1 p (.dK (mergeK [] [(.inr "", .str "u"), (.inr "p", .str "v"), (.inr "xml", .str XMLN)])) p = some (.dK (mergeK [] [(.inr "", .str "u"), (.inr "p", .str "v"), (.inr "xml", .str XMLN)])) := upd_same
    have g1 := g0.new (o := .dK (mergeK [] [(.inr "", .str "u"), (.inr "p", .str "v"), (.inr "xml", .str XMLN)])) hp
    generalize upd H1 p (.dK (mergeK [] [(.inr "", .str "u"), (.inr "p", .str "v"), (.inr "xml", .str XMLN)])) = H2 at *
    refine ⟨_, rfl, ?_⟩
    refine ⟨p, .str "v", rfl, .inl ⟨_, .inr "p", .inl fD, rfl, by decide +kernel⟩, ?_⟩
    have hsc2 := hsc.go g1
    obtain ⟨dx2, D2, hS2, hD2⟩ := id hsc2
    clear g0 hsc0 fD
    walk_at "rds"
    refine ⟨S, dx2, _, rfl, hS2, rfl, ?_⟩
    walk_at "rds"
    refine ⟨S, links3, _, true, rfl, hsc2, ?_⟩
    refine .inl ⟨z, rfl, hz.mono (by decide), hn, .inl ⟨.str "v", by unfold mean; rw [e, if_neg (by decide)]; rfl, fun H3 p3 s3 hp3 => ?_⟩⟩
    have g3 := (g1.trans (Go.same (Tb := Tb) s3)).new (o := .tup [.str "v", .str (locS z)]) hp3
    have f3 : upd H3 p3 (.tup [.str "v", .str (locS z)]) p3 = some (.tup [.str "v", .str (locS z)]) := upd_same
    generalize upd H3 p3 (.tup [.str "v", .str (locS z)]) = H4 at *
    clear s3 hp3 g1 hsc2 hS2 hD2 dx2 D2
    walk_at "rds"
    refine fun (p4 : Addr) (hp4 : (_ : Hp) p4 = none) => ?_
    have f4 : upd H4 p4 (.tup [.str "v", .str (locS z)]) p4 = some (.tup [.str "v", .str (locS z)]) := upd_same
    have f3 := lk_new (o := .tup [.str "v", .str (locS z)]) hp4 f3
    have g4 := g3.new (o := .tup [.str "v", .str (locS z)]) hp4
    generalize upd H4 p4 (.tup [.str "v", .str (locS z)]) = H5 at *
    have l1 := lay_loc hz
    have l2 := lay_v
    walk_at "eqd"
    refine ⟨_, rfl, ?_⟩
    refine itF rfl ?_
    have hsc2 := hsc.go g4
    obtain ⟨dx2, D2, hS2, hD2⟩ := id hsc2
    clear g3 hp4 f3 f4
    walk_at "rds"
    refine ⟨S, dx2, _, rfl, hS2, rfl, ?_⟩
    walk_at "rds"
    refine ⟨S, links3, _, false, rfl, hsc2, ?_⟩
    refine .inl ⟨z, rfl, hz.mono (by decide), hn, .inl ⟨.str "v", by unfold mean; rw [e, if_neg (by decide)]; rfl, fun H3 p3 s3 hp3 => ?_⟩⟩
    have g5 := (g4.trans (Go.same (Tb := Tb) s3)).new (o := .tup [.str "v", .str (locS z)]) hp3
    have f3 : upd H3 p3 (.tup [.str "v", .str (locS z)]) p3 = some (.tup [.str "v", .str (locS z)]) := upd_same
    generalize upd H3 p3 (.tup [.str "v", .str (locS z)]) = H6 at *
    clear s3 hp3 g4 hsc2 hS2 hD2 dx2 D2
    walk_at "rds"
    refine fun (p4 : Addr) (hp4 : (_ : Hp) p4 = none) => ?_
    have f4 : upd H6 p4 (.tup [.str "v", .str (locS z)]) p4 = some (.tup [.str "v", .str (locS z)]) := upd_same
    have f3 := lk_new (o := .tup [.str "v", .str (locS z)]) hp4 f3
    have g6 := g5.new (o := .tup [.str "v", .str (locS z)]) hp4
    generalize upd H6 p4 (.tup [.str "v", .str (locS z)]) = H7 at *
    walk_at "eqd"
    refine ⟨_, rfl, ?_⟩
    refine itT rfl ?_
    have hsc2 := hsc.go g6
    obtain ⟨dx2, D2, hS2, hD2⟩ := id hsc2
    clear g5 hp4 f3 f4
    walk_at "rds"
    refine ⟨S, dx2, _, rfl, hS2, S, links3, "p", rfl, hsc2, .inl ⟨.str "v", by decide +kernel, ?_⟩⟩
    walk_at "rds"
    have f := q _ g6
    rw [← show decide (V.str "v" = V.str "v") = true from decide_eq_true rfl] at f
    exact f
  by_cases e3 : preS z = "xml"
  · have e := e3
    clear e3
    rw [e]
    have d1 : decide (V.str "xml" = V.str "") = false := by decide
    walk_at "rds"
    intro pn hpn
    refine ⟨pn, _, rfl, .inr (SqT.of upd_same), rfl, rfl, ?_⟩
    have g0 := Go.new (Go.refl Tb H) (o := .tup [.str "p", .str "xml"]) hpn
    have hsc0 := hsc.go g0
    generalize upd H pn (.tup [.str "p", .str "xml"]) = H1 at *
    refine ⟨_, rfl, ?_⟩
    refine itF (by decide) ?_
    walk_at "rds"
    refine fun (p : Addr) (hp : (_ : Hp) p = none) => ?_
    refine ⟨upd_same, [(.inr "", .str "u"), (.inr "p", .str "v"), (.inr "xml", .str XMLN)], rfl, Nat.le_of_ble_eq_true rfl, ?_⟩
    rw [upd_upd]
    have fD : upd H1 p (.dK (mergeK [] [(.inr "", .str "u"), (.inr "p", .str "v"), (.inr "xml", .str XMLN)])) p = some (.dK (mergeK [] [(.inr "", .str "u"), (.inr "p", .str "v"), (.inr "xml", .str XMLN)])) := upd_same
    have g1 := g0.new (o := .dK (mergeK [] [(.inr "", .str "u"), (.inr "p", .str "v"), (.inr "xml", .str XMLN)])) hp
    generalize upd H1 p (.dK (mergeK [] [(.inr "", .str "u"), (.inr "p", .str "v"), (.inr "xml", .str XMLN)])) = H2 at *
    refine ⟨_, rfl, ?_⟩
    refine ⟨p, .str XMLN, rfl, .inl ⟨_, .inr "xml", .inl fD, rfl, by decide +kernel⟩, ?_⟩
    have hsc2 := hsc.go g1
    obtain ⟨dx2, D2, hS2, hD2⟩ := id hsc2
    clear g0 hsc0 fD
    walk_at "rds"
    refine ⟨S, dx2, _, rfl, hS2, rfl, ?_⟩
    walk_at "rds"
    refine ⟨S, links3, _, true, rfl, hsc2, ?_⟩
    refine .inl ⟨z, rfl, hz.mono (by decide), hn, .inl ⟨.str XMLN, by unfold mean; rw [e, if_neg (by decide)]; rfl, fun H3 p3 s3 hp3 => ?_⟩⟩
    have g3 := (g1.trans (Go.same (Tb := Tb) s3)).new (o := .tup [.str XMLN, .str (locS z)]) hp3
    have f3 : upd H3 p3 (.tup [.str XMLN, .str (locS z)]) p3 = some (.tup [.str XMLN, .str (locS z)]) := upd_same
    generalize upd H3 p3 (.tup [.str XMLN, .str (locS z)]) = H4 at *
    clear s3 hp3 g1 hsc2 hS2 hD2 dx2 D2
    walk_at "rds"
    refine fun (p4 : Addr) (hp4 : (_ : Hp) p4 = none) => ?_
    have f4 : upd H4 p4 (.tup [.str XMLN, .str (locS z)]) p4 = some (.tup [.str XMLN, .str (locS z)]) := upd_same
    have f3 := lk_new (o := .tup [.str XMLN, .str (locS z)]) hp4 f3
    have g4 := g3.new (o := .tup [.str XMLN, .str (locS z)]) hp4
    generalize upd H4 p4 (.tup [.str XMLN, .str (locS z)]) = H5 at *
    have l1 := lay_loc hz
    have l2 := lay_X
    walk_at "eqd"
    refine ⟨_, rfl, ?_⟩
    refine itF rfl ?_
    have hsc2 := hsc.go g4
    obtain ⟨dx2, D2, hS2, hD2⟩ := id hsc2
    clear g3 hp4 f3 f4
    walk_at "rds"
    refine ⟨S, dx2, _, rfl, hS2, rfl, ?_⟩
    walk_at "rds"
    refine ⟨S, links3, _, false, rfl, hsc2, ?_⟩
    refine .inl ⟨z, rfl, hz.mono (by decide), hn, .inl ⟨.str XMLN, by unfold mean; rw [e, if_neg (by decide)]; rfl, fun H3 p3 s3 hp3 => ?_⟩⟩
    have g5 := (g4.trans (Go.same (Tb := Tb) s3)).new (o := .tup [.str XMLN, .str (locS z)]) hp3
    have f3 : upd H3 p3 (.tup [.str XMLN, .str (locS z)]) p3 = some (.tup [.str XMLN, .str (locS z)]) := upd_same
    generalize upd H3 p3 (.tup [.str XMLN, .str (locS z)]) = H6 at *
    clear s3 hp3 g4 hsc2 hS2 hD2 dx2 D2
    walk_at "rds"
    refine fun (p4 : Addr) (hp4 : (_ : Hp) p4 = none) => ?_
    have f4 : upd H6 p4 (.tup [.str XMLN, .str (locS z)]) p4 = some (.tup [.str XMLN, .str (locS z)]) := upd_same
    have f3 := lk_new (o := .tup [.str XMLN, .str (locS z)]) hp4 f3
    have g6 := g5.new (o := .tup [.str XMLN, .str (locS z)]) hp4
    generalize upd H6 p4 (.tup [.str XMLN, .str (locS z)]) = H7 at *
    walk_at "eqd"
    refine ⟨_, rfl, ?_⟩
    refine itT rfl ?_
    have hsc2 := hsc.go g6
    obtain ⟨dx2, D2, hS2, hD2⟩ := id hsc2
    clear g5 hp4 f3 f4
    walk_at "rds"
    refine ⟨S, dx2, _, rfl, hS2, S, links3, "xml", rfl, hsc2, .inl ⟨.str XMLN, by decide +kernel, ?_⟩⟩
    walk_at "rds"
    have f := q _ g6
    rw [← show decide (V.str XMLN = V.str XMLN) = true from decide_eq_true rfl] at f
    exact f
  have E1 : decide (V.str (preS z) = V.str "") = false := decide_eq_false fun h => e (by injection h)
  have E2 : (!inV (.str (preS z)) [.str "p", .str "xml"]) = true := by
    have a1 : eqV (.str "p") (.str (preS z)) = false := by
      cases h : eqV (.str "p") (.str (preS z)) with
      | false => rfl
      | true => exact absurd (eq_of_beq h).symm e2
    have a2 : eqV (.str "xml") (.str (preS z)) = false := by
      cases h : eqV (.str "xml") (.str (preS z)) with
      | false => rfl
      | true => exact absurd (eq_of_beq h).symm e3
    show (!(eqV (.str "p") (.str (preS z)) || (eqV (.str "xml") (.str (preS z)) || false))) = true
    rw [a1, a2]
    rfl
  have hv : valV links3 (.inr (preS z)) = none := by
    have b1 : decide ((.inr "xml" : Key) = .inr (preS z)) = false := decide_eq_false fun h => e3 (by injection h with h; exact h.symm)
    have b2 : decide ((.inr "" : Key) = .inr (preS z)) = false := decide_eq_false fun h => e (by injection h with h; exact h.symm)
    have b3 : decide ((.inr "p" : Key) = .inr (preS z)) = false := decide_eq_false fun h => e2 (by injection h with h; exact h.symm)
    unfold valV links3
    rw [List.find?_cons_of_neg (by rw [b1]; decide), List.find?_cons_of_neg (by rw [b2]; decide), List.find?_cons_of_neg (by rw [b3]; decide)]
    rfl
  have hm : ∀ b, mean links3 z b = none := fun b => by
    unfold mean
    rw [if_neg e, hv]
  walk_at "rds"
  intro pn hpn
  refine ⟨pn, _, rfl, .inr (SqT.of upd_same), rfl, rfl, ?_⟩
  have g0 := Go.new (Go.refl Tb H) (o := .tup [.str "p", .str "xml"]) hpn
  generalize upd H pn (.tup [.str "p", .str "xml"]) = H1 at *
  refine ⟨_, rfl, ?_⟩
  refine itT E2 ?_
  have tb2 := g0.2 tb
  refine lam_in tb2 (fun H2 g2 => ?_)
  have g2 := g0.trans g2
  clear g0
  have hsc2 := hsc.go g2
  obtain ⟨dx2, D2, hS2, hD2⟩ := id hsc2
  walk_at "rds"
  refine ⟨S, dx2, _, rfl, hS2, rfl, ?_⟩
  walk_at "rds"
  refine ⟨S, links3, _, false, rfl, hsc2, .inl ⟨z, rfl, hz.mono (by decide), hn, .inr ⟨hm _, fun H3 d3 s3 hd3 => ?_⟩⟩⟩
  refine told_unbound T upd_same (fun H4 p1 s4 hp1 => ?_)
  have s9 := (Same.new (o := .xd (fsOf ["spelling", "place"] [.str z, .non])) s3 hd3).trans s4
  have g := (g2.trans (Go.same (Tb := Tb) s9)).new (o := .tup [.str "unbound", .str z, .non]) hp1
  have f1 : upd H4 p1 (.tup [.str "unbound", .str z, .non]) p1 = some (.tup [.str "unbound", .str z, .non]) := upd_same
  generalize upd H4 p1 (.tup [.str "unbound", .str z, .non]) = H5 at *
  clear s9 s3 hd3 s4 hp1 g2 hsc2 hS2 hD2 dx2 D2
  walk_at "rds"
  intro L hL
  have g0 := g
  have g := g.new (o := .lst [.ref p1]) hL
  have fL : upd H5 L (.lst [.ref p1]) L = some (.lst [.ref p1]) := upd_same
  have f1 := lk_new (o := .lst [.ref p1]) hL f1
  generalize upd H5 L (.lst [.ref p1]) = H6 at *
  walk_at "rds"
  refine ⟨.inl ⟨rfl, _, SqL.of fL⟩, ?_⟩
  refine lam_in (g.2 tb) (fun H7 g7 => ?_)
  have fL := lk_go g7 (fun _ z => by cases z) fL
  have f1 := lk_go g7 (fun _ z => by cases z) f1
  have g7 := g.trans g7
  clear g
  have hsc2 := hsc.go g7
  obtain ⟨dx2, D2, hS2, hD2⟩ := id hsc2
  walk_at "rds"
  refine ⟨S, dx2, _, rfl, hS2, rfl, ?_⟩
  walk_at "rds"
  refine ⟨S, links3, _, true, rfl, hsc2, .inl ⟨z, rfl, hz.mono (by decide), hn, .inr ⟨hm _, fun H8 d3 s3 hd3 => ?_⟩⟩⟩
  refine told_unbound T upd_same (fun H9 p2 s4 hp2 => ?_)
  have s9 := (Same.new (o := .xd (fsOf ["spelling", "place"] [.str z, .non])) s3 hd3).trans s4
  have g := (g7.trans (Go.same (Tb := Tb) s9)).new (o := .tup [.str "unbound", .str z, .non]) hp2
  have f2 : upd H9 p2 (.tup [.str "unbound", .str z, .non]) p2 = some (.tup [.str "unbound", .str z, .non]) := upd_same
  have f1 := lk_new (o := .tup [.str "unbound", .str z, .non]) hp2 (s9 _ _ f1)
  have fL := lk_new (o := .tup [.str "unbound", .str z, .non]) hp2 (s9 _ _ fL)
  generalize upd H9 p2 (.tup [.str "unbound", .str z, .non]) = H10 at *
  clear g7 s3 hd3 s4 hp2 s9 hsc2 hS2 hD2 dx2 D2
  walk_at "rds"
  refine ⟨L, _, _, rfl, rfl, fL, Nat.le_of_ble_eq_true rfl, ?_⟩
  have g : Go Tb H (upd H10 L (.lst ([.ref p1] ++ [.ref p2]))) := go_set2 fL hL g0 g
  have f1 : upd H10 L (.lst ([.ref p1] ++ [.ref p2])) p1 = some (.tup [.str "unbound", .str z, .non]) := lk_ne (ne_of f1 fL (fun z => by cases z)) f1
  have f2 : upd H10 L (.lst ([.ref p1] ++ [.ref p2])) p2 = some (.tup [.str "unbound", .str z, .non]) := lk_ne (ne_of f2 fL (fun z => by cases z)) f2
  have fL : upd H10 L (.lst ([.ref p1] ++ [.ref p2])) L = some (.lst [.ref p1, .ref p2]) := upd_same
  generalize upd H10 L (.lst ([.ref p1] ++ [.ref p2])) = H11 at *
  clear g0 hL
  walk_at "rds"
  intro p3 hp3
  have f3 : upd H11 p3 (.tup [.str "unbound", .str z, .non]) p3 = some (.tup [.str "unbound", .str z, .non]) := upd_same
  have f1 := lk_new (o := .tup [.str "unbound", .str z, .non]) hp3 f1
  have f2 := lk_new (o := .tup [.str "unbound", .str z, .non]) hp3 f2
  have fL := lk_new (o := .tup [.str "unbound", .str z, .non]) hp3 fL
  have g := g.new (o := .tup [.str "unbound", .str z, .non]) hp3
  generalize upd H11 p3 (.tup [.str "unbound", .str z, .non]) = H12 at *
  clear hp3
  walk_at "rds"
  intro p4 hp4
  have f4 : upd H12 p4 (.lst [.ref p3]) p4 = some (.lst [.ref p3]) := upd_same
  have f1 := lk_new (o := .lst [.ref p3]) hp4 f1
  have f2 := lk_new (o := .lst [.ref p3]) hp4 f2
  have f3 := lk_new (o := .lst [.ref p3]) hp4 f3
  have fL := lk_new (o := .lst [.ref p3]) hp4 fL
  have g := g.new (o := .lst [.ref p3]) hp4
  generalize upd H12 p4 (.lst [.ref p3]) = H13 at *
  clear hp4
  walk_at "rds"
  refine ⟨p4, 2, _, rfl, rfl, f4, by decide, by decide, Nat.le_of_ble_eq_true rfl, fun p5 hp5 => ?_⟩
  have e5 : (List.replicate (2 : Int).toNat [V.ref p3]).flatten = [.ref p3, .ref p3] := rfl
  rw [e5]
  have f5 : upd H13 p5 (.lst [.ref p3, .ref p3]) p5 = some (.lst [.ref p3, .ref p3]) := upd_same
  have f1 := lk_new (o := .lst [.ref p3, .ref p3]) hp5 f1
  have f2 := lk_new (o := .lst [.ref p3, .ref p3]) hp5 f2
  have f3 := lk_new (o := .lst [.ref p3, .ref p3]) hp5 f3
  have fL := lk_new (o := .lst [.ref p3, .ref p3]) hp5 fL
  have g := g.new (o := .lst [.ref p3, .ref p3]) hp5
  generalize upd H13 p5 (.lst [.ref p3, .ref p3]) = H14 at *
  clear hp5 f4
  have l1 := lay_pre hz
  have l2 := lay_zz hz
  have l3 := lay_unb
  walk_at "eqd"
  walk_at "rds"
  refine lam_in (g.2 tb) (fun H15 g15 => ?_)
  have g := g.trans g15
  clear g15 f1 f2 f3 fL f5
  have hsc2 := hsc.go g
  obtain ⟨dx2, D2, hS2, hD2⟩ := id hsc2
  walk_at "rds"
  refine ⟨S, dx2, _, rfl, hS2, S, links3, preS z, rfl, hsc2, .inr ⟨hv, fun H8 d3 s3 hd3 => ?_⟩⟩
  refine told_unbound T upd_same (fun H9 p2 s4 hp2 => ?_)
  have s9 := (Same.new (o := .xd (fsOf ["spelling", "place"] [.str (preS z), .non])) s3 hd3).trans s4
  have g := (g.trans (Go.same (Tb := Tb) s9)).new (o := .tup [.str "unbound", .str (preS z), .non]) hp2
  have f2 : upd H9 p2 (.tup [.str "unbound", .str (preS z), .non]) p2 = some (.tup [.str "unbound", .str (preS z), .non]) := upd_same
  generalize upd H9 p2 (.tup [.str "unbound", .str (preS z), .non]) = H16 at *
  clear s9 s3 hd3 s4 hp2 hsc2 hS2 hD2 dx2 D2
  walk_at "rds"
  intro p3 hp3
  have f3 : upd H16 p3 (.tup [.str "unbound", .str (preS z), .non]) p3 = some (.tup [.str "unbound", .str (preS z), .non]) := upd_same
  have f2 := lk_new (o := .tup [.str "unbound", .str (preS z), .non]) hp3 f2
  have g := g.new (o := .tup [.str "unbound", .str (preS z), .non]) hp3
  generalize upd H16 p3 (.tup [.str "unbound", .str (preS z), .non]) = H17 at *
  clear hp3
  walk_at "eqd"
  exact q _ g

end
end K4

set_option maxHeartbeats 1000000
set_option pp.maxSteps 700
set_option pp.deepTerms false
set_option pp.deepTerms.threshold 14
namespace K4
open PySem PySem.Spec PyProof.Rows L2 Mx
open TL Nam
local macro_rules | `(tactic| walk_at "sz") => `(tactic| first | assumption | decide | omega | (unfold sizeLine; omega) | exact Nat.le_of_ble_eq_true rfl)
local macro_rules | `(tactic| walk_at "hp") => `(tactic| (first | assumption | exact upd_same | (rw [upd_ne (by assumption)]; assumption)))
local macro_rules | `(tactic| walk_at "rd") => `(tactic| (first
  | refine ⟨_, rfl, ?_⟩
  | (refine ⟨_, _, rfl, rfl, ?rdc, ?_⟩; (case rdc => first | (show (0 : Int) < _; omega) | (exact ⟨by omega, by omega⟩) | (exact .inl ⟨by omega, by omega⟩) | (exact .inr ⟨by omega, by omega⟩) | exact ⟨by decide, by decide, by decide⟩))
  | refine ⟨_, _, rfl, rfl, ?_⟩
  | refine .inl ⟨_, rfl, ?_⟩
  | refine ⟨rfl, ?_⟩
  | refine ⟨⟨_, rfl⟩, ?_⟩
  | refine ⟨⟨_, SqL.of (by walk_at "hp")⟩, ?_⟩
  | refine ⟨_, _, _, _, rfl, rfl, SqL.of (by walk_at "hp"), (by rfl), ?_⟩
  | refine ⟨_, _, _, _, rfl, rfl, (by walk_at "hp"), (by rfl), ?_⟩
  | refine ⟨_, _, rfl, ⟨by walk_at "sz", rfl⟩, ?_⟩
  | refine ⟨_, _, _, rfl, rfl, by walk_at "sz", by assumption, ?_⟩
  | refine And.intro (by walk_at "sz") ?_
  | refine itT rfl ?_
  | refine itF rfl ?_
  | refine itT (by assumption) ?_
  | refine itF (by assumption) ?_
  | refine itT (decide_eq_true (by omega)) ?_
  | refine itF (decide_eq_false (by omega)) ?_
  | refine itT (dVi (by omega)) ?_
  | refine itF (dViN (by omega)) ?_
  | refine itT (notT (by assumption)) ?_
  | refine itF (notF (by assumption)) ?_
  | refine itT (notT (dViN (by omega))) ?_
  | refine itF (notF (dVi (by omega))) ?_
  | refine itT (decide_eq_true rfl) ?_
  | refine itF (notF (decide_eq_true rfl)) ?_
  | refine ite2 (fun _ => ?_) (fun _ => ?_)
  | with_reducible refine tC_ ?_
  | with_reducible refine tNext_ ?_
  | with_reducible refine tNil_ ?_
  | with_reducible refine tYes_ ?_))
local macro_rules | `(tactic| walk_at "rds") => `(tactic| repeat' (walk_at "rd"))
section
variable {P : Program} {w : World} {K : PySem.W.Frag} {mg : Str → Option Value} {base : Heap}

local macro_rules | `(tactic| walk_at "lk") => `(tactic| first
  | with_reducible assumption
  | with_reducible exact upd_same
  | (walk_at "lk1"; walk_at "lk")
  | fail "lk")
local macro_rules | `(tactic| walk_at "lk1") => `(tactic| first
  | ((with_reducible refine' lk_new ?a1 ?a2); (case a1 => with_reducible assumption); (case' a2 => skip))
  | ((with_reducible refine' lk_ne ?a1 ?a2); (case a1 => with_reducible assumption); (case' a2 => skip))
  | ((with_reducible refine' lk_neN ?a1 ?a2 ?a3); (case a1 => with_reducible assumption); (case a2 => walk_at "lk"); (case' a3 => skip))
  | ((with_reducible refine' lk_neN' ?a1 ?a2 ?a3); (case a1 => with_reducible assumption); (case a2 => walk_at "lk"); (case' a3 => skip))
  | ((with_reducible refine' lk_same ?a1 ?a2); (case a1 => with_reducible assumption); (case' a2 => skip))
  | ((with_reducible refine' lk_go ?a1 ?a2 ?a3); (case a1 => with_reducible assumption); (case a2 => walk_at "nt"); (case' a3 => skip))
  | ((with_reducible refine' lk_kd ?a1 ?a2 ?a3 ?a4); (case a1 => with_reducible assumption); (case a2 => walk_at "st"); (case a3 => walk_at "nl"); (case' a4 => skip))
  | ((with_reducible refine' lk_kp ?a1 ?a2 ?a3); (case a1 => with_reducible assumption); (case a2 => walk_at "ne"); (case' a3 => skip))
  | fail "lk1")
local macro_rules | `(tactic| walk_at "nt") => `(tactic| first
  | (intro _ z; cases z)
  | fail "nt")
local macro_rules | `(tactic| walk_at "nl") => `(tactic| first
  | (intro _ z; cases z)
  | fail "nl")
local macro_rules | `(tactic| walk_at "ne") => `(tactic| first
  | with_reducible assumption
  | ((with_reducible refine' ne_sd ?a1 ?a2); (case a1 => with_reducible assumption); (case a2 => walk_at "st"))
  | fail "ne")
local macro_rules | `(tactic| walk_at "st") => `(tactic| first
  | with_reducible assumption
  | with_reducible exact sd_new (by with_reducible assumption) (by walk_at "st")
  | with_reducible exact sd_same (by with_reducible assumption) (by walk_at "st")
  | with_reducible exact sd_go (by with_reducible assumption) (by walk_at "st")
  | with_reducible exact sd_ne (by walk_at "ns") (by walk_at "st")
  | fail "st")
local macro_rules | `(tactic| walk_at "ns") => `(tactic| first
  | with_reducible assumption
  | with_reducible exact Ne.symm (by with_reducible assumption)
  | with_reducible exact Ne.symm (ne_sd (by with_reducible assumption) (by walk_at "st"))
  | fail "ns")
local macro_rules | `(tactic| walk_at "fr") => `(tactic| first
  | with_reducible assumption
  | with_reducible exact Same.refl _
  | with_reducible exact Go.refl _ _
  | with_reducible exact Kp.refl _ _
  | with_reducible exact LamX.ExtN.refl _
  | with_reducible exact nw_refl
  | (walk_at "fr1"; walk_at "fr")
  | fail "fr")
local macro_rules | `(tactic| walk_at "fr1") => `(tactic| first
  | ((with_reducible refine' fr_new ?a1 ?a2); (case a1 => with_reducible assumption); (case' a2 => skip))
  | ((with_reducible refine' go_new ?a1 ?a2); (case a1 => with_reducible assumption); (case' a2 => skip))
  | ((with_reducible refine' kp_new ?a1 ?a2); (case a1 => with_reducible assumption); (case' a2 => skip))
  | ((with_reducible refine' fr_same ?a1 ?a2); (case a1 => with_reducible assumption); (case' a2 => skip))
  | ((with_reducible refine' go_same ?a1 ?a2); (case a1 => with_reducible assumption); (case' a2 => skip))
  | ((with_reducible refine' kp_same ?a1 ?a2); (case a1 => with_reducible assumption); (case' a2 => skip))
  | ((with_reducible refine' go_go ?a1 ?a2); (case a1 => with_reducible assumption); (case' a2 => skip))
  | ((with_reducible refine' go_kd ?a1 ?a2 ?a3 ?a4); (case a1 => with_reducible assumption); (case a2 => with_reducible assumption); (case a3 => walk_at "st"); (case' a4 => skip))
  | ((with_reducible refine' kp_kp ?a1 ?a2); (case a1 => with_reducible assumption); (case' a2 => skip))
  | ((with_reducible refine' kp_upd ?a1); (case' a1 => skip))
  | ((with_reducible refine' go_set2 ?a1 ?a2 ?a3 ?a4); (case a1 => walk_at "lk"); (case a2 => with_reducible assumption); (case a3 => walk_at "fr"); (case' a4 => skip))
  | ((with_reducible refine' fr_set2 ?a1 ?a2 ?a3); (case a1 => with_reducible assumption); (case a2 => walk_at "fr"); (case' a3 => skip))
  | ((with_reducible refine' en_new ?a1 ?a2); (case a1 => with_reducible assumption); (case' a2 => skip))
  | ((with_reducible refine' en_same ?a1 ?a2); (case a1 => with_reducible assumption); (case' a2 => skip))
  | ((with_reducible refine' en_go ?a1 ?a2); (case a1 => with_reducible assumption); (case' a2 => skip))
  | ((with_reducible refine' en_set2 ?a1 ?a2 ?a3); (case a1 => with_reducible assumption); (case a2 => walk_at "fr"); (case' a3 => skip))
  | ((with_reducible refine' en_kp ?a1 ?a2 ?a3 ?a4); (case a1 => with_reducible assumption); (case a2 => with_reducible assumption); (case a3 => walk_at "fr"); (case' a4 => skip))
  | ((with_reducible refine' nw_new ?a1 ?a2); (case a1 => with_reducible assumption); (case' a2 => skip))
  | ((with_reducible refine' nw_same ?a1 ?a2); (case a1 => with_reducible assumption); (case' a2 => skip))
  | ((with_reducible refine' nw_go ?a1 ?a2); (case a1 => with_reducible assumption); (case' a2 => skip))
  | ((with_reducible refine' nw_kd ?a1 ?a2 ?a3); (case a1 => with_reducible assumption); (case a2 => walk_at "st"); (case' a3 => skip))
  | ((with_reducible refine' nw_set ?a1 ?a2); (case a1 => walk_at "lk"); (case' a2 => skip))
  | ((with_reducible refine' nw_set2 ?a1 ?a2 ?a3); (case a1 => with_reducible assumption); (case a2 => walk_at "fr"); (case' a3 => skip))
  | fail "fr1")
local macro_rules | `(tactic| walk_at "tb") => `(tactic| first
  | with_reducible assumption
  | (walk_at "tb1"; walk_at "tb")
  | fail "tb")
local macro_rules | `(tactic| walk_at "tb1") => `(tactic| first
  | ((with_reducible refine' tabs_new ?a1 ?a2); (case a1 => with_reducible assumption); (case' a2 => skip))
  | ((with_reducible refine' tabs_same ?a1 ?a2); (case a1 => with_reducible assumption); (case' a2 => skip))
  | ((with_reducible refine' tabs_go ?a1 ?a2); (case a1 => with_reducible assumption); (case' a2 => skip))
  | ((with_reducible refine' tabs_kd ?a1 ?a2 ?a3); (case a1 => with_reducible assumption); (case a2 => walk_at "st"); (case' a3 => skip))
  | ((with_reducible refine' tabs_set ?a1 ?a2); (case a1 => walk_at "lk"); (case' a2 => skip))
  | fail "tb1")
local macro_rules | `(tactic| walk_at "dg") => `(tactic| first
  | assumption
  | (refine' dp_ext ?a1 ?a2; (case a1 => assumption); (case a2 => walk_at "fr"))
  | (refine' dn_use ?a1 ?a2; (case a1 => assumption); (case a2 => walk_at "fr"))
  | fail "dg")
local macro_rules | `(tactic| walk_at "dp") => `(tactic| first
  | assumption
  | exact .str _
  | exact .int _
  | exact .bl _
  | exact .non
  | (refine' Dp.lst (SqL.of ?a1) ?a2; (case a1 => walk_at "lk"); (case a2 => walk_at "dpa"))
  | (refine' Dp.tup (SqT.of ?a1) ?a2; (case a1 => walk_at "lk"); (case a2 => walk_at "dpa"))
  | (walk_at "dg")
  | fail "dp")
local macro_rules | `(tactic| walk_at "dpa") => `(tactic| first
  | assumption
  | exact .nil
  | (refine' DpAll.cons ?a1 ?a2; (case a1 => walk_at "dp"); (case a2 => walk_at "dpa"))
  | fail "dpa")
local macro_rules | `(tactic| walk_at "dx") => `(tactic| first
  | assumption
  | exact .str _
  | exact .int _
  | exact .bl _
  | exact .non
  | (refine' Dx.lst (SqL.of ?a1) ?a2; (case a1 => walk_at "lk"); (case a2 => walk_at "dxa"))
  | (refine' Dx.tup (SqT.of ?a1) ?a2; (case a1 => walk_at "lk"); (case a2 => walk_at "dxa"))
  | (refine' Dx.dct (.inl ?a1) ?a2; (case a1 => walk_at "lk"); (case a2 => exact .nil))
  | (refine' dx_ext ?a1 ?a2; (case a1 => assumption); (case a2 => walk_at "fr"))
  | fail "dx")
local macro_rules | `(tactic| walk_at "dxa") => `(tactic| first
  | assumption
  | exact .nil
  | (refine' DxAll.cons ?a1 ?a2; (case a1 => walk_at "dx"); (case a2 => walk_at "dxa"))
  | fail "dxa")
local macro_rules | `(tactic| walk_at "ty") => `(tactic| first
  | assumption
  | (refine' ty_ext ?a1 ?a2; (case a1 => assumption); (case a2 => walk_at "fr"))
  | fail "ty")
local macro_rules | `(tactic| walk_at "shp") => `(tactic| first
  | assumption
  | (simp only [SeqAt.shaped, lay_l, lay_t, lay_i, lay_b, lay_n, lay_c, lay_e, PyData.depth, PyData.depthAll, Bool.and_true, Bool.true_and, Bool.and_eq_true, decide_eq_true_eq]
     repeat' (first | assumption | (refine And.intro ?_ ?_) | (exact rfl) | (decide +kernel) | omega))
  | decide +kernel)
local macro_rules | `(tactic| walk_at "side") => `(tactic| first
  | assumption
  | (intros; trivial)
  | omega
  | (walk_at "lk")
  | (walk_at "st")
  | (walk_at "sz")
  | (walk_at "tb")
  | (walk_at "fr"))
local macro_rules | `(tactic| walk_at "cl") => `(tactic| ((repeat' (apply Exists.intro)); refine And.intro rfl ?_; repeat (refine And.intro (by walk_at "side") ?_)))
local macro_rules | `(tactic| walk_at "eqd") => `(tactic| (refine ⟨_, _, by walk_at "dp", by walk_at "dp", by walk_at "shp", by walk_at "shp", ?_⟩; rw [eqv_same (by walk_at "shp")]))
local macro_rules | `(tactic| walk_at "new") => `(tactic| refine fun (p : Addr) (hp : (_ : Hp) p = none) => ?_)
local macro_rules | `(tactic| walk_at "rdn") => `(tactic| (repeat' (first | walk_at "rd" | walk_at "new")))

theorem right_6 (T : Tx P w K mg base) {cL PL : Addr} {Tb : List (Addr × Str)} (hm : (PL, ("_law_right.<locals>.<lambda>" : Str)) ∈ Tb) (hu : ∀ p ∈ Tb, p.1 = PL → p.2 = ("_law_right.<locals>.<lambda>" : Str)) (F : FunC K "_law_right" s__law_right T.d__law_right.f T.d__law_right.fd cL) (TB : LamX.TabB base mg cL PL) (G_split_name : FnOk P w K mg base (L2.CX P w) 3 T.d_split_name.f T.d_split_name.fd ["name"] (sp_split_name K T.a_InvalidName)) (G_Scope_expanded : FnOk P w K mg base (L2.CX P w) 4 T.f_Scope_expanded T.fd_Scope_expanded ["self", "name", "attribute"] (sp_Scope_expanded K T.C_Scope T.a_Unbound T.a_InvalidName)) (G_Scope___getitem__ : FnOk P w K mg base (L2.CX P w) 3 T.f_Scope___getitem__ T.fd_Scope___getitem__ ["self", "prefix"] (sp_Scope___getitem__ T.C_Scope T.a_Unbound)) (G_Scope___str__ : FnOk P w K mg base CX0 2 T.f_Scope___str__ T.fd_Scope___str__ ["self"] (sp_Scope___str__ T.C_Scope)) (G__law_is_name : FnOk P w K mg base CX0 3 T.d__law_is_name.f T.d__law_is_name.fd ["thing"] (sp__law_is_name K)) (G__law_word : FnOk P w K mg base CX0 1 T.d__law_word.f T.d__law_word.fd ["caught"] (sp__law_word K T.a_BadBinding T.a_Unbound T.a_Repeated T.a_InvalidName))
    {A : Around} {outer : List Env} {s : Shared} {H0 : Hp} {E : XK} (hr : RmG 8 (A.deeper (envOfC "_law_right" (defScope s__law_right) s.heap.objs.size T.d__law_right.f (.ref cL)))) :
    ∃ t, PSs (cxOf CX0 P w K mg base ["scope", "thing", "shown", "told", "parts", "prefix", "rest_so", "due"] "_law_right" (defScope s__law_right) T.d__law_right.f (.ref cL) A outer s H0 E) ((defBody s__law_right).drop 6) t ∧ ∀ (S L : Addr) (z : Str) (x4 : Option V) (q1 q2 : Addr) (H : Hp) (Q : VK), H L = some (.lst [.ref q1, .ref q2]) → H q1 = some (.tup []) → H q2 = some (.tup []) → ScAt T.C_Scope H S links3 → LamX.Tabs Tb H → Tx8 200 z → Nam.name (tl z) = true → (∀ H', Go Tb H H' → Q (.bl true) H') →
      t { nx := fun _ H' => Q .non H', rt := Q } [some (.ref S), some (.str z), some (.str shown3), some (.ref L), x4, some (.str (preS z)), some (.str (locS z)), none] H := by
  have sc := sc__law_right
  obtain ⟨oc, od, kV, doc, pm, an, cdT, ct, osl, fdT, lkT, cdT'⟩ := T.d__law_error.F.ex
  have bT := T.d__law_error.b
  have cdT := cdT'
  rw [fdT] at lkT bT
  obtain ⟨t7, P7, R7⟩ := right_7 T hm hu F TB G_split_name G_Scope_expanded G_Scope___getitem__ G_Scope___str__ G__law_is_name G__law_word hr (E := E) (s := s) (outer := outer) (H0 := H0)
  refine ⟨_, (pss_cons (ps_if (PW.pt (pw_or (pt_cmpR (op_neD hr.r.units) (pv 3) (pe_lst (pa_cons (pe_tup pa_nil) (pa_cons (pe_tup pa_nil) pa_nil))) (nomark _)) (pw_or1 (pt_cmpR (op_neD hr.r.units) (pe_call G_split_name (hr.r.mono (by decide)) rfl T.d_split_name.m T.d_split_name.F.kp T.d_split_name.b .nil passL (pa_cons (pv 1) pa_nil)) (pe_tup (pa_cons (pv 5) (pa_cons (pv 6) pa_nil))) (nomark _))))) (pss_one (ps_ret pe_bl)) pss_nil)
      P7), ?_⟩
  intro S L z x4 q1 q2 H Q fL f1 f2 hsc tb hz hn q
  have g := Go.refl Tb H
  walk_at "rds"
  intro p1 hp
  have fp1 : upd H p1 (.tup []) p1 = some (.tup []) := upd_same
  have fL := lk_new (o := .tup []) hp fL
  have f1 := lk_new (o := .tup []) hp f1
  have f2 := lk_new (o := .tup []) hp f2
  have g := g.new (o := .tup []) hp
  generalize upd H p1 (.tup []) = H1 at *
  clear hp
  walk_at "rds"
  intro p2 hp
  have fp2 : upd H1 p2 (.tup []) p2 = some (.tup []) := upd_same
  have fL := lk_new (o := .tup []) hp fL
  have f1 := lk_new (o := .tup []) hp f1
  have f2 := lk_new (o := .tup []) hp f2
  have fp1 := lk_new (o := .tup []) hp fp1
  have g := g.new (o := .tup []) hp
  generalize upd H1 p2 (.tup []) = H2 at *
  clear hp
  walk_at "rds"
  intro p3 hp
  have fp3 : upd H2 p3 (.lst [.ref p1, .ref p2]) p3 = some (.lst [.ref p1, .ref p2]) := upd_same
  have fL := lk_new (o := .lst [.ref p1, .ref p2]) hp fL
  have f1 := lk_new (o := .lst [.ref p1, .ref p2]) hp f1
  have f2 := lk_new (o := .lst [.ref p1, .ref p2]) hp f2
  have fp1 := lk_new (o := .lst [.ref p1, .ref p2]) hp fp1
  have fp2 := lk_new (o := .lst [.ref p1, .ref p2]) hp fp2
  have g := g.new (o := .lst [.ref p1, .ref p2]) hp
  generalize upd H2 p3 (.lst [.ref p1, .ref p2]) = H3 at *
  clear hp
  have sh : SeqAt.shaped (.list [.tuple [], .tuple []]) = true := by decide +kernel
  refine ⟨.list [.tuple [], .tuple []], .list [.tuple [], .tuple []], .lst (SqL.of fL) (.cons (.tup (SqT.of f1) .nil) (.cons (.tup (SqT.of f2) .nil) .nil)), .lst (SqL.of fp3) (.cons (.tup (SqT.of fp1) .nil) (.cons (.tup (SqT.of fp2) .nil) .nil)), sh, sh, ?_⟩
  rw [eqv_same sh]
  refine ⟨_, rfl, ?_⟩
  refine itF rfl ?_
  walk_at "rds"
  refine ⟨hz.mono (by decide), hn, fun H4 p4 s4 hp4 => ?_⟩
  have g := g.trans (Go.same (Tb := Tb) s4)
  clear fL f1 f2 fp1 fp2 fp3
  have f4 : upd H4 p4 (.tup [.str (preS z), .str (locS z)]) p4 = some (.tup [.str (preS z), .str (locS z)]) := upd_same
  have g := g.new (o := .tup [.str (preS z), .str (locS z)]) hp4
  generalize upd H4 p4 (.tup [.str (preS z), .str (locS z)]) = H5 at *
  walk_at "rds"
  intro p5 hp
  have fp5 : upd H5 p5 (.tup [.str (preS z), .str (locS z)]) p5 = some (.tup [.str (preS z), .str (locS z)]) := upd_same
  have f4 := lk_new (o := .tup [.str (preS z), .str (locS z)]) hp f4
  have g := g.new (o := .tup [.str (preS z), .str (locS z)]) hp
  generalize upd H5 p5 (.tup [.str (preS z), .str (locS z)]) = H6 at *
  clear hp
  have l1 := lay_pre hz
  have l2 := lay_loc hz
  have sh : SeqAt.shaped (.tuple [.str (preS z), .str (locS z)]) = true := by clear R7 P7; walk_at "shp"
  refine ⟨.tuple [.str (preS z), .str (locS z)], .tuple [.str (preS z), .str (locS z)], .tup (SqT.of f4) (.cons (.str _) (.cons (.str _) .nil)), .tup (SqT.of fp5) (.cons (.str _) (.cons (.str _) .nil)), sh, sh, ?_⟩
  rw [eqv_same sh]
  refine ⟨_, rfl, ?_⟩
  refine itF rfl ?_
  refine tNext_ ?_
  exact R7 S z (some (.ref L)) x4 _ _ (hsc.go g) (g.2 tb) hz hn fun H' g' => q H' (g.trans g')

end
end K4

set_option maxHeartbeats 1000000
set_option pp.maxSteps 700
set_option pp.deepTerms false
set_option pp.deepTerms.threshold 14
namespace K4
open PySem PySem.Spec PyProof.Rows L2 Mx
open TL Nam
local macro_rules | `(tactic| walk_at "sz") => `(tactic| first | assumption | decide | omega | (unfold sizeLine; omega) | exact Nat.le_of_ble_eq_true rfl)
local macro_rules | `(tactic| walk_at "hp") => `(tactic| (first | assumption | exact upd_same | (rw [upd_ne (by assumption)]; assumption)))
local macro_rules | `(tactic| walk_at "rd") => `(tactic| (first
  | refine ⟨_, rfl, ?_⟩
  | (refine ⟨_, _, rfl, rfl, ?rdc, ?_⟩; (case rdc => first | (show (0 : Int) < _; omega) | (exact ⟨by omega, by omega⟩) | (exact .inl ⟨by omega, by omega⟩) | (exact .inr ⟨by omega, by omega⟩) | exact ⟨by decide, by decide, by decide⟩))
  | refine ⟨_, _, rfl, rfl, ?_⟩
  | refine .inl ⟨_, rfl, ?_⟩
  | refine ⟨rfl, ?_⟩
  | refine ⟨⟨_, rfl⟩, ?_⟩
  | refine ⟨⟨_, SqL.of (by walk_at "hp")⟩, ?_⟩
  | refine ⟨_, _, _, _, rfl, rfl, SqL.of (by walk_at "hp"), (by rfl), ?_⟩
  | refine ⟨_, _, _, _, rfl, rfl, (by walk_at "hp"), (by rfl), ?_⟩
  | refine ⟨_, _, rfl, ⟨by walk_at "sz", rfl⟩, ?_⟩
  | refine ⟨_, _, _, rfl, rfl, by walk_at "sz", by assumption, ?_⟩
  | refine And.intro (by walk_at "sz") ?_
  | refine itT rfl ?_
  | refine itF rfl ?_
  | refine itT (by assumption) ?_
  | refine itF (by assumption) ?_
  | refine itT (decide_eq_true (by omega)) ?_
  | refine itF (decide_eq_false (by omega)) ?_
  | refine itT (dVi (by omega)) ?_
  | refine itF (dViN (by omega)) ?_
  | refine itT (notT (by assumption)) ?_
  | refine itF (notF (by assumption)) ?_
  | refine itT (notT (dViN (by omega))) ?_
  | refine itF (notF (dVi (by omega))) ?_
  | refine itT (decide_eq_true rfl) ?_
  | refine itF (notF (decide_eq_true rfl)) ?_
  | refine ite2 (fun _ => ?_) (fun _ => ?_)
  | with_reducible refine tC_ ?_
  | with_reducible refine tNext_ ?_
  | with_reducible refine tNil_ ?_
  | with_reducible refine tYes_ ?_))
local macro_rules | `(tactic| walk_at "rds") => `(tactic| repeat' (walk_at "rd"))
section
variable {P : Program} {w : World} {K : PySem.W.Frag} {mg : Str → Option Value} {base : Heap}

local macro_rules | `(tactic| walk_at "lk") => `(tactic| first
  | with_reducible assumption
  | with_reducible exact upd_same
  | (walk_at "lk1"; walk_at "lk")
  | fail "lk")
local macro_rules | `(tactic| walk_at "lk1") => `(tactic| first
  | ((with_reducible refine' lk_new ?a1 ?a2); (case a1 => with_reducible assumption); (case' a2 => skip))
  | ((with_reducible refine' lk_ne ?a1 ?a2); (case a1 => with_reducible assumption); (case' a2 => skip))
  | ((with_reducible refine' lk_neN ?a1 ?a2 ?a3); (case a1 => with_reducible assumption); (case a2 => walk_at "lk"); (case' a3 => skip))
  | ((with_reducible refine' lk_neN' ?a1 ?a2 ?a3); (case a1 => with_reducible assumption); (case a2 => walk_at "lk"); (case' a3 => skip))
  | ((with_reducible refine' lk_same ?a1 ?a2); (case a1 => with_reducible assumption); (case' a2 => skip))
  | ((with_reducible refine' lk_go ?a1 ?a2 ?a3); (case a1 => with_reducible assumption); (case a2 => walk_at "nt"); (case' a3 => skip))
  | ((with_reducible refine' lk_kd ?a1 ?a2 ?a3 ?a4); (case a1 => with_reducible assumption); (case a2 => walk_at "st"); (case a3 => walk_at "nl"); (case' a4 => skip))
  | ((with_reducible refine' lk_kp ?a1 ?a2 ?a3); (case a1 => with_reducible assumption); (case a2 => walk_at "ne"); (case' a3 => skip))
  | fail "lk1")
local macro_rules | `(tactic| walk_at "nt") => `(tactic| first
  | (intro _ z; cases z)
  | fail "nt")
local macro_rules | `(tactic| walk_at "nl") => `(tactic| first
  | (intro _ z; cases z)
  | fail "nl")
local macro_rules | `(tactic| walk_at "ne") => `(tactic| first
  | with_reducible assumption
  | ((with_reducible refine' ne_sd ?a1 ?a2); (case a1 => with_reducible assumption); (case a2 => walk_at "st"))
  | fail "ne")
local macro_rules | `(tactic| walk_at "st") => `(tactic| first
  | with_reducible assumption
  | with_reducible exact sd_new (by with_reducible assumption) (by walk_at "st")
  | with_reducible exact sd_same (by with_reducible assumption) (by walk_at "st")
  | with_reducible exact sd_go (by with_reducible assumption) (by walk_at "st")
  | with_reducible exact sd_ne (by walk_at "ns") (by walk_at "st")
  | fail "st")
local macro_rules | `(tactic| walk_at "ns") => `(tactic| first
  | with_reducible assumption
  | with_reducible exact Ne.symm (by with_reducible assumption)
  | with_reducible exact Ne.symm (ne_sd (by with_reducible assumption) (by walk_at "st"))
  | fail "ns")
local macro_rules | `(tactic| walk_at "fr") => `(tactic| first
  | with_reducible assumption
  | with_reducible exact Same.refl _
  | with_reducible exact Go.refl _ _
  | with_reducible exact Kp.refl _ _
  | with_reducible exact LamX.ExtN.refl _
  | with_reducible exact nw_refl
  | (walk_at "fr1"; walk_at "fr")
  | fail "fr")
local macro_rules | `(tactic| walk_at "fr1") => `(tactic| first
  | ((with_reducible refine' fr_new ?a1 ?a2); (case a1 => with_reducible assumption); (case' a2 => skip))
  | ((with_reducible refine' go_new ?a1 ?a2); (case a1 => with_reducible assumption); (case' a2 => skip))
  | ((with_reducible refine' kp_new ?a1 ?a2); (case a1 => with_reducible assumption); (case' a2 => skip))
  | ((with_reducible refine' fr_same ?a1 ?a2); (case a1 => with_reducible assumption); (case' a2 => skip))
  | ((with_reducible refine' go_same ?a1 ?a2); (case a1 => with_reducible assumption); (case' a2 => skip))
  | ((with_reducible refine' kp_same ?a1 ?a2); (case a1 => with_reducible assumption); (case' a2 => skip))
  | ((with_reducible refine' go_go ?a1 ?a2); (case a1 => with_reducible assumption); (case' a2 => skip))
  | ((with_reducible refine' go_kd ?a1 ?a2 ?a3 ?a4); (case a1 => with_reducible assumption); (case a2 => with_reducible assumption); (case a3 => walk_at "st"); (case' a4 => skip))
  | ((with_reducible refine' kp_kp ?a1 ?a2); (case a1 => with_reducible assumption); (case' a2 => skip))
  | ((with_reducible refine' kp_upd ?a1); (case' a1 => skip))
  | ((with_reducible refine' go_set2 ?a1 ?a2 ?a3 ?a4); (case a1 => walk_at "lk"); (case a2 => with_reducible assumption); (case a3 => walk_at "fr"); (case' a4 => skip))
  | ((with_reducible refine' fr_set2 ?a1 ?a2 ?a3); (case a1 => with_reducible assumption); (case a2 => walk_at "fr"); (case' a3 => skip))
  | ((with_reducible refine' en_new ?a1 ?a2); (case a1 => with_reducible assumption); (case' a2 => skip))
  | ((with_reducible refine' en_same ?a1 ?a2); (case a1 => with_reducible assumption); (case' a2 => skip))
  | ((with_reducible refine' en_go ?a1 ?a2); (case a1 => with_reducible assumption); (case' a2 => skip))
  | ((with_reducible refine' en_set2 ?a1 ?a2 ?a3); (case a1 => with_reducible assumption); (case a2 => walk_at "fr"); (case' a3 => skip))
  | ((with_reducible refine' en_kp ?a1 ?a2 ?a3 ?a4); (case a1 => with_reducible assumption); (case a2 => with_reducible assumption); (case a3 => walk_at "fr"); (case' a4 => skip))
  | ((with_reducible refine' nw_new ?a1 ?a2); (case a1 => with_reducible assumption); (case' a2 => skip))
  | ((with_reducible refine' nw_same ?a1 ?a2); (case a1 => with_reducible assumption); (case' a2 => skip))
  | ((with_reducible refine' nw_go ?a1 ?a2); (case a1 => with_reducible assumption); (case' a2 => skip))
  | ((with_reducible refine' nw_kd ?a1 ?a2 ?a3); (case a1 => with_reducible assumption); (case a2 => walk_at "st"); (case' a3 => skip))
  | ((with_reducible refine' nw_set ?a1 ?a2); (case a1 => walk_at "lk"); (case' a2 => skip))
  | ((with_reducible refine' nw_set2 ?a1 ?a2 ?a3); (case a1 => with_reducible assumption); (case a2 => walk_at "fr"); (case' a3 => skip))
  | fail "fr1")
local macro_rules | `(tactic| walk_at "tb") => `(tactic| first
  | with_reducible assumption
  | (walk_at "tb1"; walk_at "tb")
  | fail "tb")
local macro_rules | `(tactic| walk_at "tb1") => `(tactic| first
  | ((with_reducible refine' tabs_new ?a1 ?a2); (case a1 => with_reducible assumption); (case' a2 => skip))
  | ((with_reducible refine' tabs_same ?a1 ?a2); (case a1 => with_reducible assumption); (case' a2 => skip))
  | ((with_reducible refine' tabs_go ?a1 ?a2); (case a1 => with_reducible assumption); (case' a2 => skip))
  | ((with_reducible refine' tabs_kd ?a1 ?a2 ?a3); (case a1 => with_reducible assumption); (case a2 => walk_at "st"); (case' a3 => skip))
  | ((with_reducible refine' tabs_set ?a1 ?a2); (case a1 => walk_at "lk"); (case' a2 => skip))
  | fail "tb1")
local macro_rules | `(tactic| walk_at "dg") => `(tactic| first
  | assumption
  | (refine' dp_ext ?a1 ?a2; (case a1 => assumption); (case a2 => walk_at "fr"))
  | (refine' dn_use ?a1 ?a2; (case a1 => assumption); (case a2 => walk_at "fr"))
  | fail "dg")
local macro_rules | `(tactic| walk_at "dp") => `(tactic| first
  | assumption
  | exact .str _
  | exact .int _
  | exact .bl _
  | exact .non
  | (refine' Dp.lst (SqL.of ?a1) ?a2; (case a1 => walk_at "lk"); (case a2 => walk_at "dpa"))
  | (refine' Dp.tup (SqT.of ?a1) ?a2; (case a1 => walk_at "lk"); (case a2 => walk_at "dpa"))
  | (walk_at "dg")
  | fail "dp")
local macro_rules | `(tactic| walk_at "dpa") => `(tactic| first
  | assumption
  | exact .nil
  | (refine' DpAll.cons ?a1 ?a2; (case a1 => walk_at "dp"); (case a2 => walk_at "dpa"))
  | fail "dpa")
local macro_rules | `(tactic| walk_at "dx") => `(tactic| first
  | assumption
  | exact .str _
  | exact .int _
  | exact .bl _
  | exact .non
  | (refine' Dx.lst (SqL.of ?a1) ?a2; (case a1 => walk_at "lk"); (case a2 => walk_at "dxa"))
  | (refine' Dx.tup (SqT.of ?a1) ?a2; (case a1 => walk_at "lk"); (case a2 => walk_at "dxa"))
  | (refine' Dx.dct (.inl ?a1) ?a2; (case a1 => walk_at "lk"); (case a2 => exact .nil))
  | (refine' dx_ext ?a1 ?a2; (case a1 => assumption); (case a2 => walk_at "fr"))
  | fail "dx")
local macro_rules | `(tactic| walk_at "dxa") => `(tactic| first
  | assumption
  | exact .nil
  | (refine' DxAll.cons ?a1 ?a2; (case a1 => walk_at "dx"); (case a2 => walk_at "dxa"))
  | fail "dxa")
local macro_rules | `(tactic| walk_at "ty") => `(tactic| first
  | assumption
  | (refine' ty_ext ?a1 ?a2; (case a1 => assumption); (case a2 => walk_at "fr"))
  | fail "ty")
local macro_rules | `(tactic| walk_at "shp") => `(tactic| first
  | assumption
  | (simp only [SeqAt.shaped, lay_l, lay_t, lay_i, lay_b, lay_n, lay_c, lay_e, PyData.depth, PyData.depthAll, Bool.and_true, Bool.true_and, Bool.and_eq_true, decide_eq_true_eq]
     repeat' (first | assumption | (refine And.intro ?_ ?_) | (exact rfl) | (decide +kernel) | omega))
  | decide +kernel)
local macro_rules | `(tactic| walk_at "side") => `(tactic| first
  | assumption
  | (intros; trivial)
  | omega
  | (walk_at "lk")
  | (walk_at "st")
  | (walk_at "sz")
  | (walk_at "tb")
  | (walk_at "fr"))
local macro_rules | `(tactic| walk_at "cl") => `(tactic| ((repeat' (apply Exists.intro)); refine And.intro rfl ?_; repeat (refine And.intro (by walk_at "side") ?_)))
local macro_rules | `(tactic| walk_at "eqd") => `(tactic| (refine ⟨_, _, by walk_at "dp", by walk_at "dp", by walk_at "shp", by walk_at "shp", ?_⟩; rw [eqv_same (by walk_at "shp")]))
local macro_rules | `(tactic| walk_at "new") => `(tactic| refine fun (p : Addr) (hp : (_ : Hp) p = none) => ?_)
local macro_rules | `(tactic| walk_at "rdn") => `(tactic| (repeat' (first | walk_at "rd" | walk_at "new")))

theorem ok__law_right (T : Tx P w K mg base) {cL PL : Addr} {Tb : List (Addr × Str)} (hm : (PL, ("_law_right.<locals>.<lambda>" : Str)) ∈ Tb) (hu : ∀ p ∈ Tb, p.1 = PL → p.2 = ("_law_right.<locals>.<lambda>" : Str)) (F : FunC K "_law_right" s__law_right T.d__law_right.f T.d__law_right.fd cL) (TB : LamX.TabB base mg cL PL) (G_split_name : FnOk P w K mg base (L2.CX P w) 3 T.d_split_name.f T.d_split_name.fd ["name"] (sp_split_name K T.a_InvalidName)) (G_Scope_expanded : FnOk P w K mg base (L2.CX P w) 4 T.f_Scope_expanded T.fd_Scope_expanded ["self", "name", "attribute"] (sp_Scope_expanded K T.C_Scope T.a_Unbound T.a_InvalidName)) (G_Scope___getitem__ : FnOk P w K mg base (L2.CX P w) 3 T.f_Scope___getitem__ T.fd_Scope___getitem__ ["self", "prefix"] (sp_Scope___getitem__ T.C_Scope T.a_Unbound)) (G_Scope___str__ : FnOk P w K mg base CX0 2 T.f_Scope___str__ T.fd_Scope___str__ ["self"] (sp_Scope___str__ T.C_Scope)) (G__law_is_name : FnOk P w K mg base CX0 3 T.d__law_is_name.f T.d__law_is_name.fd ["thing"] (sp__law_is_name K)) (G__law_word : FnOk P w K mg base CX0 1 T.d__law_word.f T.d__law_word.fd ["caught"] (sp__law_word K T.a_BadBinding T.a_Unbound T.a_Repeated T.a_InvalidName)) :
    FnG P w K mg base CX0 9 T.d__law_right.f T.d__law_right.fd ["scope", "thing"] (sp__law_right K T.C_Scope Tb) := by
  have sc := sc__law_right
  obtain ⟨oc, od, kV, doc, pm, an, cdT, ct, osl, fdT, lkT, cdT'⟩ := T.d__law_error.F.ex
  have bT := T.d__law_error.b
  have cdT := cdT'
  rw [fdT] at lkT bT
  refine okGC F sc (fun vs H Q E h => ?_) (fun A outer s H vs Q E hr h => ?_)
  · obtain ⟨S, v, rfl, hsc, hv, tb, q⟩ := h
    rfl
  · obtain ⟨S, v, rfl, hsc, hv, tb, q⟩ := h
    obtain ⟨t6, P6, R6⟩ := right_6 T hm hu F TB G_split_name G_Scope_expanded G_Scope___getitem__ G_Scope___str__ G__law_is_name G__law_word hr (E := E) (s := s) (outer := outer) (H0 := H)
    refine ⟨_, (pss_cons (ps_set (i := 2) sc.nd rfl (Or.inl rfl) (pe_callTy (Mx.call_strOwn T.ow_Scope___str__ G_Scope___str__ (hr.r.mono (by decide)) T.b_Scope___str__ pass0) (by rfl) T.n_str (by decide +kernel) (pa_cons (pv 0) pa_nil)))
      (pss_cons (ps_set (i := 3) sc.nd rfl (Or.inl rfl) (pe_lst (pa_cons ((LamX.pe_lamcall (T := Tb) (k := 5) (c := cL) (P := PL) rfl T.d__law_error.m T.d__law_error.F.kp lkT cdT bT sc__law_error rfl (Or.inl rfl) (told_gives (X := _) T (hr.r.mono (by decide)) G__law_word _ _ _) TB rfl hm hu (hr.r.mono (by decide)) (LamX.lamS_by (sc := defScope s__law_right) (by decide +kernel)) rfl (fun _ _ _ _ _ => rfl) (fun A outer s H E f c' hr2 => pe_call G_split_name (hr2.mono (by decide)) rfl T.d_split_name.m T.d_split_name.F.kp T.d_split_name.b .nil (passes_call (takes_of rfl rfl rfl rfl) fun _ _ _ _ z => z) (pa_cons (pv 1) pa_nil)))) pa_nil)))
      (pss_cons (ps_expr (pe_bm PySem.F.plainAttrs_list PySem.F.slot_list_append PySem.F.type_list_append mt_append (pv 3) (pa_cons ((LamX.pe_lamcall (T := Tb) (k := 5) (c := cL) (P := PL) rfl T.d__law_error.m T.d__law_error.F.kp lkT cdT bT sc__law_error rfl (Or.inl rfl) (told_gives (X := _) T (hr.r.mono (by decide)) G__law_word _ _ _) TB rfl hm hu (hr.r.mono (by decide)) (LamX.lamS_by (sc := defScope s__law_right) (by decide +kernel)) rfl (fun _ _ _ _ _ => rfl) (fun A outer s H E f c' hr2 => pe_kw0 G_split_name (hr2.mono (by decide)) rfl T.d_split_name.m T.d_split_name.F.kp T.kb_split_name (passes_call (takes_of rfl rfl rfl rfl) fun _ _ _ _ z => z) (pk_cons (pv 1) pk_nil)))) pa_nil)))
      (pss_cons (ps_if (pt_not (pt_val (pe_call G__law_is_name (hr.r.mono (by decide)) rfl T.d__law_is_name.m T.d__law_is_name.F.kp T.d__law_is_name.b .nil pass0 (pa_cons (pv 1) pa_nil)))) (pss_cons (ps_expr (pe_bm PySem.F.plainAttrs_list PySem.F.slot_list_append PySem.F.type_list_append mt_append (pv 3) (pa_cons ((LamX.pe_lamcall (T := Tb) (k := 5) (c := cL) (P := PL) rfl T.d__law_error.m T.d__law_error.F.kp lkT cdT bT sc__law_error rfl (Or.inl rfl) (told_gives (X := _) T (hr.r.mono (by decide)) G__law_word _ _ _) TB rfl hm hu (hr.r.mono (by decide)) (LamX.lamS_by (sc := defScope s__law_right) (by decide +kernel)) rfl (fun _ _ _ _ _ => rfl) (fun A outer s H E f c' hr2 => pe_meth (pv 0) T.cl_Scope T.me_Scope_expanded G_Scope_expanded (hr2.mono (by decide)) T.b_Scope_expanded T.hd_Scope_expanded (passes_call (takes_of rfl rfl rfl rfl) fun _ _ _ _ z => z) (pa_cons (pv 1) pa_nil)))) pa_nil)))
      (pss_cons (ps_expr (pe_bm PySem.F.plainAttrs_list PySem.F.slot_list_append PySem.F.type_list_append mt_append (pv 3) (pa_cons ((LamX.pe_lamcall (T := Tb) (k := 5) (c := cL) (P := PL) rfl T.d__law_error.m T.d__law_error.F.kp lkT cdT bT sc__law_error rfl (Or.inl rfl) (told_gives (X := _) T (hr.r.mono (by decide)) G__law_word _ _ _) TB rfl hm hu (hr.r.mono (by decide)) (LamX.lamS_by (sc := defScope s__law_right) (by decide +kernel)) rfl (fun _ _ _ _ _ => rfl) (fun A outer s H E f c' hr2 => Mx.pe_methK0 (pv 0) T.cl_Scope T.me_Scope_expanded G_Scope_expanded (hr2.mono (by decide)) T.kb_Scope_expanded (passes_call (takes_of rfl rfl rfl rfl) fun _ _ _ _ z => z) (pk_cons pe_bl (pk_cons (pv 1) pk_nil))))) pa_nil)))
      (pss_one (ps_ret ((pe_and (pe_cmpR op_eq (pe_callB (call_reprX hr) (by rfl) T.n_repr (by decide +kernel) (pa_cons (pv 3) pa_nil)) (pe_callB (call_reprX hr) (by rfl) T.n_repr (by decide +kernel) (pa_cons (pe_op op_rep (pe_lst (pa_cons (pe_tup (pa_cons pe_str (pa_cons (pv 1) pa_nil))) pa_nil)) pe_int) pa_nil)) (nomark _)) (pe_one (pe_cmpR op_eq (pe_callTy (Mx.call_strOwn T.ow_Scope___str__ G_Scope___str__ (hr.r.mono (by decide)) T.b_Scope___str__ pass0) (by rfl) T.n_str (by decide +kernel) (pa_cons (pv 0) pa_nil)) (pv 2) (nomark _))))))))) pss_nil)
      (pss_cons (ps_set (i := 4) sc.nd rfl (Or.inl rfl) (pe_split (pv 1) pe_str))
      (pss_cons (ps_asg (pe_ifExp (pt_cmpR op_eq (pe_callB call_len (by rfl) T.n_len PySem.boot_len (pa_cons (pv 4) pa_nil)) pe_int (nomark _)) (pv 4) (pe_lst (pa_cons pe_str (pa_cons (pv 1) pa_nil)))) (pg_lst rfl (pgs_cons (pg_name (i := 5) sc.nd rfl (Or.inr rfl)) (pgs_cons (pg_name (i := 6) sc.nd rfl (Or.inl rfl)) pgs_nil))))
      P6)))))), ?_⟩
    walk_at "rds"
    obtain ⟨dx, D, hS, hD⟩ := id hsc
    refine ⟨S, dx, _, rfl, hS, S, rfl, hsc, fun H1 s1 => ⟨_, rfl, ?_⟩⟩
    have g1 : Go Tb H H1 := Go.same s1
    clear s1 hS hD
    rcases hv with ⟨z, rfl, hz, hn⟩ | ⟨hno, d, hd, hsh⟩
    · refine lam_in (g1.2 tb) (fun H2 g2 => ?_)
      have g := g1.trans g2
      clear g1 g2
      walk_at "rds"
      refine ⟨hz.mono (by decide), hn, fun H3 p1 s3 hp1 => ?_⟩
      have g := (g.trans (Go.same (Tb := Tb) s3)).new (o := .tup [.str (preS z), .str (locS z)]) hp1
      generalize upd H3 p1 (.tup [.str (preS z), .str (locS z)]) = H4 at *
      clear s3 hp1
      intro q1 hp
      have fq1 : upd H4 q1 (.tup []) q1 = some (.tup []) := upd_same
      have g := g.new (o := .tup []) hp
      generalize upd H4 q1 (.tup []) = H5 at *
      clear hp
      walk_at "rds"
      intro L hL
      have g0 := g
      have g := g.new (o := .lst [.ref q1]) hL
      have fL : upd H5 L (.lst [.ref q1]) L = some (.lst [.ref q1]) := upd_same
      have f1 := lk_new (o := .lst [.ref q1]) hL fq1
      clear fq1
      generalize upd H5 L (.lst [.ref q1]) = H6 at *
      walk_at "rds"
      refine ⟨.inl ⟨rfl, _, SqL.of fL⟩, ?_⟩
      refine lam_in (g.2 tb) (fun H7 g7 => ?_)
      have fL := lk_go g7 (fun _ z => by cases z) fL
      have f1 := lk_go g7 (fun _ z => by cases z) f1
      have g := g.trans g7
      clear g7
      walk_at "rds"
      refine ⟨hz.mono (by decide), hn, fun H8 p1 s3 hp1 => ?_⟩
      have g := (g.trans (Go.same (Tb := Tb) s3)).new (o := .tup [.str (preS z), .str (locS z)]) hp1
      have fL := lk_new (o := .tup [.str (preS z), .str (locS z)]) hp1 (s3 _ _ fL)
      have f1 := lk_new (o := .tup [.str (preS z), .str (locS z)]) hp1 (s3 _ _ f1)
      generalize upd H8 p1 (.tup [.str (preS z), .str (locS z)]) = H9 at *
      clear s3 hp1
      intro q2 hp
      have fq2 : upd H9 q2 (.tup []) q2 = some (.tup []) := upd_same
      have f1 := lk_new (o := .tup []) hp f1
      have fL := lk_new (o := .tup []) hp fL
      have g := g.new (o := .tup []) hp
      generalize upd H9 q2 (.tup []) = H10 at *
      clear hp
      walk_at "rds"
      refine ⟨L, _, _, rfl, rfl, fL, Nat.le_of_ble_eq_true rfl, ?_⟩
      have g : Go Tb H (upd H10 L (.lst ([.ref q1] ++ [.ref q2]))) := go_set2 fL hL g0 g
      have f1 : upd H10 L (.lst ([.ref q1] ++ [.ref q2])) q1 = some (.tup []) := lk_ne (ne_of f1 fL (fun z => by cases z)) f1
      have f2 : upd H10 L (.lst ([.ref q1] ++ [.ref q2])) q2 = some (.tup []) := lk_ne (ne_of fq2 fL (fun z => by cases z)) fq2
      have fL : upd H10 L (.lst ([.ref q1] ++ [.ref q2])) L = some (.lst [.ref q1, .ref q2]) := upd_same
      generalize upd H10 L (.lst ([.ref q1] ++ [.ref q2])) = H11 at *
      clear g0 hL fq2
      walk_at "rds"
      refine ⟨hz.mono (by decide), hn, fun H12 s12 => ?_⟩
      have fL := s12 _ _ fL
      have f1 := s12 _ _ f1
      have f2 := s12 _ _ f2
      have g := g.trans (Go.same (Tb := Tb) s12)
      clear s12
      walk_at "rds"
      refine ⟨Nat.le_trans (Nat.add_le_add_right hz.1 2) (by decide), ?_⟩
      have hsc2 := hsc.go g
      have tb2 := g.2 tb
      rcases name_split hn with ⟨e, ep, el⟩ | e
      · rw [e]
        intro ps hps
        have fp : upd H12 ps (.lst [.str z]) ps = some (.lst [.str z]) := upd_same
        have g := g.new (o := .lst [.str z]) hps
        have fL := lk_new (o := .lst [.str z]) hps fL
        have f1 := lk_new (o := .lst [.str z]) hps f1
        have f2 := lk_new (o := .lst [.str z]) hps f2
        show gName 4 (V.ref ps) _ (upd H12 ps (.lst [.str z])) _
        generalize upd H12 ps (.lst [.str z]) = H13 at *
        walk_at "rds"
        refine ⟨_, _, rfl, .inl ⟨_, SqL.of fp, rfl⟩, ?_⟩
        walk_at "rds"
        intro p3 hp3
        have f3 : upd H13 p3 (.lst [.str "", .str z]) p3 = some (.lst [.str "", .str z]) := upd_same
        have g := g.new (o := .lst [.str "", .str z]) hp3
        have fL := lk_new (o := .lst [.str "", .str z]) hp3 fL
        have f1 := lk_new (o := .lst [.str "", .str z]) hp3 f1
        have f2 := lk_new (o := .lst [.str "", .str z]) hp3 f2
        generalize upd H13 p3 (.lst [.str "", .str z]) = H14 at *
        walk_at "rds"
        refine ⟨_, _, rfl, SqL.of f3, rfl, ?_⟩
        refine ⟨_, _, rfl, ?_⟩
        refine ⟨_, _, rfl, ?_⟩
        refine ⟨rfl, ?_⟩
        have r := R6 S L z (some (.ref ps)) q1 q2 _ Q fL f1 f2 (hsc.go g) (g.2 tb) hz hn fun H' g' => q H' (g.trans g')
        rw [ep, el] at r
        exact r
      · rw [e]
        intro ps hps
        have fp : upd H12 ps (.lst [.str (preS z), .str (locS z)]) ps = some (.lst [.str (preS z), .str (locS z)]) := upd_same
        have g := g.new (o := .lst [.str (preS z), .str (locS z)]) hps
        have fL := lk_new (o := .lst [.str (preS z), .str (locS z)]) hps fL
        have f1 := lk_new (o := .lst [.str (preS z), .str (locS z)]) hps f1
        have f2 := lk_new (o := .lst [.str (preS z), .str (locS z)]) hps f2
        show gName 4 (V.ref ps) _ (upd H12 ps (.lst [.str (preS z), .str (locS z)])) _
        generalize upd H12 ps (.lst [.str (preS z), .str (locS z)]) = H13 at *
        walk_at "rds"
        refine ⟨_, _, rfl, .inl ⟨_, SqL.of fp, rfl⟩, ?_⟩
        walk_at "rds"
        refine ⟨_, _, rfl, SqL.of fp, rfl, ?_⟩
        refine ⟨_, _, rfl, ?_⟩
        refine ⟨_, _, rfl, ?_⟩
        refine ⟨rfl, ?_⟩
        have r := R6 S L z (some (.ref ps)) q1 q2 _ Q fL f1 f2 (hsc.go g) (g.2 tb) hz hn fun H' g' => q H' (g.trans g')
        exact r
    · refine lam_in (g1.2 tb) (fun H2 g2 => ?_)
      have g2 := g1.trans g2
      clear g1
      have hno2 : NoName K H2 v := hno.ext g2.1
      walk_at "rds"
      refine .inr ⟨hno2, fun H3 d3 s3 hd3 => told_name T upd_same (fun H4 p1 s4 hp1 => ?_)⟩
      have g5 := (g2.trans (Go.same (Tb := Tb) ((Same.new (o := .xd [("given", v)]) s3 hd3).trans s4))).new (o := .tup [.str "name", v]) hp1
      have f1 : upd H4 p1 (.tup [.str "name", v]) p1 = some (.tup [.str "name", v]) := upd_same
      generalize upd H4 p1 (.tup [.str "name", v]) = H5 at *
      clear g2 s3 hd3 s4 hp1 hno2
      walk_at "rds"
      intro L hL
      have g := g5.new (o := .lst [.ref p1]) hL
      have fL : upd H5 L (.lst [.ref p1]) L = some (.lst [.ref p1]) := upd_same
      have f1 := lk_new (o := .lst [.ref p1]) hL f1
      generalize upd H5 L (.lst [.ref p1]) = H6 at *
      -- told 2
      walk_at "rds"
      refine ⟨.inl ⟨rfl, _, SqL.of fL⟩, ?_⟩
      refine lam_in (g.2 tb) (fun H7 g7 => ?_)
      have fL := lk_go g7 (fun _ z => by cases z) fL
      have f1 := lk_go g7 (fun _ z => by cases z) f1
      have g7 := g.trans g7
      clear g
      have hno2 : NoName K H7 v := hno.ext g7.1
      have hsc2 := hsc.go g7
      walk_at "rds"
      refine .inr ⟨hno2, fun H8 d3 s3 hd3 => told_name T upd_same (fun H9 p2 s4 hp2 => ?_)⟩
      have s9 := (Same.new (o := .xd [("given", v)]) s3 hd3).trans s4
      have g := (g7.trans (Go.same (Tb := Tb) s9)).new (o := .tup [.str "name", v]) hp2
      have f2 : upd H9 p2 (.tup [.str "name", v]) p2 = some (.tup [.str "name", v]) := upd_same
      have f1 := lk_new (o := .tup [.str "name", v]) hp2 (s9 _ _ f1)
      have fL := lk_new (o := .tup [.str "name", v]) hp2 (s9 _ _ fL)
      generalize upd H9 p2 (.tup [.str "name", v]) = H10 at *
      clear g7 s3 hd3 s4 hp2 hno2 s9
      walk_at "rds"
      refine ⟨L, _, _, rfl, rfl, fL, Nat.le_of_ble_eq_true rfl, ?_⟩
      have g : Go Tb H (upd H10 L (.lst ([.ref p1] ++ [.ref p2]))) := go_set2 fL hL g5 g
      have f1 : upd H10 L (.lst ([.ref p1] ++ [.ref p2])) p1 = some (.tup [.str "name", v]) := lk_ne (ne_of f1 fL (fun z => by cases z)) f1
      have f2 : upd H10 L (.lst ([.ref p1] ++ [.ref p2])) p2 = some (.tup [.str "name", v]) := lk_ne (ne_of f2 fL (fun z => by cases z)) f2
      have fL : upd H10 L (.lst ([.ref p1] ++ [.ref p2])) L = some (.lst ([.ref p1] ++ [.ref p2])) := upd_same
      generalize upd H10 L (.lst ([.ref p1] ++ [.ref p2])) = H6 at *
      have hno2 : NoName K H6 v := hno.ext g.1
      walk_at "rds"
      refine .inr ⟨hno2, fun H7 s7 => ?_⟩
      have fL := s7 _ _ fL
      have f1 := s7 _ _ f1
      have f2 := s7 _ _ f2
      have g := g.trans (Go.same (Tb := Tb) s7)
      clear hno2 s7
      -- told 3
      walk_at "rds"
      refine ⟨.inl ⟨rfl, _, SqL.of fL⟩, ?_⟩
      refine lam_in (g.2 tb) (fun H7 g7 => ?_)
      have fL := lk_go g7 (fun _ z => by cases z) fL
      have f1 := lk_go g7 (fun _ z => by cases z) f1
      have f2 := lk_go g7 (fun _ z => by cases z) f2
      have g7 := g.trans g7
      clear g
      have hno2 : NoName K H7 v := hno.ext g7.1
      have hsc2 := hsc.go g7
      obtain ⟨dx2, D2, hS2, hD2⟩ := id hsc2
      walk_at "rds"
      refine ⟨S, dx2, _, rfl, hS2, rfl, ?_⟩
      walk_at "rds"
      refine ⟨S, links3, v, false, rfl, hsc2, .inr ⟨hno2, fun H8 d3 s3 hd3 => told_name T upd_same (fun H9 p3 s4 hp3 => ?_)⟩⟩
      have s9 := (Same.new (o := .xd [("given", v)]) s3 hd3).trans s4
      have g := (g7.trans (Go.same (Tb := Tb) s9)).new (o := .tup [.str "name", v]) hp3
      have f3 : upd H9 p3 (.tup [.str "name", v]) p3 = some (.tup [.str "name", v]) := upd_same
      have f1 := lk_new (o := .tup [.str "name", v]) hp3 (s9 _ _ f1)
      have f2 := lk_new (o := .tup [.str "name", v]) hp3 (s9 _ _ f2)
      have fL := lk_new (o := .tup [.str "name", v]) hp3 (s9 _ _ fL)
      generalize upd H9 p3 (.tup [.str "name", v]) = H10 at *
      clear g7 s3 hd3 s4 hp3 hno2 s9
      walk_at "rds"
      refine ⟨L, _, _, rfl, rfl, fL, Nat.le_of_ble_eq_true rfl, ?_⟩
      have g : Go Tb H (upd H10 L (.lst ([.ref p1] ++ [.ref p2] ++ [.ref p3]))) := go_set2 fL hL g5 g
      have f1 : upd H10 L (.lst ([.ref p1] ++ [.ref p2] ++ [.ref p3])) p1 = some (.tup [.str "name", v]) := lk_ne (ne_of f1 fL (fun z => by cases z)) f1
      have f2 : upd H10 L (.lst ([.ref p1] ++ [.ref p2] ++ [.ref p3])) p2 = some (.tup [.str "name", v]) := lk_ne (ne_of f2 fL (fun z => by cases z)) f2
      have f3 : upd H10 L (.lst ([.ref p1] ++ [.ref p2] ++ [.ref p3])) p3 = some (.tup [.str "name", v]) := lk_ne (ne_of f3 fL (fun z => by cases z)) f3
      have fL : upd H10 L (.lst ([.ref p1] ++ [.ref p2] ++ [.ref p3])) L = some (.lst ([.ref p1] ++ [.ref p2] ++ [.ref p3])) := upd_same
      generalize upd H10 L (.lst ([.ref p1] ++ [.ref p2] ++ [.ref p3])) = H6 at *
      -- told 4
      walk_at "rds"
      refine ⟨.inl ⟨rfl, _, SqL.of fL⟩, ?_⟩
      refine lam_in (g.2 tb) (fun H7 g7 => ?_)
      have fL := lk_go g7 (fun _ z => by cases z) fL
      have f1 := lk_go g7 (fun _ z => by cases z) f1
      have f2 := lk_go g7 (fun _ z => by cases z) f2
      have f3 := lk_go g7 (fun _ z => by cases z) f3
      have g7 := g.trans g7
      clear g
      have hno2 : NoName K H7 v := hno.ext g7.1
      have hsc2 := hsc.go g7
      obtain ⟨dx2, D2, hS2, hD2⟩ := id hsc2
      walk_at "rds"
      refine ⟨S, dx2, _, rfl, hS2, rfl, ?_⟩
      walk_at "rds"
      refine ⟨S, links3, v, true, rfl, hsc2, .inr ⟨hno2, fun H8 d3 s3 hd3 => told_name T upd_same (fun H9 p4 s4 hp4 => ?_)⟩⟩
      have s9 := (Same.new (o := .xd [("given", v)]) s3 hd3).trans s4
      have g := (g7.trans (Go.same (Tb := Tb) s9)).new (o := .tup [.str "name", v]) hp4
      have f4 : upd H9 p4 (.tup [.str "name", v]) p4 = some (.tup [.str "name", v]) := upd_same
      have f1 := lk_new (o := .tup [.str "name", v]) hp4 (s9 _ _ f1)
      have f2 := lk_new (o := .tup [.str "name", v]) hp4 (s9 _ _ f2)
      have f3 := lk_new (o := .tup [.str "name", v]) hp4 (s9 _ _ f3)
      have fL := lk_new (o := .tup [.str "name", v]) hp4 (s9 _ _ fL)
      generalize upd H9 p4 (.tup [.str "name", v]) = H10 at *
      clear g7 s3 hd3 s4 hp4 hno2 s9
      walk_at "rds"
      refine ⟨L, _, _, rfl, rfl, fL, Nat.le_of_ble_eq_true rfl, ?_⟩
      have g : Go Tb H (upd H10 L (.lst ([.ref p1] ++ [.ref p2] ++ [.ref p3] ++ [.ref p4]))) := go_set2 fL hL g5 g
      have f1 : upd H10 L (.lst ([.ref p1] ++ [.ref p2] ++ [.ref p3] ++ [.ref p4])) p1 = some (.tup [.str "name", v]) := lk_ne (ne_of f1 fL (fun z => by cases z)) f1
      have f2 : upd H10 L (.lst ([.ref p1] ++ [.ref p2] ++ [.ref p3] ++ [.ref p4])) p2 = some (.tup [.str "name", v]) := lk_ne (ne_of f2 fL (fun z => by cases z)) f2
      have f3 : upd H10 L (.lst ([.ref p1] ++ [.ref p2] ++ [.ref p3] ++ [.ref p4])) p3 = some (.tup [.str "name", v]) := lk_ne (ne_of f3 fL (fun z => by cases z)) f3
      have f4 : upd H10 L (.lst ([.ref p1] ++ [.ref p2] ++ [.ref p3] ++ [.ref p4])) p4 = some (.tup [.str "name", v]) := lk_ne (ne_of f4 fL (fun z => by cases z)) f4
      have fL : upd H10 L (.lst ([.ref p1] ++ [.ref p2] ++ [.ref p3] ++ [.ref p4])) L = some (.lst ([.ref p1] ++ [.ref p2] ++ [.ref p3] ++ [.ref p4])) := upd_same
      generalize upd H10 L (.lst ([.ref p1] ++ [.ref p2] ++ [.ref p3] ++ [.ref p4])) = H6 at *
      walk_at "rds"
      have dd : Dx K H6 v d := hd.ext g.1
      have nm : Dx K H6 (.str "name") (.str "name") := .str _
      refine ⟨L, [.tuple [.str "name", d], .tuple [.str "name", d], .tuple [.str "name", d], .tuple [.str "name", d]], rfl, .lst (SqL.of fL) (.cons (.tup (SqT.of f1) (.cons nm (.cons dd .nil))) (.cons (.tup (SqT.of f2) (.cons nm (.cons dd .nil))) (.cons (.tup (SqT.of f3) (.cons nm (.cons dd .nil))) (.cons (.tup (SqT.of f4) (.cons nm (.cons dd .nil))) .nil)))), hsh.1, hsh.2.1, hsh.2.2, ?_⟩
      clear dd nm f1 f2 f3 f4 fL
      walk_at "rds"
      intro pt hp
      have fpt : upd H6 pt (.tup [.str "name", v]) pt = some (.tup [.str "name", v]) := upd_same
      have g := g.new (o := .tup [.str "name", v]) hp
      generalize upd H6 pt (.tup [.str "name", v]) = H16 at *
      clear hp
      walk_at "rds"
      intro pl hp
      have fpl : upd H16 pl (.lst [.ref pt]) pl = some (.lst [.ref pt]) := upd_same
      have fpt := lk_new (o := .lst [.ref pt]) hp fpt
      have g := g.new (o := .lst [.ref pt]) hp
      generalize upd H16 pl (.lst [.ref pt]) = H17 at *
      clear hp
      walk_at "rds"
      refine ⟨pl, 4, _, rfl, rfl, fpl, by decide, by decide, Nat.le_of_ble_eq_true rfl, fun pn hp => ?_⟩
      have e5 : (List.replicate (4 : Int).toNat [V.ref pt]).flatten = [.ref pt, .ref pt, .ref pt, .ref pt] := rfl
      rw [e5]
      have fpn : upd H17 pn (.lst [.ref pt, .ref pt, .ref pt, .ref pt]) pn = some (.lst [.ref pt, .ref pt, .ref pt, .ref pt]) := upd_same
      have fpt := lk_new (o := .lst [.ref pt, .ref pt, .ref pt, .ref pt]) hp fpt
      have g := g.new (o := .lst [.ref pt, .ref pt, .ref pt, .ref pt]) hp
      generalize upd H17 pn (.lst [.ref pt, .ref pt, .ref pt, .ref pt]) = H18 at *
      clear hp e5
      have dd : Dx K H18 v d := hd.ext g.1
      have nm : Dx K H18 (.str "name") (.str "name") := .str _
      have dt : Dx K H18 (.ref pt) (.tuple [.str "name", d]) := .tup (SqT.of fpt) (.cons nm (.cons dd .nil))
      walk_at "rds"
      refine ⟨pn, [.tuple [.str "name", d], .tuple [.str "name", d], .tuple [.str "name", d], .tuple [.str "name", d]], rfl, .lst (SqL.of fpn) (.cons dt (.cons dt (.cons dt (.cons dt .nil)))), hsh.1, hsh.2.1, hsh.2.2, ?_⟩
      clear dd nm dt hsh
      generalize (PyData.list [.tuple [.str "name", d], .tuple [.str "name", d], .tuple [.str "name", d], .tuple [.str "name", d]]).shown = sh0
      have hsc2 := hsc.go g
      obtain ⟨dx2, D2, hS2, hD2⟩ := id hsc2
      walk_at "rds"
      refine ⟨S, dx2, _, rfl, hS2, S, rfl, hsc2, fun H19 s19 => ⟨_, rfl, ?_⟩⟩
      walk_at "rds"
      have f := q _ (g.trans (Go.same (Tb := Tb) s19))
      rw [← show decide (V.str shown3 = V.str shown3) = true from decide_eq_true rfl] at f
      exact f

end
end K4

set_option maxHeartbeats 1000000
set_option pp.maxSteps 700
set_option pp.deepTerms false
set_option pp.deepTerms.threshold 14
namespace K4
open PySem PySem.Spec PyProof.Rows L2 Mx
open TL Nam
/-! ### the law's last test -/
section
variable {J : It} {n : Nat} {G : Hp → Prop} {Y : Nat → Hp → V → Hp → Prop}
/-- [f(x) for x in J], each a new tuple -/
theorem lc_tups (w : Walk J n G Y) {g : TG} {te : TE} {vs : List Nat} {σ : L2.St} {H1 : Hp} {D : Addr} {Qd : Hp → Prop} (ws : Nat → List V) (hD : H1 D = none) (hn : n ≤ 1000000)
    (hG : ∀ H, Same H1 H → G H) (hY : ∀ i H x H', Y i H x H' → Same H H')
    (hs : ∀ i x H H' (Nx : V → Hp → Prop), i < n → Same H1 H → Y i H x H' → (∀ H4 p, Same H' H4 → H4 p = none → Nx (.ref p) (upd H4 p (.tup (ws i)))) →
      g x (wipe σ vs) H' fun σ2 H2 => wipe σ2 vs = wipe σ vs ∧ te σ2 H2 Nx)
    (hd : ∀ H (qs : List Addr), Same H1 H → H D = some (.lst (qs.map .ref)) → qs.length = n → (∀ j q, qs[j]? = some q → H q = some (.tup (ws j))) → Qd H) :
    ∃ W : Nat → Nat → Hp → Prop, (∃ m, W 0 m (upd H1 D (.lst []))) ∧ ∀ i m H, W i m H →
      (J.stop i H ∧ Qd H) ∨ (J.go i H ∧ ∃ Nx : Hp → Prop, (∀ H', Nx H' → ∃ m', m' < m ∧ W (i + 1) m' H') ∧ ∀ x H', J.yld i H x H' → g x (wipe σ vs) H' fun σ2 H2 => wipe σ2 vs = wipe σ vs ∧ tYes σ2 H2 fun b H3 =>
        if b = true then te σ2 H3 fun y H4 => ∃ acc, H4 D = some (.lst acc) ∧ acc.length < sizeLine ∧ Nx (upd H4 D (.lst (acc ++ [y]))) else Nx H3) := by
  refine lc_it w (tt := tYes) (fun i H => i ≤ n ∧ Kp D H1 H ∧ ∃ qs : List Addr, H D = some (.lst (qs.map .ref)) ∧ qs.length = i ∧ ∀ j q, qs[j]? = some q → q ≠ D ∧ H q = some (.tup (ws j))) ⟨Nat.zero_le _, (Kp.refl _ _).upd, [], upd_same, rfl, fun j q h => by simp at h⟩ (fun i H _ p => hG H (p.2.1.same hD)) ?_
    (fun H ⟨_, kp, qs, e, hl, hq⟩ => hd H qs (kp.same hD) e hl fun j q h => (hq j q h).2)
  rintro i x H H' hi ⟨_, kp, qs, e, hl, hq⟩ yy
  have sm := hY i H x H' yy
  refine hs i x H H' (fun y H4 => ∃ acc, H4 D = some (.lst acc) ∧ acc.length < sizeLine ∧ _) hi (kp.same hD) yy (fun H4 p s4 hp => ?_)
  have e4 := s4 _ _ (sm _ _ e)
  have hne : D ≠ p := fun z => by rw [z, hp] at e4; cases e4
  have s5 : Same H (upd H4 p (.tup (ws i))) := Same.new (sm.trans s4) hp
  refine ⟨qs.map .ref, s5 _ _ e, by rw [List.length_map, hl]; unfold sizeLine; omega, hi, (kp.trans (Kp.of s5)).upd, qs ++ [p], by rw [upd_same, List.map_append]; rfl, by rw [List.length_append, hl]; rfl, fun j q h => ?_⟩
  by_cases hj : j < qs.length
  · rw [List.getElem?_append_left hj] at h
    obtain ⟨h1, h2⟩ := hq j q h
    exact ⟨h1, by rw [upd_ne h1]; exact s5 _ _ h2⟩
  · rw [List.getElem?_append_right (by omega)] at h
    have hj0 : j - qs.length = 0 := by
      cases hk : j - qs.length with
      | zero => rfl
      | succ k => rw [hk] at h; simp at h
    rw [hj0] at h
    have eq : q = p := (Option.some.inj h).symm
    have ej : j = i := by omega
    subst eq
    subst ej
    exact ⟨hne.symm, by rw [upd_ne hne.symm]; exact upd_same⟩
end
def wsM : Nat → List V
  | 0 => [.str "bad", .str "a", .int 1]
  | 1 => [.str "unbound", .str "b", .non]
  | _ => [.str "repeated", .str "c", .int 2]
def sp_law (K : PySem.W.Frag) (Tb : List (Addr × Str)) : Sp := fun vs H Q _ => ∃ (a : Addr) (ns : List Int), vs = [.ref a] ∧ LsX K H a (ns.map V.int) ∧ ns.length ≤ 63 ∧ LamX.Tabs Tb H ∧ ∀ H', Q (.bl true) H'

local macro_rules | `(tactic| walk_at "sz") => `(tactic| first | assumption | decide | omega | (unfold sizeLine; omega) | exact Nat.le_of_ble_eq_true rfl)
local macro_rules | `(tactic| walk_at "hp") => `(tactic| (first | assumption | exact upd_same | (rw [upd_ne (by assumption)]; assumption)))
local macro_rules | `(tactic| walk_at "rd") => `(tactic| (first
  | refine ⟨_, rfl, ?_⟩
  | (refine ⟨_, _, rfl, rfl, ?rdc, ?_⟩; (case rdc => first | (show (0 : Int) < _; omega) | (exact ⟨by omega, by omega⟩) | (exact .inl ⟨by omega, by omega⟩) | (exact .inr ⟨by omega, by omega⟩) | exact ⟨by decide, by decide, by decide⟩))
  | refine ⟨_, _, rfl, rfl, ?_⟩
  | refine .inl ⟨_, rfl, ?_⟩
  | refine ⟨rfl, ?_⟩
  | refine ⟨⟨_, rfl⟩, ?_⟩
  | refine ⟨⟨_, SqL.of (by walk_at "hp")⟩, ?_⟩
  | refine ⟨_, _, _, _, rfl, rfl, SqL.of (by walk_at "hp"), (by rfl), ?_⟩
  | refine ⟨_, _, _, _, rfl, rfl, (by walk_at "hp"), (by rfl), ?_⟩
  | refine ⟨_, _, rfl, ⟨by walk_at "sz", rfl⟩, ?_⟩
  | refine ⟨_, _, _, rfl, rfl, by walk_at "sz", by assumption, ?_⟩
  | refine And.intro (by walk_at "sz") ?_
  | refine itT rfl ?_
  | refine itF rfl ?_
  | refine itT (by assumption) ?_
  | refine itF (by assumption) ?_
  | refine itT (decide_eq_true (by omega)) ?_
  | refine itF (decide_eq_false (by omega)) ?_
  | refine itT (dVi (by omega)) ?_
  | refine itF (dViN (by omega)) ?_
  | refine itT (notT (by assumption)) ?_
  | refine itF (notF (by assumption)) ?_
  | refine itT (notT (dViN (by omega))) ?_
  | refine itF (notF (dVi (by omega))) ?_
  | refine itT (decide_eq_true rfl) ?_
  | refine itF (notF (decide_eq_true rfl)) ?_
  | refine ite2 (fun _ => ?_) (fun _ => ?_)
  | with_reducible refine tC_ ?_
  | with_reducible refine tNext_ ?_
  | with_reducible refine tNil_ ?_
  | with_reducible refine tYes_ ?_))
local macro_rules | `(tactic| walk_at "rds") => `(tactic| repeat' (walk_at "rd"))
section
variable {P : Program} {w : World} {K : PySem.W.Frag} {mg : Str → Option Value} {base : Heap}

local macro_rules | `(tactic| walk_at "lk") => `(tactic| first
  | with_reducible assumption
  | with_reducible exact upd_same
  | (walk_at "lk1"; walk_at "lk")
  | fail "lk")
local macro_rules | `(tactic| walk_at "lk1") => `(tactic| first
  | ((with_reducible refine' lk_new ?a1 ?a2); (case a1 => with_reducible assumption); (case' a2 => skip))
  | ((with_reducible refine' lk_ne ?a1 ?a2); (case a1 => with_reducible assumption); (case' a2 => skip))
  | ((with_reducible refine' lk_neN ?a1 ?a2 ?a3); (case a1 => with_reducible assumption); (case a2 => walk_at "lk"); (case' a3 => skip))
  | ((with_reducible refine' lk_neN' ?a1 ?a2 ?a3); (case a1 => with_reducible assumption); (case a2 => walk_at "lk"); (case' a3 => skip))
  | ((with_reducible refine' lk_same ?a1 ?a2); (case a1 => with_reducible assumption); (case' a2 => skip))
  | ((with_reducible refine' lk_go ?a1 ?a2 ?a3); (case a1 => with_reducible assumption); (case a2 => walk_at "nt"); (case' a3 => skip))
  | ((with_reducible refine' lk_kd ?a1 ?a2 ?a3 ?a4); (case a1 => with_reducible assumption); (case a2 => walk_at "st"); (case a3 => walk_at "nl"); (case' a4 => skip))
  | ((with_reducible refine' lk_kp ?a1 ?a2 ?a3); (case a1 => with_reducible assumption); (case a2 => walk_at "ne"); (case' a3 => skip))
  | fail "lk1")
local macro_rules | `(tactic| walk_at "nt") => `(tactic| first
  | (intro _ z; cases z)
  | fail "nt")
local macro_rules | `(tactic| walk_at "nl") => `(tactic| first
  | (intro _ z; cases z)
  | fail "nl")
local macro_rules | `(tactic| walk_at "ne") => `(tactic| first
  | with_reducible assumption
  | ((with_reducible refine' ne_sd ?a1 ?a2); (case a1 => with_reducible assumption); (case a2 => walk_at "st"))
  | fail "ne")
local macro_rules | `(tactic| walk_at "st") => `(tactic| first
  | with_reducible assumption
  | with_reducible exact sd_new (by with_reducible assumption) (by walk_at "st")
  | with_reducible exact sd_same (by with_reducible assumption) (by walk_at "st")
  | with_reducible exact sd_go (by with_reducible assumption) (by walk_at "st")
  | with_reducible exact sd_ne (by walk_at "ns") (by walk_at "st")
  | fail "st")
local macro_rules | `(tactic| walk_at "ns") => `(tactic| first
  | with_reducible assumption
  | with_reducible exact Ne.symm (by with_reducible assumption)
  | with_reducible exact Ne.symm (ne_sd (by with_reducible assumption) (by walk_at "st"))
  | fail "ns")
local macro_rules | `(tactic| walk_at "fr") => `(tactic| first
  | with_reducible assumption
  | with_reducible exact Same.refl _
  | with_reducible exact Go.refl _ _
  | with_reducible exact Kp.refl _ _
  | with_reducible exact LamX.ExtN.refl _
  | with_reducible exact nw_refl
  | (walk_at "fr1"; walk_at "fr")
  | fail "fr")
local macro_rules | `(tactic| walk_at "fr1") => `(tactic| first
  | ((with_reducible refine' fr_new ?a1 ?a2); (case a1 => with_reducible assumption); (case' a2 => skip))
  | ((with_reducible refine' go_new ?a1 ?a2); (case a1 => with_reducible assumption); (case' a2 => skip))
  | ((with_reducible refine' kp_new ?a1 ?a2); (case a1 => with_reducible assumption); (case' a2 => skip))
  | ((with_reducible refine' fr_same ?a1 ?a2); (case a1 => with_reducible assumption); (case' a2 => skip))
  | ((with_reducible refine' go_same ?a1 ?a2); (case a1 => with_reducible assumption); (case' a2 => skip))
  | ((with_reducible refine' kp_same ?a1 ?a2); (case a1 => with_reducible assumption); (case' a2 => skip))
  | ((with_reducible refine' go_go ?a1 ?a2); (case a1 => with_reducible assumption); (case' a2 => skip))
  | ((with_reducible refine' go_kd ?a1 ?a2 ?a3 ?a4); (case a1 => with_reducible assumption); (case a2 => with_reducible assumption); (case a3 => walk_at "st"); (case' a4 => skip))
  | ((with_reducible refine' kp_kp ?a1 ?a2); (case a1 => with_reducible assumption); (case' a2 => skip))
  | ((with_reducible refine' kp_upd ?a1); (case' a1 => skip))
  | ((with_reducible refine' go_set2 ?a1 ?a2 ?a3 ?a4); (case a1 => walk_at "lk"); (case a2 => with_reducible assumption); (case a3 => walk_at "fr"); (case' a4 => skip))
  | ((with_reducible refine' fr_set2 ?a1 ?a2 ?a3); (case a1 => with_reducible assumption); (case a2 => walk_at "fr"); (case' a3 => skip))
  | ((with_reducible refine' en_new ?a1 ?a2); (case a1 => with_reducible assumption); (case' a2 => skip))
  | ((with_reducible refine' en_same ?a1 ?a2); (case a1 => with_reducible assumption); (case' a2 => skip))
  | ((with_reducible refine' en_go ?a1 ?a2); (case a1 => with_reducible assumption); (case' a2 => skip))
  | ((with_reducible refine' en_set2 ?a1 ?a2 ?a3); (case a1 => with_reducible assumption); (case a2 => walk_at "fr"); (case' a3 => skip))
  | ((with_reducible refine' en_kp ?a1 ?a2 ?a3 ?a4); (case a1 => with_reducible assumption); (case a2 => with_reducible assumption); (case a3 => walk_at "fr"); (case' a4 => skip))
  | ((with_reducible refine' nw_new ?a1 ?a2); (case a1 => with_reducible assumption); (case' a2 => skip))
  | ((with_reducible refine' nw_same ?a1 ?a2); (case a1 => with_reducible assumption); (case' a2 => skip))
  | ((with_reducible refine' nw_go ?a1 ?a2); (case a1 => with_reducible assumption); (case' a2 => skip))
  | ((with_reducible refine' nw_kd ?a1 ?a2 ?a3); (case a1 => with_reducible assumption); (case a2 => walk_at "st"); (case' a3 => skip))
  | ((with_reducible refine' nw_set ?a1 ?a2); (case a1 => walk_at "lk"); (case' a2 => skip))
  | ((with_reducible refine' nw_set2 ?a1 ?a2 ?a3); (case a1 => with_reducible assumption); (case a2 => walk_at "fr"); (case' a3 => skip))
  | fail "fr1")
local macro_rules | `(tactic| walk_at "tb") => `(tactic| first
  | with_reducible assumption
  | (walk_at "tb1"; walk_at "tb")
  | fail "tb")
local macro_rules | `(tactic| walk_at "tb1") => `(tactic| first
  | ((with_reducible refine' tabs_new ?a1 ?a2); (case a1 => with_reducible assumption); (case' a2 => skip))
  | ((with_reducible refine' tabs_same ?a1 ?a2); (case a1 => with_reducible assumption); (case' a2 => skip))
  | ((with_reducible refine' tabs_go ?a1 ?a2); (case a1 => with_reducible assumption); (case' a2 => skip))
  | ((with_reducible refine' tabs_kd ?a1 ?a2 ?a3); (case a1 => with_reducible assumption); (case a2 => walk_at "st"); (case' a3 => skip))
  | ((with_reducible refine' tabs_set ?a1 ?a2); (case a1 => walk_at "lk"); (case' a2 => skip))
  | fail "tb1")
local macro_rules | `(tactic| walk_at "dg") => `(tactic| first
  | assumption
  | (refine' dp_ext ?a1 ?a2; (case a1 => assumption); (case a2 => walk_at "fr"))
  | (refine' dn_use ?a1 ?a2; (case a1 => assumption); (case a2 => walk_at "fr"))
  | fail "dg")
local macro_rules | `(tactic| walk_at "dp") => `(tactic| first
  | assumption
  | exact .str _
  | exact .int _
  | exact .bl _
  | exact .non
  | (refine' Dp.lst (SqL.of ?a1) ?a2; (case a1 => walk_at "lk"); (case a2 => walk_at "dpa"))
  | (refine' Dp.tup (SqT.of ?a1) ?a2; (case a1 => walk_at "lk"); (case a2 => walk_at "dpa"))
  | (walk_at "dg")
  | fail "dp")
local macro_rules | `(tactic| walk_at "dpa") => `(tactic| first
  | assumption
  | exact .nil
  | (refine' DpAll.cons ?a1 ?a2; (case a1 => walk_at "dp"); (case a2 => walk_at "dpa"))
  | fail "dpa")
local macro_rules | `(tactic| walk_at "dx") => `(tactic| first
  | assumption
  | exact .str _
  | exact .int _
  | exact .bl _
  | exact .non
  | (refine' Dx.lst (SqL.of ?a1) ?a2; (case a1 => walk_at "lk"); (case a2 => walk_at "dxa"))
  | (refine' Dx.tup (SqT.of ?a1) ?a2; (case a1 => walk_at "lk"); (case a2 => walk_at "dxa"))
  | (refine' Dx.dct (.inl ?a1) ?a2; (case a1 => walk_at "lk"); (case a2 => exact .nil))
  | (refine' dx_ext ?a1 ?a2; (case a1 => assumption); (case a2 => walk_at "fr"))
  | fail "dx")
local macro_rules | `(tactic| walk_at "dxa") => `(tactic| first
  | assumption
  | exact .nil
  | (refine' DxAll.cons ?a1 ?a2; (case a1 => walk_at "dx"); (case a2 => walk_at "dxa"))
  | fail "dxa")
local macro_rules | `(tactic| walk_at "ty") => `(tactic| first
  | assumption
  | (refine' ty_ext ?a1 ?a2; (case a1 => assumption); (case a2 => walk_at "fr"))
  | fail "ty")
local macro_rules | `(tactic| walk_at "shp") => `(tactic| first
  | assumption
  | (simp only [SeqAt.shaped, lay_l, lay_t, lay_i, lay_b, lay_n, lay_c, lay_e, PyData.depth, PyData.depthAll, Bool.and_true, Bool.true_and, Bool.and_eq_true, decide_eq_true_eq]
     repeat' (first | assumption | (refine And.intro ?_ ?_) | (exact rfl) | (decide +kernel) | omega))
  | decide +kernel)
local macro_rules | `(tactic| walk_at "side") => `(tactic| first
  | assumption
  | (intros; trivial)
  | omega
  | (walk_at "lk")
  | (walk_at "st")
  | (walk_at "sz")
  | (walk_at "tb")
  | (walk_at "fr"))
local macro_rules | `(tactic| walk_at "cl") => `(tactic| ((repeat' (apply Exists.intro)); refine And.intro rfl ?_; repeat (refine And.intro (by walk_at "side") ?_)))
local macro_rules | `(tactic| walk_at "eqd") => `(tactic| (refine ⟨_, _, by walk_at "dp", by walk_at "dp", by walk_at "shp", by walk_at "shp", ?_⟩; rw [eqv_same (by walk_at "shp")]))
local macro_rules | `(tactic| walk_at "new") => `(tactic| refine fun (p : Addr) (hp : (_ : Hp) p = none) => ?_)
local macro_rules | `(tactic| walk_at "rdn") => `(tactic| (repeat' (first | walk_at "rd" | walk_at "new")))

theorem law_5 (T : Tx P w K mg base) {f : Addr} {cdv : Value} {Tb : List (Addr × Str)} (G__law_word : FnOk P w K mg base CX0 1 T.d__law_word.f T.d__law_word.fd ["caught"] (sp__law_word K T.a_BadBinding T.a_Unbound T.a_Repeated T.a_InvalidName))
    {A : Around} {outer : List Env} {s : Shared} {H0 : Hp} {E : XK} (hr : RmG 10 (A.deeper (envOfC "law" (defScope s_law) s.heap.objs.size f cdv))) :
    ∃ t, PSs (cxOf CX0 P w K mg base ["script", "scope", "spot", "state", "turn", "label", "bent", "thing", "some", "odd", "made", "one"] "law" (defScope s_law) f cdv A outer s H0 E) ((defBody s_law).drop 5) t ∧ ∀ (v0 v1 v2 v3 v4 v5 v6 v7 v8 v9 v10 v11 : Option V) (H : Hp) (Q : VK), (∀ H', Q (.bl true) H') → t { nx := fun _ H' => Q .non H', rt := Q } [v0, v1, v2, v3, v4, v5, v6, v7, v8, v9, v10, v11] H := by
  have sc := sc_law
  refine ⟨_, (pss_cons (ps_set (i := 10) sc.nd rfl (Or.inl rfl) (pe_lst (pa_cons (Mx.pe_newS T.xs_BadBinding (hr.r.mono (by decide)) rfl (pa_cons pe_str (pa_cons pe_int pa_nil))) (pa_cons (Mx.pe_newS T.xs_Unbound (hr.r.mono (by decide)) rfl (pa_cons pe_str (pa_cons pe_non pa_nil))) (pa_cons (Mx.pe_newS T.xs_Repeated (hr.r.mono (by decide)) rfl (pa_cons pe_str (pa_cons pe_int pa_nil))) pa_nil)))))
      (pss_cons (ps_if (pt_cmpR (op_neD hr.r.units) (pe_lc (own := [("one", 11)]) (g := gName 11) (tt := tYes) (te := tCB (Mx.rIsiE K) (tCons (tVar 11) (tCons (tC (.ref T.a_MarkupError)) tNil))) rfl sc.nd (pi_list (pv 10)) (blkOk_by (own := [("one", 11)]) (N := ["script", "scope", "spot", "state", "turn", "label", "bent", "thing", "some", "odd", "made", "one"]) (sc := defScope s_law) (by decide +kernel)) (fun _ _ _ _ _ => pg_name (i := 11) sc.nd rfl (Or.inl rfl)) (fun _ _ _ _ _ => pts_nil) (fun _ _ _ _ _ => pe_callB Mx.call_isiE (by rfl) T.n_isinstance (by decide +kernel) (pa_cons (pv 11) (pa_cons (pe_glob (v := .ref T.a_MarkupError) rfl T.m_MarkupError rfl) pa_nil)))) (pe_op op_rep (pe_lst (pa_cons pe_bl pa_nil)) pe_int) (nomark _)) (pss_one (ps_ret pe_bl)) pss_nil)
      (pss_one (ps_ret (pe_cmpR (op_eqD hr.r.units) (pe_lc (own := [("one", 11)]) (g := gName 11) (tt := tYes) rfl sc.nd (pi_list (pv 10)) (blkOk_by (own := [("one", 11)]) (N := ["script", "scope", "spot", "state", "turn", "label", "bent", "thing", "some", "odd", "made", "one"]) (sc := defScope s_law) (by decide +kernel)) (fun _ _ _ _ _ => pg_name (i := 11) sc.nd rfl (Or.inl rfl)) (fun _ _ _ _ _ => pts_nil) (fun _ _ _ _ _ => pe_call G__law_word (hr.r.mono (by decide)) rfl T.d__law_word.m T.d__law_word.F.kp T.d__law_word.b .nil pass0 (pa_cons (pv 11) pa_nil))) (pe_lst (pa_cons (pe_tup (pa_cons pe_str (pa_cons pe_str (pa_cons pe_int pa_nil)))) (pa_cons (pe_tup (pa_cons pe_str (pa_cons pe_str (pa_cons pe_non pa_nil)))) (pa_cons (pe_tup (pa_cons pe_str (pa_cons pe_str (pa_cons pe_int pa_nil)))) pa_nil)))) (nomark _)))))), ?_⟩
  intro v0 v1 v2 v3 v4 v5 v6 v7 v8 v9 v10 v11 H Q q
  walk_at "rds"
  intro a1 H1 s1 n1 x1
  walk_at "rds"
  intro a2 H2 s2 n2 x2
  walk_at "rds"
  intro a3 H3 s3 n3 x3
  walk_at "rds"
  have x1 := x1.mono (.of (s2.trans s3))
  have x2 := x2.mono (.of s3)
  clear s1 s2 s3 n1 n2 n3
  intro pm hpm
  have s4 : Same H3 (upd H3 pm (.lst [.ref a1, .ref a2, .ref a3])) := Same.new (Same.refl _) hpm
  have x1 := x1.mono (.of s4)
  have x2 := x2.mono (.of s4)
  have x3 := x3.mono (.of s4)
  have fm : upd H3 pm (.lst [.ref a1, .ref a2, .ref a3]) pm = some (.lst [.ref a1, .ref a2, .ref a3]) := upd_same
  generalize upd H3 pm (.lst [.ref a1, .ref a2, .ref a3]) = H4 at *
  clear s4 hpm
  walk_at "rds"
  intro D hD
  refine lc_flt (te := tCB (Mx.rIsiE K) (tCons (tVar 11) (tCons (tC (.ref T.a_MarkupError)) tNil))) (walk_list (xs := [.ref a1, .ref a2, .ref a3])) (fun _ => true) (fun _ => .bl true) hD (Nat.le_of_ble_eq_true rfl) (fun H1 sm => SqL.of (sm _ _ fm)) (fun i H1 x H2 y => y.1 ▸ Same.refl _) ?_ ?_
  · rintro i x H8 H9 Nx Mo hi sm ⟨rfl, hx⟩ k1 k2
    refine ⟨rfl, ?_⟩
    have hi3 : i < 3 := hi
    have : i = 0 ∨ i = 1 ∨ i = 2 := by omega
    rcases this with rfl | rfl | rfl
    · cases Option.some.inj hx
      walk_at "rds"
      refine ⟨a1, T.a_BadBinding, _, _, _, true, rfl, .own _, x1.mono (.of sm), T.xs_BadBinding.xc, T.xb_BadBinding, ?_⟩
      exact k1 rfl _ (Same.refl _)
    · cases Option.some.inj hx
      walk_at "rds"
      refine ⟨a2, T.a_Unbound, _, _, _, true, rfl, .own _, x2.mono (.of sm), T.xs_Unbound.xc, T.xb_Unbound, ?_⟩
      exact k1 rfl _ (Same.refl _)
    · cases Option.some.inj hx
      walk_at "rds"
      refine ⟨a3, T.a_Repeated, _, _, _, true, rfl, .own _, x3.mono (.of sm), T.xs_Repeated.xc, T.xb_Repeated, ?_⟩
      exact k1 rfl _ (Same.refl _)
  intro H5 s5 hl5
  have hl5 : H5 D = some (.lst [.bl true, .bl true, .bl true]) := hl5
  have x1 := x1.mono (.of s5)
  have x2 := x2.mono (.of s5)
  have x3 := x3.mono (.of s5)
  have fm := s5 _ _ fm
  clear s5 hD
  walk_at "rds"
  intro p1 hp1
  have f1 : upd H5 p1 (.lst [.bl true]) p1 = some (.lst [.bl true]) := upd_same
  have s6 : Same H5 (upd H5 p1 (.lst [.bl true])) := Same.new (Same.refl _) hp1
  generalize upd H5 p1 (.lst [.bl true]) = H6 at *
  walk_at "rds"
  refine ⟨p1, 3, _, rfl, rfl, f1, by decide, by decide, Nat.le_of_ble_eq_true rfl, fun p2 hp2 => ?_⟩
  have e5 : (List.replicate (3 : Int).toNat [V.bl true]).flatten = [.bl true, .bl true, .bl true] := rfl
  rw [e5]
  have s7 : Same H5 (upd H6 p2 (.lst [.bl true, .bl true, .bl true])) := Same.new s6 hp2
  have f2 : upd H6 p2 (.lst [.bl true, .bl true, .bl true]) p2 = some (.lst [.bl true, .bl true, .bl true]) := upd_same
  generalize upd H6 p2 (.lst [.bl true, .bl true, .bl true]) = H7 at *
  have hl5 := s7 _ _ hl5
  have sh : SeqAt.shaped (.list [.bool true, .bool true, .bool true]) = true := by decide +kernel
  refine ⟨.list [.bool true, .bool true, .bool true], .list [.bool true, .bool true, .bool true], .lst (SqL.of hl5) (.cons (.bl _) (.cons (.bl _) (.cons (.bl _) .nil))), .lst (SqL.of f2) (.cons (.bl _) (.cons (.bl _) (.cons (.bl _) .nil))), sh, sh, ?_⟩
  rw [eqv_same sh]
  refine ⟨_, rfl, ?_⟩
  refine itF rfl ?_
  have x1 := x1.mono (.of s7)
  have x2 := x2.mono (.of s7)
  have x3 := x3.mono (.of s7)
  have fm := s7 _ _ fm
  clear s7 s6 e5 f1 f2 hl5 hp1 hp2 sh
  walk_at "rds"
  intro D2 hD2
  refine lc_tups (walk_list (xs := [.ref a1, .ref a2, .ref a3])) wsM hD2 (Nat.le_of_ble_eq_true rfl) (fun H1 sm => SqL.of (sm _ _ fm)) (fun i H1 x H2 y => y.1 ▸ Same.refl _) ?_ ?_
  · rintro i x H8 H9 Nx hi sm ⟨rfl, hx⟩ k1
    refine ⟨rfl, ?_⟩
    have hi3 : i < 3 := hi
    have : i = 0 ∨ i = 1 ∨ i = 2 := by omega
    rcases this with rfl | rfl | rfl
    · cases Option.some.inj hx
      walk_at "rds"
      refine ⟨a1, T.a_BadBinding, _, wsM 0, rfl, x1.mono (.of sm), .inl ⟨rfl, _, _, rfl, rfl⟩, fun p hp => k1 _ p (Same.refl _) hp⟩
    · cases Option.some.inj hx
      walk_at "rds"
      refine ⟨a2, T.a_Unbound, _, wsM 1, rfl, x2.mono (.of sm), .inr (.inl ⟨rfl, _, _, rfl, rfl⟩), fun p hp => k1 _ p (Same.refl _) hp⟩
    · cases Option.some.inj hx
      walk_at "rds"
      refine ⟨a3, T.a_Repeated, _, wsM 2, rfl, x3.mono (.of sm), .inr (.inr (.inl ⟨rfl, _, _, rfl, rfl⟩)), fun p hp => k1 _ p (Same.refl _) hp⟩
  intro H8 qs s8 hl8 hlen hq
  obtain ⟨q1, q2, q3, rfl⟩ : ∃ q1 q2 q3, qs = [q1, q2, q3] := by
    match qs, hlen with
    | [a, b, c], _ => exact ⟨a, b, c, rfl⟩
  have e1 : H8 q1 = some (.tup [.str "bad", .str "a", .int 1]) := hq 0 q1 rfl
  have e2 : H8 q2 = some (.tup [.str "unbound", .str "b", .non]) := hq 1 q2 rfl
  have e3 : H8 q3 = some (.tup [.str "repeated", .str "c", .int 2]) := hq 2 q3 rfl
  have hl8 : H8 D2 = some (.lst [.ref q1, .ref q2, .ref q3]) := hl8
  clear hq hlen s8 hD2 x1 x2 x3 fm
  walk_at "rds"
  intro p1 hp
  have fp1 : upd H8 p1 (.tup [.str "bad", .str "a", .int 1]) p1 = some (.tup [.str "bad", .str "a", .int 1]) := upd_same
  have e1 := lk_new (o := .tup [.str "bad", .str "a", .int 1]) hp e1
  have e2 := lk_new (o := .tup [.str "bad", .str "a", .int 1]) hp e2
  have e3 := lk_new (o := .tup [.str "bad", .str "a", .int 1]) hp e3
  have hl8 := lk_new (o := .tup [.str "bad", .str "a", .int 1]) hp hl8
  generalize upd H8 p1 (.tup [.str "bad", .str "a", .int 1]) = H9 at *
  clear hp
  walk_at "rds"
  intro p2 hp
  have fp2 : upd H9 p2 (.tup [.str "unbound", .str "b", .non]) p2 = some (.tup [.str "unbound", .str "b", .non]) := upd_same
  have e1 := lk_new (o := .tup [.str "unbound", .str "b", .non]) hp e1
  have e2 := lk_new (o := .tup [.str "unbound", .str "b", .non]) hp e2
  have e3 := lk_new (o := .tup [.str "unbound", .str "b", .non]) hp e3
  have hl8 := lk_new (o := .tup [.str "unbound", .str "b", .non]) hp hl8
  have fp1 := lk_new (o := .tup [.str "unbound", .str "b", .non]) hp fp1
  generalize upd H9 p2 (.tup [.str "unbound", .str "b", .non]) = HA at *
  clear hp
  walk_at "rds"
  intro p3 hp
  have fp3 : upd HA p3 (.tup [.str "repeated", .str "c", .int 2]) p3 = some (.tup [.str "repeated", .str "c", .int 2]) := upd_same
  have e1 := lk_new (o := .tup [.str "repeated", .str "c", .int 2]) hp e1
  have e2 := lk_new (o := .tup [.str "repeated", .str "c", .int 2]) hp e2
  have e3 := lk_new (o := .tup [.str "repeated", .str "c", .int 2]) hp e3
  have hl8 := lk_new (o := .tup [.str "repeated", .str "c", .int 2]) hp hl8
  have fp1 := lk_new (o := .tup [.str "repeated", .str "c", .int 2]) hp fp1
  have fp2 := lk_new (o := .tup [.str "repeated", .str "c", .int 2]) hp fp2
  generalize upd HA p3 (.tup [.str "repeated", .str "c", .int 2]) = HB at *
  clear hp
  walk_at "rds"
  intro p4 hp
  have fp4 : upd HB p4 (.lst [.ref p1, .ref p2, .ref p3]) p4 = some (.lst [.ref p1, .ref p2, .ref p3]) := upd_same
  have e1 := lk_new (o := .lst [.ref p1, .ref p2, .ref p3]) hp e1
  have e2 := lk_new (o := .lst [.ref p1, .ref p2, .ref p3]) hp e2
  have e3 := lk_new (o := .lst [.ref p1, .ref p2, .ref p3]) hp e3
  have hl8 := lk_new (o := .lst [.ref p1, .ref p2, .ref p3]) hp hl8
  have fp1 := lk_new (o := .lst [.ref p1, .ref p2, .ref p3]) hp fp1
  have fp2 := lk_new (o := .lst [.ref p1, .ref p2, .ref p3]) hp fp2
  have fp3 := lk_new (o := .lst [.ref p1, .ref p2, .ref p3]) hp fp3
  generalize upd HB p4 (.lst [.ref p1, .ref p2, .ref p3]) = HC at *
  clear hp
  walk_at "rds"
  have sh : SeqAt.shaped (.list [.tuple [.str "bad", .str "a", .int 1], .tuple [.str "unbound", .str "b", .none], .tuple [.str "repeated", .str "c", .int 2]]) = true := by decide +kernel
  refine ⟨.list [.tuple [.str "bad", .str "a", .int 1], .tuple [.str "unbound", .str "b", .none], .tuple [.str "repeated", .str "c", .int 2]], .list [.tuple [.str "bad", .str "a", .int 1], .tuple [.str "unbound", .str "b", .none], .tuple [.str "repeated", .str "c", .int 2]],
    .lst (SqL.of hl8) (.cons (.tup (SqT.of e1) (.cons (.str _) (.cons (.str _) (.cons (.int _) .nil)))) (.cons (.tup (SqT.of e2) (.cons (.str _) (.cons (.str _) (.cons .non .nil)))) (.cons (.tup (SqT.of e3) (.cons (.str _) (.cons (.str _) (.cons (.int _) .nil)))) .nil))),
    .lst (SqL.of fp4) (.cons (.tup (SqT.of fp1) (.cons (.str _) (.cons (.str _) (.cons (.int _) .nil)))) (.cons (.tup (SqT.of fp2) (.cons (.str _) (.cons (.str _) (.cons .non .nil)))) (.cons (.tup (SqT.of fp3) (.cons (.str _) (.cons (.str _) (.cons (.int _) .nil)))) .nil))), sh, sh, ?_⟩
  rw [eqv_same sh]
  exact q _

end
end K4

set_option maxHeartbeats 1000000
set_option pp.maxSteps 700
set_option pp.deepTerms false
set_option pp.deepTerms.threshold 14
namespace K4
open PySem PySem.Spec PyProof.Rows L2 Mx
open TL Nam
local macro_rules | `(tactic| walk_at "sz") => `(tactic| first | assumption | decide | omega | (unfold sizeLine; omega) | exact Nat.le_of_ble_eq_true rfl)
local macro_rules | `(tactic| walk_at "hp") => `(tactic| (first | assumption | exact upd_same | (rw [upd_ne (by assumption)]; assumption)))
local macro_rules | `(tactic| walk_at "rd") => `(tactic| (first
  | refine ⟨_, rfl, ?_⟩
  | (refine ⟨_, _, rfl, rfl, ?rdc, ?_⟩; (case rdc => first | (show (0 : Int) < _; omega) | (exact ⟨by omega, by omega⟩) | (exact .inl ⟨by omega, by omega⟩) | (exact .inr ⟨by omega, by omega⟩) | exact ⟨by decide, by decide, by decide⟩))
  | refine ⟨_, _, rfl, rfl, ?_⟩
  | refine .inl ⟨_, rfl, ?_⟩
  | refine ⟨rfl, ?_⟩
  | refine ⟨⟨_, rfl⟩, ?_⟩
  | refine ⟨⟨_, SqL.of (by walk_at "hp")⟩, ?_⟩
  | refine ⟨_, _, _, _, rfl, rfl, SqL.of (by walk_at "hp"), (by rfl), ?_⟩
  | refine ⟨_, _, _, _, rfl, rfl, (by walk_at "hp"), (by rfl), ?_⟩
  | refine ⟨_, _, rfl, ⟨by walk_at "sz", rfl⟩, ?_⟩
  | refine ⟨_, _, _, rfl, rfl, by walk_at "sz", by assumption, ?_⟩
  | refine And.intro (by walk_at "sz") ?_
  | refine itT rfl ?_
  | refine itF rfl ?_
  | refine itT (by assumption) ?_
  | refine itF (by assumption) ?_
  | refine itT (decide_eq_true (by omega)) ?_
  | refine itF (decide_eq_false (by omega)) ?_
  | refine itT (dVi (by omega)) ?_
  | refine itF (dViN (by omega)) ?_
  | refine itT (notT (by assumption)) ?_
  | refine itF (notF (by assumption)) ?_
  | refine itT (notT (dViN (by omega))) ?_
  | refine itF (notF (dVi (by omega))) ?_
  | refine itT (decide_eq_true rfl) ?_
  | refine itF (notF (decide_eq_true rfl)) ?_
  | refine ite2 (fun _ => ?_) (fun _ => ?_)
  | with_reducible refine tC_ ?_
  | with_reducible refine tNext_ ?_
  | with_reducible refine tNil_ ?_
  | with_reducible refine tYes_ ?_))
local macro_rules | `(tactic| walk_at "rds") => `(tactic| repeat' (walk_at "rd"))
section
variable {P : Program} {w : World} {K : PySem.W.Frag} {mg : Str → Option Value} {base : Heap}

local macro_rules | `(tactic| walk_at "lk") => `(tactic| first
  | with_reducible assumption
  | with_reducible exact upd_same
  | (walk_at "lk1"; walk_at "lk")
  | fail "lk")
local macro_rules | `(tactic| walk_at "lk1") => `(tactic| first
  | ((with_reducible refine' lk_new ?a1 ?a2); (case a1 => with_reducible assumption); (case' a2 => skip))
  | ((with_reducible refine' lk_ne ?a1 ?a2); (case a1 => with_reducible assumption); (case' a2 => skip))
  | ((with_reducible refine' lk_neN ?a1 ?a2 ?a3); (case a1 => with_reducible assumption); (case a2 => walk_at "lk"); (case' a3 => skip))
  | ((with_reducible refine' lk_neN' ?a1 ?a2 ?a3); (case a1 => with_reducible assumption); (case a2 => walk_at "lk"); (case' a3 => skip))
  | ((with_reducible refine' lk_same ?a1 ?a2); (case a1 => with_reducible assumption); (case' a2 => skip))
  | ((with_reducible refine' lk_go ?a1 ?a2 ?a3); (case a1 => with_reducible assumption); (case a2 => walk_at "nt"); (case' a3 => skip))
  | ((with_reducible refine' lk_kd ?a1 ?a2 ?a3 ?a4); (case a1 => with_reducible assumption); (case a2 => walk_at "st"); (case a3 => walk_at "nl"); (case' a4 => skip))
  | ((with_reducible refine' lk_kp ?a1 ?a2 ?a3); (case a1 => with_reducible assumption); (case a2 => walk_at "ne"); (case' a3 => skip))
  | fail "lk1")
local macro_rules | `(tactic| walk_at "nt") => `(tactic| first
  | (intro _ z; cases z)
  | fail "nt")
local macro_rules | `(tactic| walk_at "nl") => `(tactic| first
  | (intro _ z; cases z)
  | fail "nl")
local macro_rules | `(tactic| walk_at "ne") => `(tactic| first
  | with_reducible assumption
  | ((with_reducible refine' ne_sd ?a1 ?a2); (case a1 => with_reducible assumption); (case a2 => walk_at "st"))
  | fail "ne")
local macro_rules | `(tactic| walk_at "st") => `(tactic| first
  | with_reducible assumption
  | with_reducible exact sd_new (by with_reducible assumption) (by walk_at "st")
  | with_reducible exact sd_same (by with_reducible assumption) (by walk_at "st")
  | with_reducible exact sd_go (by with_reducible assumption) (by walk_at "st")
  | with_reducible exact sd_ne (by walk_at "ns") (by walk_at "st")
  | fail "st")
local macro_rules | `(tactic| walk_at "ns") => `(tactic| first
  | with_reducible assumption
  | with_reducible exact Ne.symm (by with_reducible assumption)
  | with_reducible exact Ne.symm (ne_sd (by with_reducible assumption) (by walk_at "st"))
  | fail "ns")
local macro_rules | `(tactic| walk_at "fr") => `(tactic| first
  | with_reducible assumption
  | with_reducible exact Same.refl _
  | with_reducible exact Go.refl _ _
  | with_reducible exact Kp.refl _ _
  | with_reducible exact LamX.ExtN.refl _
  | with_reducible exact nw_refl
  | (walk_at "fr1"; walk_at "fr")
  | fail "fr")
local macro_rules | `(tactic| walk_at "fr1") => `(tactic| first
  | ((with_reducible refine' fr_new ?a1 ?a2); (case a1 => with_reducible assumption); (case' a2 => skip))
  | ((with_reducible refine' go_new ?a1 ?a2); (case a1 => with_reducible assumption); (case' a2 => skip))
  | ((with_reducible refine' kp_new ?a1 ?a2); (case a1 => with_reducible assumption); (case' a2 => skip))
  | ((with_reducible refine' fr_same ?a1 ?a2); (case a1 => with_reducible assumption); (case' a2 => skip))
  | ((with_reducible refine' go_same ?a1 ?a2); (case a1 => with_reducible assumption); (case' a2 => skip))
  | ((with_reducible refine' kp_same ?a1 ?a2); (case a1 => with_reducible assumption); (case' a2 => skip))
  | ((with_reducible refine' go_go ?a1 ?a2); (case a1 => with_reducible assumption); (case' a2 => skip))
  | ((with_reducible refine' go_kd ?a1 ?a2 ?a3 ?a4); (case a1 => with_reducible assumption); (case a2 => with_reducible assumption); (case a3 => walk_at "st"); (case' a4 => skip))
  | ((with_reducible refine' kp_kp ?a1 ?a2); (case a1 => with_reducible assumption); (case' a2 => skip))
  | ((with_reducible refine' kp_upd ?a1); (case' a1 => skip))
  | ((with_reducible refine' go_set2 ?a1 ?a2 ?a3 ?a4); (case a1 => walk_at "lk"); (case a2 => with_reducible assumption); (case a3 => walk_at "fr"); (case' a4 => skip))
  | ((with_reducible refine' fr_set2 ?a1 ?a2 ?a3); (case a1 => with_reducible assumption); (case a2 => walk_at "fr"); (case' a3 => skip))
  | ((with_reducible refine' en_new ?a1 ?a2); (case a1 => with_reducible assumption); (case' a2 => skip))
  | ((with_reducible refine' en_same ?a1 ?a2); (case a1 => with_reducible assumption); (case' a2 => skip))
  | ((with_reducible refine' en_go ?a1 ?a2); (case a1 => with_reducible assumption); (case' a2 => skip))
  | ((with_reducible refine' en_set2 ?a1 ?a2 ?a3); (case a1 => with_reducible assumption); (case a2 => walk_at "fr"); (case' a3 => skip))
  | ((with_reducible refine' en_kp ?a1 ?a2 ?a3 ?a4); (case a1 => with_reducible assumption); (case a2 => with_reducible assumption); (case a3 => walk_at "fr"); (case' a4 => skip))
  | ((with_reducible refine' nw_new ?a1 ?a2); (case a1 => with_reducible assumption); (case' a2 => skip))
  | ((with_reducible refine' nw_same ?a1 ?a2); (case a1 => with_reducible assumption); (case' a2 => skip))
  | ((with_reducible refine' nw_go ?a1 ?a2); (case a1 => with_reducible assumption); (case' a2 => skip))
  | ((with_reducible refine' nw_kd ?a1 ?a2 ?a3); (case a1 => with_reducible assumption); (case a2 => walk_at "st"); (case' a3 => skip))
  | ((with_reducible refine' nw_set ?a1 ?a2); (case a1 => walk_at "lk"); (case' a2 => skip))
  | ((with_reducible refine' nw_set2 ?a1 ?a2 ?a3); (case a1 => with_reducible assumption); (case a2 => walk_at "fr"); (case' a3 => skip))
  | fail "fr1")
local macro_rules | `(tactic| walk_at "tb") => `(tactic| first
  | with_reducible assumption
  | (walk_at "tb1"; walk_at "tb")
  | fail "tb")
local macro_rules | `(tactic| walk_at "tb1") => `(tactic| first
  | ((with_reducible refine' tabs_new ?a1 ?a2); (case a1 => with_reducible assumption); (case' a2 => skip))
  | ((with_reducible refine' tabs_same ?a1 ?a2); (case a1 => with_reducible assumption); (case' a2 => skip))
  | ((with_reducible refine' tabs_go ?a1 ?a2); (case a1 => with_reducible assumption); (case' a2 => skip))
  | ((with_reducible refine' tabs_kd ?a1 ?a2 ?a3); (case a1 => with_reducible assumption); (case a2 => walk_at "st"); (case' a3 => skip))
  | ((with_reducible refine' tabs_set ?a1 ?a2); (case a1 => walk_at "lk"); (case' a2 => skip))
  | fail "tb1")
local macro_rules | `(tactic| walk_at "dg") => `(tactic| first
  | assumption
  | (refine' dp_ext ?a1 ?a2; (case a1 => assumption); (case a2 => walk_at "fr"))
  | (refine' dn_use ?a1 ?a2; (case a1 => assumption); (case a2 => walk_at "fr"))
  | fail "dg")
local macro_rules | `(tactic| walk_at "dp") => `(tactic| first
  | assumption
  | exact .str _
  | exact .int _
  | exact .bl _
  | exact .non
  | (refine' Dp.lst (SqL.of ?a1) ?a2; (case a1 => walk_at "lk"); (case a2 => walk_at "dpa"))
  | (refine' Dp.tup (SqT.of ?a1) ?a2; (case a1 => walk_at "lk"); (case a2 => walk_at "dpa"))
  | (walk_at "dg")
  | fail "dp")
local macro_rules | `(tactic| walk_at "dpa") => `(tactic| first
  | assumption
  | exact .nil
  | (refine' DpAll.cons ?a1 ?a2; (case a1 => walk_at "dp"); (case a2 => walk_at "dpa"))
  | fail "dpa")
local macro_rules | `(tactic| walk_at "dx") => `(tactic| first
  | assumption
  | exact .str _
  | exact .int _
  | exact .bl _
  | exact .non
  | (refine' Dx.lst (SqL.of ?a1) ?a2; (case a1 => walk_at "lk"); (case a2 => walk_at "dxa"))
  | (refine' Dx.tup (SqT.of ?a1) ?a2; (case a1 => walk_at "lk"); (case a2 => walk_at "dxa"))
  | (refine' Dx.dct (.inl ?a1) ?a2; (case a1 => walk_at "lk"); (case a2 => exact .nil))
  | (refine' dx_ext ?a1 ?a2; (case a1 => assumption); (case a2 => walk_at "fr"))
  | fail "dx")
local macro_rules | `(tactic| walk_at "dxa") => `(tactic| first
  | assumption
  | exact .nil
  | (refine' DxAll.cons ?a1 ?a2; (case a1 => walk_at "dx"); (case a2 => walk_at "dxa"))
  | fail "dxa")
local macro_rules | `(tactic| walk_at "ty") => `(tactic| first
  | assumption
  | (refine' ty_ext ?a1 ?a2; (case a1 => assumption); (case a2 => walk_at "fr"))
  | fail "ty")
local macro_rules | `(tactic| walk_at "shp") => `(tactic| first
  | assumption
  | (simp only [SeqAt.shaped, lay_l, lay_t, lay_i, lay_b, lay_n, lay_c, lay_e, PyData.depth, PyData.depthAll, Bool.and_true, Bool.true_and, Bool.and_eq_true, decide_eq_true_eq]
     repeat' (first | assumption | (refine And.intro ?_ ?_) | (exact rfl) | (decide +kernel) | omega))
  | decide +kernel)
local macro_rules | `(tactic| walk_at "side") => `(tactic| first
  | assumption
  | (intros; trivial)
  | omega
  | (walk_at "lk")
  | (walk_at "st")
  | (walk_at "sz")
  | (walk_at "tb")
  | (walk_at "fr"))
local macro_rules | `(tactic| walk_at "cl") => `(tactic| ((repeat' (apply Exists.intro)); refine And.intro rfl ?_; repeat (refine And.intro (by walk_at "side") ?_)))
local macro_rules | `(tactic| walk_at "eqd") => `(tactic| (refine ⟨_, _, by walk_at "dp", by walk_at "dp", by walk_at "shp", by walk_at "shp", ?_⟩; rw [eqv_same (by walk_at "shp")]))
local macro_rules | `(tactic| walk_at "new") => `(tactic| refine fun (p : Addr) (hp : (_ : Hp) p = none) => ?_)
local macro_rules | `(tactic| walk_at "rdn") => `(tactic| (repeat' (first | walk_at "rd" | walk_at "new")))

theorem showOk_str {z : Str} (h : Tx8 200 z) : ShowOk (.str z) := by
  refine ⟨by simp only [name4, PyData.showable, PyData.showableAll, Bool.and_self], ?_, ?_⟩
  · simp only [name4, PyData.depth, PyData.depthAll]
    decide
  · have hl : (name4 (.str z)).leavesShort 8 = true := by
      have a : ((Str.ofString "name").cps.toList.all fun c => decide (c < 16 ^ 8)) = true := by decide +kernel
      have b : (z.cps.toList.all fun c => decide (c < 16 ^ 8)) = true := by
        simp only [List.all_eq_true, decide_eq_true_eq]
        exact fun c hc => Nat.lt_trans (h.2 c hc) (by decide)
      simp only [name4, PyData.leavesShort, PyData.leavesShortAll, a, b, Bool.and_self]
    have e := PyData.shown_le_bulk 8 (by decide) (name4 (.str z)) hl
    have hz := h.1
    have hb : (name4 (.str z)).bulk ≤ 1000 := by
      have a : PyData.bulk (.str "name") = 4 := by decide +kernel
      have b : PyData.bulk (.str z) = z.cps.size := by simp only [PyData.bulk]
      simp only [name4, PyData.bulk, PyData.bulkAll]
      show ((Str.ofString "name").cps.size + 1 + (z.cps.size + 1 + 0) + 1 + ((Str.ofString "name").cps.size + 1 + (z.cps.size + 1 + 0) + 1 + ((Str.ofString "name").cps.size + 1 + (z.cps.size + 1 + 0) + 1 + ((Str.ofString "name").cps.size + 1 + (z.cps.size + 1 + 0) + 1 + 0)))) ≤ 1000
      have c : (Str.ofString "name").cps.size = 4 := by decide +kernel
      omega
    unfold sizeLine
    generalize (name4 (.str z)).shown.length = n at *
    generalize (name4 (.str z)).bulk = m at *
    omega
theorem thing_str {K : PySem.W.Frag} {H : Hp} {z : Str} (h : Tx8 200 z) : Thing K H (.str z) := by
  cases hn : Nam.name (tl z) with
  | true => exact .inl ⟨z, rfl, h, hn⟩
  | false => exact .inr ⟨.inr ⟨z, rfl, h, hn⟩, .str z, .str z, showOk_str h⟩
def oddS : List Str := ["", ":", "a:", ":a", "a:b:c", "a::b", "1a", "-a", "a b", "a:1", "a ", "b&", "p:a\n"]
theorem oddS_ok : ∀ z ∈ oddS, z.cps.size ≤ 200 ∧ ∀ c ∈ z.cps.toList, c < 128 := by decide +kernel

theorem law_2 (T : Tx P w K mg base) {f : Addr} {cdv : Value} {Tb : List (Addr × Str)} (G__law_right : Mx.FnG P w K mg base CX0 9 T.d__law_right.f T.d__law_right.fd ["scope", "thing"] (sp__law_right K T.C_Scope Tb)) (G__law_word : FnOk P w K mg base CX0 1 T.d__law_word.f T.d__law_word.fd ["caught"] (sp__law_word K T.a_BadBinding T.a_Unbound T.a_Repeated T.a_InvalidName))
    {A : Around} {outer : List Env} {s : Shared} {H0 : Hp} {E : XK} (hr : RmG 10 (A.deeper (envOfC "law" (defScope s_law) s.heap.objs.size f cdv))) :
    ∃ t, PSs (cxOf CX0 P w K mg base ["script", "scope", "spot", "state", "turn", "label", "bent", "thing", "some", "odd", "made", "one"] "law" (defScope s_law) f cdv A outer s H0 E) ((defBody s_law).drop 2) t ∧ ∀ (v0 v2 v3 v4 v5 v6 v7 v8 v9 v10 v11 : Option V) (S : Addr) (H : Hp) (Q : VK), ScAt T.C_Scope H S links3 → LamX.Tabs Tb H → (∀ H', Q (.bl true) H') → t { nx := fun _ H' => Q .non H', rt := Q } [v0, some (.ref S), v2, v3, v4, v5, v6, v7, v8, v9, v10, v11] H := by
  have sc := sc_law
  obtain ⟨t5, P5, R5⟩ := law_5 (Tb := Tb) T G__law_word hr (E := E) (outer := outer) (H0 := H0)
  refine ⟨_, (pss_cons (ps_set (i := 8) sc.nd rfl (Or.inl rfl) (pe_lst (pa_cons pe_str (pa_cons pe_str (pa_cons pe_str (pa_cons pe_str (pa_cons pe_str (pa_cons pe_str (pa_cons pe_str (pa_cons pe_str (pa_cons pe_str (pa_cons pe_str (pa_cons pe_str (pa_cons pe_str (pa_cons pe_str (pa_cons pe_non (pa_cons pe_int (pa_cons pe_bl pa_nil))))))))))))))))))
      (pss_cons (ps_set (i := 8) sc.nd rfl (Or.inl rfl) (pe_op op_catR (pv 8) (pe_lst (pa_cons (pe_lst (pa_cons pe_str pa_nil)) (pa_cons pe_dnewK (pa_cons (pe_tup (pa_cons pe_str (pa_cons pe_str pa_nil))) pa_nil))))))
      (pss_cons (ps_for (passes_of rfl) rfl (pi_list (pv 8)) (pg_name (i := 9) sc.nd rfl (Or.inl rfl)) (pss_one (ps_if (pt_not (pt_val (pg_call G__law_right (hr.mono (by decide)) rfl T.d__law_right.m T.d__law_right.F.kp T.d__law_right.b .nil pass0 (pa_cons (pv 1) (pa_cons (pv 9) pa_nil))))) (pss_one (ps_ret pe_bl)) pss_nil)))
      P5))), ?_⟩
  intro v0 v2 v3 v4 v5 v6 v7 v8 v9 v10 v11 S H Q hsc tb q
  have g := Go.refl Tb H
  walk_at "rds"
  intro L hL
  have fL : upd H L (.lst [.str "", .str ":", .str "a:", .str ":a", .str "a:b:c", .str "a::b", .str "1a", .str "-a", .str "a b", .str "a:1", .str "a ", .str "b&", .str "p:a\n", .non, .int 3, .bl true]) L = some (.lst [.str "", .str ":", .str "a:", .str ":a", .str "a:b:c", .str "a::b", .str "1a", .str "-a", .str "a b", .str "a:1", .str "a ", .str "b&", .str "p:a\n", .non, .int 3, .bl true]) := upd_same
  have g := g.new (o := .lst [.str "", .str ":", .str "a:", .str ":a", .str "a:b:c", .str "a::b", .str "1a", .str "-a", .str "a b", .str "a:1", .str "a ", .str "b&", .str "p:a\n", .non, .int 3, .bl true]) hL
  generalize upd H L (.lst [.str "", .str ":", .str "a:", .str ":a", .str "a:b:c", .str "a::b", .str "1a", .str "-a", .str "a b", .str "a:1", .str "a ", .str "b&", .str "p:a\n", .non, .int 3, .bl true]) = H1 at *
  clear hL
  walk_at "rds"
  intro pa hp
  have fpa : upd H1 pa (.lst [.str "a"]) pa = some (.lst [.str "a"]) := upd_same
  have fL := lk_new (o := .lst [.str "a"]) hp fL
  have g := g.new (o := .lst [.str "a"]) hp
  generalize upd H1 pa (.lst [.str "a"]) = H2 at *
  clear hp
  walk_at "rds"
  refine fun (pb : Addr) (hp : (_ : Hp) pb = none) => ?_
  have fpb : upd H2 pb (.dK []) pb = some (.dK []) := upd_same
  have fL := lk_new (o := .dK []) hp fL
  have fpa := lk_new (o := .dK []) hp fpa
  have g := g.new (o := .dK []) hp
  generalize upd H2 pb (.dK []) = H3 at *
  clear hp
  walk_at "rds"
  intro pc hp
  have fpc : upd H3 pc (.tup [.str "a", .str "b"]) pc = some (.tup [.str "a", .str "b"]) := upd_same
  have fL := lk_new (o := .tup [.str "a", .str "b"]) hp fL
  have fpa := lk_new (o := .tup [.str "a", .str "b"]) hp fpa
  have fpb := lk_new (o := .tup [.str "a", .str "b"]) hp fpb
  have g := g.new (o := .tup [.str "a", .str "b"]) hp
  generalize upd H3 pc (.tup [.str "a", .str "b"]) = H4 at *
  clear hp
  walk_at "rds"
  intro L2 hp
  have fL2 : upd H4 L2 (.lst [.ref pa, .ref pb, .ref pc]) L2 = some (.lst [.ref pa, .ref pb, .ref pc]) := upd_same
  have fL := lk_new (o := .lst [.ref pa, .ref pb, .ref pc]) hp fL
  have fpa := lk_new (o := .lst [.ref pa, .ref pb, .ref pc]) hp fpa
  have fpb := lk_new (o := .lst [.ref pa, .ref pb, .ref pc]) hp fpb
  have fpc := lk_new (o := .lst [.ref pa, .ref pb, .ref pc]) hp fpc
  have g := g.new (o := .lst [.ref pa, .ref pb, .ref pc]) hp
  generalize upd H4 L2 (.lst [.ref pa, .ref pb, .ref pc]) = H5 at *
  clear hp
  walk_at "rds"
  refine ⟨L, L2, _, _, rfl, rfl, .of fL, .of fL2, Nat.le_of_ble_eq_true rfl, fun L3 hp => ?_⟩
  have fL3 : upd H5 L3 (.lst [.str "", .str ":", .str "a:", .str ":a", .str "a:b:c", .str "a::b", .str "1a", .str "-a", .str "a b", .str "a:1", .str "a ", .str "b&", .str "p:a\n", .non, .int 3, .bl true, .ref pa, .ref pb, .ref pc]) L3 = some (.lst [.str "", .str ":", .str "a:", .str ":a", .str "a:b:c", .str "a::b", .str "1a", .str "-a", .str "a b", .str "a:1", .str "a ", .str "b&", .str "p:a\n", .non, .int 3, .bl true, .ref pa, .ref pb, .ref pc]) := upd_same
  have fpa := lk_new (o := .lst [.str "", .str ":", .str "a:", .str ":a", .str "a:b:c", .str "a::b", .str "1a", .str "-a", .str "a b", .str "a:1", .str "a ", .str "b&", .str "p:a\n", .non, .int 3, .bl true, .ref pa, .ref pb, .ref pc]) hp fpa
  have fpb := lk_new (o := .lst [.str "", .str ":", .str "a:", .str ":a", .str "a:b:c", .str "a::b", .str "1a", .str "-a", .str "a b", .str "a:1", .str "a ", .str "b&", .str "p:a\n", .non, .int 3, .bl true, .ref pa, .ref pb, .ref pc]) hp fpb
  have fpc := lk_new (o := .lst [.str "", .str ":", .str "a:", .str ":a", .str "a:b:c", .str "a::b", .str "1a", .str "-a", .str "a b", .str "a:1", .str "a ", .str "b&", .str "p:a\n", .non, .int 3, .bl true, .ref pa, .ref pb, .ref pc]) hp fpc
  have g := g.new (o := .lst [.str "", .str ":", .str "a:", .str ":a", .str "a:b:c", .str "a::b", .str "1a", .str "-a", .str "a b", .str "a:1", .str "a ", .str "b&", .str "p:a\n", .non, .int 3, .bl true, .ref pa, .ref pb, .ref pc]) hp
  show gName 8 (V.ref L3) _ (upd H5 L3 (.lst [.str "", .str ":", .str "a:", .str ":a", .str "a:b:c", .str "a::b", .str "1a", .str "-a", .str "a b", .str "a:1", .str "a ", .str "b&", .str "p:a\n", .non, .int 3, .bl true, .ref pa, .ref pb, .ref pc])) _
  generalize upd H5 L3 (.lst [.str "", .str ":", .str "a:", .str ":a", .str "a:b:c", .str "a::b", .str "1a", .str "-a", .str "a b", .str "a:1", .str "a ", .str "b&", .str "p:a\n", .non, .int 3, .bl true, .ref pa, .ref pb, .ref pc]) = H6 at *
  clear hp fL fL2
  have tb6 := g.2 tb
  have sc6 := hsc.go g
  clear tb hsc
  have ff : ∀ y ∈ [V.str "", V.str ":", V.str "a:", V.str ":a", V.str "a:b:c", V.str "a::b", V.str "1a", V.str "-a", V.str "a b", V.str "a:1", V.str "a ", V.str "b&", V.str "p:a\n", V.non, V.int 3, V.bl true, V.ref pa, V.ref pb, V.ref pc], ∀ H', Go Tb H6 H' → Thing K H' y := by
    intro y hy H' g'
    have fpa := lk_go g' (fun _ z => by cases z) fpa
    have fpb := lk_go g' (fun _ z => by cases z) fpb
    have fpc := lk_go g' (fun _ z => by cases z) fpc
    simp only [List.mem_cons, List.not_mem_nil, or_false] at hy
    rcases hy with rfl | rfl | rfl | rfl | rfl | rfl | rfl | rfl | rfl | rfl | rfl | rfl | rfl | rfl | rfl | rfl | rfl | rfl | rfl
    · exact thing_str ⟨by decide +kernel, by decide +kernel⟩
    · exact thing_str ⟨by decide +kernel, by decide +kernel⟩
    · exact thing_str ⟨by decide +kernel, by decide +kernel⟩
    · exact thing_str ⟨by decide +kernel, by decide +kernel⟩
    · exact thing_str ⟨by decide +kernel, by decide +kernel⟩
    · exact thing_str ⟨by decide +kernel, by decide +kernel⟩
    · exact thing_str ⟨by decide +kernel, by decide +kernel⟩
    · exact thing_str ⟨by decide +kernel, by decide +kernel⟩
    · exact thing_str ⟨by decide +kernel, by decide +kernel⟩
    · exact thing_str ⟨by decide +kernel, by decide +kernel⟩
    · exact thing_str ⟨by decide +kernel, by decide +kernel⟩
    · exact thing_str ⟨by decide +kernel, by decide +kernel⟩
    · exact thing_str ⟨by decide +kernel, by decide +kernel⟩
    · exact .inr ⟨.inl ⟨"NoneType", .base .non, by decide +kernel⟩, .none, .non, by decide +kernel, by decide +kernel, by decide +kernel⟩
    · exact .inr ⟨.inl ⟨"int", .base (.int _), by decide +kernel⟩, .int 3, .int _, by decide +kernel, by decide +kernel, by decide +kernel⟩
    · exact .inr ⟨.inl ⟨"bool", .base (.bl _), by decide +kernel⟩, .bool true, .bl _, by decide +kernel, by decide +kernel, by decide +kernel⟩
    · exact .inr ⟨.inl ⟨"list", .base (.lst fpa), by decide +kernel⟩, .list [.str "a"], .lst (SqL.of fpa) (.cons (.str _) .nil), by decide +kernel, by decide +kernel, by decide +kernel⟩
    · exact .inr ⟨.inl ⟨"dict", .base (.dK fpb), by decide +kernel⟩, .dict [], .dct (.inl fpb) .nil, by decide +kernel, by decide +kernel, by decide +kernel⟩
    · exact .inr ⟨.inl ⟨"tuple", .base (.tup fpc), by decide +kernel⟩, .tuple [.str "a", .str "b"], .tup (SqT.of fpc) (.cons (.str _) (.cons (.str _) .nil)), by decide +kernel, by decide +kernel, by decide +kernel⟩
  walk_at "rds"
  refine for_it (walk_list (xs := [V.str "", V.str ":", V.str "a:", V.str ":a", V.str "a:b:c", V.str "a::b", V.str "1a", V.str "-a", V.str "a b", V.str "a:1", V.str "a ", V.str "b&", V.str "p:a\n", V.non, V.int 3, V.bl true, V.ref pa, V.ref pb, V.ref pc])) (fun i σ H' => Go Tb H6 H' ∧ ∃ w9, σ = [v0, some (.ref S), v2, v3, v4, v5, v6, v7, some (.ref L3), w9, v10, v11]) ⟨Go.refl _ _, _, rfl⟩ (fun i σ H' _ h => SqL.of (lk_go h.1 (fun _ z => by cases z) fL3)) ?_ ?_
  · rintro i y σ HA HB hi ⟨gA, w9, rfl⟩ ⟨rfl, hy⟩
    have th := ff y (List.mem_of_getElem? hy) _ gA
    walk_at "rds"
    refine ⟨S, y, rfl, sc6.go gA, th, gA.2 tb6, fun HC gC => ?_⟩
    walk_at "rds"
    exact ⟨gA.trans gC, _, rfl⟩
  · rintro σ HA ⟨gA, w9, rfl⟩
    exact R5 _ _ _ _ _ _ _ _ _ _ _ _ _ Q q

end
end K4

set_option maxHeartbeats 1000000
set_option pp.maxSteps 700
set_option pp.deepTerms false
set_option pp.deepTerms.threshold 14
namespace K4
open PySem PySem.Spec PyProof.Rows L2 Mx
open TL Nam
local macro_rules | `(tactic| walk_at "sz") => `(tactic| first | assumption | decide | omega | (unfold sizeLine; omega) | exact Nat.le_of_ble_eq_true rfl)
local macro_rules | `(tactic| walk_at "hp") => `(tactic| (first | assumption | exact upd_same | (rw [upd_ne (by assumption)]; assumption)))
local macro_rules | `(tactic| walk_at "rd") => `(tactic| (first
  | refine ⟨_, rfl, ?_⟩
  | (refine ⟨_, _, rfl, rfl, ?rdc, ?_⟩; (case rdc => first | (show (0 : Int) < _; omega) | (exact ⟨by omega, by omega⟩) | (exact .inl ⟨by omega, by omega⟩) | (exact .inr ⟨by omega, by omega⟩) | exact ⟨by decide, by decide, by decide⟩))
  | refine ⟨_, _, rfl, rfl, ?_⟩
  | refine .inl ⟨_, rfl, ?_⟩
  | refine ⟨rfl, ?_⟩
  | refine ⟨⟨_, rfl⟩, ?_⟩
  | refine ⟨⟨_, SqL.of (by walk_at "hp")⟩, ?_⟩
  | refine ⟨_, _, _, _, rfl, rfl, SqL.of (by walk_at "hp"), (by rfl), ?_⟩
  | refine ⟨_, _, _, _, rfl, rfl, (by walk_at "hp"), (by rfl), ?_⟩
  | refine ⟨_, _, rfl, ⟨by walk_at "sz", rfl⟩, ?_⟩
  | refine ⟨_, _, _, rfl, rfl, by walk_at "sz", by assumption, ?_⟩
  | refine And.intro (by walk_at "sz") ?_
  | refine itT rfl ?_
  | refine itF rfl ?_
  | refine itT (by assumption) ?_
  | refine itF (by assumption) ?_
  | refine itT (decide_eq_true (by omega)) ?_
  | refine itF (decide_eq_false (by omega)) ?_
  | refine itT (dVi (by omega)) ?_
  | refine itF (dViN (by omega)) ?_
  | refine itT (notT (by assumption)) ?_
  | refine itF (notF (by assumption)) ?_
  | refine itT (notT (dViN (by omega))) ?_
  | refine itF (notF (dVi (by omega))) ?_
  | refine itT (decide_eq_true rfl) ?_
  | refine itF (notF (decide_eq_true rfl)) ?_
  | refine ite2 (fun _ => ?_) (fun _ => ?_)
  | with_reducible refine tC_ ?_
  | with_reducible refine tNext_ ?_
  | with_reducible refine tNil_ ?_
  | with_reducible refine tYes_ ?_))
local macro_rules | `(tactic| walk_at "rds") => `(tactic| repeat' (walk_at "rd"))
section
variable {P : Program} {w : World} {K : PySem.W.Frag} {mg : Str → Option Value} {base : Heap}

local macro_rules | `(tactic| walk_at "lk") => `(tactic| first
  | with_reducible assumption
  | with_reducible exact upd_same
  | (walk_at "lk1"; walk_at "lk")
  | fail "lk")
local macro_rules | `(tactic| walk_at "lk1") => `(tactic| first
  | ((with_reducible refine' lk_new ?a1 ?a2); (case a1 => with_reducible assumption); (case' a2 => skip))
  | ((with_reducible refine' lk_ne ?a1 ?a2); (case a1 => with_reducible assumption); (case' a2 => skip))
  | ((with_reducible refine' lk_neN ?a1 ?a2 ?a3); (case a1 => with_reducible assumption); (case a2 => walk_at "lk"); (case' a3 => skip))
  | ((with_reducible refine' lk_neN' ?a1 ?a2 ?a3); (case a1 => with_reducible assumption); (case a2 => walk_at "lk"); (case' a3 => skip))
  | ((with_reducible refine' lk_same ?a1 ?a2); (case a1 => with_reducible assumption); (case' a2 => skip))
  | ((with_reducible refine' lk_go ?a1 ?a2 ?a3); (case a1 => with_reducible assumption); (case a2 => walk_at "nt"); (case' a3 => skip))
  | ((with_reducible refine' lk_kd ?a1 ?a2 ?a3 ?a4); (case a1 => with_reducible assumption); (case a2 => walk_at "st"); (case a3 => walk_at "nl"); (case' a4 => skip))
  | ((with_reducible refine' lk_kp ?a1 ?a2 ?a3); (case a1 => with_reducible assumption); (case a2 => walk_at "ne"); (case' a3 => skip))
  | fail "lk1")
local macro_rules | `(tactic| walk_at "nt") => `(tactic| first
  | (intro _ z; cases z)
  | fail "nt")
local macro_rules | `(tactic| walk_at "nl") => `(tactic| first
  | (intro _ z; cases z)
  | fail "nl")
local macro_rules | `(tactic| walk_at "ne") => `(tactic| first
  | with_reducible assumption
  | ((with_reducible refine' ne_sd ?a1 ?a2); (case a1 => with_reducible assumption); (case a2 => walk_at "st"))
  | fail "ne")
local macro_rules | `(tactic| walk_at "st") => `(tactic| first
  | with_reducible assumption
  | with_reducible exact sd_new (by with_reducible assumption) (by walk_at "st")
  | with_reducible exact sd_same (by with_reducible assumption) (by walk_at "st")
  | with_reducible exact sd_go (by with_reducible assumption) (by walk_at "st")
  | with_reducible exact sd_ne (by walk_at "ns") (by walk_at "st")
  | fail "st")
local macro_rules | `(tactic| walk_at "ns") => `(tactic| first
  | with_reducible assumption
  | with_reducible exact Ne.symm (by with_reducible assumption)
  | with_reducible exact Ne.symm (ne_sd (by with_reducible assumption) (by walk_at "st"))
  | fail "ns")
local macro_rules | `(tactic| walk_at "fr") => `(tactic| first
  | with_reducible assumption
  | with_reducible exact Same.refl _
  | with_reducible exact Go.refl _ _
  | with_reducible exact Kp.refl _ _
  | with_reducible exact LamX.ExtN.refl _
  | with_reducible exact nw_refl
  | (walk_at "fr1"; walk_at "fr")
  | fail "fr")
local macro_rules | `(tactic| walk_at "fr1") => `(tactic| first
  | ((with_reducible refine' fr_new ?a1 ?a2); (case a1 => with_reducible assumption); (case' a2 => skip))
  | ((with_reducible refine' go_new ?a1 ?a2); (case a1 => with_reducible assumption); (case' a2 => skip))
  | ((with_reducible refine' kp_new ?a1 ?a2); (case a1 => with_reducible assumption); (case' a2 => skip))
  | ((with_reducible refine' fr_same ?a1 ?a2); (case a1 => with_reducible assumption); (case' a2 => skip))
  | ((with_reducible refine' go_same ?a1 ?a2); (case a1 => with_reducible assumption); (case' a2 => skip))
  | ((with_reducible refine' kp_same ?a1 ?a2); (case a1 => with_reducible assumption); (case' a2 => skip))
  | ((with_reducible refine' go_go ?a1 ?a2); (case a1 => with_reducible assumption); (case' a2 => skip))
  | ((with_reducible refine' go_kd ?a1 ?a2 ?a3 ?a4); (case a1 => with_reducible assumption); (case a2 => with_reducible assumption); (case a3 => walk_at "st"); (case' a4 => skip))
  | ((with_reducible refine' kp_kp ?a1 ?a2); (case a1 => with_reducible assumption); (case' a2 => skip))
  | ((with_reducible refine' kp_upd ?a1); (case' a1 => skip))
  | ((with_reducible refine' go_set2 ?a1 ?a2 ?a3 ?a4); (case a1 => walk_at "lk"); (case a2 => with_reducible assumption); (case a3 => walk_at "fr"); (case' a4 => skip))
  | ((with_reducible refine' fr_set2 ?a1 ?a2 ?a3); (case a1 => with_reducible assumption); (case a2 => walk_at "fr"); (case' a3 => skip))
  | ((with_reducible refine' en_new ?a1 ?a2); (case a1 => with_reducible assumption); (case' a2 => skip))
  | ((with_reducible refine' en_same ?a1 ?a2); (case a1 => with_reducible assumption); (case' a2 => skip))
  | ((with_reducible refine' en_go ?a1 ?a2); (case a1 => with_reducible assumption); (case' a2 => skip))
  | ((with_reducible refine' en_set2 ?a1 ?a2 ?a3); (case a1 => with_reducible assumption); (case a2 => walk_at "fr"); (case' a3 => skip))
  | ((with_reducible refine' en_kp ?a1 ?a2 ?a3 ?a4); (case a1 => with_reducible assumption); (case a2 => with_reducible assumption); (case a3 => walk_at "fr"); (case' a4 => skip))
  | ((with_reducible refine' nw_new ?a1 ?a2); (case a1 => with_reducible assumption); (case' a2 => skip))
  | ((with_reducible refine' nw_same ?a1 ?a2); (case a1 => with_reducible assumption); (case' a2 => skip))
  | ((with_reducible refine' nw_go ?a1 ?a2); (case a1 => with_reducible assumption); (case' a2 => skip))
  | ((with_reducible refine' nw_kd ?a1 ?a2 ?a3); (case a1 => with_reducible assumption); (case a2 => walk_at "st"); (case' a3 => skip))
  | ((with_reducible refine' nw_set ?a1 ?a2); (case a1 => walk_at "lk"); (case' a2 => skip))
  | ((with_reducible refine' nw_set2 ?a1 ?a2 ?a3); (case a1 => with_reducible assumption); (case a2 => walk_at "fr"); (case' a3 => skip))
  | fail "fr1")
local macro_rules | `(tactic| walk_at "tb") => `(tactic| first
  | with_reducible assumption
  | (walk_at "tb1"; walk_at "tb")
  | fail "tb")
local macro_rules | `(tactic| walk_at "tb1") => `(tactic| first
  | ((with_reducible refine' tabs_new ?a1 ?a2); (case a1 => with_reducible assumption); (case' a2 => skip))
  | ((with_reducible refine' tabs_same ?a1 ?a2); (case a1 => with_reducible assumption); (case' a2 => skip))
  | ((with_reducible refine' tabs_go ?a1 ?a2); (case a1 => with_reducible assumption); (case' a2 => skip))
  | ((with_reducible refine' tabs_kd ?a1 ?a2 ?a3); (case a1 => with_reducible assumption); (case a2 => walk_at "st"); (case' a3 => skip))
  | ((with_reducible refine' tabs_set ?a1 ?a2); (case a1 => walk_at "lk"); (case' a2 => skip))
  | fail "tb1")
local macro_rules | `(tactic| walk_at "dg") => `(tactic| first
  | assumption
  | (refine' dp_ext ?a1 ?a2; (case a1 => assumption); (case a2 => walk_at "fr"))
  | (refine' dn_use ?a1 ?a2; (case a1 => assumption); (case a2 => walk_at "fr"))
  | fail "dg")
local macro_rules | `(tactic| walk_at "dp") => `(tactic| first
  | assumption
  | exact .str _
  | exact .int _
  | exact .bl _
  | exact .non
  | (refine' Dp.lst (SqL.of ?a1) ?a2; (case a1 => walk_at "lk"); (case a2 => walk_at "dpa"))
  | (refine' Dp.tup (SqT.of ?a1) ?a2; (case a1 => walk_at "lk"); (case a2 => walk_at "dpa"))
  | (walk_at "dg")
  | fail "dp")
local macro_rules | `(tactic| walk_at "dpa") => `(tactic| first
  | assumption
  | exact .nil
  | (refine' DpAll.cons ?a1 ?a2; (case a1 => walk_at "dp"); (case a2 => walk_at "dpa"))
  | fail "dpa")
local macro_rules | `(tactic| walk_at "dx") => `(tactic| first
  | assumption
  | exact .str _
  | exact .int _
  | exact .bl _
  | exact .non
  | (refine' Dx.lst (SqL.of ?a1) ?a2; (case a1 => walk_at "lk"); (case a2 => walk_at "dxa"))
  | (refine' Dx.tup (SqT.of ?a1) ?a2; (case a1 => walk_at "lk"); (case a2 => walk_at "dxa"))
  | (refine' Dx.dct (.inl ?a1) ?a2; (case a1 => walk_at "lk"); (case a2 => exact .nil))
  | (refine' dx_ext ?a1 ?a2; (case a1 => assumption); (case a2 => walk_at "fr"))
  | fail "dx")
local macro_rules | `(tactic| walk_at "dxa") => `(tactic| first
  | assumption
  | exact .nil
  | (refine' DxAll.cons ?a1 ?a2; (case a1 => walk_at "dx"); (case a2 => walk_at "dxa"))
  | fail "dxa")
local macro_rules | `(tactic| walk_at "ty") => `(tactic| first
  | assumption
  | (refine' ty_ext ?a1 ?a2; (case a1 => assumption); (case a2 => walk_at "fr"))
  | fail "ty")
local macro_rules | `(tactic| walk_at "shp") => `(tactic| first
  | assumption
  | (simp only [SeqAt.shaped, lay_l, lay_t, lay_i, lay_b, lay_n, lay_c, lay_e, PyData.depth, PyData.depthAll, Bool.and_true, Bool.true_and, Bool.and_eq_true, decide_eq_true_eq]
     repeat' (first | assumption | (refine And.intro ?_ ?_) | (exact rfl) | (decide +kernel) | omega))
  | decide +kernel)
local macro_rules | `(tactic| walk_at "side") => `(tactic| first
  | assumption
  | (intros; trivial)
  | omega
  | (walk_at "lk")
  | (walk_at "st")
  | (walk_at "sz")
  | (walk_at "tb")
  | (walk_at "fr"))
local macro_rules | `(tactic| walk_at "cl") => `(tactic| ((repeat' (apply Exists.intro)); refine And.intro rfl ?_; repeat (refine And.intro (by walk_at "side") ?_)))
local macro_rules | `(tactic| walk_at "eqd") => `(tactic| (refine ⟨_, _, by walk_at "dp", by walk_at "dp", by walk_at "shp", by walk_at "shp", ?_⟩; rw [eqv_same (by walk_at "shp")]))
local macro_rules | `(tactic| walk_at "new") => `(tactic| refine fun (p : Addr) (hp : (_ : Hp) p = none) => ?_)
local macro_rules | `(tactic| walk_at "rdn") => `(tactic| (repeat' (first | walk_at "rd" | walk_at "new")))

theorem tCutIf2 {c : TT} {x y u : TS} {D : Ends} {σ : L2.St} {H : Hp} (R : L2.St → Hp → Prop) (key : ∀ σ' H', R σ' H' → u D σ' H') (go : ∀ N : L2.St → Hp → Prop, (∀ σ' H', R σ' H' → N σ' H') → tIfS c x y { D with nx := N } σ H) : tSeq (tIfS c x y) u D σ H := go _ key
theorem tx_mono {m n : Nat} {z : Str} (h : Tx8 m z) (l : m ≤ n) : Tx8 n z := ⟨Nat.le_trans h.1 l, h.2⟩
theorem tx_app {m n : Nat} {x y : Str} (h : Tx8 m x) (k : Tx8 n y) : Tx8 (m + n) (x ++ y) := by
  have hx := h.len
  have hy := k.len
  refine tx_of (by rw [tl_append, List.length_append]; omega) fun c hc => ?_
  rw [tl_append] at hc
  rcases List.mem_append.mp hc with hc | hc
  · exact h.2 c hc
  · exact k.2 c hc

theorem ok_law (T : Tx P w K mg base) {f : Addr} {fd : FuncData} {Tb : List (Addr × Str)} (F : Fun K "law" "law" s_law f fd) (G_Scope___init__ : FnR P w K mg base (L2.CX P w) 5 T.f_Scope___init__ (fun vs H Q E => ∃ ws rest, vs = ws ++ rest ∧ ws.length = (["self"] : List Str).length ∧ rest.length ≤ sizeLine ∧ ∀ p, H p = none → sp_Scope___init__ T.C_Scope (ws ++ [V.ref p]) (upd H p (.tup rest)) Q E)) (G__law_begin : FnOk P w K mg base CX0 1 T.d__law_begin.f T.d__law_begin.fd ["script", "spot"] (sp__law_begin K)) (G__law_part : FnOk P w K mg base CX0 3 T.d__law_part.f T.d__law_part.fd ["state"] sp__law_part) (G__law_draw : FnOk P w K mg base CX0 1 T.d__law_draw.f T.d__law_draw.fd ["state", "size"] sp__law_draw) (G__law_pick : FnOk P w K mg base CX0 2 T.d__law_pick.f T.d__law_pick.fd ["state", "items"] sp__law_pick) (G__law_bent : FnOk P w K mg base CX0 3 T.d__law_bent.f T.d__law_bent.fd ["state", "label"] sp__law_bent) (G__law_right : Mx.FnG P w K mg base CX0 9 T.d__law_right.f T.d__law_right.fd ["scope", "thing"] (sp__law_right K T.C_Scope Tb)) (G__law_word : FnOk P w K mg base CX0 1 T.d__law_word.f T.d__law_word.fd ["caught"] (sp__law_word K T.a_BadBinding T.a_Unbound T.a_Repeated T.a_InvalidName)) : FnG P w K mg base CX0 11 f fd ["script"] (sp_law K Tb) := by
  have sc := sc_law
  refine Mx.okG F sc (fun vs H Q E h => ?_) (fun cdv A outer s H vs Q E hr h => ?_)
  · obtain ⟨a, ns, rfl, hs, hn, tb, q⟩ := h
    rfl
  · obtain ⟨a, ns, rfl, hs, hn, tb, q⟩ := h
    obtain ⟨t2, P2, R2⟩ := law_2 (Tb := Tb) T G__law_right G__law_word hr (E := E) (outer := outer) (H0 := H)
    refine ⟨_, (pss_cons (ps_set (i := 1) sc.nd rfl (Or.inl rfl) (StX.pe_makeR T.mk_Scope G_Scope___init__ (hr.r.mono (by decide)) rfl T.mg_Scope passL (pa_cons (pe_tup (pa_cons pe_str (pa_cons pe_str pa_nil))) (pa_cons (pe_tup (pa_cons pe_str (pa_cons pe_str pa_nil))) pa_nil))))
      (pss_cons (ps_for (passes_of rfl) rfl (pi_range1 rfl T.n_range (pa_cons (pe_op op_add pe_int (pe_callB (call_min2 rfl) (by rfl) T.n_min (by decide +kernel) (pa_cons pe_int (pa_cons (pe_callB call_len (by rfl) T.n_len PySem.boot_len (pa_cons (pv 0) pa_nil)) pa_nil)))) pa_nil)) (pg_name (i := 2) sc.nd rfl (Or.inl rfl)) (pss_cons (ps_set (i := 3) sc.nd rfl (Or.inl rfl) (pe_call G__law_begin (hr.r.mono (by decide)) rfl T.d__law_begin.m T.d__law_begin.F.kp T.d__law_begin.b .nil pass0 (pa_cons (pv 0) (pa_cons (pv 2) pa_nil))))
      (pss_one (ps_for (passes_of rfl) rfl (pi_range1 rfl T.n_range (pa_cons pe_int pa_nil)) (pg_name (i := 4) sc.nd rfl (Or.inl rfl)) (pss_cons (ps_set (i := 5) sc.nd rfl (Or.inl rfl) (pe_call G__law_part (hr.r.mono (by decide)) rfl T.d__law_part.m T.d__law_part.F.kp T.d__law_part.b .nil pass0 (pa_cons (pv 3) pa_nil)))
      (pss_cons (ps_if (pt_cmpR op_eq (pe_call G__law_draw (hr.r.mono (by decide)) rfl T.d__law_draw.m T.d__law_draw.F.kp T.d__law_draw.b .nil pass0 (pa_cons (pv 3) (pa_cons pe_int pa_nil))) pe_int (nomark _)) (pss_one (ps_set (i := 5) sc.nd rfl (Or.inl rfl) (pe_op op_add_str (pe_op op_add_str (pe_call G__law_pick (hr.r.mono (by decide)) rfl T.d__law_pick.m T.d__law_pick.F.kp T.d__law_pick.b .nil pass0 (pa_cons (pv 3) (pa_cons (pe_lst (pa_cons pe_str (pa_cons pe_str (pa_cons pe_str (pa_cons pe_str (pa_cons (pe_call G__law_part (hr.r.mono (by decide)) rfl T.d__law_part.m T.d__law_part.F.kp T.d__law_part.b .nil pass0 (pa_cons (pv 3) pa_nil)) pa_nil)))))) pa_nil))) pe_str) (pv 5)))) pss_nil)
      (pss_cons (ps_set (i := 6) sc.nd rfl (Or.inl rfl) (pe_call G__law_bent (hr.r.mono (by decide)) rfl T.d__law_bent.m T.d__law_bent.F.kp T.d__law_bent.b .nil pass0 (pa_cons (pv 3) (pa_cons (pv 5) pa_nil))))
      (pss_one (ps_for (passes_of rfl) rfl (pi_tup (pe_tup (pa_cons (pv 5) (pa_cons (pv 6) (pa_cons (pe_call G__law_bent (hr.r.mono (by decide)) rfl T.d__law_bent.m T.d__law_bent.F.kp T.d__law_bent.b .nil pass0 (pa_cons (pv 3) (pa_cons (pv 6) pa_nil))) pa_nil))))) (pg_name (i := 7) sc.nd rfl (Or.inl rfl)) (pss_one (ps_if (pt_not (pt_val (pg_call G__law_right (hr.mono (by decide)) rfl T.d__law_right.m T.d__law_right.F.kp T.d__law_right.b .nil pass0 (pa_cons (pv 1) (pa_cons (pv 7) pa_nil))))) (pss_one (ps_ret pe_bl)) pss_nil)))))))))))
      P2)), ?_⟩
    walk_at "rds"
    have g := Go.refl Tb H
    intro p1 hp
    have fp1 : upd H p1 (.tup [.str "", .str "u"]) p1 = some (.tup [.str "", .str "u"]) := upd_same
    have g := g.new (o := .tup [.str "", .str "u"]) hp
    generalize upd H p1 (.tup [.str "", .str "u"]) = H1 at *
    clear hp
    walk_at "rds"
    intro p2 hp
    have fp2 : upd H1 p2 (.tup [.str "p", .str "v"]) p2 = some (.tup [.str "p", .str "v"]) := upd_same
    have fp1 := lk_new (o := .tup [.str "p", .str "v"]) hp fp1
    have g := g.new (o := .tup [.str "p", .str "v"]) hp
    generalize upd H1 p2 (.tup [.str "p", .str "v"]) = H2 at *
    clear hp
    walk_at "rds"
    intro x dx hx hdx hne
    have sm1 : Same H2 (upd H2 dx (.own x)) := Same.new (Same.refl _) hdx
    have hx2 : upd H2 dx (.own x) x = none := by rw [upd_ne hne.symm]; exact hx
    have sm2 : Same H2 (upd (upd H2 dx (.own x)) x (.ins T.C_Scope dx [])) := Same.new sm1 hx2
    have fx : upd (upd H2 dx (.own x)) x (.ins T.C_Scope dx []) x = some (.ins T.C_Scope dx []) := upd_same
    generalize upd (upd H2 dx (.own x)) x (.ins T.C_Scope dx []) = H3 at *
    refine ⟨[.ref x], [.ref p1, .ref p2], rfl, rfl, Nat.le_of_ble_eq_true rfl, fun pq hpq => ?_⟩
    have sm3 : Same H2 (upd H3 pq (.tup [.ref p1, .ref p2])) := Same.new sm2 hpq
    have fx := lk_new (o := .tup [.ref p1, .ref p2]) hpq fx
    have fq : upd H3 pq (.tup [.ref p1, .ref p2]) pq = some (.tup [.ref p1, .ref p2]) := upd_same
    generalize upd H3 pq (.tup [.ref p1, .ref p2]) = H4 at *
    refine ⟨x, dx, pq, [p1, p2], [("", "u"), ("p", "v")], rfl, fx, fq, .cons (sm3 _ _ fp1) (.cons (sm3 _ _ fp2) .nil), Nat.le_of_ble_eq_true rfl, ?_, fun H5 kp hsc => ⟨rfl, ?_⟩⟩
    · intro kv hkv
      simp only [List.mem_cons, List.not_mem_nil, or_false] at hkv
      rcases hkv with rfl | rfl
      · exact ⟨⟨by decide +kernel, by decide +kernel⟩, by decide +kernel, by decide +kernel, by decide +kernel, by decide +kernel⟩
      · exact ⟨⟨by decide +kernel, by decide +kernel⟩, by decide +kernel, by decide +kernel, by decide +kernel, by decide +kernel⟩
    have hsc : ScAt T.C_Scope H5 x links3 := (show toK (joinK [("xml", XMLN)] [("", "u"), ("p", "v")]) = links3 from rfl) ▸ hsc
    have s25 : Same H2 H5 := fun b o e => kp b o (fun z => by rw [z, hx] at e; cases e) (sm3 _ _ e)
    have g := g.trans (Go.same (Tb := Tb) s25)
    have tb := g.2 tb
    have hs := lsx_ext hs g.1
    clear g s25 kp sm3 fx fq hpq sm2 hx2 sm1 hx hdx hne fp1 fp2
    walk_at "rds"
    refine ⟨_, _, rfl, .inl ⟨_, hs.sq, rfl⟩, ?_⟩
    rw [List.length_map]
    walk_at "rds"
    refine ⟨_, _, rfl, ?_⟩
    obtain ⟨k, ek, hk⟩ : ∃ k : Nat, (if ((ns.length : Nat) : Int) < 5 then ((ns.length : Nat) : Int) else 5) = (k : Int) ∧ k ≤ 5 := by
      by_cases h : ((ns.length : Nat) : Int) < 5
      · exact ⟨ns.length, by rw [if_pos h], by omega⟩
      · exact ⟨5, by rw [if_neg h]; rfl, by omega⟩
    rw [ek]
    walk_at "rds"
    refine for_range (fun i σ H' => Go Tb H5 H' ∧ ∃ v2 v3 v4 v5 v6 v7, σ = [some (.ref a), some (.ref x), v2, v3, v4, v5, v6, v7, none, none, none, none]) ⟨Go.refl _ _, _, _, _, _, _, _, rfl⟩ ?_ ?_
    · rintro i σ H6 hi ⟨g6, v2, v3, v4, v5, v6, v7, rfl⟩
      have hi7 : i < (1 + (k : Int)).toNat := hi
      walk_at "rds"
      refine ⟨a, ns, _, rfl, lsx_ext hs g6.1, hn, by omega, by omega, fun st H7 hst s7 sd => ?_⟩
      walk_at "rds"
      have tb6 := g6.2 tb
      have sc6 := hsc.go g6
      refine for_range (fun j σ H' => Go Tb H6 H' ∧ StD st (100 * (j : Int)) H' ∧ ∃ v4 v5 v6 v7, σ = [some (.ref a), some (.ref x), some (.int (0 + (i : Int))), some (.ref st), v4, v5, v6, v7, none, none, none, none]) ⟨Go.same s7, sd.mono (by decide), _, _, _, _, rfl⟩ ?_ ?_
      · rintro j σ H8 hj ⟨g8, sd8, v4, v5, v6, v7, rfl⟩
        have hj6 : j < 6 := hj
        walk_at "rds"
        refine ⟨st, _, rfl, sd8, by omega, fun z H9 hz kp9 sd9 => ?_⟩
        have g9 : Go Tb H6 H9 := go_kd kp9 hst sd8 g8
        clear kp9 sd8 g8 sd s7
        dsimp only [gName]
        refine tCutIf2 (R := fun σ' H' => ∃ y, Tx8 20 y ∧ Go Tb H6 H' ∧ StD st (100 * (j : Int) + 22) H' ∧ σ' = [some (.ref a), some (.ref x), some (.int (0 + (i : Int))), some (.ref st), some (.int (0 + (j : Int))), some (.str y), v6, v7, none, none, none, none]) ?_ (fun N key => ?_)
        · clear sd9 g9 hz z
          rintro σ' HA ⟨y, hy, gA, sdA, rfl⟩
          walk_at "rds"
          refine ⟨st, _, y, rfl, sdA, by omega, tx_mono hy (by decide), fun w1 HB hw1 kpB sdB => ?_⟩
          have gB : Go Tb H6 HB := go_kd kpB hst sdA gA
          clear kpB sdA gA
          have hw1 : Tx8 21 w1 := tx_mono hw1 (Nat.add_le_add_right hy.1 1)
          walk_at "rds"
          refine ⟨st, _, w1, rfl, sdB, by omega, tx_mono hw1 (by decide), fun w2 HC hw2 kpC sdC => ?_⟩
          have gC : Go Tb H6 HC := go_kd kpC hst sdB gB
          clear kpC sdB gB
          have hw2 : Tx8 22 w2 := tx_mono hw2 (Nat.add_le_add_right hw1.1 1)
          walk_at "rds"
          intro pt hpt
          have fpt : upd HC pt (.tup [.str y, .str w1, .str w2]) pt = some (.tup [.str y, .str w1, .str w2]) := upd_same
          have sdC := sd_new (o := .tup [.str y, .str w1, .str w2]) hpt sdC
          have gC := gC.new (o := .tup [.str y, .str w1, .str w2]) hpt
          generalize upd HC pt (.tup [.str y, .str w1, .str w2]) = HD at *
          clear hpt
          walk_at "rds"
          refine ⟨⟨_, SqT.of fpt⟩, ?_⟩
          have tbD := gC.2 tb6
          have scD := sc6.go gC
          have ff : ∀ q ∈ [V.str y, V.str w1, V.str w2], ∀ H', Thing K H' q := by
            intro q hq H'
            simp only [List.mem_cons, List.not_mem_nil, or_false] at hq
            rcases hq with rfl | rfl | rfl
            · exact thing_str (tx_mono hy (by decide))
            · exact thing_str (tx_mono hw1 (by decide))
            · exact thing_str (tx_mono hw2 (by decide))
          refine for_it (walk_tup (xs := [V.str y, V.str w1, V.str w2])) (fun n σ H' => Go Tb HD H' ∧ ∃ v7, σ = [some (.ref a), some (.ref x), some (.int (0 + (i : Int))), some (.ref st), some (.int (0 + (j : Int))), some (.str y), some (.str w1), v7, none, none, none, none]) ⟨Go.refl _ _, _, rfl⟩ (fun n σ H' _ h => SqT.of (lk_go h.1 (fun _ z => by cases z) fpt)) ?_ ?_
          · rintro n q σ HE HF hn ⟨gE, v7', rfl⟩ ⟨rfl, hq⟩
            have th := ff q (List.mem_of_getElem? hq) HF
            walk_at "rds"
            refine ⟨x, q, rfl, scD.go gE, th, gE.2 tbD, fun HG gG => ?_⟩
            walk_at "rds"
            exact ⟨gE.trans gG, _, rfl⟩
          · rintro σ HE ⟨gE, v7', rfl⟩
            exact ⟨gC.trans gE, (sd_go gE sdC).mono (by omega), _, _, _, _, rfl⟩
        · walk_at "rds"
          refine ⟨st, _, 2, rfl, sd9, by omega, by decide, by decide, fun r HA r0 r1 kpA sdA => ?_⟩
          have gA : Go Tb H6 HA := go_kd kpA hst sd9 g9
          clear kpA sd9 g9
          walk_at "rds"
          · refine ⟨st, _, rfl, sdA, by omega, fun z2 HB hz2 kpB sdB => ?_⟩
            have gB : Go Tb H6 HB := go_kd kpB hst sdA gA
            clear kpB sdA gA
            walk_at "rds"
            intro lp hlp
            have fl : upd HB lp (.lst [.str "p", .str "xml", .str "q", .str "xmlns", .str z2]) lp = some (.lst [.str "p", .str "xml", .str "q", .str "xmlns", .str z2]) := upd_same
            have sdB := sd_new (o := .lst [.str "p", .str "xml", .str "q", .str "xmlns", .str z2]) hlp sdB
            have gB := gB.new (o := .lst [.str "p", .str "xml", .str "q", .str "xmlns", .str z2]) hlp
            generalize upd HB lp (.lst [.str "p", .str "xml", .str "q", .str "xmlns", .str z2]) = HC at *
            clear hlp
            walk_at "rds"
            refine ⟨st, _, lp, _, rfl, sdB, by omega, fl, Nat.succ_pos _, Nat.le_of_ble_eq_true rfl, fun n y HD hy kpD sdD => ?_⟩
            have gD : Go Tb H6 HD := go_kd kpD hst sdB gB
            clear kpD sdB gB fl
            obtain ⟨w, rfl, hw⟩ : ∃ w : Str, y = .str w ∧ Tx8 6 w := by
              have hm := List.mem_of_getElem? hy
              simp only [List.mem_cons, List.not_mem_nil, or_false] at hm
              rcases hm with rfl | rfl | rfl | rfl | rfl
              · exact ⟨_, rfl, by decide +kernel, by decide +kernel⟩
              · exact ⟨_, rfl, by decide +kernel, by decide +kernel⟩
              · exact ⟨_, rfl, by decide +kernel, by decide +kernel⟩
              · exact ⟨_, rfl, by decide +kernel, by decide +kernel⟩
              · exact ⟨_, rfl, tx_mono hz2 (by decide)⟩
            clear hy
            have h1 := tx_app hw (show Tx8 1 ":" from ⟨by decide +kernel, by decide +kernel⟩)
            have h2 := tx_app h1 hz
            have l1 : w.length + (":" : Str).length ≤ sizeLine := Nat.le_trans (Nat.add_le_add hw.1 (show (":" : Str).length ≤ 1 by decide +kernel)) (by decide)
            have l2 : (w ++ ":" : Str).length + z.length ≤ sizeLine := Nat.le_trans (Nat.add_le_add h1.1 hz.1) (by decide)
            walk_at "rds"
            exact key _ _ ⟨_, tx_mono h2 (by decide), gD, sdD.mono (by omega), rfl⟩
          · exact key _ _ ⟨_, tx_mono hz (by decide), gA, sdA.mono (by omega), rfl⟩
      · rintro σ H8 ⟨g8, sd8, v4, v5, v6, v7, rfl⟩
        walk_at "rds"
        exact ⟨g6.trans g8, _, _, _, _, _, _, rfl⟩
    · rintro σ H6 ⟨g6, v2, v3, v4, v5, v6, v7, rfl⟩
      exact R2 _ _ _ _ _ _ _ _ _ _ _ x H6 Q (hsc.go g6) (g6.2 tb) q

end
end K4

set_option maxHeartbeats 1000000
set_option pp.maxSteps 700
set_option pp.deepTerms false
set_option pp.deepTerms.threshold 14
namespace K4
open PySem PySem.Spec PyProof.Rows L2 Mx
local macro_rules | `(tactic| walk_at "sz") => `(tactic| first | assumption | decide | omega | (unfold sizeLine; omega) | exact Nat.le_of_ble_eq_true rfl)
local macro_rules | `(tactic| walk_at "hp") => `(tactic| (first | assumption | exact upd_same | (rw [upd_ne (by assumption)]; assumption)))
local macro_rules | `(tactic| walk_at "rd") => `(tactic| (first
  | refine ⟨_, rfl, ?_⟩
  | (refine ⟨_, _, rfl, rfl, ?rdc, ?_⟩; (case rdc => first | (show (0 : Int) < _; omega) | (exact ⟨by omega, by omega⟩) | (exact .inl ⟨by omega, by omega⟩) | (exact .inr ⟨by omega, by omega⟩) | exact ⟨by decide, by decide, by decide⟩))
  | refine ⟨_, _, rfl, rfl, ?_⟩
  | refine .inl ⟨_, rfl, ?_⟩
  | refine ⟨rfl, ?_⟩
  | refine ⟨⟨_, rfl⟩, ?_⟩
  | refine ⟨⟨_, SqL.of (by walk_at "hp")⟩, ?_⟩
  | refine ⟨_, _, _, _, rfl, rfl, SqL.of (by walk_at "hp"), (by rfl), ?_⟩
  | refine ⟨_, _, _, _, rfl, rfl, (by walk_at "hp"), (by rfl), ?_⟩
  | refine ⟨_, _, rfl, ⟨by walk_at "sz", rfl⟩, ?_⟩
  | refine ⟨_, _, _, rfl, rfl, by walk_at "sz", by assumption, ?_⟩
  | refine And.intro (by walk_at "sz") ?_
  | refine itT rfl ?_
  | refine itF rfl ?_
  | refine itT (by assumption) ?_
  | refine itF (by assumption) ?_
  | refine itT (decide_eq_true (by omega)) ?_
  | refine itF (decide_eq_false (by omega)) ?_
  | refine itT (dVi (by omega)) ?_
  | refine itF (dViN (by omega)) ?_
  | refine itT (notT (by assumption)) ?_
  | refine itF (notF (by assumption)) ?_
  | refine itT (notT (dViN (by omega))) ?_
  | refine itF (notF (dVi (by omega))) ?_
  | refine itT (decide_eq_true rfl) ?_
  | refine itF (notF (decide_eq_true rfl)) ?_
  | refine ite2 (fun _ => ?_) (fun _ => ?_)
  | with_reducible refine tC_ ?_
  | with_reducible refine tNext_ ?_
  | with_reducible refine tNil_ ?_
  | with_reducible refine tYes_ ?_))
local macro_rules | `(tactic| walk_at "rds") => `(tactic| repeat' (walk_at "rd"))

local macro_rules | `(tactic| walk_at "lk") => `(tactic| first
  | with_reducible assumption
  | with_reducible exact upd_same
  | (walk_at "lk1"; walk_at "lk")
  | fail "lk")
local macro_rules | `(tactic| walk_at "lk1") => `(tactic| first
  | ((with_reducible refine' lk_new ?a1 ?a2); (case a1 => with_reducible assumption); (case' a2 => skip))
  | ((with_reducible refine' lk_ne ?a1 ?a2); (case a1 => with_reducible assumption); (case' a2 => skip))
  | ((with_reducible refine' lk_neN ?a1 ?a2 ?a3); (case a1 => with_reducible assumption); (case a2 => walk_at "lk"); (case' a3 => skip))
  | ((with_reducible refine' lk_neN' ?a1 ?a2 ?a3); (case a1 => with_reducible assumption); (case a2 => walk_at "lk"); (case' a3 => skip))
  | ((with_reducible refine' lk_same ?a1 ?a2); (case a1 => with_reducible assumption); (case' a2 => skip))
  | ((with_reducible refine' lk_go ?a1 ?a2 ?a3); (case a1 => with_reducible assumption); (case a2 => walk_at "nt"); (case' a3 => skip))
  | ((with_reducible refine' lk_kd ?a1 ?a2 ?a3 ?a4); (case a1 => with_reducible assumption); (case a2 => walk_at "st"); (case a3 => walk_at "nl"); (case' a4 => skip))
  | ((with_reducible refine' lk_kp ?a1 ?a2 ?a3); (case a1 => with_reducible assumption); (case a2 => walk_at "ne"); (case' a3 => skip))
  | fail "lk1")
local macro_rules | `(tactic| walk_at "nt") => `(tactic| first
  | (intro _ z; cases z)
  | fail "nt")
local macro_rules | `(tactic| walk_at "nl") => `(tactic| first
  | (intro _ z; cases z)
  | fail "nl")
local macro_rules | `(tactic| walk_at "ne") => `(tactic| first
  | with_reducible assumption
  | ((with_reducible refine' ne_sd ?a1 ?a2); (case a1 => with_reducible assumption); (case a2 => walk_at "st"))
  | fail "ne")
local macro_rules | `(tactic| walk_at "st") => `(tactic| first
  | with_reducible assumption
  | with_reducible exact sd_new (by with_reducible assumption) (by walk_at "st")
  | with_reducible exact sd_same (by with_reducible assumption) (by walk_at "st")
  | with_reducible exact sd_go (by with_reducible assumption) (by walk_at "st")
  | with_reducible exact sd_ne (by walk_at "ns") (by walk_at "st")
  | fail "st")
local macro_rules | `(tactic| walk_at "ns") => `(tactic| first
  | with_reducible assumption
  | with_reducible exact Ne.symm (by with_reducible assumption)
  | with_reducible exact Ne.symm (ne_sd (by with_reducible assumption) (by walk_at "st"))
  | fail "ns")
local macro_rules | `(tactic| walk_at "fr") => `(tactic| first
  | with_reducible assumption
  | with_reducible exact Same.refl _
  | with_reducible exact Go.refl _ _
  | with_reducible exact Kp.refl _ _
  | with_reducible exact LamX.ExtN.refl _
  | with_reducible exact nw_refl
  | (walk_at "fr1"; walk_at "fr")
  | fail "fr")
local macro_rules | `(tactic| walk_at "fr1") => `(tactic| first
  | ((with_reducible refine' fr_new ?a1 ?a2); (case a1 => with_reducible assumption); (case' a2 => skip))
  | ((with_reducible refine' go_new ?a1 ?a2); (case a1 => with_reducible assumption); (case' a2 => skip))
  | ((with_reducible refine' kp_new ?a1 ?a2); (case a1 => with_reducible assumption); (case' a2 => skip))
  | ((with_reducible refine' fr_same ?a1 ?a2); (case a1 => with_reducible assumption); (case' a2 => skip))
  | ((with_reducible refine' go_same ?a1 ?a2); (case a1 => with_reducible assumption); (case' a2 => skip))
  | ((with_reducible refine' kp_same ?a1 ?a2); (case a1 => with_reducible assumption); (case' a2 => skip))
  | ((with_reducible refine' go_go ?a1 ?a2); (case a1 => with_reducible assumption); (case' a2 => skip))
  | ((with_reducible refine' go_kd ?a1 ?a2 ?a3 ?a4); (case a1 => with_reducible assumption); (case a2 => with_reducible assumption); (case a3 => walk_at "st"); (case' a4 => skip))
  | ((with_reducible refine' kp_kp ?a1 ?a2); (case a1 => with_reducible assumption); (case' a2 => skip))
  | ((with_reducible refine' kp_upd ?a1); (case' a1 => skip))
  | ((with_reducible refine' go_set2 ?a1 ?a2 ?a3 ?a4); (case a1 => walk_at "lk"); (case a2 => with_reducible assumption); (case a3 => walk_at "fr"); (case' a4 => skip))
  | ((with_reducible refine' fr_set2 ?a1 ?a2 ?a3); (case a1 => with_reducible assumption); (case a2 => walk_at "fr"); (case' a3 => skip))
  | ((with_reducible refine' en_new ?a1 ?a2); (case a1 => with_reducible assumption); (case' a2 => skip))
  | ((with_reducible refine' en_same ?a1 ?a2); (case a1 => with_reducible assumption); (case' a2 => skip))
  | ((with_reducible refine' en_go ?a1 ?a2); (case a1 => with_reducible assumption); (case' a2 => skip))
  | ((with_reducible refine' en_set2 ?a1 ?a2 ?a3); (case a1 => with_reducible assumption); (case a2 => walk_at "fr"); (case' a3 => skip))
  | ((with_reducible refine' en_kp ?a1 ?a2 ?a3 ?a4); (case a1 => with_reducible assumption); (case a2 => with_reducible assumption); (case a3 => walk_at "fr"); (case' a4 => skip))
  | ((with_reducible refine' nw_new ?a1 ?a2); (case a1 => with_reducible assumption); (case' a2 => skip))
  | ((with_reducible refine' nw_same ?a1 ?a2); (case a1 => with_reducible assumption); (case' a2 => skip))
  | ((with_reducible refine' nw_go ?a1 ?a2); (case a1 => with_reducible assumption); (case' a2 => skip))
  | ((with_reducible refine' nw_kd ?a1 ?a2 ?a3); (case a1 => with_reducible assumption); (case a2 => walk_at "st"); (case' a3 => skip))
  | ((with_reducible refine' nw_set ?a1 ?a2); (case a1 => walk_at "lk"); (case' a2 => skip))
  | ((with_reducible refine' nw_set2 ?a1 ?a2 ?a3); (case a1 => with_reducible assumption); (case a2 => walk_at "fr"); (case' a3 => skip))
  | fail "fr1")
local macro_rules | `(tactic| walk_at "tb") => `(tactic| first
  | with_reducible assumption
  | (walk_at "tb1"; walk_at "tb")
  | fail "tb")
local macro_rules | `(tactic| walk_at "tb1") => `(tactic| first
  | ((with_reducible refine' tabs_new ?a1 ?a2); (case a1 => with_reducible assumption); (case' a2 => skip))
  | ((with_reducible refine' tabs_same ?a1 ?a2); (case a1 => with_reducible assumption); (case' a2 => skip))
  | ((with_reducible refine' tabs_go ?a1 ?a2); (case a1 => with_reducible assumption); (case' a2 => skip))
  | ((with_reducible refine' tabs_kd ?a1 ?a2 ?a3); (case a1 => with_reducible assumption); (case a2 => walk_at "st"); (case' a3 => skip))
  | ((with_reducible refine' tabs_set ?a1 ?a2); (case a1 => walk_at "lk"); (case' a2 => skip))
  | fail "tb1")
local macro_rules | `(tactic| walk_at "dg") => `(tactic| first
  | assumption
  | (refine' dp_ext ?a1 ?a2; (case a1 => assumption); (case a2 => walk_at "fr"))
  | (refine' dn_use ?a1 ?a2; (case a1 => assumption); (case a2 => walk_at "fr"))
  | fail "dg")
local macro_rules | `(tactic| walk_at "dp") => `(tactic| first
  | assumption
  | exact .str _
  | exact .int _
  | exact .bl _
  | exact .non
  | (refine' Dp.lst (SqL.of ?a1) ?a2; (case a1 => walk_at "lk"); (case a2 => walk_at "dpa"))
  | (refine' Dp.tup (SqT.of ?a1) ?a2; (case a1 => walk_at "lk"); (case a2 => walk_at "dpa"))
  | (walk_at "dg")
  | fail "dp")
local macro_rules | `(tactic| walk_at "dpa") => `(tactic| first
  | assumption
  | exact .nil
  | (refine' DpAll.cons ?a1 ?a2; (case a1 => walk_at "dp"); (case a2 => walk_at "dpa"))
  | fail "dpa")
local macro_rules | `(tactic| walk_at "dx") => `(tactic| first
  | assumption
  | exact .str _
  | exact .int _
  | exact .bl _
  | exact .non
  | (refine' Dx.lst (SqL.of ?a1) ?a2; (case a1 => walk_at "lk"); (case a2 => walk_at "dxa"))
  | (refine' Dx.tup (SqT.of ?a1) ?a2; (case a1 => walk_at "lk"); (case a2 => walk_at "dxa"))
  | (refine' Dx.dct (.inl ?a1) ?a2; (case a1 => walk_at "lk"); (case a2 => exact .nil))
  | (refine' dx_ext ?a1 ?a2; (case a1 => assumption); (case a2 => walk_at "fr"))
  | fail "dx")
local macro_rules | `(tactic| walk_at "dxa") => `(tactic| first
  | assumption
  | exact .nil
  | (refine' DxAll.cons ?a1 ?a2; (case a1 => walk_at "dx"); (case a2 => walk_at "dxa"))
  | fail "dxa")
local macro_rules | `(tactic| walk_at "ty") => `(tactic| first
  | assumption
  | (refine' ty_ext ?a1 ?a2; (case a1 => assumption); (case a2 => walk_at "fr"))
  | fail "ty")
local macro_rules | `(tactic| walk_at "shp") => `(tactic| first
  | assumption
  | (simp only [SeqAt.shaped, lay_l, lay_t, lay_i, lay_b, lay_n, lay_c, lay_e, PyData.depth, PyData.depthAll, Bool.and_true, Bool.true_and, Bool.and_eq_true, decide_eq_true_eq]
     repeat' (first | assumption | (refine And.intro ?_ ?_) | (exact rfl) | (decide +kernel) | omega))
  | decide +kernel)
local macro_rules | `(tactic| walk_at "side") => `(tactic| first
  | assumption
  | (intros; trivial)
  | omega
  | (walk_at "lk")
  | (walk_at "st")
  | (walk_at "sz")
  | (walk_at "tb")
  | (walk_at "fr"))
local macro_rules | `(tactic| walk_at "cl") => `(tactic| ((repeat' (apply Exists.intro)); refine And.intro rfl ?_; repeat (refine And.intro (by walk_at "side") ?_)))
local macro_rules | `(tactic| walk_at "eqd") => `(tactic| (refine ⟨_, _, by walk_at "dp", by walk_at "dp", by walk_at "shp", by walk_at "shp", ?_⟩; rw [eqv_same (by walk_at "shp")]))
local macro_rules | `(tactic| walk_at "new") => `(tactic| refine fun (p : Addr) (hp : (_ : Hp) p = none) => ?_)
local macro_rules | `(tactic| walk_at "rdn") => `(tactic| (repeat' (first | walk_at "rd" | walk_at "new")))

def clB (K : PySem.W.Frag) (C : Addr) (fs : List Str) : Bool :=
  (PySem.W.clsIn K C).isSome && decide (PySem.W.findIn K (.ref C) "__getattribute__" = some (some (.builtin "BaseException.__getattribute__"))) && decide (PySem.W.findIn K (.ref C) "__getattr__" = some none) &&
  decide (PySem.W.subIn K (.ref C) (.type "BaseException") = some true) && decide (PySem.W.findIn K (.ref C) "__class__" = some (some (.builtin "object.__class__"))) && decide (PySem.W.mroIn K C (.type "object") = some true) &&
  PySem.W.hasDictIn K C && decide (PySem.W.findIn K (.ref C) "__setattr__" = some (some (.builtin "object.__setattr__"))) && PySem.W.keepIn K (.ref C) && fs.all fun f => decide (PySem.W.findIn K (.ref C) f = some none)
structure ClB (K : PySem.W.Frag) (C : Addr) (fs : List Str) : Prop where
  h1 : (PySem.W.clsIn K C).isSome = true
  h2 : PySem.W.findIn K (.ref C) "__getattribute__" = some (some (.builtin "BaseException.__getattribute__"))
  h3 : PySem.W.findIn K (.ref C) "__getattr__" = some none
  h4 : PySem.W.subIn K (.ref C) (.type "BaseException") = some true
  h5 : PySem.W.findIn K (.ref C) "__class__" = some (some (.builtin "object.__class__"))
  h6 : PySem.W.mroIn K C (.type "object") = some true
  h7 : PySem.W.hasDictIn K C = true
  h8 : PySem.W.findIn K (.ref C) "__setattr__" = some (some (.builtin "object.__setattr__"))
  h9 : PySem.W.keepIn K (.ref C) = true
  hf : ∀ f ∈ fs, PySem.W.findIn K (.ref C) f = some none
theorem clB_ok {K : PySem.W.Frag} {C : Addr} {fs : List Str} (h : clB K C fs = true) : ClB K C fs := by
  unfold clB at h
  simp only [Bool.and_eq_true, decide_eq_true_eq, List.all_eq_true] at h
  obtain ⟨⟨⟨⟨⟨⟨⟨⟨⟨a1, a2⟩, a3⟩, a4⟩, a5⟩, a6⟩, a7⟩, a8⟩, a9⟩, a10⟩ := h
  exact ⟨a1, a2, a3, a4, a5, a6, a7, a8, a9, a10⟩
theorem ClB.xc {K : PySem.W.Frag} {C : Addr} {fs : List Str} (x : ClB K C fs) (u1 : PySem.W.specialIn K (.builtin "object.__class__") "__get__" = some (some (.builtin "getset_descriptor.__get__"))) (u2 : PySem.W.takesIn K (.builtin "object.__class__") = some true) : XcC K C :=
  ⟨x.h1, x.h2, x.h3, x.h4, x.h5, u1, u2, x.h6, x.h7⟩

local macro_rules | `(tactic| walk_at "sz") => `(tactic| first | assumption | decide | omega | (unfold sizeLine; omega) | exact Nat.le_of_ble_eq_true rfl)
local macro_rules | `(tactic| walk_at "hp") => `(tactic| (first | assumption | exact upd_same | (rw [upd_ne (by assumption)]; assumption)))
local macro_rules | `(tactic| walk_at "rd") => `(tactic| (first
  | refine ⟨_, rfl, ?_⟩
  | (refine ⟨_, _, rfl, rfl, ?rdc, ?_⟩; (case rdc => first | (show (0 : Int) < _; omega) | (exact ⟨by omega, by omega⟩) | (exact .inl ⟨by omega, by omega⟩) | (exact .inr ⟨by omega, by omega⟩) | exact ⟨by decide, by decide, by decide⟩))
  | refine ⟨_, _, rfl, rfl, ?_⟩
  | refine .inl ⟨_, rfl, ?_⟩
  | refine ⟨rfl, ?_⟩
  | refine ⟨⟨_, rfl⟩, ?_⟩
  | refine ⟨⟨_, SqL.of (by walk_at "hp")⟩, ?_⟩
  | refine ⟨_, _, _, _, rfl, rfl, SqL.of (by walk_at "hp"), (by rfl), ?_⟩
  | refine ⟨_, _, _, _, rfl, rfl, (by walk_at "hp"), (by rfl), ?_⟩
  | refine ⟨_, _, rfl, ⟨by walk_at "sz", rfl⟩, ?_⟩
  | refine ⟨_, _, _, rfl, rfl, by walk_at "sz", by assumption, ?_⟩
  | refine And.intro (by walk_at "sz") ?_
  | refine itT rfl ?_
  | refine itF rfl ?_
  | refine itT (by assumption) ?_
  | refine itF (by assumption) ?_
  | refine itT (decide_eq_true (by omega)) ?_
  | refine itF (decide_eq_false (by omega)) ?_
  | refine itT (dVi (by omega)) ?_
  | refine itF (dViN (by omega)) ?_
  | refine itT (notT (by assumption)) ?_
  | refine itF (notF (by assumption)) ?_
  | refine itT (notT (dViN (by omega))) ?_
  | refine itF (notF (dVi (by omega))) ?_
  | refine itT (decide_eq_true rfl) ?_
  | refine itF (notF (decide_eq_true rfl)) ?_
  | refine ite2 (fun _ => ?_) (fun _ => ?_)
  | with_reducible refine tC_ ?_
  | with_reducible refine tNext_ ?_
  | with_reducible refine tNil_ ?_
  | with_reducible refine tYes_ ?_))
local macro_rules | `(tactic| walk_at "rds") => `(tactic| repeat' (walk_at "rd"))
section
variable {P : Program} {w : World} {K : PySem.W.Frag} {mg : Str → Option Value} {base : Heap}

theorem ok_BadBinding___init__ {CM C fI : Addr} {fd : FuncData} (B : BaseG K mg ebV "MarkupError" CM) (F : Fun K "__init__" "BadBinding.__init__" s_BadBinding___init__ fI fd) (ox : OexG K ebV C) (fn0 : PySem.W.findIn K (.ref C) "spelling" = some none) (fn1 : PySem.W.findIn K (.ref C) "place" = some none) : FnOk P w K mg base CX0 1 fI fd ["self", "spelling", "place"] (Mx.spX2 C ["spelling", "place"]) := by
  have sc := sc_BadBinding___init__
  refine F.ok sc (fun vs H Q E h => ?_) (fun cdv A outer s H vs Q E hr h => ?_)
  · obtain ⟨a, ys, rfl, hl, _⟩ := h
    rw [List.length_cons, hl]
    rfl
  · obtain ⟨a, ys, rfl, hl, ha, q⟩ := h
    match ys, hl with
    | [y0, y1], _ =>
    refine ⟨_, (pss_cons (ps_expr (pe_minitG B rfl (pa_cons (pv 0) (pa_cons pe_str pa_nil))))
      (pss_one (ps_asg (pe_tup (pa_cons (pv 1) (pa_cons (pv 2) pa_nil))) (pg_tup (by rfl) (pgs_cons (pg_osG (b := ebV) (pv 0)) (pgs_cons (pg_osG (b := ebV) (pv 0)) pgs_nil)))))), ?_⟩
    walk_at "rds"
    refine ⟨a, C, _, rfl, (by show 1 ≤ 1000; decide), ox, ha, ?_⟩
    walk_at "rds"
    intro p hp
    walk_at "rds"
    refine ⟨p, [y0, y1], rfl, SqT.of upd_same, rfl, ?_⟩
    refine ⟨_, _, rfl, _, rfl, a, C, rfl, ox, fn0, .inl ⟨lk_new hp ha, fun dx h1 h2 => ?_⟩⟩
    refine ⟨_, _, rfl, _, rfl, a, C, rfl, ox, fn1, .inr ⟨dx, _, upd_same, by rw [upd_ne h2]; exact upd_same, Nat.le_of_ble_eq_true rfl, ?_⟩⟩
    refine ⟨rfl, ?_⟩
    show Q .non (upd (upd (upd (upd H p (.tup [y0, y1])) dx (exd dx [("spelling", y0)])) a (exo a C (some dx))) dx (exd dx [("place", y1), ("spelling", y0)]))
    have hdx : H dx = none := by
      cases e : H dx with
      | none => rfl
      | some u => rw [lk_new hp e] at h1; cases h1
    refine q _ dx (fun b u hb e => ?_) hdx h2 (by rw [upd_ne (Ne.symm h2)]; exact upd_same) upd_same
    have e1 : upd H p (.tup [y0, y1]) b = some u := lk_new hp e
    have nb : b ≠ dx := ne_of_none e1 h1
    rw [upd_ne nb, upd_ne hb, upd_ne nb]
    exact e1

theorem ok_Unbound___init__ {CM C fI : Addr} {fd : FuncData} (B : BaseG K mg ebV "MarkupError" CM) (F : Fun K "__init__" "Unbound.__init__" s_Unbound___init__ fI fd) (ox : OexG K ebV C) (fn0 : PySem.W.findIn K (.ref C) "spelling" = some none) (fn1 : PySem.W.findIn K (.ref C) "place" = some none) : FnOk P w K mg base CX0 1 fI fd ["self", "spelling", "place"] (Mx.spX2 C ["spelling", "place"]) := by
  have sc := sc_Unbound___init__
  refine F.ok sc (fun vs H Q E h => ?_) (fun cdv A outer s H vs Q E hr h => ?_)
  · obtain ⟨a, ys, rfl, hl, _⟩ := h
    rw [List.length_cons, hl]
    rfl
  · obtain ⟨a, ys, rfl, hl, ha, q⟩ := h
    match ys, hl with
    | [y0, y1], _ =>
    refine ⟨_, (pss_cons (ps_expr (pe_minitG B rfl (pa_cons (pv 0) (pa_cons pe_str pa_nil))))
      (pss_one (ps_asg (pe_tup (pa_cons (pv 1) (pa_cons (pv 2) pa_nil))) (pg_tup (by rfl) (pgs_cons (pg_osG (b := ebV) (pv 0)) (pgs_cons (pg_osG (b := ebV) (pv 0)) pgs_nil)))))), ?_⟩
    walk_at "rds"
    refine ⟨a, C, _, rfl, (by show 1 ≤ 1000; decide), ox, ha, ?_⟩
    walk_at "rds"
    intro p hp
    walk_at "rds"
    refine ⟨p, [y0, y1], rfl, SqT.of upd_same, rfl, ?_⟩
    refine ⟨_, _, rfl, _, rfl, a, C, rfl, ox, fn0, .inl ⟨lk_new hp ha, fun dx h1 h2 => ?_⟩⟩
    refine ⟨_, _, rfl, _, rfl, a, C, rfl, ox, fn1, .inr ⟨dx, _, upd_same, by rw [upd_ne h2]; exact upd_same, Nat.le_of_ble_eq_true rfl, ?_⟩⟩
    refine ⟨rfl, ?_⟩
    show Q .non (upd (upd (upd (upd H p (.tup [y0, y1])) dx (exd dx [("spelling", y0)])) a (exo a C (some dx))) dx (exd dx [("place", y1), ("spelling", y0)]))
    have hdx : H dx = none := by
      cases e : H dx with
      | none => rfl
      | some u => rw [lk_new hp e] at h1; cases h1
    refine q _ dx (fun b u hb e => ?_) hdx h2 (by rw [upd_ne (Ne.symm h2)]; exact upd_same) upd_same
    have e1 : upd H p (.tup [y0, y1]) b = some u := lk_new hp e
    have nb : b ≠ dx := ne_of_none e1 h1
    rw [upd_ne nb, upd_ne hb, upd_ne nb]
    exact e1

theorem ok_Repeated___init__ {CM C fI : Addr} {fd : FuncData} (B : BaseG K mg ebV "MarkupError" CM) (F : Fun K "__init__" "Repeated.__init__" s_Repeated___init__ fI fd) (ox : OexG K ebV C) (fn0 : PySem.W.findIn K (.ref C) "spelling" = some none) (fn1 : PySem.W.findIn K (.ref C) "place" = some none) : FnOk P w K mg base CX0 1 fI fd ["self", "spelling", "place"] (Mx.spX2 C ["spelling", "place"]) := by
  have sc := sc_Repeated___init__
  refine F.ok sc (fun vs H Q E h => ?_) (fun cdv A outer s H vs Q E hr h => ?_)
  · obtain ⟨a, ys, rfl, hl, _⟩ := h
    rw [List.length_cons, hl]
    rfl
  · obtain ⟨a, ys, rfl, hl, ha, q⟩ := h
    match ys, hl with
    | [y0, y1], _ =>
    refine ⟨_, (pss_cons (ps_expr (pe_minitG B rfl (pa_cons (pv 0) (pa_cons pe_str pa_nil))))
      (pss_one (ps_asg (pe_tup (pa_cons (pv 1) (pa_cons (pv 2) pa_nil))) (pg_tup (by rfl) (pgs_cons (pg_osG (b := ebV) (pv 0)) (pgs_cons (pg_osG (b := ebV) (pv 0)) pgs_nil)))))), ?_⟩
    walk_at "rds"
    refine ⟨a, C, _, rfl, (by show 1 ≤ 1000; decide), ox, ha, ?_⟩
    walk_at "rds"
    intro p hp
    walk_at "rds"
    refine ⟨p, [y0, y1], rfl, SqT.of upd_same, rfl, ?_⟩
    refine ⟨_, _, rfl, _, rfl, a, C, rfl, ox, fn0, .inl ⟨lk_new hp ha, fun dx h1 h2 => ?_⟩⟩
    refine ⟨_, _, rfl, _, rfl, a, C, rfl, ox, fn1, .inr ⟨dx, _, upd_same, by rw [upd_ne h2]; exact upd_same, Nat.le_of_ble_eq_true rfl, ?_⟩⟩
    refine ⟨rfl, ?_⟩
    show Q .non (upd (upd (upd (upd H p (.tup [y0, y1])) dx (exd dx [("spelling", y0)])) a (exo a C (some dx))) dx (exd dx [("place", y1), ("spelling", y0)]))
    have hdx : H dx = none := by
      cases e : H dx with
      | none => rfl
      | some u => rw [lk_new hp e] at h1; cases h1
    refine q _ dx (fun b u hb e => ?_) hdx h2 (by rw [upd_ne (Ne.symm h2)]; exact upd_same) upd_same
    have e1 : upd H p (.tup [y0, y1]) b = some u := lk_new hp e
    have nb : b ≠ dx := ne_of_none e1 h1
    rw [upd_ne nb, upd_ne hb, upd_ne nb]
    exact e1

end
end K4

set_option maxHeartbeats 1000000
set_option pp.maxSteps 700
set_option pp.deepTerms false
set_option pp.deepTerms.threshold 14
namespace K4
open PySem PySem.Spec PyProof.Rows L2 Mx
local macro_rules | `(tactic| walk_at "sz") => `(tactic| first | assumption | decide | omega | (unfold sizeLine; omega) | exact Nat.le_of_ble_eq_true rfl)
local macro_rules | `(tactic| walk_at "hp") => `(tactic| (first | assumption | exact upd_same | (rw [upd_ne (by assumption)]; assumption)))
local macro_rules | `(tactic| walk_at "rd") => `(tactic| (first
  | refine ⟨_, rfl, ?_⟩
  | (refine ⟨_, _, rfl, rfl, ?rdc, ?_⟩; (case rdc => first | (show (0 : Int) < _; omega) | (exact ⟨by omega, by omega⟩) | (exact .inl ⟨by omega, by omega⟩) | (exact .inr ⟨by omega, by omega⟩) | exact ⟨by decide, by decide, by decide⟩))
  | refine ⟨_, _, rfl, rfl, ?_⟩
  | refine .inl ⟨_, rfl, ?_⟩
  | refine ⟨rfl, ?_⟩
  | refine ⟨⟨_, rfl⟩, ?_⟩
  | refine ⟨⟨_, SqL.of (by walk_at "hp")⟩, ?_⟩
  | refine ⟨_, _, _, _, rfl, rfl, SqL.of (by walk_at "hp"), (by rfl), ?_⟩
  | refine ⟨_, _, _, _, rfl, rfl, (by walk_at "hp"), (by rfl), ?_⟩
  | refine ⟨_, _, rfl, ⟨by walk_at "sz", rfl⟩, ?_⟩
  | refine ⟨_, _, _, rfl, rfl, by walk_at "sz", by assumption, ?_⟩
  | refine And.intro (by walk_at "sz") ?_
  | refine itT rfl ?_
  | refine itF rfl ?_
  | refine itT (by assumption) ?_
  | refine itF (by assumption) ?_
  | refine itT (decide_eq_true (by omega)) ?_
  | refine itF (decide_eq_false (by omega)) ?_
  | refine itT (dVi (by omega)) ?_
  | refine itF (dViN (by omega)) ?_
  | refine itT (notT (by assumption)) ?_
  | refine itF (notF (by assumption)) ?_
  | refine itT (notT (dViN (by omega))) ?_
  | refine itF (notF (dVi (by omega))) ?_
  | refine itT (decide_eq_true rfl) ?_
  | refine itF (notF (decide_eq_true rfl)) ?_
  | refine ite2 (fun _ => ?_) (fun _ => ?_)
  | with_reducible refine tC_ ?_
  | with_reducible refine tNext_ ?_
  | with_reducible refine tNil_ ?_
  | with_reducible refine tYes_ ?_))
local macro_rules | `(tactic| walk_at "rds") => `(tactic| repeat' (walk_at "rd"))
/-! ### the end -/
section
variable {P : Program} {w : World} {K : PySem.W.Frag} {mg : Str → Option Value} {base : Heap}
theorem ok_InvalidName___init__ {CM C fI : Addr} {fd : FuncData} (B : BaseT K mg "MarkupError" CM) (F : Fun K "__init__" "InvalidName.__init__" s_InvalidName___init__ fI fd) (fn : PySem.W.findIn K (.ref C) "given" = some none) : FnOk P w K mg base CX0 1 fI fd ["self", "given"] (spXI K C "given") := by
  have sc := sc_InvalidName___init__
  refine F.ok sc (fun vs H Q E h => ?_) (fun cdv A outer s H vs Q E hr h => ?_)
  · obtain ⟨a, y, rfl, _⟩ := h
    rfl
  · obtain ⟨a, y, rfl, ox, ha, q⟩ := h
    refine ⟨_, pss_cons (ps_expr (pe_minit B rfl (pa_cons (pv 0) (pa_cons pe_str pa_nil)))) (pss_one (ps_ost (pv 0) (pv 1))), ?_⟩
    walk_at "rds"
    refine ⟨a, C, _, rfl, (by show 1 ≤ 1000; decide), ox, ha, ?_⟩
    walk_at "rds"
    exact ⟨a, C, rfl, ox, fn, .inl ⟨ha, fun dx h1 h2 => q dx h1 h2⟩⟩

end
theorem all_mk {l : PySem.W.OpenLaw} {w : World} {K : PySem.W.Frag} {h : Heap} {mg : Str → Option Value} {fa : Addr} (X : K.In h) (G : h.Ns mainGlobals mg) (hfa : mg "law" = some (.ref fa))
    {f_Scope___init__ : Addr} {od_Scope___init__ an_Scope___init__ : Option Addr} {sl_Scope___init__ : Array (Option Value)} {oc_Scope___init__ kV_Scope___init__ dc_Scope___init__ pm_Scope___init__ cd_Scope___init__ ct_Scope___init__ : Value}
    {f_Scope___contains__ : Addr} {od_Scope___contains__ an_Scope___contains__ : Option Addr} {sl_Scope___contains__ : Array (Option Value)} {oc_Scope___contains__ kV_Scope___contains__ dc_Scope___contains__ pm_Scope___contains__ cd_Scope___contains__ ct_Scope___contains__ : Value}
    {f_Scope___getitem__ : Addr} {od_Scope___getitem__ an_Scope___getitem__ : Option Addr} {sl_Scope___getitem__ : Array (Option Value)} {oc_Scope___getitem__ kV_Scope___getitem__ dc_Scope___getitem__ pm_Scope___getitem__ cd_Scope___getitem__ ct_Scope___getitem__ : Value}
    {f_Scope___str__ : Addr} {od_Scope___str__ an_Scope___str__ : Option Addr} {sl_Scope___str__ : Array (Option Value)} {oc_Scope___str__ kV_Scope___str__ dc_Scope___str__ pm_Scope___str__ cd_Scope___str__ ct_Scope___str__ : Value}
    {f_Scope_meaning : Addr} {od_Scope_meaning an_Scope_meaning : Option Addr} {sl_Scope_meaning : Array (Option Value)} {oc_Scope_meaning kV_Scope_meaning dc_Scope_meaning pm_Scope_meaning cd_Scope_meaning ct_Scope_meaning : Value}
    {f_Scope_expanded : Addr} {od_Scope_expanded an_Scope_expanded : Option Addr} {sl_Scope_expanded : Array (Option Value)} {oc_Scope_expanded kV_Scope_expanded dc_Scope_expanded pm_Scope_expanded cd_Scope_expanded ct_Scope_expanded : Value}
    {nmE_BadBinding : _} {qnE_BadBinding : _} {NSE_BadBinding : _} {bsE_BadBinding : _} {snE_BadBinding : _} {subE_BadBinding : _} {abE_BadBinding : _} {colE_BadBinding : _} {ddE_BadBinding : _} {k0E_BadBinding : _} {k1E_BadBinding : _} {k2E_BadBinding : _} {k3E_BadBinding : _} {k5E_BadBinding : _}
    {I_BadBinding : Addr} {odI_BadBinding anI_BadBinding : Option Addr} {slI_BadBinding : Array (Option Value)} {ocI_BadBinding kVI_BadBinding dcI_BadBinding pmI_BadBinding cdI_BadBinding ctI_BadBinding : Value}
    {nmE_Unbound : _} {qnE_Unbound : _} {NSE_Unbound : _} {bsE_Unbound : _} {snE_Unbound : _} {subE_Unbound : _} {abE_Unbound : _} {colE_Unbound : _} {ddE_Unbound : _} {k0E_Unbound : _} {k1E_Unbound : _} {k2E_Unbound : _} {k3E_Unbound : _} {k5E_Unbound : _}
    {I_Unbound : Addr} {odI_Unbound anI_Unbound : Option Addr} {slI_Unbound : Array (Option Value)} {ocI_Unbound kVI_Unbound dcI_Unbound pmI_Unbound cdI_Unbound ctI_Unbound : Value}
    {nmE_Repeated : _} {qnE_Repeated : _} {NSE_Repeated : _} {bsE_Repeated : _} {snE_Repeated : _} {subE_Repeated : _} {abE_Repeated : _} {colE_Repeated : _} {ddE_Repeated : _} {k0E_Repeated : _} {k1E_Repeated : _} {k2E_Repeated : _} {k3E_Repeated : _} {k5E_Repeated : _}
    {I_Repeated : Addr} {odI_Repeated anI_Repeated : Option Addr} {slI_Repeated : Array (Option Value)} {ocI_Repeated kVI_Repeated dcI_Repeated pmI_Repeated cdI_Repeated ctI_Repeated : Value}
    {f_is_part_of_name : Addr} {od_is_part_of_name an_is_part_of_name : Option Addr} {sl_is_part_of_name : Array (Option Value)} {oc_is_part_of_name kV_is_part_of_name dc_is_part_of_name pm_is_part_of_name cd_is_part_of_name ct_is_part_of_name : Value}
    {f_cut_name : Addr} {od_cut_name an_cut_name : Option Addr} {sl_cut_name : Array (Option Value)} {oc_cut_name kV_cut_name dc_cut_name pm_cut_name cd_cut_name ct_cut_name : Value}
    {f_split_name : Addr} {od_split_name an_split_name : Option Addr} {sl_split_name : Array (Option Value)} {oc_split_name kV_split_name dc_split_name pm_split_name cd_split_name ct_split_name : Value}
    {f_is_bad_binding : Addr} {od_is_bad_binding an_is_bad_binding : Option Addr} {sl_is_bad_binding : Array (Option Value)} {oc_is_bad_binding kV_is_bad_binding dc_is_bad_binding pm_is_bad_binding cd_is_bad_binding ct_is_bad_binding : Value}
    {f_binding_name : Addr} {od_binding_name an_binding_name : Option Addr} {sl_binding_name : Array (Option Value)} {oc_binding_name kV_binding_name dc_binding_name pm_binding_name cd_binding_name ct_binding_name : Value}
    {f_check_pairs : Addr} {od_check_pairs an_check_pairs : Option Addr} {sl_check_pairs : Array (Option Value)} {oc_check_pairs kV_check_pairs dc_check_pairs pm_check_pairs cd_check_pairs ct_check_pairs : Value}
    {f_joined_links : Addr} {od_joined_links an_joined_links : Option Addr} {sl_joined_links : Array (Option Value)} {oc_joined_links kV_joined_links dc_joined_links pm_joined_links cd_joined_links ct_joined_links : Value}
    {f__law_begin : Addr} {od__law_begin an__law_begin : Option Addr} {sl__law_begin : Array (Option Value)} {oc__law_begin kV__law_begin dc__law_begin pm__law_begin cd__law_begin ct__law_begin : Value}
    {f__law_draw : Addr} {od__law_draw an__law_draw : Option Addr} {sl__law_draw : Array (Option Value)} {oc__law_draw kV__law_draw dc__law_draw pm__law_draw cd__law_draw ct__law_draw : Value}
    {f__law_word : Addr} {od__law_word an__law_word : Option Addr} {sl__law_word : Array (Option Value)} {oc__law_word kV__law_word dc__law_word pm__law_word cd__law_word ct__law_word : Value}
    {f__law_error : Addr} {od__law_error an__law_error : Option Addr} {sl__law_error : Array (Option Value)} {oc__law_error kV__law_error dc__law_error pm__law_error cd__law_error ct__law_error : Value}
    {f__law_pick : Addr} {od__law_pick an__law_pick : Option Addr} {sl__law_pick : Array (Option Value)} {oc__law_pick kV__law_pick dc__law_pick pm__law_pick cd__law_pick ct__law_pick : Value}
    {f__law_part : Addr} {od__law_part an__law_part : Option Addr} {sl__law_part : Array (Option Value)} {oc__law_part kV__law_part dc__law_part pm__law_part cd__law_part ct__law_part : Value}
    {f__law_is_part : Addr} {od__law_is_part an__law_is_part : Option Addr} {sl__law_is_part : Array (Option Value)} {oc__law_is_part kV__law_is_part dc__law_is_part pm__law_is_part cd__law_is_part ct__law_is_part : Value}
    {f__law_is_name : Addr} {od__law_is_name an__law_is_name : Option Addr} {sl__law_is_name : Array (Option Value)} {oc__law_is_name kV__law_is_name dc__law_is_name pm__law_is_name cd__law_is_name ct__law_is_name : Value}
    {f__law_bent : Addr} {od__law_bent an__law_bent : Option Addr} {sl__law_bent : Array (Option Value)} {oc__law_bent kV__law_bent dc__law_bent pm__law_bent cd__law_bent ct__law_bent : Value}
    {f__law_right : Addr} {od__law_right an__law_right : Option Addr} {sl__law_right : Array (Option Value)} {oc__law_right kV__law_right dc__law_right pm__law_right ct__law_right : Value}
    {cL__law_right P__law_right : Addr}
    {f_law : Addr} {od_law an_law : Option Addr} {sl_law : Array (Option Value)} {oc_law kV_law dc_law pm_law cd_law ct_law : Value}
    {t_LETTERS : Tok}
    {t_INNER : Tok}
    {t_XML : Tok}
    {t_XMLNS : Tok}
    {C_InvalidName : Addr}
    {C_MarkupError : Addr}
    {C_BadBinding : Addr}
    {C_Unbound : Addr}
    {C_Repeated : Addr}
    {C_Scope : Addr}
    {nmE_InvalidName : _} {qnE_InvalidName : _} {NSE_InvalidName : _} {bsE_InvalidName : _} {snE_InvalidName : _} {subE_InvalidName : _} {abE_InvalidName : _} {colE_InvalidName : _} {ddE_InvalidName : _} {k0E_InvalidName : _} {k1E_InvalidName : _} {k2E_InvalidName : _} {k3E_InvalidName : _} {k5E_InvalidName : _}
    {I_InvalidName : Addr} {odI_InvalidName anI_InvalidName : Option Addr} {slI_InvalidName : Array (Option Value)} {ocI_InvalidName kVI_InvalidName dcI_InvalidName pmI_InvalidName cdI_InvalidName ctI_InvalidName : Value}
    (tb__law_right : PySem.W.CodeHd h cL__law_right P__law_right)
    (tg__law_right : h.get? P__law_right = some { cls := .none, data := .fields #[] })
    (np__law_right : K.lookup P__law_right = none)
    (hu__law_right : ∀ p ∈ ([(P__law_right, "_law_right.<locals>.<lambda>")] : List (Addr × Str)), p.1 = P__law_right → p.2 = ("_law_right.<locals>.<lambda>" : Str))
    (a_is_part_of_name : PySem.W.nsIn K mainGlobals "is_part_of_name" = some (some (.ref f_is_part_of_name)))
    (l_is_part_of_name : K.lookup f_is_part_of_name = some ⟨oc_is_part_of_name, od_is_part_of_name, .func (PySem.W.fnOf "is_part_of_name" "is_part_of_name" (defArgs s_is_part_of_name) (defBody s_is_part_of_name) (defScope s_is_part_of_name) .none kV_is_part_of_name dc_is_part_of_name pm_is_part_of_name an_is_part_of_name cd_is_part_of_name ct_is_part_of_name), sl_is_part_of_name⟩)
    (c_is_part_of_name : PySem.W.codeIn K cd_is_part_of_name "is_part_of_name" = true)
    (k_is_part_of_name : PySem.W.keepIn K (.ref f_is_part_of_name) = true)
    (a_cut_name : PySem.W.nsIn K mainGlobals "cut_name" = some (some (.ref f_cut_name)))
    (l_cut_name : K.lookup f_cut_name = some ⟨oc_cut_name, od_cut_name, .func (PySem.W.fnOf "cut_name" "cut_name" (defArgs s_cut_name) (defBody s_cut_name) (defScope s_cut_name) .none kV_cut_name dc_cut_name pm_cut_name an_cut_name cd_cut_name ct_cut_name), sl_cut_name⟩)
    (c_cut_name : PySem.W.codeIn K cd_cut_name "cut_name" = true)
    (k_cut_name : PySem.W.keepIn K (.ref f_cut_name) = true)
    (a_split_name : PySem.W.nsIn K mainGlobals "split_name" = some (some (.ref f_split_name)))
    (l_split_name : K.lookup f_split_name = some ⟨oc_split_name, od_split_name, .func (PySem.W.fnOf "split_name" "split_name" (defArgs s_split_name) (defBody s_split_name) (defScope s_split_name) .none kV_split_name dc_split_name pm_split_name an_split_name cd_split_name ct_split_name), sl_split_name⟩)
    (c_split_name : PySem.W.codeIn K cd_split_name "split_name" = true)
    (k_split_name : PySem.W.keepIn K (.ref f_split_name) = true)
    (a_is_bad_binding : PySem.W.nsIn K mainGlobals "is_bad_binding" = some (some (.ref f_is_bad_binding)))
    (l_is_bad_binding : K.lookup f_is_bad_binding = some ⟨oc_is_bad_binding, od_is_bad_binding, .func (PySem.W.fnOf "is_bad_binding" "is_bad_binding" (defArgs s_is_bad_binding) (defBody s_is_bad_binding) (defScope s_is_bad_binding) .none kV_is_bad_binding dc_is_bad_binding pm_is_bad_binding an_is_bad_binding cd_is_bad_binding ct_is_bad_binding), sl_is_bad_binding⟩)
    (c_is_bad_binding : PySem.W.codeIn K cd_is_bad_binding "is_bad_binding" = true)
    (k_is_bad_binding : PySem.W.keepIn K (.ref f_is_bad_binding) = true)
    (a_binding_name : PySem.W.nsIn K mainGlobals "binding_name" = some (some (.ref f_binding_name)))
    (l_binding_name : K.lookup f_binding_name = some ⟨oc_binding_name, od_binding_name, .func (PySem.W.fnOf "binding_name" "binding_name" (defArgs s_binding_name) (defBody s_binding_name) (defScope s_binding_name) .none kV_binding_name dc_binding_name pm_binding_name an_binding_name cd_binding_name ct_binding_name), sl_binding_name⟩)
    (c_binding_name : PySem.W.codeIn K cd_binding_name "binding_name" = true)
    (k_binding_name : PySem.W.keepIn K (.ref f_binding_name) = true)
    (a_check_pairs : PySem.W.nsIn K mainGlobals "check_pairs" = some (some (.ref f_check_pairs)))
    (l_check_pairs : K.lookup f_check_pairs = some ⟨oc_check_pairs, od_check_pairs, .func (PySem.W.fnOf "check_pairs" "check_pairs" (defArgs s_check_pairs) (defBody s_check_pairs) (defScope s_check_pairs) .none kV_check_pairs dc_check_pairs pm_check_pairs an_check_pairs cd_check_pairs ct_check_pairs), sl_check_pairs⟩)
    (c_check_pairs : PySem.W.codeIn K cd_check_pairs "check_pairs" = true)
    (k_check_pairs : PySem.W.keepIn K (.ref f_check_pairs) = true)
    (a_joined_links : PySem.W.nsIn K mainGlobals "joined_links" = some (some (.ref f_joined_links)))
    (l_joined_links : K.lookup f_joined_links = some ⟨oc_joined_links, od_joined_links, .func (PySem.W.fnOf "joined_links" "joined_links" (defArgs s_joined_links) (defBody s_joined_links) (defScope s_joined_links) .none kV_joined_links dc_joined_links pm_joined_links an_joined_links cd_joined_links ct_joined_links), sl_joined_links⟩)
    (c_joined_links : PySem.W.codeIn K cd_joined_links "joined_links" = true)
    (k_joined_links : PySem.W.keepIn K (.ref f_joined_links) = true)
    (a__law_begin : PySem.W.nsIn K mainGlobals "_law_begin" = some (some (.ref f__law_begin)))
    (l__law_begin : K.lookup f__law_begin = some ⟨oc__law_begin, od__law_begin, .func (PySem.W.fnOf "_law_begin" "_law_begin" (defArgs s__law_begin) (defBody s__law_begin) (defScope s__law_begin) .none kV__law_begin dc__law_begin pm__law_begin an__law_begin cd__law_begin ct__law_begin), sl__law_begin⟩)
    (c__law_begin : PySem.W.codeIn K cd__law_begin "_law_begin" = true)
    (k__law_begin : PySem.W.keepIn K (.ref f__law_begin) = true)
    (a__law_draw : PySem.W.nsIn K mainGlobals "_law_draw" = some (some (.ref f__law_draw)))
    (l__law_draw : K.lookup f__law_draw = some ⟨oc__law_draw, od__law_draw, .func (PySem.W.fnOf "_law_draw" "_law_draw" (defArgs s__law_draw) (defBody s__law_draw) (defScope s__law_draw) .none kV__law_draw dc__law_draw pm__law_draw an__law_draw cd__law_draw ct__law_draw), sl__law_draw⟩)
    (c__law_draw : PySem.W.codeIn K cd__law_draw "_law_draw" = true)
    (k__law_draw : PySem.W.keepIn K (.ref f__law_draw) = true)
    (a__law_word : PySem.W.nsIn K mainGlobals "_law_word" = some (some (.ref f__law_word)))
    (l__law_word : K.lookup f__law_word = some ⟨oc__law_word, od__law_word, .func (PySem.W.fnOf "_law_word" "_law_word" (defArgs s__law_word) (defBody s__law_word) (defScope s__law_word) .none kV__law_word dc__law_word pm__law_word an__law_word cd__law_word ct__law_word), sl__law_word⟩)
    (c__law_word : PySem.W.codeIn K cd__law_word "_law_word" = true)
    (k__law_word : PySem.W.keepIn K (.ref f__law_word) = true)
    (a__law_error : PySem.W.nsIn K mainGlobals "_law_error" = some (some (.ref f__law_error)))
    (l__law_error : K.lookup f__law_error = some ⟨oc__law_error, od__law_error, .func (PySem.W.fnOf "_law_error" "_law_error" (defArgs s__law_error) (defBody s__law_error) (defScope s__law_error) .none kV__law_error dc__law_error pm__law_error an__law_error cd__law_error ct__law_error), sl__law_error⟩)
    (c__law_error : PySem.W.codeIn K cd__law_error "_law_error" = true)
    (k__law_error : PySem.W.keepIn K (.ref f__law_error) = true)
    (a__law_pick : PySem.W.nsIn K mainGlobals "_law_pick" = some (some (.ref f__law_pick)))
    (l__law_pick : K.lookup f__law_pick = some ⟨oc__law_pick, od__law_pick, .func (PySem.W.fnOf "_law_pick" "_law_pick" (defArgs s__law_pick) (defBody s__law_pick) (defScope s__law_pick) .none kV__law_pick dc__law_pick pm__law_pick an__law_pick cd__law_pick ct__law_pick), sl__law_pick⟩)
    (c__law_pick : PySem.W.codeIn K cd__law_pick "_law_pick" = true)
    (k__law_pick : PySem.W.keepIn K (.ref f__law_pick) = true)
    (a__law_part : PySem.W.nsIn K mainGlobals "_law_part" = some (some (.ref f__law_part)))
    (l__law_part : K.lookup f__law_part = some ⟨oc__law_part, od__law_part, .func (PySem.W.fnOf "_law_part" "_law_part" (defArgs s__law_part) (defBody s__law_part) (defScope s__law_part) .none kV__law_part dc__law_part pm__law_part an__law_part cd__law_part ct__law_part), sl__law_part⟩)
    (c__law_part : PySem.W.codeIn K cd__law_part "_law_part" = true)
    (k__law_part : PySem.W.keepIn K (.ref f__law_part) = true)
    (a__law_is_part : PySem.W.nsIn K mainGlobals "_law_is_part" = some (some (.ref f__law_is_part)))
    (l__law_is_part : K.lookup f__law_is_part = some ⟨oc__law_is_part, od__law_is_part, .func (PySem.W.fnOf "_law_is_part" "_law_is_part" (defArgs s__law_is_part) (defBody s__law_is_part) (defScope s__law_is_part) .none kV__law_is_part dc__law_is_part pm__law_is_part an__law_is_part cd__law_is_part ct__law_is_part), sl__law_is_part⟩)
    (c__law_is_part : PySem.W.codeIn K cd__law_is_part "_law_is_part" = true)
    (k__law_is_part : PySem.W.keepIn K (.ref f__law_is_part) = true)
    (a__law_is_name : PySem.W.nsIn K mainGlobals "_law_is_name" = some (some (.ref f__law_is_name)))
    (l__law_is_name : K.lookup f__law_is_name = some ⟨oc__law_is_name, od__law_is_name, .func (PySem.W.fnOf "_law_is_name" "_law_is_name" (defArgs s__law_is_name) (defBody s__law_is_name) (defScope s__law_is_name) .none kV__law_is_name dc__law_is_name pm__law_is_name an__law_is_name cd__law_is_name ct__law_is_name), sl__law_is_name⟩)
    (c__law_is_name : PySem.W.codeIn K cd__law_is_name "_law_is_name" = true)
    (k__law_is_name : PySem.W.keepIn K (.ref f__law_is_name) = true)
    (a__law_bent : PySem.W.nsIn K mainGlobals "_law_bent" = some (some (.ref f__law_bent)))
    (l__law_bent : K.lookup f__law_bent = some ⟨oc__law_bent, od__law_bent, .func (PySem.W.fnOf "_law_bent" "_law_bent" (defArgs s__law_bent) (defBody s__law_bent) (defScope s__law_bent) .none kV__law_bent dc__law_bent pm__law_bent an__law_bent cd__law_bent ct__law_bent), sl__law_bent⟩)
    (c__law_bent : PySem.W.codeIn K cd__law_bent "_law_bent" = true)
    (k__law_bent : PySem.W.keepIn K (.ref f__law_bent) = true)
    (a__law_right : PySem.W.nsIn K mainGlobals "_law_right" = some (some (.ref f__law_right)))
    (l__law_right : K.lookup f__law_right = some ⟨oc__law_right, od__law_right, .func (PySem.W.fnOf "_law_right" "_law_right" (defArgs s__law_right) (defBody s__law_right) (defScope s__law_right) .none kV__law_right dc__law_right pm__law_right an__law_right (.ref cL__law_right) ct__law_right), sl__law_right⟩)
    (c__law_right : PySem.W.codeIn K (.ref cL__law_right) "_law_right" = true)
    (k__law_right : PySem.W.keepIn K (.ref f__law_right) = true)
    (a_law : PySem.W.nsIn K mainGlobals "law" = some (some (.ref f_law)))
    (l_law : K.lookup f_law = some ⟨oc_law, od_law, .func (PySem.W.fnOf "law" "law" (defArgs s_law) (defBody s_law) (defScope s_law) .none kV_law dc_law pm_law an_law cd_law ct_law), sl_law⟩)
    (c_law : PySem.W.codeIn K cd_law "law" = true)
    (k_law : PySem.W.keepIn K (.ref f_law) = true)
    (n_isinstance : PySem.W.nsIn K mainGlobals "isinstance" = some none)
    (n_str : PySem.W.nsIn K mainGlobals "str" = some none)
    (n_int : PySem.W.nsIn K mainGlobals "int" = some none)
    (n_len : PySem.W.nsIn K mainGlobals "len" = some none)
    (n_range : PySem.W.nsIn K mainGlobals "range" = some none)
    (n_all : PySem.W.nsIn K mainGlobals "all" = some none)
    (n_enumerate : PySem.W.nsIn K mainGlobals "enumerate" = some none)
    (n_sorted : PySem.W.nsIn K mainGlobals "sorted" = some none)
    (n_repr : PySem.W.nsIn K mainGlobals "repr" = some none)
    (n_dict : PySem.W.nsIn K mainGlobals "dict" = some none)
    (n_tuple : PySem.W.nsIn K mainGlobals "tuple" = some none)
    (n_min : PySem.W.nsIn K mainGlobals "min" = some none)
    (g_LETTERS : PySem.W.nsIn K mainGlobals "LETTERS" = some (some (.str "abcdefghijklmnopqrstuvwxyzABCDEFGHIJKLMNOPQRSTUVWXYZ_" t_LETTERS)))
    (g_INNER : PySem.W.nsIn K mainGlobals "INNER" = some (some (.str "abcdefghijklmnopqrstuvwxyzABCDEFGHIJKLMNOPQRSTUVWXYZ_0123456789-." t_INNER)))
    (g_XML : PySem.W.nsIn K mainGlobals "XML" = some (some (.str "http://www.w3.org/XML/1998/namespace" t_XML)))
    (g_XMLNS : PySem.W.nsIn K mainGlobals "XMLNS" = some (some (.str "http://www.w3.org/2000/xmlns/" t_XMLNS)))
    (b_InvalidName : PySem.W.nsIn K mainGlobals "InvalidName" = some (some (.ref C_InvalidName)))
    (b_MarkupError : PySem.W.nsIn K mainGlobals "MarkupError" = some (some (.ref C_MarkupError)))
    (b_BadBinding : PySem.W.nsIn K mainGlobals "BadBinding" = some (some (.ref C_BadBinding)))
    (b_Unbound : PySem.W.nsIn K mainGlobals "Unbound" = some (some (.ref C_Unbound)))
    (b_Repeated : PySem.W.nsIn K mainGlobals "Repeated" = some (some (.ref C_Repeated)))
    (b_Scope : PySem.W.nsIn K mainGlobals "Scope" = some (some (.ref C_Scope)))
    (m1 : PySem.W.readsIn K C_MarkupError (.type "type") = true)
    (m2 : PySem.W.specialIn K (.ref C_MarkupError) "__getattribute__" = some (some (.builtin "type.__getattribute__")))
    (m3 : PySem.W.findCls K (.ref C_MarkupError) (.type "type") "__init__" = some (.val (.builtin "ValueError.__init__")))
    (u1 : PySem.W.specialIn K (.builtin "object.__class__") "__get__" = some (some (.builtin "getset_descriptor.__get__")))
    (u2 : PySem.W.takesIn K (.builtin "object.__class__") = some true)
    (o1_InvalidName : K.lookup C_InvalidName = some (excClassObj nmE_InvalidName qnE_InvalidName C_InvalidName NSE_InvalidName bsE_InvalidName [.ref C_MarkupError, .type "ValueError", .type "Exception", .type "BaseException", .type "object"] true snE_InvalidName subE_InvalidName abE_InvalidName colE_InvalidName ddE_InvalidName k0E_InvalidName k1E_InvalidName k2E_InvalidName k3E_InvalidName k5E_InvalidName "ValueError.__new__"))
    (o2_InvalidName : PySem.W.findIn K (.ref C_InvalidName) "__setattr__" = some (some (.builtin "object.__setattr__")))
    (o3_InvalidName : PySem.W.subIn K (.ref C_InvalidName) (.type "BaseException") = some true)
    (o4_InvalidName : PySem.W.typeIn K (.ref C_InvalidName) = some (.type "type"))
    (o5_InvalidName : PySem.W.keepIn K (.ref C_InvalidName) = true)
    (i1_InvalidName : PySem.W.findIn K (.ref C_InvalidName) "__init__" = some (some (.ref I_InvalidName)))
    (i2_InvalidName : PySem.W.typeIn K (.ref I_InvalidName) = some (.type "function"))
    (i3_InvalidName : K.lookup I_InvalidName = some ⟨ocI_InvalidName, odI_InvalidName, .func (PySem.W.fnOf "__init__" "InvalidName.__init__" (defArgs s_InvalidName___init__) (defBody s_InvalidName___init__) (defScope s_InvalidName___init__) .none kVI_InvalidName dcI_InvalidName pmI_InvalidName anI_InvalidName cdI_InvalidName ctI_InvalidName), slI_InvalidName⟩)
    (i4_InvalidName : PySem.W.codeIn K cdI_InvalidName "InvalidName.__init__" = true)
    (i5_InvalidName : PySem.W.keepIn K (.ref I_InvalidName) = true)
    (i6_InvalidName : PySem.W.findIn K (.ref C_InvalidName) "given" = some none)
    (q1_InvalidName : (PySem.W.clsIn K C_InvalidName).isSome = true)
    (q2_InvalidName : PySem.W.findIn K (.ref C_InvalidName) "__getattribute__" = some (some (.builtin "BaseException.__getattribute__")))
    (q3_InvalidName : PySem.W.findIn K (.ref C_InvalidName) "__getattr__" = some none)
    (q4_InvalidName : PySem.W.findIn K (.ref C_InvalidName) "__class__" = some (some (.builtin "object.__class__")))
    (q5_InvalidName : PySem.W.mroIn K C_InvalidName (.type "object") = some true)
    (q6_InvalidName : PySem.W.hasDictIn K C_InvalidName = true)
    (wc_pg : PySem.W.plainGet K C_Scope Str.empty = true)
    (wc_hd : PySem.W.hasDictIn K C_Scope = true)
    (wc_po : PySem.W.plainOver K C_Scope = true)
    (wc_sa : PySem.W.findIn K (.ref C_Scope) "__setattr__" = some (some (.builtin "object.__setattr__")))
    (wc_na_links : PySem.W.findIn K (.ref C_Scope) "links" = some none)
    (wc_mk : PySem.W.makesIn K C_Scope = true)
    (wc_kp : PySem.W.keepIn K (.ref C_Scope) = true)
    (w1_Scope___init__ : PySem.W.findIn K (.ref C_Scope) "__init__" = some (some (.ref f_Scope___init__)))
    (w2_Scope___init__ : K.lookup f_Scope___init__ = some ⟨oc_Scope___init__, od_Scope___init__, .func (PySem.W.fnOf "__init__" "Scope.__init__" (defArgs s_Scope___init__) (defBody s_Scope___init__) (defScope s_Scope___init__) .none kV_Scope___init__ dc_Scope___init__ pm_Scope___init__ an_Scope___init__ cd_Scope___init__ ct_Scope___init__), sl_Scope___init__⟩)
    (w3_Scope___init__ : PySem.W.codeIn K cd_Scope___init__ "Scope.__init__" = true)
    (w4_Scope___init__ : PySem.W.keepIn K (.ref f_Scope___init__) = true)
    (w5_Scope___init__ : PySem.W.isFn K (.ref f_Scope___init__) = true)
    (w1_Scope___contains__ : PySem.W.findIn K (.ref C_Scope) "__contains__" = some (some (.ref f_Scope___contains__)))
    (w2_Scope___contains__ : K.lookup f_Scope___contains__ = some ⟨oc_Scope___contains__, od_Scope___contains__, .func (PySem.W.fnOf "__contains__" "Scope.__contains__" (defArgs s_Scope___contains__) (defBody s_Scope___contains__) (defScope s_Scope___contains__) .none kV_Scope___contains__ dc_Scope___contains__ pm_Scope___contains__ an_Scope___contains__ cd_Scope___contains__ ct_Scope___contains__), sl_Scope___contains__⟩)
    (w3_Scope___contains__ : PySem.W.codeIn K cd_Scope___contains__ "Scope.__contains__" = true)
    (w4_Scope___contains__ : PySem.W.keepIn K (.ref f_Scope___contains__) = true)
    (w5_Scope___contains__ : PySem.W.isFn K (.ref f_Scope___contains__) = true)
    (w6_Scope___contains__ : PySem.W.fnIn K f_Scope___contains__ = true)
    (w1_Scope___getitem__ : PySem.W.findIn K (.ref C_Scope) "__getitem__" = some (some (.ref f_Scope___getitem__)))
    (w2_Scope___getitem__ : K.lookup f_Scope___getitem__ = some ⟨oc_Scope___getitem__, od_Scope___getitem__, .func (PySem.W.fnOf "__getitem__" "Scope.__getitem__" (defArgs s_Scope___getitem__) (defBody s_Scope___getitem__) (defScope s_Scope___getitem__) .none kV_Scope___getitem__ dc_Scope___getitem__ pm_Scope___getitem__ an_Scope___getitem__ cd_Scope___getitem__ ct_Scope___getitem__), sl_Scope___getitem__⟩)
    (w3_Scope___getitem__ : PySem.W.codeIn K cd_Scope___getitem__ "Scope.__getitem__" = true)
    (w4_Scope___getitem__ : PySem.W.keepIn K (.ref f_Scope___getitem__) = true)
    (w5_Scope___getitem__ : PySem.W.isFn K (.ref f_Scope___getitem__) = true)
    (w6_Scope___getitem__ : PySem.W.fnIn K f_Scope___getitem__ = true)
    (w1_Scope___str__ : PySem.W.findIn K (.ref C_Scope) "__str__" = some (some (.ref f_Scope___str__)))
    (w2_Scope___str__ : K.lookup f_Scope___str__ = some ⟨oc_Scope___str__, od_Scope___str__, .func (PySem.W.fnOf "__str__" "Scope.__str__" (defArgs s_Scope___str__) (defBody s_Scope___str__) (defScope s_Scope___str__) .none kV_Scope___str__ dc_Scope___str__ pm_Scope___str__ an_Scope___str__ cd_Scope___str__ ct_Scope___str__), sl_Scope___str__⟩)
    (w3_Scope___str__ : PySem.W.codeIn K cd_Scope___str__ "Scope.__str__" = true)
    (w4_Scope___str__ : PySem.W.keepIn K (.ref f_Scope___str__) = true)
    (w5_Scope___str__ : PySem.W.isFn K (.ref f_Scope___str__) = true)
    (w6_Scope___str__ : PySem.W.fnIn K f_Scope___str__ = true)
    (w1_Scope_meaning : PySem.W.findIn K (.ref C_Scope) "meaning" = some (some (.ref f_Scope_meaning)))
    (w2_Scope_meaning : K.lookup f_Scope_meaning = some ⟨oc_Scope_meaning, od_Scope_meaning, .func (PySem.W.fnOf "meaning" "Scope.meaning" (defArgs s_Scope_meaning) (defBody s_Scope_meaning) (defScope s_Scope_meaning) .none kV_Scope_meaning dc_Scope_meaning pm_Scope_meaning an_Scope_meaning cd_Scope_meaning ct_Scope_meaning), sl_Scope_meaning⟩)
    (w3_Scope_meaning : PySem.W.codeIn K cd_Scope_meaning "Scope.meaning" = true)
    (w4_Scope_meaning : PySem.W.keepIn K (.ref f_Scope_meaning) = true)
    (w5_Scope_meaning : PySem.W.isFn K (.ref f_Scope_meaning) = true)
    (w1_Scope_expanded : PySem.W.findIn K (.ref C_Scope) "expanded" = some (some (.ref f_Scope_expanded)))
    (w2_Scope_expanded : K.lookup f_Scope_expanded = some ⟨oc_Scope_expanded, od_Scope_expanded, .func (PySem.W.fnOf "expanded" "Scope.expanded" (defArgs s_Scope_expanded) (defBody s_Scope_expanded) (defScope s_Scope_expanded) .none kV_Scope_expanded dc_Scope_expanded pm_Scope_expanded an_Scope_expanded cd_Scope_expanded ct_Scope_expanded), sl_Scope_expanded⟩)
    (q1_kwd : He.kwdB K kV_Scope_expanded [("attribute", .bl false)] = true)
    (w3_Scope_expanded : PySem.W.codeIn K cd_Scope_expanded "Scope.expanded" = true)
    (w4_Scope_expanded : PySem.W.keepIn K (.ref f_Scope_expanded) = true)
    (w5_Scope_expanded : PySem.W.isFn K (.ref f_Scope_expanded) = true)
    (o1_BadBinding : K.lookup C_BadBinding = some (excClassObj nmE_BadBinding qnE_BadBinding C_BadBinding NSE_BadBinding bsE_BadBinding [.ref C_MarkupError, .type "ValueError", .type "Exception", .type "BaseException", .type "object"] true snE_BadBinding subE_BadBinding abE_BadBinding colE_BadBinding ddE_BadBinding k0E_BadBinding k1E_BadBinding k2E_BadBinding k3E_BadBinding k5E_BadBinding "ValueError.__new__"))
    (o4_BadBinding : PySem.W.typeIn K (.ref C_BadBinding) = some (.type "type"))
    (i1_BadBinding : PySem.W.findIn K (.ref C_BadBinding) "__init__" = some (some (.ref I_BadBinding)))
    (i2_BadBinding : PySem.W.typeIn K (.ref I_BadBinding) = some (.type "function"))
    (i3_BadBinding : K.lookup I_BadBinding = some ⟨ocI_BadBinding, odI_BadBinding, .func (PySem.W.fnOf "__init__" "BadBinding.__init__" (defArgs s_BadBinding___init__) (defBody s_BadBinding___init__) (defScope s_BadBinding___init__) .none kVI_BadBinding dcI_BadBinding pmI_BadBinding anI_BadBinding cdI_BadBinding ctI_BadBinding), slI_BadBinding⟩)
    (i4_BadBinding : PySem.W.codeIn K cdI_BadBinding "BadBinding.__init__" = true)
    (i5_BadBinding : PySem.W.keepIn K (.ref I_BadBinding) = true)
    (q1_BadBinding : clB K C_BadBinding ["spelling", "place"] = true)
    (xk1_b_BadBinding : PySem.W.kitOne K (.ref C_BadBinding) (.ref C_MarkupError) = some true)
    (o1_Unbound : K.lookup C_Unbound = some (excClassObj nmE_Unbound qnE_Unbound C_Unbound NSE_Unbound bsE_Unbound [.ref C_MarkupError, .type "ValueError", .type "Exception", .type "BaseException", .type "object"] true snE_Unbound subE_Unbound abE_Unbound colE_Unbound ddE_Unbound k0E_Unbound k1E_Unbound k2E_Unbound k3E_Unbound k5E_Unbound "ValueError.__new__"))
    (o4_Unbound : PySem.W.typeIn K (.ref C_Unbound) = some (.type "type"))
    (i1_Unbound : PySem.W.findIn K (.ref C_Unbound) "__init__" = some (some (.ref I_Unbound)))
    (i2_Unbound : PySem.W.typeIn K (.ref I_Unbound) = some (.type "function"))
    (i3_Unbound : K.lookup I_Unbound = some ⟨ocI_Unbound, odI_Unbound, .func (PySem.W.fnOf "__init__" "Unbound.__init__" (defArgs s_Unbound___init__) (defBody s_Unbound___init__) (defScope s_Unbound___init__) .none kVI_Unbound dcI_Unbound pmI_Unbound anI_Unbound cdI_Unbound ctI_Unbound), slI_Unbound⟩)
    (i4_Unbound : PySem.W.codeIn K cdI_Unbound "Unbound.__init__" = true)
    (i5_Unbound : PySem.W.keepIn K (.ref I_Unbound) = true)
    (q1_Unbound : clB K C_Unbound ["spelling", "place"] = true)
    (xk1_b_Unbound : PySem.W.kitOne K (.ref C_Unbound) (.ref C_MarkupError) = some true)
    (o1_Repeated : K.lookup C_Repeated = some (excClassObj nmE_Repeated qnE_Repeated C_Repeated NSE_Repeated bsE_Repeated [.ref C_MarkupError, .type "ValueError", .type "Exception", .type "BaseException", .type "object"] true snE_Repeated subE_Repeated abE_Repeated colE_Repeated ddE_Repeated k0E_Repeated k1E_Repeated k2E_Repeated k3E_Repeated k5E_Repeated "ValueError.__new__"))
    (o4_Repeated : PySem.W.typeIn K (.ref C_Repeated) = some (.type "type"))
    (i1_Repeated : PySem.W.findIn K (.ref C_Repeated) "__init__" = some (some (.ref I_Repeated)))
    (i2_Repeated : PySem.W.typeIn K (.ref I_Repeated) = some (.type "function"))
    (i3_Repeated : K.lookup I_Repeated = some ⟨ocI_Repeated, odI_Repeated, .func (PySem.W.fnOf "__init__" "Repeated.__init__" (defArgs s_Repeated___init__) (defBody s_Repeated___init__) (defScope s_Repeated___init__) .none kVI_Repeated dcI_Repeated pmI_Repeated anI_Repeated cdI_Repeated ctI_Repeated), slI_Repeated⟩)
    (i4_Repeated : PySem.W.codeIn K cdI_Repeated "Repeated.__init__" = true)
    (i5_Repeated : PySem.W.keepIn K (.ref I_Repeated) = true)
    (q1_Repeated : clB K C_Repeated ["spelling", "place"] = true)
    (xk1_b_Repeated : PySem.W.kitOne K (.ref C_Repeated) (.ref C_MarkupError) = some true)
    (xk2_BadBinding_BadBinding : PySem.W.kitOne K (.ref C_BadBinding) (.ref C_BadBinding) = some true)
    (xk2_Unbound_BadBinding : PySem.W.kitOne K (.ref C_Unbound) (.ref C_BadBinding) = some false)
    (xk2_Unbound_Unbound : PySem.W.kitOne K (.ref C_Unbound) (.ref C_Unbound) = some true)
    (xk2_Repeated_BadBinding : PySem.W.kitOne K (.ref C_Repeated) (.ref C_BadBinding) = some false)
    (xk2_Repeated_Unbound : PySem.W.kitOne K (.ref C_Repeated) (.ref C_Unbound) = some false)
    (xk2_Repeated_Repeated : PySem.W.kitOne K (.ref C_Repeated) (.ref C_Repeated) = some true)
    (xk2_InvalidName_BadBinding : PySem.W.kitOne K (.ref C_InvalidName) (.ref C_BadBinding) = some false)
    (xk2_InvalidName_Unbound : PySem.W.kitOne K (.ref C_InvalidName) (.ref C_Unbound) = some false)
    (xk2_InvalidName_Repeated : PySem.W.kitOne K (.ref C_InvalidName) (.ref C_Repeated) = some false)
    (xk2_InvalidName_InvalidName : PySem.W.kitOne K (.ref C_InvalidName) (.ref C_InvalidName) = some true)
    (xe_BadBinding : PySem.W.exmAny K (.ref C_BadBinding) [.ref C_BadBinding, .ref C_InvalidName, .ref C_Repeated, .ref C_Unbound] = some true)
    (xe_Unbound : PySem.W.exmAny K (.ref C_Unbound) [.ref C_BadBinding, .ref C_InvalidName, .ref C_Repeated, .ref C_Unbound] = some true)
    (xe_Repeated : PySem.W.exmAny K (.ref C_Repeated) [.ref C_BadBinding, .ref C_InvalidName, .ref C_Repeated, .ref C_Unbound] = some true)
    (xe_InvalidName : PySem.W.exmAny K (.ref C_InvalidName) [.ref C_BadBinding, .ref C_InvalidName, .ref C_Repeated, .ref C_Unbound] = some true) :
    LawG l w K CX0 11 63 "script" mg fa h := by
  have e := hfa.symm.trans (PySem.W.mg_of X G a_law)
  cases e
  refine ⟨PySem.W.fnOf "law" "law" (defArgs s_law) (defBody s_law) (defScope s_law) .none kV_law dc_law pm_law an_law cd_law ct_law, [(cL__law_right, P__law_right)], sp_law K [(P__law_right, "_law_right.<locals>.<lambda>")], ?_, ?_, ?_, fun s v => .of_eq rfl, ?_, ?_⟩
  · intro p hp
    simp only [List.mem_cons, List.not_mem_nil, or_false] at hp
    rcases hp with rfl
    · exact tg__law_right
  · intro p hp
    simp only [List.mem_cons, List.not_mem_nil, or_false] at hp
    rcases hp with rfl
    · exact np__law_right
  · intro p hp
    simp only [List.mem_cons, List.not_mem_nil, or_false] at hp
    rcases hp with rfl
    · exact tb__law_right
  · intro H a ns hn _ ht hs
    refine ⟨a, ns, rfl, hs, hn, fun p hp => ?_, fun _ => rfl⟩
    simp only [List.mem_cons, List.not_mem_nil, or_false] at hp
    rcases hp with rfl
    · exact LamX.TabS.nil (ht (cL__law_right, P__law_right) (by simp))
  intro base inB nsB tabB
  have F_is_part_of_name := fun_mk (st := s_is_part_of_name) l_is_part_of_name c_is_part_of_name k_is_part_of_name
  have B_is_part_of_name := F_is_part_of_name.binds (ps := ["value"]) fun _ _ _ _ _ _ us hl => match us, hl with | [_], _ => rfl
  have F_cut_name := fun_mk (st := s_cut_name) l_cut_name c_cut_name k_cut_name
  have B_cut_name := F_cut_name.binds (ps := ["name"]) fun _ _ _ _ _ _ us hl => match us, hl with | [_], _ => rfl
  have F_split_name := fun_mk (st := s_split_name) l_split_name c_split_name k_split_name
  have B_split_name := F_split_name.binds (ps := ["name"]) fun _ _ _ _ _ _ us hl => match us, hl with | [_], _ => rfl
  have F_is_bad_binding := fun_mk (st := s_is_bad_binding) l_is_bad_binding c_is_bad_binding k_is_bad_binding
  have B_is_bad_binding := F_is_bad_binding.binds (ps := ["prefix", "namespace"]) fun _ _ _ _ _ _ us hl => match us, hl with | [_, _], _ => rfl
  have F_binding_name := fun_mk (st := s_binding_name) l_binding_name c_binding_name k_binding_name
  have B_binding_name := F_binding_name.binds (ps := ["prefix"]) fun _ _ _ _ _ _ us hl => match us, hl with | [_], _ => rfl
  have F_check_pairs := fun_mk (st := s_check_pairs) l_check_pairs c_check_pairs k_check_pairs
  have B_check_pairs := F_check_pairs.binds (ps := ["pairs", "is_wish"]) fun _ _ _ _ _ _ us hl => match us, hl with | [_, _], _ => rfl
  have F_joined_links := fun_mk (st := s_joined_links) l_joined_links c_joined_links k_joined_links
  have B_joined_links := F_joined_links.binds (ps := ["links", "pairs"]) fun _ _ _ _ _ _ us hl => match us, hl with | [_, _], _ => rfl
  have F__law_begin := fun_mk (st := s__law_begin) l__law_begin c__law_begin k__law_begin
  have B__law_begin := F__law_begin.binds (ps := ["script", "spot"]) fun _ _ _ _ _ _ us hl => match us, hl with | [_, _], _ => rfl
  have F__law_draw := fun_mk (st := s__law_draw) l__law_draw c__law_draw k__law_draw
  have B__law_draw := F__law_draw.binds (ps := ["state", "size"]) fun _ _ _ _ _ _ us hl => match us, hl with | [_, _], _ => rfl
  have F__law_word := fun_mk (st := s__law_word) l__law_word c__law_word k__law_word
  have B__law_word := F__law_word.binds (ps := ["caught"]) fun _ _ _ _ _ _ us hl => match us, hl with | [_], _ => rfl
  have F__law_error := fun_mk (st := s__law_error) l__law_error c__law_error k__law_error
  have B__law_error := F__law_error.binds (ps := ["call"]) fun _ _ _ _ _ _ us hl => match us, hl with | [_], _ => rfl
  have F__law_pick := fun_mk (st := s__law_pick) l__law_pick c__law_pick k__law_pick
  have B__law_pick := F__law_pick.binds (ps := ["state", "items"]) fun _ _ _ _ _ _ us hl => match us, hl with | [_, _], _ => rfl
  have F__law_part := fun_mk (st := s__law_part) l__law_part c__law_part k__law_part
  have B__law_part := F__law_part.binds (ps := ["state"]) fun _ _ _ _ _ _ us hl => match us, hl with | [_], _ => rfl
  have F__law_is_part := fun_mk (st := s__law_is_part) l__law_is_part c__law_is_part k__law_is_part
  have B__law_is_part := F__law_is_part.binds (ps := ["word"]) fun _ _ _ _ _ _ us hl => match us, hl with | [_], _ => rfl
  have F__law_is_name := fun_mk (st := s__law_is_name) l__law_is_name c__law_is_name k__law_is_name
  have B__law_is_name := F__law_is_name.binds (ps := ["thing"]) fun _ _ _ _ _ _ us hl => match us, hl with | [_], _ => rfl
  have F__law_bent := fun_mk (st := s__law_bent) l__law_bent c__law_bent k__law_bent
  have B__law_bent := F__law_bent.binds (ps := ["state", "label"]) fun _ _ _ _ _ _ us hl => match us, hl with | [_, _], _ => rfl
  have F__law_right := fun_mk (st := s__law_right) l__law_right c__law_right k__law_right
  have B__law_right := F__law_right.binds (ps := ["scope", "thing"]) fun _ _ _ _ _ _ us hl => match us, hl with | [_, _], _ => rfl
  have BM : BaseT K mg "MarkupError" C_MarkupError := ⟨PySem.W.mg_of X G b_MarkupError, m1, m2, m3⟩
  have FI_InvalidName := fun_mk (st := s_InvalidName___init__) i3_InvalidName i4_InvalidName i5_InvalidName
  have OX_InvalidName : OexC K C_InvalidName := ⟨⟨_, _, _, _, _, _, _, _, _, _, _, _, _, _, _, o1_InvalidName, rfl⟩, o2_InvalidName, o3_InvalidName, o4_InvalidName, o5_InvalidName⟩
  have F_Scope_expanded : L2.FunD K "expanded" "Scope.expanded" (defArgs s_Scope_expanded) (defBody s_Scope_expanded) (defScope s_Scope_expanded) [] [("attribute", .bl false)] f_Scope_expanded _ := ⟨⟨_, _, _, _, _, _, _, _, _, _, rfl, w2_Scope_expanded, w3_Scope_expanded, .inl ⟨rfl, rfl⟩, He.kwdB_ok q1_kwd⟩, w4_Scope_expanded⟩
  obtain ⟨ds_Scope_expanded, v_Scope_expanded, bb_Scope_expanded⟩ := F_Scope_expanded.binds0 (ps := ["self", "name", "attribute"]) 2 (by simp) (by rfl) (fun D doc pm an cdv ct us ks h1 h2 => match us, ks, h1, h2 with | [_, _], [_], _, _ => ⟨_, _, _, _, _, _, rfl, rfl, rfl⟩)
  have BG : BaseG K mg ebV "MarkupError" C_MarkupError := ⟨PySem.W.mg_of X G b_MarkupError, m1, m2, m3, by decide +kernel⟩
  have X_BadBinding := clB_ok q1_BadBinding
  have FI_BadBinding := fun_mk (st := s_BadBinding___init__) i3_BadBinding i4_BadBinding i5_BadBinding
  have OG_BadBinding : OexG K ebV C_BadBinding := ⟨ebV_ok, ⟨_, _, _, _, [C_MarkupError], _, _, _, _, _, _, _, _, _, _, o1_BadBinding⟩, X_BadBinding.h8, X_BadBinding.h9⟩
  have OX_BadBinding : OexC K C_BadBinding := ⟨⟨_, _, _, _, _, _, _, _, _, _, _, _, _, _, _, o1_BadBinding, rfl⟩, X_BadBinding.h8, X_BadBinding.h4, o4_BadBinding, X_BadBinding.h9⟩
  have X_Unbound := clB_ok q1_Unbound
  have FI_Unbound := fun_mk (st := s_Unbound___init__) i3_Unbound i4_Unbound i5_Unbound
  have OG_Unbound : OexG K ebV C_Unbound := ⟨ebV_ok, ⟨_, _, _, _, [C_MarkupError], _, _, _, _, _, _, _, _, _, _, o1_Unbound⟩, X_Unbound.h8, X_Unbound.h9⟩
  have OX_Unbound : OexC K C_Unbound := ⟨⟨_, _, _, _, _, _, _, _, _, _, _, _, _, _, _, o1_Unbound, rfl⟩, X_Unbound.h8, X_Unbound.h4, o4_Unbound, X_Unbound.h9⟩
  have X_Repeated := clB_ok q1_Repeated
  have FI_Repeated := fun_mk (st := s_Repeated___init__) i3_Repeated i4_Repeated i5_Repeated
  have OG_Repeated : OexG K ebV C_Repeated := ⟨ebV_ok, ⟨_, _, _, _, [C_MarkupError], _, _, _, _, _, _, _, _, _, _, o1_Repeated⟩, X_Repeated.h8, X_Repeated.h9⟩
  have OX_Repeated : OexC K C_Repeated := ⟨⟨_, _, _, _, _, _, _, _, _, _, _, _, _, _, _, o1_Repeated, rfl⟩, X_Repeated.h8, X_Repeated.h4, o4_Repeated, X_Repeated.h9⟩
  obtain ⟨T, e__law_right⟩ : ∃ T : Tx l.prog w K mg base, (T.d__law_right.f = f__law_right ∧ T.d__law_right.fd = PySem.W.fnOf "_law_right" "_law_right" (defArgs s__law_right) (defBody s__law_right) (defScope s__law_right) .none kV__law_right dc__law_right pm__law_right an__law_right (.ref cL__law_right) ct__law_right) := ⟨{
    d_is_part_of_name := ⟨_, _, F_is_part_of_name, PySem.W.mg_of X G a_is_part_of_name, B_is_part_of_name⟩
    d_cut_name := ⟨_, _, F_cut_name, PySem.W.mg_of X G a_cut_name, B_cut_name⟩
    d_split_name := ⟨_, _, F_split_name, PySem.W.mg_of X G a_split_name, B_split_name⟩
    d_is_bad_binding := ⟨_, _, F_is_bad_binding, PySem.W.mg_of X G a_is_bad_binding, B_is_bad_binding⟩
    d_binding_name := ⟨_, _, F_binding_name, PySem.W.mg_of X G a_binding_name, B_binding_name⟩
    d_check_pairs := ⟨_, _, F_check_pairs, PySem.W.mg_of X G a_check_pairs, B_check_pairs⟩
    d_joined_links := ⟨_, _, F_joined_links, PySem.W.mg_of X G a_joined_links, B_joined_links⟩
    d__law_begin := ⟨_, _, F__law_begin, PySem.W.mg_of X G a__law_begin, B__law_begin⟩
    d__law_draw := ⟨_, _, F__law_draw, PySem.W.mg_of X G a__law_draw, B__law_draw⟩
    d__law_word := ⟨_, _, F__law_word, PySem.W.mg_of X G a__law_word, B__law_word⟩
    d__law_error := ⟨_, _, F__law_error, PySem.W.mg_of X G a__law_error, B__law_error⟩
    d__law_pick := ⟨_, _, F__law_pick, PySem.W.mg_of X G a__law_pick, B__law_pick⟩
    d__law_part := ⟨_, _, F__law_part, PySem.W.mg_of X G a__law_part, B__law_part⟩
    d__law_is_part := ⟨_, _, F__law_is_part, PySem.W.mg_of X G a__law_is_part, B__law_is_part⟩
    d__law_is_name := ⟨_, _, F__law_is_name, PySem.W.mg_of X G a__law_is_name, B__law_is_name⟩
    d__law_bent := ⟨_, _, F__law_bent, PySem.W.mg_of X G a__law_bent, B__law_bent⟩
    d__law_right := ⟨_, _, F__law_right, PySem.W.mg_of X G a__law_right, B__law_right⟩
    n_isinstance := PySem.W.mg_none_of X G n_isinstance
    n_str := PySem.W.mg_none_of X G n_str
    n_int := PySem.W.mg_none_of X G n_int
    n_len := PySem.W.mg_none_of X G n_len
    n_range := PySem.W.mg_none_of X G n_range
    n_all := PySem.W.mg_none_of X G n_all
    n_enumerate := PySem.W.mg_none_of X G n_enumerate
    n_sorted := PySem.W.mg_none_of X G n_sorted
    n_repr := PySem.W.mg_none_of X G n_repr
    n_dict := PySem.W.mg_none_of X G n_dict
    n_tuple := PySem.W.mg_none_of X G n_tuple
    n_min := PySem.W.mg_none_of X G n_min
    g_LETTERS := ⟨_, PySem.W.mg_of X G g_LETTERS, ⟨_, rfl⟩⟩
    g_INNER := ⟨_, PySem.W.mg_of X G g_INNER, ⟨_, rfl⟩⟩
    g_XML := ⟨_, PySem.W.mg_of X G g_XML, ⟨_, rfl⟩⟩
    g_XMLNS := ⟨_, PySem.W.mg_of X G g_XMLNS, ⟨_, rfl⟩⟩
    a_InvalidName := C_InvalidName
    i_InvalidName := I_InvalidName
    fd_InvalidName := _
    x_InvalidName := ⟨OX_InvalidName, PySem.W.mg_of X G b_InvalidName, i1_InvalidName, i2_InvalidName, ok_InvalidName___init__ BM FI_InvalidName i6_InvalidName, FI_InvalidName.binds (ps := ["self", "given"]) fun _ _ _ _ _ _ us hl => match us, hl with | [_, _], _ => rfl⟩
    a_MarkupError := C_MarkupError
    m_MarkupError := PySem.W.mg_of X G b_MarkupError
    C_Scope := C_Scope
    cl_Scope := ⟨wc_pg, wc_hd, wc_po, wc_sa⟩
    mg_Scope := PySem.W.mg_of X G b_Scope
    na_links := wc_na_links
    f_Scope___init__ := f_Scope___init__
    F_Scope___init__ := ⟨_, fun_mk (st := s_Scope___init__) w2_Scope___init__ w3_Scope___init__ w4_Scope___init__⟩
    mk_Scope := ⟨wc_mk, w1_Scope___init__, w5_Scope___init__, wc_kp⟩
    f_Scope___contains__ := f_Scope___contains__
    fd_Scope___contains__ := _
    F_Scope___contains__ := fun_mk (st := s_Scope___contains__) w2_Scope___contains__ w3_Scope___contains__ w4_Scope___contains__
    b_Scope___contains__ := (fun_mk (st := s_Scope___contains__) w2_Scope___contains__ w3_Scope___contains__ w4_Scope___contains__).binds (ps := ["self", "prefix"]) fun _ _ _ _ _ _ us hl => match us, hl with | [_, _], _ => rfl
    ow_Scope___contains__ := ⟨w1_Scope___contains__, w5_Scope___contains__⟩
    fn_Scope___contains__ := w6_Scope___contains__
    f_Scope___getitem__ := f_Scope___getitem__
    fd_Scope___getitem__ := _
    F_Scope___getitem__ := fun_mk (st := s_Scope___getitem__) w2_Scope___getitem__ w3_Scope___getitem__ w4_Scope___getitem__
    b_Scope___getitem__ := (fun_mk (st := s_Scope___getitem__) w2_Scope___getitem__ w3_Scope___getitem__ w4_Scope___getitem__).binds (ps := ["self", "prefix"]) fun _ _ _ _ _ _ us hl => match us, hl with | [_, _], _ => rfl
    ow_Scope___getitem__ := ⟨w1_Scope___getitem__, w5_Scope___getitem__⟩
    fn_Scope___getitem__ := w6_Scope___getitem__
    f_Scope___str__ := f_Scope___str__
    fd_Scope___str__ := _
    F_Scope___str__ := fun_mk (st := s_Scope___str__) w2_Scope___str__ w3_Scope___str__ w4_Scope___str__
    b_Scope___str__ := (fun_mk (st := s_Scope___str__) w2_Scope___str__ w3_Scope___str__ w4_Scope___str__).binds (ps := ["self"]) fun _ _ _ _ _ _ us hl => match us, hl with | [_], _ => rfl
    ow_Scope___str__ := ⟨w1_Scope___str__, w5_Scope___str__⟩
    fn_Scope___str__ := w6_Scope___str__
    f_Scope_meaning := f_Scope_meaning
    fd_Scope_meaning := _
    F_Scope_meaning := fun_mk (st := s_Scope_meaning) w2_Scope_meaning w3_Scope_meaning w4_Scope_meaning
    b_Scope_meaning := (fun_mk (st := s_Scope_meaning) w2_Scope_meaning w3_Scope_meaning w4_Scope_meaning).binds (ps := ["self", "name", "is_attribute", "place"]) fun _ _ _ _ _ _ us hl => match us, hl with | [_, _, _, _], _ => rfl
    me_Scope_meaning := ⟨w1_Scope_meaning, w5_Scope_meaning, w4_Scope_meaning⟩
    f_Scope_expanded := f_Scope_expanded
    fd_Scope_expanded := _
    F_Scope_expanded := F_Scope_expanded
    ds_Scope_expanded := ds_Scope_expanded
    hd_Scope_expanded := v_Scope_expanded
    b_Scope_expanded := bb_Scope_expanded
    kb2_Scope_expanded := Mx.kb_21 F_Scope_expanded rfl fun _ _ _ _ _ _ _ _ _ => rfl
    kb_Scope_expanded := Mx.kb_12 F_Scope_expanded rfl fun _ _ _ _ _ _ _ _ _ => rfl
    me_Scope_expanded := ⟨w1_Scope_expanded, w5_Scope_expanded, w4_Scope_expanded⟩
    kb_split_name := kb_of F_split_name fun _ _ _ _ _ _ us ws hl => match us, ws, hl with | [], [_], _ => rfl | [_], [], _ => rfl
    a_BadBinding := C_BadBinding
    i_BadBinding := I_BadBinding
    fd_BadBinding := _
    xs_BadBinding := ⟨OX_BadBinding, ⟨OG_BadBinding, PySem.W.mg_of X G b_BadBinding, i1_BadBinding, i2_BadBinding, ok_BadBinding___init__ BG FI_BadBinding OG_BadBinding (X_BadBinding.hf _ (by simp)) (X_BadBinding.hf _ (by simp)), FI_BadBinding.binds (ps := ["self", "spelling", "place"]) fun _ _ _ _ _ _ us hl => match us, hl with | [_, _, _], _ => rfl⟩, X_BadBinding.xc u1 u2⟩
    fs_BadBinding := X_BadBinding.hf _ (by simp)
    fp_BadBinding := X_BadBinding.hf _ (by simp)
    xb_BadBinding := xk1_b_BadBinding
    a_Unbound := C_Unbound
    i_Unbound := I_Unbound
    fd_Unbound := _
    xs_Unbound := ⟨OX_Unbound, ⟨OG_Unbound, PySem.W.mg_of X G b_Unbound, i1_Unbound, i2_Unbound, ok_Unbound___init__ BG FI_Unbound OG_Unbound (X_Unbound.hf _ (by simp)) (X_Unbound.hf _ (by simp)), FI_Unbound.binds (ps := ["self", "spelling", "place"]) fun _ _ _ _ _ _ us hl => match us, hl with | [_, _, _], _ => rfl⟩, X_Unbound.xc u1 u2⟩
    fs_Unbound := X_Unbound.hf _ (by simp)
    fp_Unbound := X_Unbound.hf _ (by simp)
    xb_Unbound := xk1_b_Unbound
    a_Repeated := C_Repeated
    i_Repeated := I_Repeated
    fd_Repeated := _
    xs_Repeated := ⟨OX_Repeated, ⟨OG_Repeated, PySem.W.mg_of X G b_Repeated, i1_Repeated, i2_Repeated, ok_Repeated___init__ BG FI_Repeated OG_Repeated (X_Repeated.hf _ (by simp)) (X_Repeated.hf _ (by simp)), FI_Repeated.binds (ps := ["self", "spelling", "place"]) fun _ _ _ _ _ _ us hl => match us, hl with | [_, _, _], _ => rfl⟩, X_Repeated.xc u1 u2⟩
    fs_Repeated := X_Repeated.hf _ (by simp)
    fp_Repeated := X_Repeated.hf _ (by simp)
    xb_Repeated := xk1_b_Repeated
    xc_InvalidName := ⟨q1_InvalidName, q2_InvalidName, q3_InvalidName, o3_InvalidName, q4_InvalidName, u1, u2, q5_InvalidName, q6_InvalidName⟩
    fn_InvalidName := i6_InvalidName
    k_BadBinding_BadBinding := xk2_BadBinding_BadBinding
    k_Unbound_BadBinding := xk2_Unbound_BadBinding
    k_Unbound_Unbound := xk2_Unbound_Unbound
    k_Repeated_BadBinding := xk2_Repeated_BadBinding
    k_Repeated_Unbound := xk2_Repeated_Unbound
    k_Repeated_Repeated := xk2_Repeated_Repeated
    k_InvalidName_BadBinding := xk2_InvalidName_BadBinding
    k_InvalidName_Unbound := xk2_InvalidName_Unbound
    k_InvalidName_Repeated := xk2_InvalidName_Repeated
    k_InvalidName_InvalidName := xk2_InvalidName_InvalidName
    ex_BadBinding := xe_BadBinding
    ex_Unbound := xe_Unbound
    ex_Repeated := xe_Repeated
    ex_InvalidName := xe_InvalidName
     }, ⟨rfl, rfl⟩⟩
  have G_is_part_of_name := ok_is_part_of_name T
  have G_cut_name := ok_cut_name T
  have G_split_name := ok_split_name T G_is_part_of_name G_cut_name
  have G_is_bad_binding := ok_is_bad_binding T
  have G_binding_name := ok_binding_name T
  have G_check_pairs := ok_check_pairs T G_is_part_of_name G_is_bad_binding
  have G_joined_links := ok_joined_links T
  have G_Scope___contains__ := ok_Scope___contains__ T
  have G_Scope___getitem__ := ok_Scope___getitem__ T G_Scope___contains__
  have G_Scope___str__ := ok_Scope___str__ T G_binding_name
  have G_Scope_meaning := ok_Scope_meaning T G_cut_name
  have G_Scope_expanded := ok_Scope_expanded T G_split_name G_Scope_meaning
  have G_Scope___init__ := ok_Scope___init__ T G_check_pairs G_joined_links
  have G__law_begin := ok__law_begin T
  have G__law_draw := ok__law_draw T
  have G__law_pick := ok__law_pick T G__law_draw
  have G__law_part := ok__law_part T G__law_draw G__law_pick
  have G__law_bent := ok__law_bent T G__law_draw G__law_pick
  have G__law_is_part := ok__law_is_part T
  have G__law_is_name := ok__law_is_name T G__law_is_part
  have G__law_word := ok__law_word T
  have G__law_right := ok__law_right T (cL := cL__law_right) (PL := P__law_right) (Tb := [(P__law_right, "_law_right.<locals>.<lambda>")]) (by simp) hu__law_right ⟨⟨_, _, _, _, _, _, _, _, e__law_right.2, by rw [e__law_right.1, e__law_right.2]; exact l__law_right, c__law_right⟩⟩ (tabB (cL__law_right, P__law_right) (by simp)) G_split_name G_Scope_expanded G_Scope___getitem__ G_Scope___str__ G__law_is_name G__law_word
  exact ok_law T (Tb := [(P__law_right, "_law_right.<locals>.<lambda>")]) (fun_mk (st := s_law) l_law c_law k_law) G_Scope___init__ G__law_begin G__law_part G__law_draw G__law_pick G__law_bent G__law_right G__law_word
end K4
open PySem PySem.W PyProof.Rows
set_option maxHeartbeats 0
theorem PySem.Challenge.cw_markstream_k40_names_refused_holds : PySem.Challenge.rw_markstream_k40_names_refused.Holds := by
  w_on; o_law; k_head; (case hw => w_witness2)
  k_fill
  refine Mx.walkG (l := PySem.Challenge.rw_markstream_k40_names_refused) (n := 63) (k := 11) (x := "script") (CX := fun _ => L2.CX0) rfl (by decide) rfl ⟨⟨rfl, by decide, by decide⟩, rfl⟩ (fun w h Y => by first | exact PySem.W.km_in_of Y | exact PySem.W.kIn_of Y) ?F (fun _ _ _ _ _ z => z)
  case F =>
    rintro w mg mb fa h ⟨ls, mean, Tp⟩ Y KX G hmg
    refine' K4.all_mk (P__law_right := 351) KX G hmg (PySem.W.codeHd_of_K KX ?tab__law_right) (PySem.W.km_tabs_of Y _ (by decide)) ?np__law_right (by decide +kernel) ?a_is_part_of_name ?l_is_part_of_name ?c_is_part_of_name ?k_is_part_of_name ?a_cut_name ?l_cut_name ?c_cut_name ?k_cut_name ?a_split_name ?l_split_name ?c_split_name ?k_split_name ?a_is_bad_binding ?l_is_bad_binding ?c_is_bad_binding ?k_is_bad_binding ?a_binding_name ?l_binding_name ?c_binding_name ?k_binding_name ?a_check_pairs ?l_check_pairs ?c_check_pairs ?k_check_pairs ?a_joined_links ?l_joined_links ?c_joined_links ?k_joined_links ?a__law_begin ?l__law_begin ?c__law_begin ?k__law_begin ?a__law_draw ?l__law_draw ?c__law_draw ?k__law_draw ?a__law_word ?l__law_word ?c__law_word ?k__law_word ?a__law_error ?l__law_error ?c__law_error ?k__law_error ?a__law_pick ?l__law_pick ?c__law_pick ?k__law_pick ?a__law_part ?l__law_part ?c__law_part ?k__law_part ?a__law_is_part ?l__law_is_part ?c__law_is_part ?k__law_is_part ?a__law_is_name ?l__law_is_name ?c__law_is_name ?k__law_is_name ?a__law_bent ?l__law_bent ?c__law_bent ?k__law_bent ?a__law_right ?l__law_right ?c__law_right ?k__law_right ?a_law ?l_law ?c_law ?k_law ?n_isinstance ?n_str ?n_int ?n_len ?n_range ?n_all ?n_enumerate ?n_sorted ?n_repr ?n_dict ?n_tuple ?n_min ?g_LETTERS ?g_INNER ?g_XML ?g_XMLNS ?b_InvalidName ?b_MarkupError ?b_BadBinding ?b_Unbound ?b_Repeated ?b_Scope ?m1 ?m2 ?m3 ?u1 ?u2 ?o1_InvalidName ?o2_InvalidName ?o3_InvalidName ?o4_InvalidName ?o5_InvalidName ?i1_InvalidName ?i2_InvalidName ?i3_InvalidName ?i4_InvalidName ?i5_InvalidName ?i6_InvalidName ?q1_InvalidName ?q2_InvalidName ?q3_InvalidName ?q4_InvalidName ?q5_InvalidName ?q6_InvalidName ?wc_pg ?wc_hd ?wc_po ?wc_sa ?wc_na_links ?wc_mk ?wc_kp ?w1_Scope___init__ ?w2_Scope___init__ ?w3_Scope___init__ ?w4_Scope___init__ ?w5_Scope___init__ ?w1_Scope___contains__ ?w2_Scope___contains__ ?w3_Scope___contains__ ?w4_Scope___contains__ ?w5_Scope___contains__ ?w6_Scope___contains__ ?w1_Scope___getitem__ ?w2_Scope___getitem__ ?w3_Scope___getitem__ ?w4_Scope___getitem__ ?w5_Scope___getitem__ ?w6_Scope___getitem__ ?w1_Scope___str__ ?w2_Scope___str__ ?w3_Scope___str__ ?w4_Scope___str__ ?w5_Scope___str__ ?w6_Scope___str__ ?w1_Scope_meaning ?w2_Scope_meaning ?w3_Scope_meaning ?w4_Scope_meaning ?w5_Scope_meaning ?w1_Scope_expanded ?w2_Scope_expanded ?q1_kwd ?w3_Scope_expanded ?w4_Scope_expanded ?w5_Scope_expanded ?o1_BadBinding ?o4_BadBinding ?i1_BadBinding ?i2_BadBinding ?i3_BadBinding ?i4_BadBinding ?i5_BadBinding ?q1_BadBinding ?xk1_b_BadBinding ?o1_Unbound ?o4_Unbound ?i1_Unbound ?i2_Unbound ?i3_Unbound ?i4_Unbound ?i5_Unbound ?q1_Unbound ?xk1_b_Unbound ?o1_Repeated ?o4_Repeated ?i1_Repeated ?i2_Repeated ?i3_Repeated ?i4_Repeated ?i5_Repeated ?q1_Repeated ?xk1_b_Repeated ?xk2_BadBinding_BadBinding ?xk2_Unbound_BadBinding ?xk2_Unbound_Unbound ?xk2_Repeated_BadBinding ?xk2_Repeated_Unbound ?xk2_Repeated_Repeated ?xk2_InvalidName_BadBinding ?xk2_InvalidName_Unbound ?xk2_InvalidName_Repeated ?xk2_InvalidName_InvalidName ?xe_BadBinding ?xe_Unbound ?xe_Repeated ?xe_InvalidName
    (case a_is_part_of_name => k_is)
    (case l_is_part_of_name => k_is)
    (case c_is_part_of_name => k_is)
    (case k_is_part_of_name => k_is)
    (case a_cut_name => k_is)
    (case l_cut_name => k_is)
    (case c_cut_name => k_is)
    (case k_cut_name => k_is)
    (case a_split_name => k_is)
    (case l_split_name => k_is)
    (case c_split_name => k_is)
    (case k_split_name => k_is)
    (case a_is_bad_binding => k_is)
    (case l_is_bad_binding => k_is)
    (case c_is_bad_binding => k_is)
    (case k_is_bad_binding => k_is)
    (case a_binding_name => k_is)
    (case l_binding_name => k_is)
    (case c_binding_name => k_is)
    (case k_binding_name => k_is)
    (case a_check_pairs => k_is)
    (case l_check_pairs => k_is)
    (case c_check_pairs => k_is)
    (case k_check_pairs => k_is)
    (case a_joined_links => k_is)
    (case l_joined_links => k_is)
    (case c_joined_links => k_is)
    (case k_joined_links => k_is)
    (case a__law_begin => k_is)
    (case l__law_begin => k_is)
    (case c__law_begin => k_is)
    (case k__law_begin => k_is)
    (case a__law_draw => k_is)
    (case l__law_draw => k_is)
    (case c__law_draw => k_is)
    (case k__law_draw => k_is)
    (case a__law_word => k_is)
    (case l__law_word => k_is)
    (case c__law_word => k_is)
    (case k__law_word => k_is)
    (case a__law_error => k_is)
    (case l__law_error => k_is)
    (case c__law_error => k_is)
    (case k__law_error => k_is)
    (case a__law_pick => k_is)
    (case l__law_pick => k_is)
    (case c__law_pick => k_is)
    (case k__law_pick => k_is)
    (case a__law_part => k_is)
    (case l__law_part => k_is)
    (case c__law_part => k_is)
    (case k__law_part => k_is)
    (case a__law_is_part => k_is)
    (case l__law_is_part => k_is)
    (case c__law_is_part => k_is)
    (case k__law_is_part => k_is)
    (case a__law_is_name => k_is)
    (case l__law_is_name => k_is)
    (case c__law_is_name => k_is)
    (case k__law_is_name => k_is)
    (case a__law_bent => k_is)
    (case l__law_bent => k_is)
    (case c__law_bent => k_is)
    (case k__law_bent => k_is)
    (case a__law_right => k_is)
    (case l__law_right => k_is)
    (case c__law_right => k_is)
    (case k__law_right => k_is)
    (case a_law => k_is)
    (case l_law => k_is)
    (case c_law => k_is)
    (case k_law => k_is)
    (case n_isinstance => k_is)
    (case n_str => k_is)
    (case n_int => k_is)
    (case n_len => k_is)
    (case n_range => k_is)
    (case n_all => k_is)
    (case n_enumerate => k_is)
    (case n_sorted => k_is)
    (case n_repr => k_is)
    (case n_dict => k_is)
    (case n_tuple => k_is)
    (case n_min => k_is)
    (case g_LETTERS => k_is)
    (case g_INNER => k_is)
    (case g_XML => k_is)
    (case g_XMLNS => k_is)
    (case b_InvalidName => k_is)
    (case b_MarkupError => k_is)
    (case b_BadBinding => k_is)
    (case b_Unbound => k_is)
    (case b_Repeated => k_is)
    (case b_Scope => k_is)
    (case m1 => k_is)
    (case m2 => k_is)
    (case m3 => k_is)
    (case u1 => k_is)
    (case u2 => k_is)
    (case o1_InvalidName => k_is)
    (case o2_InvalidName => k_is)
    (case o3_InvalidName => k_is)
    (case o4_InvalidName => k_is)
    (case o5_InvalidName => k_is)
    (case i1_InvalidName => k_is)
    (case i2_InvalidName => k_is)
    (case i3_InvalidName => k_is)
    (case i4_InvalidName => k_is)
    (case i5_InvalidName => k_is)
    (case i6_InvalidName => k_is)
    (case q1_InvalidName => kernel_rfl)
    (case q2_InvalidName => k_is)
    (case q3_InvalidName => k_is)
    (case q4_InvalidName => k_is)
    (case q5_InvalidName => k_is)
    (case q6_InvalidName => k_is)
    (case wc_pg => first | k_is | kernel_rfl)
    (case wc_hd => first | k_is | kernel_rfl)
    (case wc_po => first | k_is | kernel_rfl)
    (case wc_sa => first | k_is | kernel_rfl)
    (case wc_na_links => first | k_is | kernel_rfl)
    (case wc_mk => first | k_is | kernel_rfl)
    (case wc_kp => first | k_is | kernel_rfl)
    (case w1_Scope___init__ => first | k_is | kernel_rfl)
    (case w2_Scope___init__ => first | k_is | kernel_rfl)
    (case w3_Scope___init__ => first | k_is | kernel_rfl)
    (case w4_Scope___init__ => first | k_is | kernel_rfl)
    (case w5_Scope___init__ => first | k_is | kernel_rfl)
    (case w1_Scope___contains__ => first | k_is | kernel_rfl)
    (case w2_Scope___contains__ => first | k_is | kernel_rfl)
    (case w3_Scope___contains__ => first | k_is | kernel_rfl)
    (case w4_Scope___contains__ => first | k_is | kernel_rfl)
    (case w5_Scope___contains__ => first | k_is | kernel_rfl)
    (case w6_Scope___contains__ => first | k_is | kernel_rfl)
    (case w1_Scope___getitem__ => first | k_is | kernel_rfl)
    (case w2_Scope___getitem__ => first | k_is | kernel_rfl)
    (case w3_Scope___getitem__ => first | k_is | kernel_rfl)
    (case w4_Scope___getitem__ => first | k_is | kernel_rfl)
    (case w5_Scope___getitem__ => first | k_is | kernel_rfl)
    (case w6_Scope___getitem__ => first | k_is | kernel_rfl)
    (case w1_Scope___str__ => first | k_is | kernel_rfl)
    (case w2_Scope___str__ => first | k_is | kernel_rfl)
    (case w3_Scope___str__ => first | k_is | kernel_rfl)
    (case w4_Scope___str__ => first | k_is | kernel_rfl)
    (case w5_Scope___str__ => first | k_is | kernel_rfl)
    (case w6_Scope___str__ => first | k_is | kernel_rfl)
    (case w1_Scope_meaning => first | k_is | kernel_rfl)
    (case w2_Scope_meaning => first | k_is | kernel_rfl)
    (case w3_Scope_meaning => first | k_is | kernel_rfl)
    (case w4_Scope_meaning => first | k_is | kernel_rfl)
    (case w5_Scope_meaning => first | k_is | kernel_rfl)
    (case w1_Scope_expanded => first | k_is | kernel_rfl)
    (case w2_Scope_expanded => first | k_is | kernel_rfl)
    (case q1_kwd => kernel_rfl)
    (case w3_Scope_expanded => first | k_is | kernel_rfl)
    (case w4_Scope_expanded => first | k_is | kernel_rfl)
    (case w5_Scope_expanded => first | k_is | kernel_rfl)
    (case o1_BadBinding => k_is)
    (case o4_BadBinding => k_is)
    (case i1_BadBinding => k_is)
    (case i2_BadBinding => k_is)
    (case i3_BadBinding => k_is)
    (case i4_BadBinding => k_is)
    (case i5_BadBinding => k_is)
    (case q1_BadBinding => kernel_rfl)
    (case xk1_b_BadBinding => kernel_rfl)
    (case o1_Unbound => k_is)
    (case o4_Unbound => k_is)
    (case i1_Unbound => k_is)
    (case i2_Unbound => k_is)
    (case i3_Unbound => k_is)
    (case i4_Unbound => k_is)
    (case i5_Unbound => k_is)
    (case q1_Unbound => kernel_rfl)
    (case xk1_b_Unbound => kernel_rfl)
    (case o1_Repeated => k_is)
    (case o4_Repeated => k_is)
    (case i1_Repeated => k_is)
    (case i2_Repeated => k_is)
    (case i3_Repeated => k_is)
    (case i4_Repeated => k_is)
    (case i5_Repeated => k_is)
    (case q1_Repeated => kernel_rfl)
    (case xk1_b_Repeated => kernel_rfl)
    (case xk2_BadBinding_BadBinding => kernel_rfl)
    (case xk2_Unbound_BadBinding => kernel_rfl)
    (case xk2_Unbound_Unbound => kernel_rfl)
    (case xk2_Repeated_BadBinding => kernel_rfl)
    (case xk2_Repeated_Unbound => kernel_rfl)
    (case xk2_Repeated_Repeated => kernel_rfl)
    (case xk2_InvalidName_BadBinding => kernel_rfl)
    (case xk2_InvalidName_Unbound => kernel_rfl)
    (case xk2_InvalidName_Repeated => kernel_rfl)
    (case xk2_InvalidName_InvalidName => kernel_rfl)
    (case xe_BadBinding => kernel_rfl)
    (case xe_Unbound => kernel_rfl)
    (case xe_Repeated => kernel_rfl)
    (case xe_InvalidName => kernel_rfl)
    (case np__law_right => kernel_rfl)
    (case tab__law_right => kernel_rfl)
