import PyProof.Rows.All
import Wide.All
import OpenK.AllK
import Wide.FinOn
import HandS.ForMost
import HandS.ForExc
import HandS.Lambda
import HandS.IsInst
import HandS.Defaults
import HandS.ExcInit
import HandS.TryMany
import HandS.StrMore
import PyProof.ReprRoads
import PyProof.Draws
import KE.KExcIs
import HandS.EndTab
import HandS.Walk
import HandS.BoundDict
import HandS.Small
import KE.GoesMore
import PyProof.GenRules
import PyProof.GenQ
import HandS.GenList
import HandS.Exc
import HandS.Comp
import HandS.More
import KE.KDictWalk
import HandS.Set
import HandS.SetFor
import HandS.Sort
import HandS.Strs
import PyProof.Rows.SortStr
import KE.KSuper
import HandS.ReplaceDef
import HandS.ClsMeth
import KE.GoesComp
import PyProof.StrLaws
import PyProof.Rows.StrMeet
import PyProof.Rows.StrCase
import HandS.HeadHook2
import HandS.FStr
import HandS.ReplaceLit
import HandS.Star
import HandS.Property
import HandS.Flow
import HandS.TryOnly
import HandS.Style
import HandS.ExcField
import KE.RegKSuper
import PySem.Challenge.RW_markstream_k07_whole_raw_texts_refused
set_option Elab.async false
set_option linter.all false
set_option maxRecDepth 100000
set_option maxHeartbeats 4000000
namespace Mx
open PySem PySem.Spec PyProof.Rows L2

/-! ### promises that may lean on an empty list of guards (repr) -/
structure RmG (k : Nat) (A : Around) : Prop where
  r : Room k A
  g : A.guards = some []
theorem RmG.mono {j k : Nat} {A : Around} (h : RmG k A) (l : j ≤ k) : RmG j A := ⟨h.r.mono l, h.g⟩
theorem RmG.deeper {k : Nat} {A : Around} (h : RmG (k + 1) A) (env : Env) : RmG k (A.deeper env) := ⟨h.r.deeper env, h.g⟩

structure FnG (P : Program) (w : World) (K : PySem.W.Frag) (mg : Str → Option Value) (base : Heap) (CX : CXT) (k : Nat) (f : Addr) (fd : FuncData) (ps : List Str) (sp : Sp) : Prop where
  len : ∀ vs H Q E, sp vs H Q E → vs.length = ps.length
  run : ∀ (A : Around) (outer : List Env) (s : Shared) (H : Hp) (args : Args) (us : List Value) (vs : List V) (Q : VK) (E : XK),
    RmG k A → Env0 P w K mg base A outer s H → BindsTo s fd args (ps.zip us) → Vals vs us → sp vs H Q E →
    codeAny (model P w) A (.call (.ref f) args) (CR CX outer P w H s Q E) s
theorem FnG.of {P : Program} {w : World} {K : PySem.W.Frag} {mg : Str → Option Value} {base : Heap} {CX : CXT} {j k : Nat} {f : Addr} {fd : FuncData} {ps : List Str} {sp : Sp}
    (F : FnOk P w K mg base CX j f fd ps sp) (h : j ≤ k) : FnG P w K mg base CX k f fd ps sp :=
  ⟨F.len, fun A o s H as us vs Q E hr => F.run A o s H as us vs Q E (hr.r.mono h)⟩
theorem FnG.mono {P : Program} {w : World} {K : PySem.W.Frag} {mg : Str → Option Value} {base : Heap} {CX : CXT} {j k : Nat} {f : Addr} {fd : FuncData} {ps : List Str} {sp : Sp}
    (F : FnG P w K mg base CX j f fd ps sp) (h : j ≤ k) : FnG P w K mg base CX k f fd ps sp :=
  ⟨F.len, fun A o s H as us vs Q E hr => F.run A o s H as us vs Q E (hr.mono h)⟩

section
variable {X : Cx} {CX : CXT} {k : Nat} {f C : Addr} {fd : FuncData} {ps ks : List Str} {sp : Sp} {dvs : List V} {ds : List Value} {E : XK} {x m : Str} {p pos apos : Pos} {e o : Expr} {es : List Expr} {kws : List Keyword} {ta : TE} {t tk : TA}
  {g : List Value → List Value → List Value} {gV : List V → List V → List V}
/-- the answer of a callee's run, for the caller -/
theorem back {pins : List (Addr × Obj)} {σ : L2.St} {H : Hp} {s : Shared} {Q : VK} (hx : Passes CX X E) (I : Inv X pins σ H s) :
    ∀ (r : Result) (s' : Shared), CR CX X.stack X.prog X.w H s Q E r s' → (match r with | .ok (.ret u) => EP X pins σ Q u s' | .ok _ => False | .error e => X.xe e s')
  | .error _, _, h => hx _ _ _ _ _ _ I h
  | .ok (.ret _), _, h => I.after h
  | .ok .next, _, h => h
  | .ok .brk, _, h => h
  | .ok .cont, _, h => h
theorem runKW {pins : List (Addr × Obj)} {σ : L2.St} {H : Hp} {s : Shared} {Q : VK} {us ws : List Value} {vs zs : List V} (F : FnG X.prog X.w X.K X.mg X.base CX k f fd ps sp)
    (hr : RmG k X.A) (hb : KBinds X.K fd ps ks g gV) (hx : Passes CX X E) (I : Inv X pins σ H s) (r : Vals vs us) (rz : Vals zs ws) (h : sp (gV vs zs) H Q E) :
    wpAny (model X.prog X.w) X.A (call (.ref f) us (ks.zip ws)) (EP X pins σ Q) X.xe s := by
  have r2 := hb.rel r rz
  have hl : (g us ws).length = ps.length := r2.length.symm.trans (F.len _ _ _ _ h)
  refine wpAny_call (codeAny_mono (F.run _ _ _ _ _ _ _ _ _ hr I.env0 (hb.to s us ws I.kIn hl) r2 h) fun q s' hq => ?_)
  exact back hx I q s' hq
theorem runPos {pins : List (Addr × Obj)} {σ : L2.St} {H : Hp} {s : Shared} {Q : VK} {us : List Value} {vs : List V} (F : FnG X.prog X.w X.K X.mg X.base CX k f fd ps sp)
    (hr : RmG k X.A) (hb : Binds X.K fd ps ds) (hd : Vals dvs ds) (hx : Passes CX X E) (I : Inv X pins σ H s) (r : Vals vs us) (h : sp (vs ++ dvs) H Q E) :
    wpAny (model X.prog X.w) X.A (call (.ref f) us) (EP X pins σ Q) X.xe s := by
  have r2 : Vals (vs ++ dvs) (us ++ ds) := r.append hd
  have hl : (us ++ ds).length = ps.length := r2.length.symm.trans (F.len _ _ _ _ h)
  refine wpAny_call (codeAny_mono (F.run _ _ _ _ _ _ _ _ _ hr I.env0 (hb s us I.kIn hl) r2 h) fun q s' hq => ?_)
  exact back hx I q s' hq
/-- f(e, ..) of such a def -/
theorem pg_call (F : FnG X.prog X.w X.K X.mg X.base CX k f fd ps sp) (hr : RmG k X.A) (hg : Gl X x) (hm : X.mg x = some (.ref f)) (hk : PySem.W.keepIn X.K (.ref f) = true)
    (hb : Binds X.K fd ps ds) (hd : Vals dvs ds) (hx : Passes CX X E) (ha : PA X (e :: es) t) (hdb : (x == ("__debug__" : Str)) = false := by decide)
    (he : starEach (e :: es) X.env = (false, eval e X.env) :: starEach es X.env := by rfl) (hpl : (backTo pos (starEach es X.env)).any (·.1) = false := by rfl) :
    PE X (.Call (.Name x p) (e :: es) [] pos) (tCall sp dvs E t) :=
  ⟨fun pins s σ H Q I h => wpAny_Call_Name_kw (ld_glob I hg hm (PySem.W.callWith_K (h₀ := X.base) I.ok.mod.kin hk
    (thn (ha.run pos pins s σ H _ I h) fun us s1 ⟨vs, H1, I1, r, q⟩ => ⟨I1.kIn, runPos F hr hb hd hx I1 r q⟩) he hpl) hdb)⟩
theorem pg_call0 (F : FnG X.prog X.w X.K X.mg X.base CX k f fd ps sp) (hr : RmG k X.A) (hg : Gl X x) (hm : X.mg x = some (.ref f)) (hk : PySem.W.keepIn X.K (.ref f) = true)
    (hb : Binds X.K fd ps ds) (hd : Vals dvs ds) (hx : Passes CX X E) (hdb : (x == ("__debug__" : Str)) = false := by decide) : PE X (.Call (.Name x p) [] [] pos) (tCall sp dvs E tNil) :=
  ⟨fun pins s σ H Q I h => wpAny_Call_Name_kw (ld_glob I hg hm (PySem.W.callWith_K0 I.kIn hk (runPos (us := []) F hr hb hd hx I .nil h)) hdb)⟩
/-- f(k = v, ..), no positional argument -/
theorem pe_kw0 (F : FnOk X.prog X.w X.K X.mg X.base CX k f fd ps sp) (hr : Room k X.A) (hg : Gl X x) (hm : X.mg x = some (.ref f)) (hk : PySem.W.keepIn X.K (.ref f) = true)
    (hb : KBinds X.K fd ps ks g gV) (hx : Passes CX X E) (hkw : PK X kws tk) (hall : (backToKw pos (keywordEach kws X.env)).all (·.1.isSome) = true := by rfl)
    (hks : (backToKw pos (keywordEach kws X.env)).filterMap (·.1) = ks := by rfl) (hdb : (x == ("__debug__" : Str)) = false := by decide)
    (hpl : ((backTo pos (starEach [] X.env)).any (·.1) || (backToKw pos (keywordEach kws X.env)).any (·.1.isNone)) = false := by rfl) :
    PE X (.Call (.Name x p) [] kws pos) (tCallK sp gV E tNil tk) :=
  ⟨fun pins s σ H Q I h => wpAny_Call_Name_kw (ld_glob I hg hm (PySem.W.callWith_KW0 (h₀ := X.base) I.ok.mod.kin hk hall
    (thn (hkw.run pos pins s σ H _ I h) fun ws s1 ⟨zs, H1, I1, rz, q⟩ => ⟨I1.kIn, by rw [hks]; exact run_fnk F hr hb hx I1 .nil rz q⟩) hpl) hdb)⟩
end

section
variable {P : Program} {w : World} {K : PySem.W.Frag} {mg : Str → Option Value} {base : Heap}
/-- a def by its body, with the guards told -/
theorem okG {CX : CXT} {x qual : Str} {st : Stmt} {f : Addr} {fd : FuncData} {N ps : List Str} {k : Nat} {sp : Sp} (F : Fun K x qual st f fd) (S : FnScope N ps (defScope st)) (len : ∀ vs H Q E, sp vs H Q E → vs.length = ps.length)
    (hbody : ∀ (cdv : Value) (A : Around) (outer : List Env) (s : Shared) (H : Hp) (vs : List V) (Q : VK) (E : XK), RmG k (A.deeper (envOfC qual (defScope st) s.heap.objs.size f cdv)) → sp vs H Q E →
      ∃ t, PSs (cxOf CX P w K mg base N qual (defScope st) f cdv A outer s H E) (defBody st) t ∧ t { nx := fun _ H' => Q .non H', rt := Q } (start N vs) H) : FnG P w K mg base CX (k + 1) f fd ps sp := by
  obtain ⟨oc, od, kV, doc, pm, an, cdv, ct, osl, rfl, lk, hcd⟩ := F.ex
  refine ⟨len, fun A outer s H args us vs Q E hr e0 hb r hsp => ?_⟩
  have KX : K.In s.heap := e0.mod.kin.keeps fun b o e => (e0.bs b o e).1
  have hk : ((ps.zip us).all fun y => (defScope st).names.lookup y.1 == some .local || (defScope st).names.lookup y.1 == some .cell) = true := List.all_eq_true.mpr fun y hy => by
    rcases S.par y.1 (List.of_mem_zip (a := y.1) (b := y.2) hy).1 with q | q <;> rw [q] <;> rfl
  refine Att.call_fn KX (e0.mod.nolimit.keeps fun b o e => (e0.bs b o e).1) lk hcd hr.r.depth hb hk (fun s1 x => ?_) S.co S.gen S.kind
  obtain ⟨t, ht, hq⟩ := hbody cdv A outer s H vs Q E (hr.deeper _) hsp
  have I := inv_start (CX := CX) (E := E) (f := f) (cd := cdv) (qual := qual) (outer := outer) S hr.r.hd e0 (len _ _ _ _ hsp) r x
  refine wpAny_mono (ht.run [] s1 _ H _ I hq) (fun fl s' hs => ?_) fun _ _ hs => hs
  cases fl with
  | ret u =>
    obtain ⟨v, _, H', J, rv, q⟩ := hs
    exact ⟨v, H', J.os, J.bare, J.base, J.hok, rv, q⟩
  | next =>
    obtain ⟨_, H', J, q⟩ := hs
    exact ⟨.non, H', J.os, J.bare, J.base, J.hok, rfl, q⟩
  | brk => exact hs.elim fun _ h => h.elim fun _ h => False.elim h.2
  | cont => exact hs.elim fun _ h => h.elim fun _ h => False.elim h.2
end
end Mx

namespace Mx
open PySem PySem.Spec PyProof.Rows L2

/-! ### operators -/
/-- a list that may be read, its object told whole -/
def LsX (K : PySem.W.Frag) (H : Hp) (a : Addr) (xs : List V) : Prop := Rd H a (.lst xs) ∨
  ∃ (its : List Value) (n : Nat), K.lookup a = some { cls := .type "list", data := .seq its.toArray n } ∧ xs.length ≤ sizeLine ∧ Vals xs its
theorem LsX.of {K : PySem.W.Frag} {H : Hp} {a : Addr} {xs : List V} (h : H a = some (.lst xs)) : LsX K H a xs := .inl (.inl h)
theorem LsX.sq {K : PySem.W.Frag} {H : Hp} {a : Addr} {xs : List V} (h : LsX K H a xs) : SqL K H a xs := by
  rcases h with h | ⟨its, n, h, z, r⟩
  · exact .inl h
  · exact .inr ⟨_, its.toArray, n, h, rfl, rfl, rfl, by rw [List.size_toArray, ← r.length]; exact z, by simpa using r⟩
theorem LsX.at {X : Cx} {pins : List (Addr × Obj)} {σ : L2.St} {H : Hp} {s : Shared} {a : Addr} {xs : List V} (I : Inv X pins σ H s) (h : LsX X.K H a xs) :
    ∃ (its : List Value) (n : Nat), Vals xs its ∧ xs.length ≤ sizeLine ∧ s.heap.get? a = some { cls := .type "list", data := .seq its.toArray n } := by
  rcases h with h | ⟨its, n, h, z, r⟩
  · obtain ⟨z, its, n, r, e⟩ := h.ok I.hok
    exact ⟨its, n, r, z, e⟩
  · exact ⟨its, n, r, z, I.kIn _ _ h⟩
theorem LsX.keep {K : PySem.W.Frag} {H H' : Hp} {a : Addr} {xs : List V} (h : LsX K H a xs) (e : ∀ o, H a = some o → H' a = some o) : LsX K H' a xs := by
  rcases h with (h | ⟨o, h⟩) | h
  · exact .inl (.inl (e _ h))
  · exact .inl (.inr ⟨o, e _ h⟩)
  · exact .inr h
/-- two lists, read alone, one behind the other -/
def rCatR (K : PySem.W.Frag) : R2 := fun x y H Q => ∃ a b xs ys, x = .ref a ∧ y = .ref b ∧ LsX K H a xs ∧ LsX K H b ys ∧ xs.length + ys.length ≤ sizeLine ∧
  ∀ p, H p = none → Q (.ref p) (upd H p (.lst (xs ++ ys)))
theorem op_catR {X : Cx} : OpR X (binaryOp .Add) (rCatR X.K) := by
  intro pins s σ H x y v u Q I rx ry h
  obtain ⟨a, b, xs, ys, rfl, rfl, hA, hB, hz, q⟩ := h
  cases rx
  cases ry
  obtain ⟨ia, na, ra, za, ea⟩ := hA.at I
  obtain ⟨ib, nb, rb, zb, eb⟩ := hB.at I
  refine PySem.P.add_list ea eb ?_ (by rw [List.size_toArray, List.size_toArray, ← ra.length, ← rb.length]; exact hz)
  rw [show ia.toArray ++ ib.toArray = (ia ++ ib).toArray from by simp]
  exact ⟨.ref _, _, I.lnew (t' := s.toks) (ra.append rb) (by rw [List.length_append]; exact hz), rfl, q _ I.fresh⟩

/-! ### repr of data -/
def rRepr (K : PySem.W.Frag) : List V → Hp → VK → Prop := fun xs H Q => ∃ (a : Addr) (d : PyData), xs = [.ref a] ∧ Dp K H (.ref a) d ∧ d.showable = true ∧ d.hasDict = false ∧ d.depth ≤ 60 ∧ d.shown.length ≤ sizeLine ∧ Q (.str d.shown) H
theorem call_repr {X : Cx} {k : Nat} (hr : RmG k X.A) : CallR X (.builtin "repr") (rRepr X.K) := by
  intro pins s σ H vs us Q I r h
  obtain ⟨a, d, rfl, hd, h1, h2, h3, h4, q⟩ := h
  cases r with
  | cons ra rn =>
    cases rn
    cases ra
    obtain ⟨as, hr2⟩ := Dp.reads I d _ _ hd rfl
    have hu := hr.r.un
    refine repr_of_reads' hr2 h1 (PyData.noDict_hsm h2) hr.g (by omega) (fun _ _ e => e) (fun h' u tk hk => ?_) h4
    exact ⟨.str d.shown, H, I.kept hk, ⟨u, rfl⟩, q⟩

/-! ### enumerate of a text -/
def Itet (x : Str) : It :=
  ⟨fun i _ => i < x.cps.size, fun i H v H' => ∃ T c, v = .ref T ∧ H T = none ∧ x.cps[i]? = some c ∧ H' = upd H T (.tup [.int (i : Nat), .str ⟨#[c]⟩]), fun i _ => i = x.cps.size⟩
def IsEt (x : Str) (t : Tok) (e it : Addr) (i : Nat) (h : Heap) : Prop :=
  (∃ old, IsEnum h e it ((i : Nat) : Int) old) ∧ h.IsStrIter it (strIterType x) x t i ∧ e ≠ it
theorem drawsS {prog : Program} {w : World} {A : Around} (hh : A.handled = none) (it : Addr) (x : Str) (t : Tok) :
    Draws prog w A it [it] x.cps.size (fun i v => ∃ c u, x.cps[i]? = some c ∧ v = .str ⟨#[c]⟩ u) (fun i h => h.IsStrIter it (strIterType x) x t i) := by
  have z : strIterType x = "str_ascii_iterator" ∨ strIterType x = "str_iterator" := by
    unfold strIterType
    split <;> simp
  rcases z with e | e <;> rw [e]
  · exact Draws.strAscii hh it x t
  · exact Draws.strWide hh it x t
theorem turn_et {P : Program} {w : World} {K : PySem.W.Frag} {elts : List Expr} {kk : Nat} {tpos : Pos} (x : Str) (t : Tok) (e it : Addr) :
    Turn P w K (.Tuple elts kk tpos) (Itet x) [e, it] e (IsEt x t e it) where
  mem := by simp
  obj := fun i h st b hb => by
    obtain ⟨⟨old, he⟩, ⟨o, ho, hc, hd⟩, _⟩ := st
    rcases List.mem_cons.mp hb with z | z
    · exact ⟨_, z ▸ he, fun v q => by cases q⟩
    · exact ⟨o, (List.mem_singleton.mp z) ▸ ho, fun v q => by rw [hd] at q; cases q⟩
  keep := fun i h h' st k => ⟨let ⟨old, he⟩ := st.1; ⟨old, k e (by simp) _ he⟩, let ⟨o, ho, r⟩ := st.2.1; ⟨o, k it (by simp) _ ho, r⟩, st.2.2⟩
  item := by
    intro X hP hw hK hc i pins s σ H E I hf st hg
    subst hP hw hK
    obtain ⟨⟨old, he⟩, hit, hne⟩ := st
    have le : e < s.heap.objs.size := Heap.lt_size he
    have li : it < s.heap.objs.size := by obtain ⟨_, q, _⟩ := id hit; exact Heap.lt_size q
    have D := drawsS (prog := X.prog) (w := X.w) (A := X.A.in1) (I.ok.hd hc) it x t
    refine wpAny_pyNext_enum_itemD D he hit hg hne (by simpa using hne) fun z h' tk hz ho hit' hT hsz hk => ?_
    obtain ⟨c, u, hcx, rfl⟩ := hz
    refine ⟨_, rfl, wpAny_letOwnedTupleGo_enum (s := { s with heap := h', toks := tk + 1 }) ho fun h'' he' sb => ?_⟩
    have hT2 : h''.get? s.heap.objs.size = some { cls := .type "tuple", data := .seq #[.int i tk, .str ⟨#[c]⟩ u] } := (sb.2 _ (Nat.ne_of_gt le)).trans hT
    have new : ObjOk X.prog X.w (upd H s.heap.objs.size (.tup [.int (i : Nat), .str ⟨#[c]⟩])) h'' s.heap.objs.size (.tup [.int (i : Nat), .str ⟨#[c]⟩]) :=
      ⟨(by decide : 2 ≤ sizeLine), _, .cons ⟨_, rfl⟩ (.cons ⟨_, rfl⟩ .nil), _, hT2, rfl, _, rfl⟩
    have J : Inv X pins σ (upd H s.heap.objs.size (.tup [.int (i : Nat), .str ⟨#[c]⟩])) { s with heap := h'', toks := tk + 1 } :=
      I.turnedNew (ch := [e, it]) (fun b ob hb q => (sb.2 b (fun y => hb (by simp [y]))).trans (hk b ob (fun y => hb (by simp [y])) (fun y => hb (by simp [y])) q)) hf (Nat.le_refl _) new
    refine ⟨.ref s.heap.objs.size, _, J, rfl, ⟨_, c, rfl, I.hok.fresh (Nat.le_refl _), hcx, rfl⟩, ⟨⟨.str ⟨#[c]⟩ u, ?_⟩, ?_, hne⟩, fun b hb => ?_⟩
    · have e1 : ((i + 1 : Nat) : Int) = (i : Int) + 1 := by omega
      rw [e1]
      exact he'
    · obtain ⟨o, q, r⟩ := hit'
      exact ⟨o, (sb.2 it (Ne.symm hne)).trans q, r⟩
    · have lb : b < s.heap.objs.size := by
        rcases List.mem_cons.mp hb with z | z
        · exact z ▸ le
        · exact (List.mem_singleton.mp z) ▸ li
      rw [upd_ne (Nat.ne_of_lt lb)]
      exact (hf b hb).1
  done := by
    intro X hP hw hK hc i pins s σ H E I hf st hg
    subst hP hw hK
    obtain ⟨⟨old, he⟩, hit, hne⟩ := st
    have hg' : i = x.cps.size := hg
    subst hg'
    obtain ⟨f0, f1, f2, f3, f4, f5⟩ := hf it (by simp)
    exact wpAny_pyNext_enum_endD (St := fun i h => h.IsStrIter it (strIterType x) x t i) (drawsS (A := X.A.in1) (I.ok.hd hc) it x t) he hit fun h' eb => ⟨rfl, I.turned (t' := s.toks) (fun b o hb q => eb b o hb q) f0 f1 f3 f4 f5⟩
  self := fun A i s Q E st h => let ⟨⟨_, he⟩, _⟩ := st; wpAny_pyIter_enum he h
def iEt (ta : TA) : TI := fun σ H R => ta σ H fun vs H1 => ∃ x, vs = [.str x] ∧ R (Itet x) H1
theorem pi_enumT {X : Cx} {e : Expr} {ta : TA} {p pos tpos : Pos} {elts : List Expr} {kk : Nat} (hg : Gl X "enumerate") (hm : X.mg "enumerate" = none) (ha : PA X [e] ta)
    (hs : starEach [e] X.env = [(false, eval e X.env)] := by rfl) : PI X (.Tuple elts kk tpos) (.Call (.Name "enumerate" p) [e] [] pos) (iEt ta) := by
  refine ⟨fun pins s σ H R I h => Call_ (ld_blt I hg hm boot_enumerate (PyProof.Rows.callWith_type1 (thn (ha.run pos pins s σ H _ I h) fun us s1 ⟨vs, H1, I1, r1, q1⟩ => ?_) hs rfl))⟩
  obtain ⟨x, ex, q⟩ := q1
  subst ex
  cases r1 with
  | cons r rr =>
    cases rr
    obtain ⟨t, rfl⟩ := r
    refine call_enumerate_str fun h' he hit hsz hk => wpAny_pyIter_enum he ?_
    have I2 : Inv X pins σ H1 { s1 with heap := h' } := I1.kept (t' := s1.toks) hk
    refine ⟨s1.heap.objs.size + 1, [s1.heap.objs.size + 1, s1.heap.objs.size], _, _, H1, rfl, I2, turn_et x t (s1.heap.objs.size + 1) s1.heap.objs.size, ⟨⟨.none, he⟩, hit, Nat.succ_ne_self _⟩, fun b hb => ?_, q⟩
    have le : s1.heap.objs.size ≤ b := by
      rcases List.mem_cons.mp hb with z | z
      · rw [z]; exact Nat.le_add_right _ _
      · rw [List.mem_singleton.mp z]; exact Nat.le_refl _
    exact I1.fpOk le (I1.hok.fresh le)
end Mx

namespace Mx
open PySem PySem.Spec PyProof.Rows L2

/-! ### exceptions whose __init__ calls that of their base by its name -/
/-- a base class over ValueError, read by its name -/
structure BaseT (K : PySem.W.Frag) (mg : Str → Option Value) (bn : Str) (CM : Addr) : Prop where
  mgM : mg bn = some (.ref CM)
  rd : PySem.W.readsIn K CM (.type "type") = true
  ga : PySem.W.specialIn K (.ref CM) "__getattribute__" = some (some (.builtin "type.__getattribute__"))
  at_ : PySem.W.findCls K (.ref CM) (.type "type") "__init__" = some (.val (.builtin "ValueError.__init__"))
section
variable {X : Cx} {o e : Expr} {es : List Expr} {ta : TA} {p1 p2 pos : Pos}
theorem pe_minit {bn : Str} {CM : Addr} {pl : Sem Bool} (T : BaseT X.K X.mg bn CM) (hg : Gl X bn) (ha : PA X (e :: es) ta)
    (hc : eval (.Call (.Attribute (.Name bn p1) "__init__" p2) (e :: es) [] pos) X.env = (do
      let ov ← eval (.Name bn p1) X.env
      standAt p2.atName
      let (f, first) ← holding [ov] (getMethod ov "__init__" pl)
      callWith pos f first (backTo pos (starEach (e :: es) X.env)) (backToKw pos (keywordEach [] X.env))) := by rfl)
    (he : starEach (e :: es) X.env = (false, eval e X.env) :: starEach es X.env := by rfl) (hpl : (backTo pos (starEach es X.env)).any (·.1) = false := by rfl)
    (hdb : (bn == ("__debug__" : Str)) = false := by decide) :
    PE X (.Call (.Attribute (.Name bn p1) "__init__" p2) (e :: es) [] pos) (tVeI X.K ta) := by
  refine ⟨fun pins s σ H Q I h => PySem.W.methodCall_KW (ld_glob I hg T.mgM ?_ hdb) hc⟩
  refine PySem.W.method_cls I.kIn T.ga (PySem.W.cls_value I.kIn T.rd T.at_ (by decide +kernel) ?_)
  refine PyProof.Rows.callWith_method1 (thn (ha.run pos pins _ σ H _ (I.tok _) h) fun us s1 ⟨vs, H1, I1, r1, a, C, ws, ev, hl, Tc, ea, q⟩ => ?_) he hpl
  subst ev
  cases r1 with
  | @cons _ u0 _ ur ra rw' =>
    obtain rfl : u0 = Value.ref a := ra
    have hz : ur.length ≤ sizeLine := by
      rw [← Paired.length rw']
      exact Nat.le_trans hl (by decide)
    exact oinit_ok Tc I1 ea hz fun s' J => ⟨.non, H1, J, rfl, q⟩
end
/-- what __init__(self, f) keeps -/
def spXI (K : PySem.W.Frag) (C : Addr) (f : Str) : Sp := fun vs H Q _ => ∃ (a : Addr) (y : V), vs = [.ref a, y] ∧ OexC K C ∧ H a = some (exo a C none) ∧
  ∀ dx, H dx = none → dx ≠ a → Q .non (upd (upd H dx (exd dx [(f, y)])) a (exo a C (some dx)))
/-- the facts of such a class with one field -/
structure ExT (P : Program) (w : World) (K : PySem.W.Frag) (mg : Str → Option Value) (base : Heap) (cn f : Str) (C fI : Addr) (fd : FuncData) (ps : List Str) : Prop where
  oex : OexC K C
  mgC : mg cn = some (.ref C)
  iC : PySem.W.findIn K (.ref C) "__init__" = some (some (.ref fI))
  tI : PySem.W.typeIn K (.ref fI) = some (.type "function")
  ok : FnOk P w K mg base CX0 1 fI fd ps (spXI K C f)
  bI : Binds K fd ps []
/-- C(e): the exception's class, its own dict -/
def tXM (C : Addr) (f : Str) (ta : TA) : L2.St → Hp → XK → Prop := fun σ H Q => ta σ H fun vs H1 => ∃ y, vs = [y] ∧ ∀ d, H1 d = none → Q (.ref C) (some d) (upd H1 d (.xd [(f, y)]))
/-- arguments, the wish made weaker behind them -/
def aMono (ta : TA) : TA := fun σ H Q => ∃ Q0 : List V → Hp → Prop, ta σ H Q0 ∧ ∀ vs H1, Q0 vs H1 → Q vs H1
theorem pa_mono {X : Cx} {es : List Expr} {ta : TA} (ha : PA X es ta) : PA X es (aMono ta) :=
  ⟨fun pos pins s σ H Q I ⟨Q0, h, k⟩ => wpAny_mono (ha.run pos pins s σ H Q0 I h) (fun _ _ ⟨vs, H1, I1, r, q⟩ => ⟨vs, H1, I1, r, k _ _ q⟩) fun _ _ z => z⟩
theorem pmk_x {X : Cx} {e : Expr} {ta : TA} {p pos : Pos} {cn f : Str} {C fI : Addr} {fd : FuncData} {ps : List Str} (T : ExT X.prog X.w X.K X.mg X.base cn f C fI fd ps) (hr : Room 2 X.A) (hg : Gl X cn) (ha : PA X [e] ta)
    (hdb : (cn == ("__debug__" : Str)) = false := by decide) (he : starEach [e] X.env = (false, eval e X.env) :: starEach [] X.env := by rfl) (hpl : (backTo pos (starEach [] X.env)).any (·.1) = false := by rfl) :
    PMk X (.Call (.Name cn p) [e] [] pos) (tXM C f ta) := by
  intro pins s σ H Q I h
  refine pmk_oex T.oex T.iC T.tI T.ok hr T.bI .nil pass0 hg T.mgC (pa_mono ha) hdb he hpl pins s σ H Q I ⟨_, h, fun vs H1 hq => ?_⟩
  obtain ⟨y, rfl, hq⟩ := hq
  refine ⟨(by show 1 ≤ 1000; omega), fun a ha => ⟨a, y, rfl, T.oex, upd_same, fun dx hx hn => ⟨rfl, dx, [(f, y)], upd_same, ?_, ?_, ?_⟩⟩⟩
  · rw [upd_ne hn, upd_same]
  · rw [upd_ne hn] at hx
    exact hx
  · rw [upd_ne hn] at hx
    have e1 : upd (L2.del (upd (upd (upd H1 a (exo a C none)) dx (exd dx [(f, y)])) a (exo a C (some dx))) a) dx (.xd [(f, y)]) = upd H1 dx (.xd [(f, y)]) := by
      funext b
      by_cases h1 : b = dx
      · rw [h1, upd_same, upd_same]
      · rw [upd_ne h1, upd_ne h1]
        by_cases h2 : b = a
        · rw [h2, del_same, ha]
        · rw [del_ne h2, upd_ne h2, upd_ne h1, upd_ne h2]
    rw [e1]
    exact hq dx hx
end Mx

namespace Mx
open PySem PySem.Spec PyProof.Rows L2

/-! ### a caught exception that is kept -/
/-- the object at a is an exception of the class cls, its dict at d -/
def xoO (a : Addr) (cls : Value) (d : Option Addr) : HO := .ext fun h => ∃ o vs, h.get? a = some o ∧ o.cls = cls ∧ o.dict = d ∧ o.data = .fields vs
theorem xo_at {P : Program} {w : World} {H : Hp} {h : Heap} {a : Addr} {cls : Value} {d : Option Addr} (hok : HOk P w H h) (e : H a = some (xoO a cls d)) :
    ∃ o vs, h.get? a = some o ∧ o.cls = cls ∧ o.dict = d ∧ o.data = .fields vs := by
  have x : ObjOk P w H h a (.ext fun h => ∃ o vs, h.get? a = some o ∧ o.cls = cls ∧ o.dict = d ∧ o.data = .fields vs) := hok a _ e
  exact x.1
theorem track {X : Cx} {pins : List (Addr × Obj)} {σ : L2.St} {H : Hp} {s : Shared} {a : Addr} {o : Obj} {vs : Array Value} {cls : Value} {d : Option Addr} (I : Inv X pins σ H s) (ho : s.heap.get? a = some o) (hz : Zc cls d o) (hd : o.data = .fields vs)
    (na : H a = none) (n0 : X.s_0.heap.get? a = none) (nL : a ≠ X.env.locals) (np : ∀ p ∈ X.pn ++ pins, p.1 ≠ a) : Inv X pins σ (upd H a (xoO a cls d)) s := by
  have ne : ∀ {b : Addr} {u : HO}, H b = some u → b ≠ a := fun {b u} e => ne_of_none e na
  have n0' : ∀ {b : Addr} {o : Obj}, X.s_0.heap.get? b = some o → b ≠ a := fun {b o} e z => by rw [z, n0] at e; cases e
  refine ⟨I.ok, I.os, I.bare, ⟨I.base.keep, I.base.slot, fun b ob e n hx => ?_, I.base.there, fun b xs e => ?_, fun b ob u e => ?_, fun b ps e => ?_⟩, I.loc, I.cell, ?_, fun x c e => ?_, fun p hp => ?_, fun b u e => ?_, I.len⟩
  · rw [upd_ne (n0' e)]
    exact I.base.free b ob e n hx
  · have q := I.base.tups b xs e
    rw [upd_ne (ne q)]
    exact q
  · have q := I.base.frzs b ob u e
    rw [upd_ne (ne q)]
    exact q
  · obtain ⟨m, q⟩ := I.base.tbls b ps e
    exact ⟨m, by rw [upd_ne (ne q)]; exact q⟩
  · rw [upd_ne (Ne.symm nL)]
    exact I.free
  · have hc : c ≠ a := fun z => by
      obtain ⟨v, oc, q, hv⟩ := I.cell x c e
      rw [z, ho] at q
      cases q
      rw [hd] at hv
      cases hv
    rw [upd_ne hc]
    exact I.freeC x c e
  · obtain ⟨e, n, r⟩ := I.pin p hp
    exact ⟨e, by rw [upd_ne (np p hp)]; exact n, r⟩
  · by_cases hb : b = a
    · subst hb
      rw [upd_same] at e
      cases e
      exact ⟨⟨o, vs, ho, hz.1, hz.2, hd⟩, ⟨o, ho⟩, fun h1 h2 z k => let ⟨o', vs', q, r⟩ := z; ⟨o', vs', k _ q, r⟩⟩
    · rw [upd_ne hb] at e
      exact (I.hok b u e).stay (fun _ _ _ q => q) (fun c q => by rw [upd_ne (ne q)]; exact q) fun c xs q => by rw [upd_ne (ne q)]; exact q

/-- what 'except (x1, x2, x3) as n' wishes: behind its suite the exception is told -/
def wT (K : PySem.W.Frag) (cs : List Value) (i : Nat) (ts : Addr → Value → Option Addr → TS) (Wout : WX) (D : Ends) : WX := fun cls d σ H =>
  ∃ b, PySem.W.exmAny K cls cs = some b ∧ (b = true → ∀ a, H a = none → ts a cls d { nx := fun σ' H' => D.nx (σ'.set i none) (upd H' a (xoO a cls d)), rt := fun _ _ => False, bk := fun _ _ => False, ct := fun _ _ => False } (σ.set i (some (.ref a))) H) ∧
    (b = false → Wout cls d σ H)
/-- a class of the text by its name -/
structure Nm (X : Cx) (x : Str) (c : Value) : Prop where
  g : Gl X x
  m : X.mg x = some c
  d : (x == ("__debug__" : Str)) = false
theorem ps_try_t3 {X : Cx} {x1 x2 x3 n : Str} {c1 c2 c3 : Value} {i kk : Nat} {body suite : List Stmt} {b₀ : Stmt} {q1 q2 q3 tp pos pos' : Pos} {tb : WX → TS} {ts : Addr → Value → Option Addr → TS} {Wout : WX}
    (hs : X.stack = X.env :: X.outer) (hf : X.env.frame = some X.env.locals) (hex : X.ex = []) (hN : X.N.Nodup) (hi : X.N[i]? = some n) (hln : X.env.kindOf n = some .local) (n1 : Nm X x1 c1) (n2 : Nm X x2 c2) (n3 : Nm X x3 c3) (tk : Takes X Wout)
    (hb : ∀ (W : WX) (pn : List (Addr × Obj)) (xe : Value → Shared → Prop), Takes (X.tr pn xe) W → PassesOwn (model X.prog X.w) X.A X.env xe → PSs (X.tr pn xe) body (tb W))
    (hsu : ∀ (a : Addr) (oe : Obj) (cls : Value) (d : Option Addr) (pn : List (Addr × Obj)), Zc cls d oe → (∃ vs, oe.data = .fields vs) → PSs (X.suite a ((a, oe) :: pn)) (b₀ :: suite) (ts a cls d)) :
    PS X (.Try body [.ExceptHandler (some (.Tuple [.Name x1 q1, .Name x2 q2, .Name x3 q3] kk tp)) (some n) (b₀ :: suite) pos'] [] [] pos) (fun D σ H => tb (wT X.K [c1, c2, c3] i ts Wout D) D σ H) := by
  refine ⟨fun pins s σ H D I h => wpAny_Try_except ?_⟩
  have ok := I.ok
  have hfr : X.A.frames = some (X.env :: X.outer) := ok.frames.trans (by rw [hs])
  refine wpAny_mono ((hb (wT X.K [c1, c2, c3] i ts Wout D) (X.pn ++ pins) (fun e s₁ => wpAny (model X.prog X.w) X.A (noteFrame e X.env) (fun _ s₂ => wpAny (model X.prog X.w) X.A (setFlight e none) (fun _ s₃ =>
    wpAny (model X.prog X.w) X.A (handleBy e X.env [.ExceptHandler (some (.Tuple [.Name x1 q1, .Name x2 q2, .Name x3 q3] kk tp)) (some n) (b₀ :: suite) pos']) (SP X pins D) X.xe s₃) X.xe s₂) X.xe s₁) (fun u s' xx => ?_) PassesOwn.looking).run [] s σ H D (I.toTry _) h) (fun f s1 hsp => ?_) (fun _ _ z => z)
  · obtain ⟨a, B, sI, pins', σ', H', cls, d, rfl, J', nb, up, sky, na, os, ag, b, hb1, hyes, hno⟩ := xx
    have J : Inv X pins σ' H' sI := J'.ofTry ok
    rw [show (X.tr (X.pn ++ pins) _).stack = X.env :: X.outer from hs] at sky
    show wpAny (model X.prog X.w) X.A (noteFrame (.ref a) X.env) _ _ _
    refine Sky.land Zc.steady hfr hf sky fun h3 fl3 up3 => ?_
    have J3 : Inv X pins σ' H' { s' with heap := h3 } := J.landed nb fl3.1 (up.trans up3) os ag
    obtain ⟨oe3, vs3, he3, hz3, hd3⟩ := fl3.there
    have nfr : a ∉ frs X.stack := fun hm => by
      rw [hs] at hm
      obtain ⟨_, o', e', hnf⟩ := fl3.2.2.1.mem hm
      rw [he3] at e'
      cases e'
      exact hnf _ hd3
    have nL : a ≠ X.env.locals := fun z => nfr (by rw [hs]; exact List.mem_filterMap.mpr ⟨X.env, List.mem_cons_self, by rw [hf, z]⟩)
    have nF : a ∉ X.fs := fun hm => nfr (by
      rw [hs]
      obtain ⟨e, he, q⟩ := List.mem_filterMap.mp hm
      exact List.mem_filterMap.mpr ⟨e, List.mem_cons_of_mem _ he, q⟩)
    have nI : sI.heap.get? a = none := by
      cases e : sI.heap.get? a with
      | none => rfl
      | some o =>
        have z := nb a o e nfr
        rw [fl3.2.1] at z
        cases z
    have n0 : X.s_0.heap.get? a = none := by
      cases e : X.s_0.heap.get? a with
      | none => rfl
      | some o =>
        obtain ⟨o', z⟩ := J.base.there a o e (by rw [hex]; simp)
        rw [nI] at z
        cases z
    have np : ∀ p ∈ X.pn ++ pins, p.1 ≠ a := fun p hp z => by
      have q := (J.pin p hp).1
      rw [z, nI] at q
      cases q
    have S3 := J3.suite he3 hd3 na nL nF
    refine wpAny_handleBy_cons (codeAny_handlers_test ?_) (by intro q; cases q)
    have nm : ∀ {x : Str} {c : Value} {q : Pos} {s2 : Shared} {Q E : Value → Shared → Prop}, Nm X x c → Inv (X.suite a ((a, oe3) :: (X.pn ++ pins))) [] σ' H' s2 → Q c s2 → wpAny (model X.prog X.w) (X.A.mark (some (.ref a))) (eval (.Name x q) X.env) Q E s2 :=
      fun {x c q s2 Q E} nx S z => ld_glob (X := X.suite a ((a, oe3) :: (X.pn ++ pins))) S nx.g nx.m z nx.d
    refine PyProof.Rows.Tuple_ (PyProof.Rows.spliced_more (nm n1 S3 (PyProof.Rows.spliced_more (nm n2 S3 (PyProof.Rows.spliced_more (nm n3 S3 (PyProof.Rows.spliced_none ?_)))))))
    refine wpAny_newObj_type ?_
    have kp : ∀ b o, h3.get? b = some o → (h3.push { cls := .type "tuple", dict := none, data := .seq [c1, c2, c3].toArray }).get? b = some o := fun b o e => Heap.get?_push_of_some _ e
    have LT : PySem.W.Looks (model X.prog X.w) (h3.push { cls := .type "tuple", dict := none, data := .seq [c1, c2, c3].toArray }) (typeOf (.ref a)) cls := fun A Q E s k q => wpAny_typeOf_ref (k _ _ (kp _ _ he3)) (by rw [hz3.1]; exact q)
    have LM := PySem.W.exm_tup3 (M := model X.prog X.w) (J3.kIn.keeps kp) LT (Heap.get?_push_size h3 rfl) hb1
    refine LM.here ?_
    have fl5 : HandSPX.FlyingZ B (X.env :: X.outer) a (Zc cls d) (h3.push { cls := .type "tuple", dict := none, data := .seq [c1, c2, c3].toArray }) := by
      obtain ⟨k1, k2, k3, oe, vs, T, oT, ts', he, hz, hd, h1, hr0, hr1, hr2, hr3⟩ := id fl3
      exact ⟨fun b o e => kp _ _ (k1 b o e), k2, Heap.FunFrames.of_keeps (fun b o e _ => ⟨o, kp b o e, rfl⟩) k3, oe, vs, T, oT, ts', kp _ _ he, hz, hd, h1, hr0, hr1, kp _ _ hr2, hr3⟩
    have up5 := (up.trans up3).trans (Heap.UpToSlots.of_keeps kp)
    cases b with
    | true =>
      refine codeAny_handlers_suite_as (HandSPX.lands_againZ fl5 fun h4 fl4 up4 => ?_)
      have J4 : Inv X pins σ' H' { s' with heap := h4 } := J.landed nb fl4.1 (up5.trans up4) os ag
      obtain ⟨oe4, vs4, he4, hz4, hd4⟩ := fl4.there
      refine store_ok (X := X.suite a ((a, oe4) :: (X.pn ++ pins))) (v := .ref a) (J4.suite he4 hd4 na nL nF) hN hi (.inl hln) rfl (fun s5 S5 => ?_) (.inr hln)
      refine wpAny_mono ((hsu a oe4 cls d (X.pn ++ pins) hz4 ⟨_, hd4⟩).run [] s5 _ H' _ S5 (hyes rfl a na)) (fun f s6 hsp => ?_) (fun _ _ z => False.elim z)
      cases f with
      | next =>
        obtain ⟨σ6, H6, S6, q6⟩ := hsp
        have p6 := S6.pin (a, oe4) (List.mem_append_left _ List.mem_cons_self)
        have I6 : Inv X ((a, oe4) :: pins) σ6 H6 s6 := (S6.unsuite ok).pins_of fun p hp => by
          rcases List.mem_cons.mp hp with e | h
          · rw [e]; exact p6
          · exact (S6.unsuite ok).pin p (List.mem_append_right _ h)
        exact gone_ok I6 hN hi hln fun s7 J7 => by
          have p7 := J7.pin (a, oe4) (List.mem_append_right _ List.mem_cons_self)
          have K7 : Inv X pins (σ6.set i none) H6 s7 := J7.pins_of fun p hp => J7.pin p (List.mem_append_right _ (List.mem_cons_of_mem _ hp))
          exact ⟨_, _, track K7 p7.1 hz4 hd4 p7.2.1 n0 nL np, q6⟩
      | brk => exact hsp.elim fun _ h => h.elim fun _ h => h.2.elim
      | cont => exact hsp.elim fun _ h => h.elim fun _ h => h.2.elim
      | ret u => exact hsp.elim fun _ h => h.elim fun _ h => h.elim fun _ h => h.2.2.elim
    | false =>
      show wpAny _ X.A (handleBy (.ref a) X.env []) _ _ _
      refine wpAny_handleBy_nil ?_
      obtain ⟨k1, k2, k3, oe, vs, T, oT, ts', he, hz, hd, h1, hr⟩ := id fl5
      unfold PySem.passOn
      refine wpAny_bind (wpAny_field he hd h1 ?_)
      rw [if_neg (show ¬ ((Value.ref T == Value.none) = true) from by simp)]
      have fin : ∀ {s5 : Shared}, s5 = { s' with heap := h3.push { cls := .type "tuple", dict := none, data := .seq [c1, c2, c3].toArray } } →
          wpAny (model X.prog X.w) X.A (setFlight (.ref a) X.env.frame) (fun _ s4 => wpAny (model X.prog X.w) X.A (throw (.ref a) : Sem Flow) (SP X pins D) X.xe s4) X.xe s5 := by
        intro s5 e5
        rw [hf, e5]
        exact HandSPX.setFlight_upZ fl5 fun h4 hh4 up4 => wpAny_throw (tk _ _ ⟨a, B, sI, pins, σ', H', cls, d, rfl, J, nb, up5.trans up4, .inr (.inr (by rw [hs]; exact hh4)), na, os, ag, hno rfl⟩)
      first
        | exact wpAny_bind (wpAny_pure (wpAny_bind (fin rfl)))
        | exact wpAny_bind (fin rfl)
  · cases f with
    | next =>
      obtain ⟨σ', H', J', q⟩ := hsp
      exact wpAny_execs_nil ⟨σ', H', J'.ofTry ok, q⟩
    | brk =>
      obtain ⟨σ', H', J', q⟩ := hsp
      exact ⟨σ', H', J'.ofTry ok, q⟩
    | cont =>
      obtain ⟨σ', H', J', q⟩ := hsp
      exact ⟨σ', H', J'.ofTry ok, q⟩
    | ret u =>
      obtain ⟨v, σ', H', J', r, q⟩ := hsp
      exact ⟨v, σ', H', J'.ofTry ok, r, q⟩
end Mx

namespace Mx
open PySem PySem.Spec PyProof.Rows L2

/-! ### a kept exception asked: isinstance, its fields -/
structure XcC (K : PySem.W.Frag) (C : Addr) : Prop where
  cl : (PySem.W.clsIn K C).isSome = true
  ga : PySem.W.findIn K (.ref C) "__getattribute__" = some (some (.builtin "BaseException.__getattribute__"))
  gt : PySem.W.findIn K (.ref C) "__getattr__" = some none
  sub : PySem.W.subIn K (.ref C) (.type "BaseException") = some true
  ha : PySem.W.findIn K (.ref C) "__class__" = some (some (.builtin "object.__class__"))
  hn : PySem.W.specialIn K (.builtin "object.__class__") "__get__" = some (some (.builtin "getset_descriptor.__get__"))
  tk : PySem.W.takesIn K (.builtin "object.__class__") = some true
  hm : PySem.W.mroIn K C (.type "object") = some true
  hd : PySem.W.hasDictIn K C = true
/-- an exception of the class at C, its fields -/
def XoAt (H : Hp) (a C : Addr) (fs : List (Str × V)) : Prop := ∃ d, H a = some (xoO a (.ref C) (some d)) ∧ H d = some (.xd fs)
theorem xo_inst {X : Cx} {pins : List (Addr × Obj)} {σ : L2.St} {H : Hp} {s : Shared} {a C : Addr} {fs : List (Str × V)} (I : Inv X pins σ H s) (h : XoAt H a C fs) :
    ∃ (ox od : Obj) (mA : Str → Option Value), PySem.W.InstAt s.heap a ox C (some od) ∧ (∀ f, PySem.W.lookIn f od = some (mA f)) ∧ ∀ f, RelO (fs.lookup f) (mA f) := by
  obtain ⟨d, h1, h2⟩ := h
  obtain ⟨o, vs, e1, e2, e3, e4⟩ := xo_at I.hok h1
  obtain ⟨mA, hns, hr⟩ : ObjOk X.prog X.w H s.heap d (.xd fs) := I.hok d _ h2
  obtain ⟨od, ho, hl⟩ := lookIn_ns hns
  exact ⟨o, od, mA, ⟨e1, e2, by unfold PySem.W.notCls; rw [e4] <;> rfl, by rw [e3]; exact ho⟩, hl, hr⟩
def rIsiX (K : PySem.W.Frag) : List V → Hp → VK → Prop := fun xs H Q => ∃ (a C : Addr) (fs : List (Str × V)) (c : V) (u : Value) (b : Bool), xs = [.ref a, c] ∧ ClsV c u ∧ XoAt H a C fs ∧ XcC K C ∧ PySem.W.kitOne K (.ref C) u = some b ∧ Q (.bl b) H
theorem call_isiX {X : Cx} : CallR X (.builtin "isinstance") (rIsiX X.K) := by
  intro pins s σ H xs us Q I r h
  obtain ⟨a, C, fs, c, u, b, rfl, k, hx, T, e, q⟩ := h
  obtain ⟨u1, u2, rfl, r1, r2⟩ := vals2 r
  have e2 := k.eq r2
  subst e2
  cases (show u1 = Value.ref a from r1)
  obtain ⟨ox, od, mA, J, _, _⟩ := xo_inst I hx
  exact PySem.W.kia_one (PySem.W.kitx_exc T.cl T.ga T.gt T.sub T.ha T.hn T.tk T.hm) I.kIn J e (fun z => by cases z) fun tk => ⟨.bl b, H, I.tok tk, rfl, q⟩
/-- e.f of a kept exception -/
def tXo (K : PySem.W.Frag) (f : Str) (te : TE) : TE := fun σ H Q => te σ H fun x H1 => ∃ (a C : Addr) (fs : List (Str × V)) (v : V), x = .ref a ∧ XoAt H1 a C fs ∧ XcC K C ∧ PySem.W.findIn K (.ref C) f = some none ∧ fs.lookup f = some v ∧ Q v H1
theorem pe_xo {X : Cx} {e : Expr} {te : TE} {pos : Pos} {f : Str} (he : PE X e te) (hb : attributeBase e f X.env (eval e X.env) = eval e X.env := by rfl) : PE X (.Attribute e f pos) (tXo X.K f te) := by
  refine ⟨fun pins s σ H Q I h => attr_of hb (thn (he.run pins s σ H _ I h) fun u s1 hh => ?_)⟩
  obtain ⟨x, H1, I1, rx, a, C, fs, v, ex, hx, T, hno, l, q⟩ := hh
  subst ex
  cases (show u = Value.ref a from rx)
  obtain ⟨ox, od, mA, J, hl, hr⟩ := xo_inst I1 hx
  obtain ⟨u, hu, ru⟩ := RelO.some_of (v := v) (o := mA f) (by rw [← l]; exact hr f)
  exact HandSPX.exc_get I1.kIn J T.ga T.gt T.sub (PySem.W.findObj_own T.hd hno rfl (by rw [hl, hu])) (handed_of ru) ⟨v, H1, I1.tok _, ru, q⟩
end Mx

namespace Mx
open PySem PySem.Spec PyProof.Rows L2

/-- a def of the module: where it stands, its name, its parameters -/
structure DefT (K : PySem.W.Frag) (mg : Str → Option Value) (x : Str) (st : Stmt) (ps : List Str) : Type where
  f : Addr
  fd : FuncData
  F : Fun K x x st f fd
  m : mg x = some (.ref f)
  b : Binds K fd ps []

/-! ### heaps: all but a stays -/
def Kp (a : Addr) (H H' : Hp) : Prop := ∀ b o, b ≠ a → H b = some o → H' b = some o
theorem Kp.refl (a : Addr) (H : Hp) : Kp a H H := fun _ _ _ h => h
theorem Kp.trans {a : Addr} {H H1 H2 : Hp} (x : Kp a H H1) (y : Kp a H1 H2) : Kp a H H2 := fun b o n h => y b o n (x b o n h)
theorem Kp.upd {a : Addr} {H H1 : Hp} {o : HO} (x : Kp a H H1) : Kp a H (upd H1 a o) := fun b u n h => by rw [upd_ne n]; exact x b u n h
theorem Kp.new {a p : Addr} {H H1 : Hp} {o : HO} (x : Kp a H H1) (h : H1 p = none) : Kp a H (L2.upd H1 p o) := fun b u n e => by
  have q := x b u n e
  rw [upd_ne (ne_of_none q h)]
  exact q
theorem Kp.of {a : Addr} {H H1 : Hp} (x : Same H H1) : Kp a H H1 := fun b o _ h => x b o h
theorem Same.new {p : Addr} {H H1 : Hp} {o : HO} (x : Same H H1) (h : H1 p = none) : Same H (L2.upd H1 p o) := fun b u e => by
  have q := x b u e
  rw [upd_ne (ne_of_none q h)]
  exact q
/-! ### the law's draws: a stream is a list of three ints at a, the second counts -/
def StAt (a : Addr) (c : Int) (H : Hp) : Prop := ∃ x m n : Int, H a = some (.lst [.int x, .int n, .int m]) ∧ 0 ≤ n ∧ n ≤ c
theorem StAt.mono {a : Addr} {c d : Int} {H : Hp} (h : StAt a c H) (l : c ≤ d) : StAt a d H := let ⟨x, m, n, e, h1, h2⟩ := h; ⟨x, m, n, e, h1, by omega⟩
theorem StAt.same {a : Addr} {c : Int} {H H' : Hp} (h : StAt a c H) (e : Same H H') : StAt a c H' := let ⟨x, m, n, q, h1, h2⟩ := h; ⟨x, m, n, e _ _ q, h1, h2⟩
/-- a constant of the module -/
theorem pe_gc {X : Cx} {x : Str} {pos : Pos} {v : V} (hg : Gl X x) (h : ∃ u, X.mg x = some u ∧ RelV v u) (hd : (x == ("__debug__" : Str)) = false := by decide) : PE X (.Name x pos) (tC v) :=
  let ⟨_, e, r⟩ := h
  pe_glob hg e r hd
/-! ### a for over enumerate of a text -/
theorem for_et {x : Str} {g : TG} {tb : TS} {D : Ends} {σ : L2.St} {H : Hp} (Pv : Nat → L2.St → Hp → Prop) (h0 : Pv 0 σ H)
    (hs : ∀ (i c : Nat) (T : Addr) σ H, x.cps[i]? = some c → H T = none → Pv i σ H → g (.ref T) σ (upd H T (.tup [.int (i : Nat), .str ⟨#[c]⟩])) fun σ2 H2 => tb { D with nx := Pv (i + 1), ct := Pv (i + 1), bk := D.nx } σ2 H2)
    (hd : ∀ σ H, Pv x.cps.size σ H → D.nx σ H) :
    ∃ W : Nat → Nat → L2.St → Hp → Prop, (∃ m, W 0 m σ H) ∧ ∀ i m σ H, W i m σ H →
      ((Itet x).stop i H ∧ D.nx σ H) ∨ ((Itet x).go i H ∧ ∃ N : L2.St → Hp → Prop, (∀ σ' H', N σ' H' → ∃ m', m' < m ∧ W (i + 1) m' σ' H') ∧ ∀ v H', (Itet x).yld i H v H' → g v σ H' fun σ2 H2 => tb { D with nx := N, ct := N, bk := D.nx } σ2 H2) := by
  refine ⟨fun i m σ H => m = x.cps.size - i ∧ i ≤ x.cps.size ∧ Pv i σ H, ⟨x.cps.size, by simp, Nat.zero_le _, h0⟩, ?_⟩
  rintro i m σ H ⟨rfl, hi, p⟩
  by_cases hlt : i < x.cps.size
  · refine .inr ⟨hlt, Pv (i + 1), fun σ' H' p' => ⟨x.cps.size - (i + 1), by omega, rfl, hlt, p'⟩, fun v H' y => ?_⟩
    obtain ⟨T, c, rfl, hT, hc, rfl⟩ := y
    exact hs i c T σ H hc hT p
  · have e : i = x.cps.size := by omega
    subst e
    exact .inl ⟨rfl, hd σ H p⟩
/-! ### places -/
theorem at_int {α : Type} {xs : List α} {r : Int} (r0 : 0 ≤ r) (r1 : r < (xs.length : Int)) : ∃ (i : Nat) (x : α), xs[i]? = some x ∧ atI xs r = some x ∧ (i : Int) = r := by
  have h : r.toNat < xs.length := by omega
  obtain ⟨n, rfl⟩ := Int.eq_ofNat_of_zero_le r0
  have h2 : n < xs.length := by omega
  exact ⟨n, xs[n], List.getElem?_eq_getElem h2, atI_nat (List.getElem?_eq_getElem h2), rfl⟩
theorem at_text {z : Str} {r : Int} (r0 : 0 ≤ r) (r1 : r < (z.cps.size : Int)) : ∃ cp : Nat, cp ∈ z.cps.toList ∧ atI z.cps.toList r = some cp := by
  obtain ⟨i, x, h, e, _⟩ := at_int (xs := z.cps.toList) r0 (by simpa using r1)
  exact ⟨x, List.mem_of_getElem? h, e⟩
theorem size_add (x y : Str) : (x ++ y).cps.size = x.cps.size + y.cps.size := by
  show (x.cps ++ y.cps).size = _
  simp
theorem itT {c : Bool} {A B : Prop} (h : c = true) (a : A) : if c = true then A else B := by rw [if_pos h]; exact a
theorem itF {c : Bool} {A B : Prop} (h : c = false) (b : B) : if c = true then A else B := by rw [if_neg (by rw [h]; decide)]; exact b
theorem dVi {i j : Int} (h : i = j) : decide (V.int i = V.int j) = true := by subst h; simp
theorem dViN {i j : Int} (h : ¬ i = j) : decide (V.int i = V.int j) = false := by
  refine decide_eq_false fun e => ?_
  injection e with e
  exact h e
theorem notT {b : Bool} (h : b = false) : (!b) = true := by rw [h]; rfl
theorem notF {b : Bool} (h : b = true) : (!b) = false := by rw [h]; rfl
theorem mem_add {x y : Str} {c : Nat} (h : c ∈ (x ++ y).cps.toList) : c ∈ x.cps.toList ∨ c ∈ y.cps.toList := by
  have e : (x ++ y).cps.toList = x.cps.toList ++ y.cps.toList := by rw [Str.cps_append, Array.toList_append]
  rw [e] at h
  exact List.mem_append.mp h
/-! ### readings without a question -/
theorem tC_ {v : V} {σ : L2.St} {H : Hp} {Q : VK} (h : Q v H) : tC v σ H Q := h
theorem tNext_ {D : Ends} {σ : L2.St} {H : Hp} (h : D.nx σ H) : tNext D σ H := h
theorem tYes_ {σ : L2.St} {H : Hp} {Q : Bool → Hp → Prop} (h : Q true H) : tYes σ H Q := h
theorem tNil_ {σ : L2.St} {H : Hp} {Q : List V → Hp → Prop} (h : Q [] H) : tNil σ H Q := h
end Mx

namespace Mx
open PySem PySem.Spec PyProof.Rows L2
/-! ### comprehensions that pick -/
def picked {α : Type} (n : Nat) (f : Nat → Bool) (y : Nat → α) : List α := ((List.range n).filter f).map y
theorem picked_zero {α : Type} (f : Nat → Bool) (y : Nat → α) : picked 0 f y = [] := rfl
theorem picked_yes {α : Type} {n : Nat} {f : Nat → Bool} (y : Nat → α) (h : f n = true) : picked (n + 1) f y = picked n f y ++ [y n] := by
  unfold picked
  rw [List.range_succ, List.filter_append, List.map_append, List.filter_cons, if_pos h]
  rfl
theorem picked_no {α : Type} {n : Nat} {f : Nat → Bool} (y : Nat → α) (h : f n = false) : picked (n + 1) f y = picked n f y := by
  unfold picked
  rw [List.range_succ, List.filter_append, List.map_append, List.filter_cons, if_neg (by rw [h]; decide)]
  simp
theorem picked_len {α : Type} (n : Nat) (f : Nat → Bool) (y : Nat → α) : (picked n f y).length ≤ n := by
  unfold picked
  rw [List.length_map]
  have := List.length_filter_le f (List.range n)
  rw [List.length_range] at this
  exact this
theorem picked_map {α β : Type} (n : Nat) (f : Nat → Bool) (y : Nat → α) (g : α → β) : picked n f (fun i => g (y i)) = (picked n f y).map g := by
  unfold picked
  rw [List.map_map]
  rfl
theorem picked_empty {α : Type} (n : Nat) (f : Nat → Bool) (y : Nat → α) : (picked n f y).isEmpty = !(List.range n).any f := by
  unfold picked
  rw [Bool.eq_iff_iff]
  simp
theorem picked_mem {α : Type} {n : Nat} {f : Nat → Bool} {y : Nat → α} {v : α} (h : v ∈ picked n f y) : ∃ i, i < n ∧ f i = true ∧ v = y i := by
  unfold picked at h
  obtain ⟨i, hi, e⟩ := List.mem_map.mp h
  have := List.mem_filter.mp hi
  exact ⟨i, List.mem_range.mp this.1, this.2, e.symm⟩
theorem picked_in {α : Type} {n i : Nat} {f : Nat → Bool} {y : Nat → α} (hi : i < n) (hf : f i = true) : y i ∈ picked n f y := by
  unfold picked
  exact List.mem_map.mpr ⟨i, List.mem_filter.mpr ⟨List.mem_range.mpr hi, hf⟩, rfl⟩
theorem picked_all {α : Type} (n : Nat) (y : Nat → α) : picked n (fun _ => true) y = (List.range n).map y := by
  unfold picked
  rw [List.filter_eq_self.mpr (fun _ _ => rfl)]
theorem range_getD {α : Type} (l : List α) (d : α) : (List.range l.length).map (fun i => l.getD i d) = l := by
  refine List.ext_getElem? fun i => ?_
  rw [List.getElem?_map]
  by_cases h : i < l.length
  · rw [List.getElem?_range h, Option.map_some, List.getD_eq_getElem?_getD, List.getElem?_eq_getElem h]
    rfl
  · rw [List.getElem?_eq_none (by rw [List.length_range]; omega), List.getElem?_eq_none (by omega)]
    rfl
theorem picked_filter {α : Type} (l : List α) (d : α) (p : α → Bool) : picked l.length (fun i => p (l.getD i d)) (fun i => l.getD i d) = l.filter p := by
  unfold picked
  have e := List.filter_map (f := fun i => l.getD i d) (p := p) (l := List.range l.length)
  rw [range_getD] at e
  exact e.symm
theorem Kp.same {D : Addr} {H H' : Hp} (h : Kp D H H') (hD : H D = none) : Same H H' := fun b o e => h b o (fun z => by rw [z, hD] at e; cases e) e
section
variable {J : It} {n : Nat} {G : Hp → Prop} {Y : Nat → Hp → V → Hp → Prop}
/-- [te for g in J if tt]: turn i is kept where f i, and gives y i; all that was stays -/
theorem lc_flt (w : Walk J n G Y) {g : TG} {tt : TT} {te : TE} {vs : List Nat} {σ : L2.St} {H1 : Hp} {D : Addr} {Qd : Hp → Prop} (f : Nat → Bool) (y : Nat → V) (hD : H1 D = none) (hn : n ≤ 1000000)
    (hG : ∀ H, Same H1 H → G H) (hY : ∀ i H x H', Y i H x H' → Same H H')
    (hs : ∀ i x H H' (Nx : V → Hp → Prop) (Mx : Hp → Prop), i < n → Same H1 H → Y i H x H' → (f i = true → ∀ H4, Same H' H4 → Nx (y i) H4) → (f i = false → ∀ H3, Same H' H3 → Mx H3) →
      g x (wipe σ vs) H' fun σ2 H2 => wipe σ2 vs = wipe σ vs ∧ tt σ2 H2 fun b H3 => if b = true then te σ2 H3 Nx else Mx H3)
    (hd : ∀ H, Same H1 H → H D = some (.lst (picked n f y)) → Qd H) :
    ∃ W : Nat → Nat → Hp → Prop, (∃ m, W 0 m (upd H1 D (.lst []))) ∧ ∀ i m H, W i m H →
      (J.stop i H ∧ Qd H) ∨ (J.go i H ∧ ∃ Nx : Hp → Prop, (∀ H', Nx H' → ∃ m', m' < m ∧ W (i + 1) m' H') ∧ ∀ x H', J.yld i H x H' → g x (wipe σ vs) H' fun σ2 H2 => wipe σ2 vs = wipe σ vs ∧ tt σ2 H2 fun b H3 =>
        if b = true then te σ2 H3 fun y H4 => ∃ acc, H4 D = some (.lst acc) ∧ acc.length < sizeLine ∧ Nx (upd H4 D (.lst (acc ++ [y]))) else Nx H3) := by
  refine lc_it w (fun i H => i ≤ n ∧ Kp D H1 H ∧ H D = some (.lst (picked i f y))) ⟨Nat.zero_le _, (Kp.refl _ _).upd, upd_same⟩ (fun i H _ p => hG H (p.2.1.same hD)) ?_ (fun H p => hd H (p.2.1.same hD) p.2.2)
  rintro i x H H' hi ⟨_, kp, e⟩ yy
  have sm := hY i H x H' yy
  refine hs i x H H' _ _ hi (kp.same hD) yy (fun hf H4 s4 => ?_) (fun hf H3 s3 => ?_)
  · refine ⟨_, s4 _ _ (sm _ _ e), ?_, hi, ?_, ?_⟩
    · have := picked_len i f y
      unfold sizeLine
      omega
    · exact ((kp.trans (Kp.of sm)).trans (Kp.of s4)).upd
    · rw [upd_same, picked_yes y hf]
  · exact ⟨hi, (kp.trans (Kp.of sm)).trans (Kp.of s3), by rw [picked_no y hf]; exact s3 _ _ (sm _ _ e)⟩
end
/-! ### exceptions told with the slots' number; readings made weaker -/
theorem takes_len {X : Cx} {W : WX} (tk : Takes X W) : Takes X (fun cls d σ H => σ.length = X.N.length → W cls d σ H) :=
  fun u s' ⟨a, B, sI, pins, σ, H, cls, d, e, I, nb, up, sky, na, os, ag, w⟩ => tk u s' ⟨a, B, sI, pins, σ, H, cls, d, e, I, nb, up, sky, na, os, ag, w I.len⟩
def eMono (te : TE) : TE := fun σ H Q => ∃ Q0 : VK, te σ H Q0 ∧ ∀ v H1, Q0 v H1 → Q v H1
theorem pe_mono {X : Cx} {e : Expr} {te : TE} (h : PE X e te) : PE X e (eMono te) :=
  ⟨fun pins s σ H Q I ⟨Q0, hh, k⟩ => wpAny_mono (h.run pins s σ H Q0 I hh) (fun _ _ ⟨v, H1, I1, r, q⟩ => ⟨v, H1, I1, r, k _ _ q⟩) fun _ _ z => z⟩
theorem cutV_mem {xs : List V} {lo hi : Option Int} {x : V} (h : x ∈ cutV xs lo hi) : x ∈ xs := List.mem_of_mem_drop (List.mem_of_mem_take h)
theorem cutV_front (xs : List V) (n : Nat) : (cutV xs none (some (n : Int))).length ≤ n := by
  unfold cutV
  rw [List.length_take, HT.sIx_nat]
  have : HT.sIx xs.length 0 none = 0 := rfl
  omega
theorem ints_mem {ns : List Int} {x : V} (h : x ∈ ns.map V.int ++ [.int 0]) : ∃ z, x = .int z := by
  rcases List.mem_append.mp h with h | h
  · obtain ⟨z, _, rfl⟩ := List.mem_map.mp h
    exact ⟨z, rfl⟩
  · exact ⟨0, List.mem_singleton.mp h⟩
/-! ### lists of texts as data -/
theorem dp_strsAll {K : PySem.W.Frag} {H : Hp} : ∀ l : List Str, DpAll K H (l.map V.str) (l.map PyData.str)
  | [] => .nil
  | z :: l => .cons (.str z) (dp_strsAll l)
theorem dp_strs {K : PySem.W.Frag} {H : Hp} {a : Addr} {l : List Str} (h : SqL K H a (l.map V.str)) : Dp K H (.ref a) (.list (l.map PyData.str)) := .lst h (dp_strsAll l)
theorem lay_strs : ∀ l : List Str, (∀ z ∈ l, ∀ c ∈ z.cps.toList, c < 0x110000) → PyData.canLayAll0 (l.map PyData.str) = true ∧ PyData.depthAll (l.map PyData.str) = 0
  | [], _ => ⟨rfl, rfl⟩
  | z :: l, h => by
    obtain ⟨h1, h2⟩ := lay_strs l fun y hy => h y (List.mem_cons_of_mem _ hy)
    refine ⟨?_, ?_⟩
    · show (z.cps.all (· < 0x110000) && PyData.canLayAll0 (l.map PyData.str)) = true
      rw [h1, Bool.and_true]
      rw [Array.all_eq_true]
      intro i hi
      exact decide_eq_true (h z List.mem_cons_self _ (by simp))
    · show max 0 (PyData.depthAll (l.map PyData.str)) = 0
      rw [h2]
      rfl
theorem shaped_strs {l : List Str} (h : ∀ z ∈ l, ∀ c ∈ z.cps.toList, c < 0x110000) : SeqAt.shaped (.list (l.map PyData.str)) = true := by
  obtain ⟨h1, h2⟩ := lay_strs l h
  show (PyData.canLayAll0 _ && decide (PyData.depthAll _ + 1 ≤ 64)) = true
  rw [h1, h2]
  rfl
theorem eqv_nil : ∀ l : List Str, PyData.eqv (.list (l.map PyData.str)) (.list []) = l.isEmpty
  | [] => rfl
  | _ :: _ => rfl
/-- a list of texts against the empty list -/
theorem eq_nil {K : PySem.W.Frag} {H : Hp} {a b : Addr} {l : List Str} {Q : VK} (ha : SqL K H a (l.map V.str)) (hb : SqL K H b []) (h : ∀ z ∈ l, ∀ c ∈ z.cps.toList, c < 0x110000) (q : Q (.bl l.isEmpty) H) : rEqD K (.ref a) (.ref b) H Q :=
  ⟨_, _, dp_strs ha, .lst hb .nil, shaped_strs h, rfl, by rw [eqv_nil]; exact q⟩
end Mx

namespace Mx
open PySem PySem.Spec PyProof.Rows L2
/-! ### heaps of a law that makes lambdas: all but tables stays, the tables keep their word -/
def Go (Tb : List (Addr × Str)) (H H' : Hp) : Prop := LamX.ExtN H H' ∧ (LamX.Tabs Tb H → LamX.Tabs Tb H')
theorem Go.refl (Tb : List (Addr × Str)) (H : Hp) : Go Tb H H := ⟨LamX.ExtN.refl H, id⟩
theorem Go.trans {Tb : List (Addr × Str)} {H H1 H2 : Hp} (x : Go Tb H H1) (y : Go Tb H1 H2) : Go Tb H H2 := ⟨x.1.trans y.1, fun t => y.2 (x.2 t)⟩
theorem Go.same {Tb : List (Addr × Str)} {H H' : Hp} (x : Same H H') : Go Tb H H' := ⟨.of x, fun t => t.ext x⟩
theorem Go.new {Tb : List (Addr × Str)} {H H1 : Hp} {p : Addr} {o : HO} (x : Go Tb H H1) (h : H1 p = none) : Go Tb H (L2.upd H1 p o) := x.trans (.same (Same.new (Same.refl _) h))
theorem Go.kp {Tb : List (Addr × Str)} {H0 H H' : Hp} {a : Addr} {c : Int} (x : Go Tb H0 H) (n : H0 a = none) (st : StAt a c H) (k : Kp a H H') : Go Tb H0 H' := by
  obtain ⟨u, m, v, e, _, _⟩ := st
  refine ⟨fun b o h1 h2 => k b o (ne_of_none h1 n) (x.1 b o h1 h2), fun t p hp => ?_⟩
  obtain ⟨ps, e1, e2, e3⟩ := x.2 t p hp
  refine ⟨ps, k _ _ (fun z => by rw [z, e] at e1; cases e1) e1, e2, fun pos cv h => ?_⟩
  obtain ⟨c', rfl, e5⟩ := e3 pos cv h
  exact ⟨c', rfl, k _ _ (fun z => by rw [z, e] at e5; unfold LamX.CodeO at e5; cases e5) e5⟩
theorem Go.lst {Tb : List (Addr × Str)} {H H' : Hp} {p : Addr} {xs : List V} (x : Go Tb H H') (h : H p = some (.lst xs)) : H' p = some (.lst xs) := x.1 p _ h fun ps z => by cases z
theorem Go.tup {Tb : List (Addr × Str)} {H H' : Hp} {p : Addr} {xs : List V} (x : Go Tb H H') (h : H p = some (.tup xs)) : H' p = some (.tup xs) := x.1 p _ h fun ps z => by cases z
theorem TyOf_go {K : PySem.W.Frag} {H H' : Hp} {x : V} {t : Value} (g : LamX.ExtN H H') (h : TyOf K H x t) : TyOf K H' x t := by
  cases h with
  | non => exact .non
  | bl y => exact .bl y
  | int i => exact .int i
  | str y => exact .str y
  | flt y => exact .flt y
  | lst e => exact .lst (g _ _ e fun ps z => by cases z)
  | frz e => exact .frz (g _ _ e fun ps z => by cases z)
  | tup e => exact .tup (g _ _ e fun ps z => by cases z)
  | dK e => exact .dK (g _ _ e fun ps z => by cases z)
  | dT e => exact .dT (g _ _ e fun ps z => by cases z)
  | ins e a b c d f => exact .ins (g _ _ e fun ps z => by cases z) a b c d f
theorem TyX_go {K : PySem.W.Frag} {H H' : Hp} {x : V} {t : Value} (g : LamX.ExtN H H') (h : TyX K H x t) : TyX K H' x t := by
  cases h with
  | base b => exact .base (TyOf_go g b)
  | byt y => exact .byt y
  | set e => exact .set (g _ _ e fun ps z => by cases z)
  | kList e c => exact .kList e c
  | kTuple e c => exact .kTuple e c
  | kDict e c => exact .kDict e c
  | fTuple e => exact .fTuple (g _ _ e fun ps z => by cases z)
  | fDict e => exact .fDict (g _ _ e fun ps z => by cases z)
theorem picked_none {α : Type} (n : Nat) (y : Nat → α) : picked n (fun _ => false) y = [] := by
  unfold picked
  simp
/-! ### the law's def: its code object told, guards told -/
structure FunC (K : PySem.W.Frag) (x : Str) (st : Stmt) (f : Addr) (fd : FuncData) (c : Addr) : Prop where
  ex : ∃ (oc : Value) (od : Option Addr) (kV doc pm : Value) (an : Option Addr) (ct : Value) (osl : Array (Option Value)),
    fd = PySem.W.fnOf x x (defArgs st) (defBody st) (defScope st) .none kV doc pm an (.ref c) ct ∧ K.lookup f = some ⟨oc, od, .func fd, osl⟩ ∧ PySem.W.codeIn K (.ref c) x = true
section
variable {P : Program} {w : World} {K : PySem.W.Frag} {mg : Str → Option Value} {base : Heap}
theorem okGC {CX : CXT} {x : Str} {st : Stmt} {f c : Addr} {fd : FuncData} {N ps : List Str} {k : Nat} {sp : Sp} (F : FunC K x st f fd c) (S : FnScope N ps (defScope st)) (len : ∀ vs H Q E, sp vs H Q E → vs.length = ps.length)
    (body : ∀ (A : Around) (outer : List Env) (s : Shared) (H : Hp) (vs : List V) (Q : VK) (E : XK), RmG k (A.deeper (envOfC x (defScope st) s.heap.objs.size f (.ref c))) → sp vs H Q E →
      ∃ t, PSs (cxOf CX P w K mg base N x (defScope st) f (.ref c) A outer s H E) (defBody st) t ∧ t { nx := fun _ H' => Q .non H', rt := Q } (start N vs) H) : FnG P w K mg base CX (k + 1) f fd ps sp := by
  obtain ⟨oc, od, kV, doc, pm, an, ct, osl, rfl, look, code⟩ := F.ex
  constructor
  · exact len
  intro A outer s H args us vs Q E room e0 binds rel want
  have names : ((ps.zip us).all fun y => (defScope st).names.lookup y.1 == some .local || (defScope st).names.lookup y.1 == some .cell) = true := by
    rw [List.all_eq_true]
    rintro ⟨n, u⟩ mem
    rcases S.par n (List.of_mem_zip mem).1 with q | q <;> simp [q]
  have inK : K.In s.heap := e0.mod.kin.keeps fun b o z => (e0.bs b o z).1
  have limit : s.heap.NoLimit := e0.mod.nolimit.keeps fun b o z => (e0.bs b o z).1
  refine Att.call_fn inK limit look code room.r.depth binds names (fun s1 entered => ?_) S.co S.gen S.kind
  obtain ⟨t, term, read⟩ := body A outer s H vs Q E (room.deeper _) want
  have begin_ := inv_start (CX := CX) (E := E) (f := f) (cd := .ref c) (qual := x) (outer := outer) S room.r.hd e0 (len _ _ _ _ want) rel entered
  refine wpAny_mono (term.run [] s1 _ H _ begin_ read) (fun flow s2 out => ?_) fun _ _ z => z
  match flow, out with
  | .ret u, ⟨v, _, H2, J, r, q⟩ => exact ⟨v, H2, J.os, J.bare, J.base, J.hok, r, q⟩
  | .next, ⟨_, H2, J, q⟩ => exact ⟨.non, H2, J.os, J.bare, J.base, J.hok, rfl, q⟩
  | .brk, ⟨_, _, _, q⟩ => exact q.elim
  | .cont, ⟨_, _, _, q⟩ => exact q.elim
end
/-- keywords (and positional arguments) of a def without defaults -/
theorem kb_of {K : PySem.W.Frag} {x qual : Str} {st : Stmt} {f : Addr} {fd : FuncData} {ps ks : List Str} (F : Fun K x qual st f fd)
    (h : ∀ (kV doc pm : Value) (an : Option Addr) (cdv ct : Value) (us ws : List Value), (us ++ ws).length = ps.length → bindArgs (PySem.W.fnOf x qual (defArgs st) (defBody st) (defScope st) .none kV doc pm an cdv ct) ⟨us, ks.zip ws⟩ = pure (ps.zip (us ++ ws))) :
    KBinds K fd ps ks (fun us ws => us ++ ws) (fun vs zs => vs ++ zs) := by
  obtain ⟨oc, od, kV, doc, pm, an, cdv, ct, osl, rfl, look, code⟩ := F.ex
  exact ⟨fun s us ws _ hl => .of_eq (h kV doc pm an cdv ct us ws hl), fun a b => a.append b⟩
/-! ### the head: a script, tables of code objects -/
/-- what is tracked when the law is called: the tables (empty), and the script if K does not tell it -/
def lawH (K : PySem.W.Frag) (ts : List Addr) (a : Addr) (o : Obj) (xs : List V) : Hp := fun b =>
  if b ∈ ts then some (.tbl #[]) else if b = a then (if (K.lookup a).isNone = true then some (.frz o (.lst xs)) else none) else none
section
variable {K : PySem.W.Frag} {ts : List Addr} {a b : Addr} {o : Obj} {xs : List V}
theorem lawH_tab (h : b ∈ ts) : lawH K ts a o xs b = some (.tbl #[]) := if_pos h
theorem lawH_kinds {u : HO} (h : lawH K ts a o xs b = some u) : (b ∈ ts ∧ u = .tbl #[]) ∨ (b = a ∧ K.lookup a = none ∧ u = .frz o (.lst xs)) := by
  unfold lawH at h
  split at h
  · rename_i m
    exact .inl ⟨m, (Option.some.inj h).symm⟩
  · split at h
    · rename_i e
      split at h
      · rename_i n
        exact .inr ⟨e, Option.isNone_iff_eq_none.mp n, (Option.some.inj h).symm⟩
      · cases h
    · cases h
end
section
variable {P : Program} {w : World} {K : PySem.W.Frag} {mg mb : Str → Option Value} {CX : CXT} {k : Nat} {fa a : Addr} {cs : List (Addr × Addr)} {fd : FuncData} {x : Str} {sp : Sp} {s : Shared} {vs : List Value} {ns : List Int}
theorem lawRun (inK : K.In s.heap) (glob : s.heap.Ns mainGlobals mg) (blt : s.heap.Ns builtinsNs mb) (boot : ∀ y : Str, y ≠ "__name__" → mb y = bootBuiltins y) (limit : s.heap.NoLimit) (gens : s.gens = #[])
    (tabs : ∀ p ∈ cs, s.heap.get? p.2 = some { cls := .none, data := .fields #[] }) (notK : ∀ p ∈ cs, K.lookup p.2 = none) (heads : ∀ p ∈ cs, PySem.W.CodeHd s.heap p.1 p.2)
    (main : ∃ (bm : Addr) (ob : Obj), mg "__builtins__" = some (.ref bm) ∧ bm ≠ builtinsNs ∧ s.heap.get? bm = some ob ∧ ob.cls = .type "module" ∧ ob.dict = some builtinsNs ∧ ob.data = .plain)
    (script : s.heap.get? a = some { cls := .type "list", data := .seq vs.toArray }) (whole : IntsAre vs ns) (short : ns.length ≤ sizeLine) (room : RmG k callerA)
    (F : ∀ base : Heap, K.In base → base.Ns mainGlobals mg → (∀ p ∈ cs, LamX.TabB base mg p.1 p.2) → FnG P w K mg base CX k fa fd [x] sp) (bind : ∀ (s : Shared) (u : Value), BindsTo s fd ⟨[u], []⟩ [(x, u)])
    (want : ∀ H : Hp, (∀ p ∈ cs, H p.2 = some (.tbl #[])) → LsX K H a (ns.map V.int) → sp [.ref a] H (fun v _ => v = .bl true) fun _ _ _ => False)
    (none_ : ∀ H e s', CX [] H s (fun _ _ _ => False) e s' → False) :
    codeAny (model P w) callerA (.call (.ref fa) ⟨[.ref a], []⟩) (fun r s' => r = .ok (.ret (.bool true)) ∧ OldK s.heap s'.heap ∧ s'.os = s.os ∧ AllBare s'.gens) s := by
  have rel : Vals (ns.map V.int) vs := vals_ints whole
  have isTab : ∀ b ∈ cs.map Prod.snd, s.heap.get? b = some { cls := .none, data := .fields #[] } := by
    intro b mem
    obtain ⟨p, hp, rfl⟩ := List.mem_map.mp mem
    exact tabs p hp
  have ofTab : ∀ p ∈ cs, p.2 ∈ cs.map Prod.snd := fun p hp => List.mem_map_of_mem hp
  generalize hH : lawH K (cs.map Prod.snd) a { cls := .type "list", data := .seq vs.toArray } (ns.map V.int) = H
  have tracked : ∀ {b : Addr} {u : HO}, H b = some u → (b ∈ cs.map Prod.snd ∧ u = .tbl #[]) ∨ (b = a ∧ K.lookup a = none ∧ u = .frz { cls := .type "list", data := .seq vs.toArray } (.lst (ns.map V.int))) := fun {b u} e => lawH_kinds (by rw [hH]; exact e)
  have atTab : ∀ p ∈ cs, H p.2 = some (.tbl #[]) := fun p hp => by rw [← hH]; exact lawH_tab (ofTab p hp)
  -- an object that is neither a list nor an empty table is not tracked
  have plain : ∀ {b : Addr} {o : Obj}, s.heap.get? b = some o → o ≠ { cls := .none, data := .fields #[] } → o ≠ { cls := .type "list", data := .seq vs.toArray } → H b = none := by
    intro b o e n1 n2
    cases q : H b with
    | none => rfl
    | some u =>
      rcases tracked q with ⟨m, _⟩ | ⟨rfl, _⟩
      · exact absurd (Option.some.inj (e.symm.trans (isTab b m))) n1
      · exact absurd (Option.some.inj (e.symm.trans script)) n2
  have below : ∀ {b : Addr} {o : Obj}, s.heap.get? b = some o → o ≠ { cls := .none, data := .fields #[] } → o ≠ { cls := .type "list", data := .seq vs.toArray } → (hidT s.heap H).get? b = some o := fun e n1 n2 => hidT_get e (plain e n1 n2)
  have spaces : ∀ {b : Addr} {m : Str → Option Value}, s.heap.Ns b m → (hidT s.heap H).Ns b m := by
    rintro b m ⟨o, es, ep, e, d, r⟩
    exact ⟨o, es, ep, below e (fun z => by rw [z] at d; cases d) (fun z => by rw [z] at d; cases d), d, r⟩
  have inB : K.In (hidT s.heap H) := by
    intro b o e
    refine hidT_get (inK b o e) ?_
    cases q : H b with
    | none => rfl
    | some u =>
      rcases tracked q with ⟨m, _⟩ | ⟨rfl, n, _⟩
      · obtain ⟨p, hp, rfl⟩ := List.mem_map.mp m
        rw [notK p hp] at e
        cases e
      · rw [n] at e
        cases e
  have mod : L2.Mod K mg (hidT s.heap H) := ⟨inB, spaces glob, ⟨mb, spaces blt, boot⟩, let ⟨mc, l1, l2⟩ := limit; ⟨mc, spaces l1, l2⟩⟩
  have bases : ∀ p ∈ cs, LamX.TabB (hidT s.heap H) mg p.1 p.2 := by
    intro p hp
    have tp := tabs p hp
    constructor
    · obtain ⟨o, us, file, tf, flags, tg, inF, text, tt, e1, r1, r2, r3, rest⟩ := heads p hp
      refine ⟨o, us, file, tf, flags, tg, inF, text, tt, below e1 (fun z => ?_) (fun z => ?_), r1, r2, r3, rest⟩
      · rw [z] at r2
        cases r2
        simp at r3
      · rw [z] at r2
        cases r2
    · obtain ⟨bm, ob, b1, b2, b3, b4, b5, b6⟩ := main
      refine ⟨bm, ob, b1, b2, fun z => ?_, fun z => ?_, below b3 (fun z => by rw [z] at b6; cases b6) (fun z => by rw [z] at b6; cases b6), b4, b5, b6⟩
      · obtain ⟨o, es, ep, e, d, _⟩ := glob
        rw [z, e] at b3
        obtain rfl := Option.some.inj b3
        rw [d] at b6
        cases b6
      · rw [z, tp] at b3
        obtain rfl := Option.some.inj b3
        cases b6
    · intro z
      obtain ⟨o, es, ep, e, d, _⟩ := glob
      rw [z, tp] at e
      obtain rfl := Option.some.inj e
      cases d
  have reads : LsX K H a (ns.map V.int) := by
    cases q : K.lookup a with
    | some o =>
      have e1 := Option.some.inj ((inK a o q).symm.trans script)
      exact .inr ⟨vs, 0, by rw [q, e1], by rw [List.length_map]; exact short, rel⟩
    | none =>
      refine .inl (.inr ⟨{ cls := .type "list", data := .seq vs.toArray }, ?_⟩)
      have no : a ∉ cs.map Prod.snd := fun m => by
        have z := (isTab a m).symm.trans script
        cases Option.some.inj z
      rw [← hH]
      unfold lawH
      rw [if_neg no, if_pos rfl, if_pos (by rw [q]; rfl)]
  have hok : HOk P w H s.heap := by
    intro b u e
    rcases tracked e with ⟨m, rfl⟩ | ⟨rfl, _, rfl⟩
    · exact isTab b m
    · exact ⟨script, by rw [List.length_map]; exact short, vs, _, rel, script⟩
  have e0 : Env0 P w K mg (hidT s.heap H) callerA [] s H := ⟨rfl, mod, fun b o e => of_hidT e, Nat.le_of_eq (hidT_size _ _), trivial, (fun b m => by cases m), hok, .of_eq gens⟩
  refine codeAny_mono ((F _ inB (spaces glob) bases).run callerA [] s H ⟨[.ref a], []⟩ [.ref a] [.ref a] _ _ room e0 (bind s (.ref a)) (.cons rfl .nil) (want H atTab reads)) ?_
  intro r s' out
  match r, out with
  | .error e, z => exact (none_ H e s' z).elim
  | .ok .next, z => exact z.elim
  | .ok .brk, z => exact z.elim
  | .ok .cont, z => exact z.elim
  | .ok (.ret u), ⟨v, H', os, bare, un, hok', r', (q : v = .bl true)⟩ =>
    subst q
    have u1 : u = Value.bool true := r'
    subst u1
    have grown : ∀ b ∈ cs.map Prod.snd, ∃ more : Array Value, s'.heap.get? b = some { cls := .none, data := .fields more } := by
      intro b mem
      obtain ⟨p, hp, rfl⟩ := List.mem_map.mp mem
      obtain ⟨more, z⟩ := un.tbls p.2 #[] (atTab p hp)
      exact ⟨_, hok' _ _ z⟩
    have stays : ∀ b o, b ∉ cs.map Prod.snd → s.heap.get? b = some o → s'.heap.get? b = some o := by
      intro b o no e
      cases t : H b with
      | none => exact un.keep b o e t (fun z => by cases z) (fun z => by cases z)
      | some u =>
        rcases tracked t with ⟨m, _⟩ | ⟨rfl, _, rfl⟩
        · exact absurd m no
        · have z1 := (hok _ _ t).1
          have z2 := (hok' _ _ (un.frzs _ _ _ t)).1
          rw [← e]
          exact z2.trans z1.symm
    refine ⟨rfl, ⟨fun b o e => ?_, fun b o e => ?_⟩, os, bare⟩
    · by_cases mem : b ∈ cs.map Prod.snd
      · obtain ⟨more, z⟩ := grown b mem
        obtain ⟨p, hp, rfl⟩ := List.mem_map.mp mem
        obtain rfl := Option.some.inj (e.symm.trans (tabs p hp))
        exact .inr (.inl ⟨((heads p hp).tab (tabs p hp)).isCodeTable, rfl, #[], more, rfl, by rw [Array.empty_append]; exact z⟩)
      · exact .inl (stays b o mem e)
    · by_cases mem : b ∈ cs.map Prod.snd
      · obtain ⟨more, z⟩ := grown b mem
        exact ⟨_, z⟩
      · exact ⟨o, stays b o mem e⟩
end
/-- what is known of the law's promise behind the top -/
def LawG (l : PySem.W.OpenLaw) (w : World) (K : PySem.W.Frag) (CX : CXT) (k n : Nat) (x : Str) (mg : Str → Option Value) (fa : Addr) (h : Heap) : Prop :=
  ∃ (fd : FuncData) (cs : List (Addr × Addr)) (sp : Sp), (∀ p ∈ cs, h.get? p.2 = some { cls := .none, data := .fields #[] }) ∧ (∀ p ∈ cs, K.lookup p.2 = none) ∧ (∀ p ∈ cs, PySem.W.CodeHd h p.1 p.2) ∧ (∀ (s : Shared) (u : Value), BindsTo s fd ⟨[u], []⟩ [(x, u)]) ∧
    (∀ (H : Hp) (a : Addr) (ns : List Int), ns.length ≤ n → (∀ z ∈ ns, Builtin.Int.intBits z ≤ 1048576) → (∀ p ∈ cs, H p.2 = some (.tbl #[])) → LsX K H a (ns.map V.int) → sp [.ref a] H (fun v _ => v = .bl true) fun _ _ _ => False) ∧
    ∀ base : Heap, K.In base → base.Ns mainGlobals mg → (∀ p ∈ cs, LamX.TabB base mg p.1 p.2) → FnG l.prog w K mg base CX k fa fd [x] sp
theorem walkG {l : PySem.W.OpenLaw} {n k : Nat} {q : Program} {loose : List Str} {XP : (Str → Option Value) → Heap → Prop} {YP : World → Heap → Prop} {d : DefRec} {K : Params → PySem.W.Frag} {CX : World → CXT} {x : Str}
    (most : l.most = some n) (fits : n ≤ sizeLine) (bare : d.params.defaults = []) (room : RmG k callerA) (hY : ∀ (w : World) (h : Heap), YP w h → (K w.params).In h)
    (F : ∀ (w : World) (mg mb : Str → Option Value) (fa : Addr) (h : Heap), (∃ ls mean, PyProof.Rows.Top q ls mean mg mb h) → YP w h → (K w.params).In h → h.Ns mainGlobals mg → mg d.name = some (.ref fa) → LawG l w (K w.params) (CX w) k n x mg fa h)
    (none_ : ∀ (w : World) (H : Hp) (s : Shared) (e : Value) (s' : Shared), CX w [] H s (fun _ _ _ => False) e s' → False) :
    PySem.W.WalkO q loose XP YP l.row.toRowW d [] (fun f vs => PySem.call f vs) := by
  refine Att.attach_callB most bare ?_
  intro w s0 s mg mb fa o pm cd doc a vs ns G Y ho hd hcd hm script whole len bits gens
  have inK := hY w _ Y
  obtain ⟨fd, cs, sp, tabs, notK, heads, bind, want, run⟩ := F w mg mb fa _ ⟨_, _, G.T⟩ Y inK G.T.g hm
  exact lawRun inK G.T.g G.T.b G.T.builtins G.T.nolimit gens tabs notK heads G.T.bmain script whole (Nat.le_trans len fits) room run bind (fun H t r => want H a ns len bits t r) fun H e s' => none_ w H s e s'
end Mx

namespace Mx
open PySem PySem.Spec PyProof.Rows L2
/-! ### d.setdefault(k, v), called as a method -/
def tDSet (td ty tx : TE) : TE := fun σ H Q => td σ H fun x H1 => ∃ a, x = .ref a ∧ IsD H1 a ∧ ty σ H1 fun y H2 => tx σ H2 fun z H3 => rSetd (.ref a) [y, z] H3 Q
section
variable {X : Cx} {o e f : Expr} {apos cpos : Pos} {td ty tx : TE}
theorem pe_dset2 (ho : PE X o td) (he : PE X e ty) (hf : PE X f tx) (m : M2 X o "setdefault" apos e f cpos) : PE X (.Call (.Attribute o "setdefault" apos) [e, f] [] cpos) (tDSet td ty tx) := by
  constructor
  intro pins s σ H Q I h
  refine wpAny_Call_method m.base m.few m.line PySem.F.plainAttrs_dict PySem.F.slot_dict_setdefault PySem.F.type_dict_setdefault (thn (ho.run pins s σ H _ I h) ?_)
  rintro u s1 ⟨x, H1, I1, rx, a, rfl, d, q1⟩
  obtain rfl : u = Value.ref a := rx
  obtain ⟨t1, t2, _⟩ := isD_at I1 d
  refine ⟨t1, t2, ?_⟩
  rw [m.trees]
  refine Calls.callWith_builtin rfl (Calls.evalArgs_plain (Calls.spliced_cons (thn (he.run pins s1 σ H1 _ I1 q1) ?_)))
  rintro iv s2 ⟨y, H2, I2, ry, q2⟩
  refine Calls.spliced_cons (thn (hf.run pins s2 σ H2 _ I2 q2) ?_)
  rintro fv s3 ⟨z, H3, I3, rz, b, kvs, k, v, eb, ev, ea, hl, w1, w2⟩
  cases eb
  cases ev
  refine Calls.spliced_nil ?_
  obtain ⟨fits, notMods, vs0, rel, dd⟩ := dk_of I3.hok ea
  have small : vs0.length ≤ sizeLine := by rw [← rel.length]; exact fits
  refine call_meetsIn PySem.F.slot_dict_setdefault dd.typeIs PySem.F.entry_dict_setdefault (PySem.F.args_dict_setdefault_3 _ _ _) (kt_meets_setdefault (mixKind X.prog X.w) _ (kV_is ry) notMods _) ⟨vs0, dd, small, ?_, ?_⟩
  · intro u hu
    have there := rel.val k
    rw [hu] at there
    match hv : valV kvs k, there with
    | some x, there => exact ⟨x, H3, I3.tok _, there, w1 x hv⟩
    | none, there => exact there.elim
  · intro hn h' dd' hs
    have there := rel.val k
    rw [hn] at there
    match hv : valV kvs k, there with
    | some x, there => exact there.elim
    | none, there =>
      have grows : (putK kvs k z).length ≤ sizeLine := by have := length_putK kvs k z; omega
      exact ⟨z, _, d_write (t' := s3.toks + 1) I3 (by rw [ea]; exact True.intro) hs (let ⟨q, _, _, hq, _⟩ := dd'; ⟨q, hq⟩) (dk_new grows notMods (rel.put k rz) dd'), rz, w2 hv⟩
end
/-- a def with one default: where it stands, its name, its parameters, the default -/
structure DefD (K : PySem.W.Frag) (mg : Str → Option Value) (x : Str) (st : Stmt) (ps : List Str) (dv : V) : Type where
  f : Addr
  fd : FuncData
  F : FunD K x x (defArgs st) (defBody st) (defScope st) [dv] [] f fd
  m : mg x = some (.ref f)
  b : Binds K fd ps []
  ds : List Value
  hd : Vals [dv] ds
  b1 : Binds K fd ps ds
/-! ### a sign, n times -/
theorem rep_fold (c : Nat) : ∀ (m : Nat) (acc : Array Nat), ((List.replicate m (#[c] : Array Nat)).foldl (· ++ ·) acc).toList = acc.toList ++ List.replicate m c
  | 0, acc => by simp
  | m + 1, acc => by
    rw [List.replicate_succ, List.foldl_cons, rep_fold c m (acc ++ #[c]), List.replicate_succ]
    simp
theorem mul_one (c : Nat) (n : Int) (h : 0 ≤ n) : TL.tl (Txt.mul ⟨#[c]⟩ n) = List.replicate n.toNat c := by
  unfold Txt.mul
  by_cases h1 : n < 1
  · rw [if_pos h1]
    have : n = 0 := by omega
    subst this
    rfl
  · rw [if_neg h1]
    by_cases h2 : n = 1
    · subst h2
      rfl
    · rw [if_neg (by simp [Str.length]; exact h2)]
      show ((List.replicate n.toNat (#[c] : Array Nat)).foldl (· ++ ·) #[]).toList = _
      rw [rep_fold]
      rfl
theorem mul_ok (c : Nat) (n : Int) (h : 0 ≤ n) (h2 : n ≤ 1000) : MulOk ⟨#[c]⟩ n := by
  refine ⟨?_, ?_, ?_⟩
  · rw [decide_eq_false (by omega), decide_eq_false (by omega)]
    rfl
  · intro h1 _ h3
    have h4 : ((2 : Int) ^ 63 - 1) / n ≥ 1 := (Int.le_ediv_iff_mul_le (by omega)).mpr (by omega)
    have h5 : (((⟨#[c]⟩ : Str).length : Nat) : Int) = 1 := rfl
    omega
  · intro _ _
    exact short24 (by show 1 * n.toNat ≤ 16777216; omega)
theorem op_strMul {X : Cx} : OpR X (binaryOp .Mult) (fun x y H Q => ∃ (c : Nat) (n : Int), x = .str ⟨#[c]⟩ ∧ y = .int n ∧ (0 ≤ n ∧ n ≤ 1000) ∧ ∀ z : Str, TL.tl z = List.replicate n.toNat c → Q (.str z) H) := by
  intro pins s σ H x y v u Q I rx ry h
  obtain ⟨c, n, rfl, rfl, ⟨h1, h2⟩, q⟩ := h
  obtain ⟨t, rfl⟩ := rx
  obtain ⟨t', rfl⟩ := ry
  exact SB.mul (mul_ok c n h1 h2) fun t2 tk => ⟨.str _, H, I.tok _, ⟨_, rfl⟩, q _ (mul_one c n h1)⟩
end Mx

namespace Mx
open PySem PySem.Spec PyProof.Rows L2
/-! ### what stands, carried by rules that a tactic can chain backwards -/
section
variable {Tb : List (Addr × Str)} {H H0 H1 H' : Hp} {p q a : Addr} {o u : HO} {xs : List V} {c d : Int} {kvs : List (Key × V)}
theorem lk_new (hp : H p = none) (h : H q = some u) : upd H p o q = some u := by rw [upd_ne (ne_of_none h hp)]; exact h
theorem lk_ne (n : q ≠ p) (h : H q = some u) : upd H p o q = some u := by rw [upd_ne n]; exact h
theorem lk_same (s : Same H H') (h : H q = some u) : H' q = some u := s _ _ h
theorem lk_go_lst (g : Go Tb H H') (h : H q = some (.lst xs)) : H' q = some (.lst xs) := g.lst h
theorem lk_go_tup (g : Go Tb H H') (h : H q = some (.tup xs)) : H' q = some (.tup xs) := g.tup h
theorem lk_go_dK (g : Go Tb H H') (h : H q = some (.dK kvs)) : H' q = some (.dK kvs) := g.1 q _ h fun ps z => by cases z
theorem lk_kp (k : Kp a H H') (n : q ≠ a) (h : H q = some u) : H' q = some u := k _ _ n h
theorem lk_kp_tup (k : Kp a H H') (st : StAt a c H) (h : H q = some (.tup xs)) : H' q = some (.tup xs) := k _ _ (fun z => by obtain ⟨_, _, _, e, _⟩ := st; rw [z, e] at h; cases h) h
theorem lk_kp_dK (k : Kp a H H') (st : StAt a c H) (h : H q = some (.dK kvs)) : H' q = some (.dK kvs) := k _ _ (fun z => by obtain ⟨_, _, _, e, _⟩ := st; rw [z, e] at h; cases h) h
theorem ne_st (hp : H p = none) (st : StAt a c H) : p ≠ a := fun e => by
  obtain ⟨_, _, _, e2, _⟩ := st
  rw [e, e2] at hp
  cases hp
theorem st_new (hp : H p = none) (st : StAt a c H) : StAt a c (upd H p o) := st.same (Same.new (Same.refl _) hp)
theorem st_same (s : Same H H') (st : StAt a c H) : StAt a c H' := st.same s
theorem st_go (g : Go Tb H H') (st : StAt a c H) : StAt a c H' := let ⟨x, m, n, e, h1, h2⟩ := st; ⟨x, m, n, g.lst e, h1, h2⟩
theorem fr_new (hp : H p = none) (s : Same H0 H) : Same H0 (L2.upd H p o) := Same.new s hp
theorem fr_same (s : Same H H') (t : Same H0 H) : Same H0 H' := t.trans s
theorem go_new (hp : H p = none) (s : Go Tb H0 H) : Go Tb H0 (upd H p o) := s.new hp
theorem go_same (s : Same H H') (t : Go Tb H0 H) : Go Tb H0 H' := t.trans (.same s)
theorem go_go (s : Go Tb H H') (t : Go Tb H0 H) : Go Tb H0 H' := t.trans s
theorem go_kp (k : Kp a H H') (n : H0 a = none) (st : StAt a c H) (t : Go Tb H0 H) : Go Tb H0 H' := t.kp n st k
theorem go_set (n : H0 a = none) (h : H a = some (.lst xs)) (t : Go Tb H0 H) : Go Tb H0 (L2.upd H a o) := by
  refine ⟨fun b u h1 h2 => ?_, fun tb p hp => ?_⟩
  · rw [upd_ne (ne_of_none h1 n)]
    exact t.1 b u h1 h2
  · obtain ⟨ps, e1, e2, e3⟩ := t.2 tb p hp
    refine ⟨ps, ?_, e2, fun pos cv hc => ?_⟩
    · rw [upd_ne (fun z => by rw [z, h] at e1; cases e1)]
      exact e1
    · obtain ⟨c', rfl, e5⟩ := e3 pos cv hc
      refine ⟨c', rfl, ?_⟩
      rw [upd_ne (fun z => by rw [z, h] at e5; unfold LamX.CodeO at e5; cases e5)]
      exact e5
theorem fr_set (n : H0 a = none) (t : Same H0 H) : Same H0 (L2.upd H a o) := fun b u h1 => by
  rw [upd_ne (ne_of_none h1 n)]
  exact t b u h1
theorem none_same (t : Same H0 H) (n : H a = none) : H0 a = none := by
  cases e : H0 a with
  | none => rfl
  | some u => rw [t _ _ e] at n; cases n
theorem kp_new (hp : H p = none) (s : Kp a H0 H) : Kp a H0 (L2.upd H p o) := s.new hp
theorem kp_same (s : Same H H') (t : Kp a H0 H) : Kp a H0 H' := t.trans (.of s)
theorem kp_kp (s : Kp a H H') (t : Kp a H0 H) : Kp a H0 H' := t.trans s
theorem kp_upd (s : Kp a H0 H) : Kp a H0 (L2.upd H a o) := s.upd
end
theorem Go.tabs {Tb : List (Addr × Str)} {H0 H : Hp} (g : Go Tb H0 H) (t : LamX.Tabs Tb H0) : LamX.Tabs Tb H := g.2 t
theorem tCut {t u : TS} {D : Ends} {σ : L2.St} {H : Hp} (R : L2.St → Hp → Prop) (key : ∀ σ' H', R σ' H' → u D σ' H') (go : (∀ σ' H', R σ' H' → u D σ' H') → t { D with nx := u D } σ H) : tSeq t u D σ H := go key
theorem tCutIf {c : TT} {x y u : TS} {D : Ends} {σ : L2.St} {H : Hp} (R : L2.St → Hp → Prop) (key : ∀ σ' H', R σ' H' → u D σ' H') (go : (∀ σ' H', R σ' H' → u D σ' H') → tIfS c x y { D with nx := u D } σ H) : tSeq (tIfS c x y) u D σ H := go key
theorem str_ext {x y : Str} (h : x.cps.toList = y.cps.toList) : x = y := by
  cases x
  cases y
  congr 1
  exact Array.toList_inj.mp h
/-! ### data -/
theorem lay_str {z : Str} (h : ∀ c ∈ z.cps.toList, c < 0x110000) : PyData.canLay0 (.str z) = true := by
  rw [PyData.canLay0]
  show z.cps.all (fun c => decide (c < 0x110000)) = true
  rw [Array.all_eq_true]
  intro i hi
  exact decide_eq_true (h _ (Array.getElem_mem_toList hi))
theorem lay_str8 {z : Str} (h : ∀ c ∈ z.cps.toList, c < 128) : PyData.canLay0 (.str z) = true := lay_str fun c hc => Nat.lt_trans (h c hc) (by decide)
theorem lay_sign {c : Nat} (h : c < 128) : PyData.canLay0 (.str ⟨#[c]⟩) = true := lay_str8 fun d hd => by rw [List.mem_singleton.mp hd]; exact h
theorem lay_l (xs : List PyData) : PyData.canLay0 (.list xs) = PyData.canLayAll0 xs := by rw [PyData.canLay0]
theorem lay_t (xs : List PyData) : PyData.canLay0 (.tuple xs) = PyData.canLayAll0 xs := by rw [PyData.canLay0]
theorem lay_i (i : Int) : PyData.canLay0 (.int i) = true := by rw [PyData.canLay0]
theorem lay_b (i : Bool) : PyData.canLay0 (.bool i) = true := by rw [PyData.canLay0]
theorem lay_n : PyData.canLay0 .none = true := by rw [PyData.canLay0]
theorem lay_c (x : PyData) (xs : List PyData) : PyData.canLayAll0 (x :: xs) = (PyData.canLay0 x && PyData.canLayAll0 xs) := by rw [PyData.canLayAll0]
theorem lay_e : PyData.canLayAll0 [] = true := by rw [PyData.canLayAll0]
theorem eqv_same {d : PyData} (h : SeqAt.shaped d = true) : PyData.eqv d d = true := SeqAt.eqv_refl d (SeqAt.canLay_of_shaped h)
end Mx

namespace Mx
open PySem PySem.Spec PyProof.Rows L2
/-! ### enumerate of a tuple -/
theorem meets_enumT (l : Addr) (items : Array Value) :
    Meets (Builtin.«enumerate.__new__» ⟨[.type "enumerate", .ref l], []⟩) (fun _ R s => s.heap.IsTuple l items ∧
      R (.ok (.ret (.ref (s.heap.push { cls := .type "tuple_iterator", data := .fields #[.ref l, .int 0 0] }).objs.size)))
        { s with heap := (s.heap.push { cls := .type "tuple_iterator", data := .fields #[.ref l, .int 0 0] }).push { cls := .type "enumerate", data := .fields #[.none, .bool false, .ref s.heap.objs.size, rawInt 0, .none, .none] } }) :=
  .of_wp fun prog w A R s h => by
    obtain ⟨hp, g, d, tk, os⟩ := s; obtain ⟨hL, h⟩ := h
    have hsub := sub_enumerate
    obtain ⟨o, ho, hc, n, hd⟩ := id hL
    wp_walk using AutoSeq1.wpAny_loadPart' ho
    refine wpAny_stack_any fun st => wpAny_pure ?_
    split
    · rename_i c _ _ _ _ _
      cases (c == Value.type "enumerate")
      · wp_walk using AutoSeq1.wpAny_loadPart' ho, wpAny_pyIter_tuple hL
        exact ⟨_, rfl, h⟩
      · wp_walk using AutoSeq1.wpAny_loadPart' ho, wpAny_pyIter_tuple hL
        exact ⟨_, rfl, h⟩
    · wp_walk using AutoSeq1.wpAny_loadPart' ho, wpAny_pyIter_tuple hL
      exact ⟨_, rfl, h⟩
theorem call_enumT {prog : Program} {w : World} {A : Around} {E : Value → Shared → Prop} {s : Shared} {l : Addr} {items : Array Value} {Q : Value → Shared → Prop} (hL : s.heap.IsTuple l items)
    (h : ∀ h', IsEnum h' (s.heap.objs.size + 1) s.heap.objs.size 0 .none → h'.IsTupleIter s.heap.objs.size l 0 → h'.objs.size = s.heap.objs.size + 2 →
      (∀ b o, s.heap.get? b = some o → h'.get? b = some o) → Q (.ref (s.heap.objs.size + 1)) { s with heap := h' }) :
    wpAny (model prog w) A (call (.type "enumerate") [.ref l]) Q E s := by
  refine callType_new F.called_enumerate (by decide) (F.typeCall_enumerate_1 _) (F.newCall_enumerate_1 _) (fun obj => F.args_object_init_2 obj _) F.entry_enumerate_new
    (meets_enumT l items) ⟨hL, ?_⟩
  have hz : (s.heap.push { cls := .type "tuple_iterator", data := .fields #[.ref l, .int 0 0] }).objs.size = s.heap.objs.size + 1 := Heap.size_push ..
  show _ ∧ _
  rw [hz]
  have he : IsEnum ((s.heap.push { cls := .type "tuple_iterator", data := .fields #[.ref l, .int 0 0] }).push
      { cls := .type "enumerate", data := .fields #[.none, .bool false, .ref s.heap.objs.size, rawInt 0, .none, .none] }) (s.heap.objs.size + 1) s.heap.objs.size 0 .none := by
    have := Heap.get?_push_size (s.heap.push { cls := .type "tuple_iterator", data := .fields #[.ref l, .int 0 0] })
      (o := { cls := .type "enumerate", data := .fields #[.none, .bool false, .ref s.heap.objs.size, rawInt 0, .none, .none] }) rfl
    rw [hz] at this; exact this
  refine ⟨⟨_, he, rfl⟩, h _ he ⟨_, Heap.get?_push_of_some _ (Heap.get?_push_size _ rfl), rfl, rfl⟩ (by rw [Heap.size_push, hz]) fun b o x => Heap.get?_push_of_some _ (Heap.get?_push_of_some _ x)⟩
def Itu (K : PySem.W.Frag) (a : Addr) : It :=
  ⟨fun i H => ∃ (xs : List V) (x : V), SqT K H a xs ∧ xs[i]? = some x, fun i H v H' => ∃ T x, v = .ref T ∧ H T = none ∧ H' = upd H T (.tup [.int (i : Nat), x]) ∧ ∀ xs, SqT K H a xs → xs[i]? = some x, fun i H => ∃ xs : List V, SqT K H a xs ∧ xs.length = i⟩
theorem turn_enumT {P : Program} {w : World} {K : PySem.W.Frag} {elts : List Expr} {kk : Nat} {tpos : Pos} (a e it : Addr) :
    Turn P w K (.Tuple elts kk tpos) (Itu K a) [e, it] e (fun i h => (∃ old, IsEnum h e it ((i : Nat) : Int) old) ∧ h.IsTupleIter it a i ∧ e ≠ it) where
  mem := by simp
  obj := fun i h st b hb => by
    obtain ⟨⟨old, he⟩, ⟨o, ho, hc, hd⟩, _⟩ := st
    have e' : b = e ∨ b = it := by simpa using hb
    rcases e' with z | z
    · rw [z]; exact ⟨_, he, fun v q => nomatch q⟩
    · rw [z]; exact ⟨o, ho, fun v q => by rw [hd] at q; cases q⟩
  keep := fun i h h' st k => let ⟨⟨old, he⟩, hi, hne⟩ := st; ⟨⟨old, k e (by simp) _ he⟩, hi.at fun o q => k it (by simp) o q, hne⟩
  item := by
    intro X hP hw hK hc i pins s σ H E I hf st hg
    subst hP hw hK
    obtain ⟨⟨old, he⟩, hit, hne⟩ := st
    obtain ⟨xs, x, hq, hx⟩ := hg
    obtain ⟨its, rv, p, hz⟩ := I.tuple hq
    have p' : s.heap.IsTuple a its.toArray := p
    obtain ⟨u, hu, ru⟩ := rv.get hx
    have hel : e < s.heap.objs.size := Heap.lt_size he
    have hil : it < s.heap.objs.size := by obtain ⟨_, q, _⟩ := hit; exact Heap.lt_size q
    have hea : e ≠ a := fun z => by
      obtain ⟨o, ho, hcl, _⟩ := p'
      have he' := he
      unfold IsEnum at he'
      rw [z, ho] at he'
      obtain rfl := Option.some.inj he'
      injection hcl with hcl; exact absurd hcl (by decide)
    have hai : a ≠ it := fun z => by
      obtain ⟨o, ho, hcl, _⟩ := p'
      obtain ⟨o2, ho2, hc2, _⟩ := hit
      rw [← z, ho] at ho2
      obtain rfl := Option.some.inj ho2
      rw [hcl] at hc2
      injection hc2 with hc2; exact absurd hc2 (by decide)
    have D := Draws.tuple (prog := X.prog) (w := X.w) (A := X.A.in1) (I.ok.hd hc) it a hai its.toArray
    have hi : i < its.toArray.size := by
      have := (List.getElem?_eq_some_iff.mp hu).1
      simpa using this
    refine wpAny_pyNext_enum_itemD D he ⟨hit, p'⟩ hi hne (by simp [hne, hea]) fun z h' tk hz2 ho hst hT hsz hk => ?_
    have ezu : z = u := by
      have hz3 : its[i]? = some z := by simpa using hz2
      exact Option.some.inj (hz3.symm.trans hu)
    subst ezu
    refine ⟨_, rfl, wpAny_letOwnedTupleGo_enum (s := { s with heap := h', toks := tk + 1 }) ho fun h'' he' sb => ?_⟩
    have hT2 : h''.get? s.heap.objs.size = some { cls := .type "tuple", data := .seq #[.int i tk, z] } := (sb.2 _ (Nat.ne_of_gt hel)).trans hT
    have new : ObjOk X.prog X.w (upd H s.heap.objs.size (.tup [.int (i : Nat), x])) h'' s.heap.objs.size (.tup [.int (i : Nat), x]) :=
      ⟨by show 2 ≤ sizeLine; decide, [.int i tk, z], .cons ⟨_, rfl⟩ (.cons ru .nil), ⟨_, hT2, rfl, _, rfl⟩⟩
    have I1 : Inv X pins σ (upd H s.heap.objs.size (.tup [.int (i : Nat), x])) { s with heap := h'', toks := tk + 1 } :=
      I.turnedNew (ch := [e, it]) (fun b ob hb q => (sb.2 b (fun z => hb (by simp [z]))).trans (hk b ob (fun z => hb (by simp [z])) (fun z => hb (by simp [z])) q)) hf (Nat.le_refl _) new
    refine ⟨.ref s.heap.objs.size, _, I1, rfl, ⟨_, x, rfl, I.hok.fresh (Nat.le_refl _), rfl, fun ys hy => by rw [I.tuple_inj hy hq]; exact hx⟩, ⟨⟨z, ?_⟩, hst.1.at fun o q => (sb.2 it (Ne.symm hne)).trans q, hne⟩, fun b hb => ?_⟩
    · have e1 : ((i + 1 : Nat) : Int) = (i : Int) + 1 := by omega
      rw [e1]; exact he'
    · have hb' : b < s.heap.objs.size := by
        have e' : b = e ∨ b = it := by simpa using hb
        rcases e' with z | z
        · rw [z]; exact hel
        · rw [z]; exact hil
      rw [upd_ne (Nat.ne_of_lt hb')]
      exact (hf b hb).1
  done := by
    intro X hP hw hK hc i pins s σ H E I hf st hg
    subst hP hw hK
    obtain ⟨⟨old, he⟩, hit, hne⟩ := st
    obtain ⟨xs, hq, hx⟩ := hg
    obtain ⟨its, rv, p, hz⟩ := I.tuple hq
    have p' : s.heap.IsTuple a its.toArray := p
    have hai : a ≠ it := fun z => by
      obtain ⟨o, ho, hcl, _⟩ := p'
      obtain ⟨o2, ho2, hc2, _⟩ := hit
      rw [← z, ho] at ho2
      obtain rfl := Option.some.inj ho2
      rw [hcl] at hc2
      injection hc2 with hc2; exact absurd hc2 (by decide)
    have D := Draws.tuple (prog := X.prog) (w := X.w) (A := X.A.in1) (I.ok.hd hc) it a hai its.toArray
    obtain ⟨f0, f1, f2, f3, f4, f5⟩ := hf it (by simp)
    have hl := rv.length
    have hi : its.toArray.size = i := by rw [List.size_toArray, ← hl, hx]
    subst hi
    exact wpAny_pyNext_enum_endD D he ⟨hit, p'⟩ fun h' eb => ⟨rfl, I.turned (t' := s.toks) (fun b o hb q => eb b o hb q) f0 f1 f3 f4 f5⟩
  self := fun A i s Q E st h => let ⟨⟨_, he⟩, _⟩ := st; wpAny_pyIter_enum he h
def iEnumT (K : PySem.W.Frag) (ta : TA) : TI := fun σ H R => ta σ H fun vs H1 => ∃ a xs, vs = [.ref a] ∧ SqT K H1 a xs ∧ R (Itu K a) H1
theorem pi_enumTup {X : Cx} {e : Expr} {ta : TA} {p pos tpos : Pos} {elts : List Expr} {kk : Nat} (hg : Gl X "enumerate") (hm : X.mg "enumerate" = none) (ha : PA X [e] ta) (hs : starEach [e] X.env = [(false, eval e X.env)] := by rfl) :
    PI X (.Tuple elts kk tpos) (.Call (.Name "enumerate" p) [e] [] pos) (iEnumT X.K ta) := by
  refine ⟨fun pins s σ H R I h => ?_⟩
  refine Call_ (ld_blt I hg hm boot_enumerate (PyProof.Rows.callWith_type1 (thn (ha.run pos pins s σ H _ I h) fun us s1 ⟨vs, H1, I1, r1, q1⟩ => ?_) hs rfl))
  obtain ⟨a, xs, ex, hq, q⟩ := q1
  subst ex
  cases r1 with
  | cons r rr =>
    cases rr
    cases r
    obtain ⟨its, rv, p', hz⟩ := I1.tuple hq
    have p2 : s1.heap.IsTuple a its.toArray := p'
    refine call_enumT p2 fun h' he hit hsz hk => wpAny_pyIter_enum he ?_
    have I2 : Inv X pins σ H1 { s1 with heap := h' } := I1.kept (t' := s1.toks) hk
    refine ⟨s1.heap.objs.size + 1, [s1.heap.objs.size + 1, s1.heap.objs.size], _, _, H1, rfl, I2, turn_enumT a (s1.heap.objs.size + 1) s1.heap.objs.size, ⟨⟨.none, he⟩, hit, Nat.succ_ne_self _⟩, fun b hb => ?_, q⟩
    have e' : b = s1.heap.objs.size + 1 ∨ b = s1.heap.objs.size := by simpa using hb
    have hle : s1.heap.objs.size ≤ b := by
      rcases e' with z | z
      · rw [z]; exact Nat.le_add_right _ _
      · rw [z]; exact Nat.le_refl _
    exact I1.fpOk hle (I1.hok.fresh hle)
/-- for i, x in enumerate(t): a tuple that stands still -/
theorem for_eu {K : PySem.W.Frag} {a : Addr} {xs : List V} {g : TG} {tb : TS} {D : Ends} {σ : L2.St} {H : Hp} (Pv : Nat → L2.St → Hp → Prop) (h0 : Pv 0 σ H) (hl : ∀ i σ H, Pv i σ H → SqT K H a xs)
    (hs : ∀ (i : Nat) (x : V) (T : Addr) σ H, xs[i]? = some x → H T = none → Pv i σ H → g (.ref T) σ (upd H T (.tup [.int (i : Nat), x])) fun σ2 H2 => tb { D with nx := Pv (i + 1), ct := Pv (i + 1), bk := D.nx } σ2 H2)
    (hd : ∀ σ H, Pv xs.length σ H → D.nx σ H) :
    ∃ W : Nat → Nat → L2.St → Hp → Prop, (∃ m, W 0 m σ H) ∧ ∀ i m σ H, W i m σ H →
      ((Itu K a).stop i H ∧ D.nx σ H) ∨ ((Itu K a).go i H ∧ ∃ N : L2.St → Hp → Prop, (∀ σ' H', N σ' H' → ∃ m', m' < m ∧ W (i + 1) m' σ' H') ∧ ∀ v H', (Itu K a).yld i H v H' → g v σ H' fun σ2 H2 => tb { D with nx := N, ct := N, bk := D.nx } σ2 H2) := by
  refine ⟨fun i m σ H => m = xs.length - i ∧ i ≤ xs.length ∧ Pv i σ H, ⟨xs.length, by simp, Nat.zero_le _, h0⟩, ?_⟩
  rintro i m σ H ⟨rfl, hi, p⟩
  have hl' := hl i σ H p
  by_cases hlt : i < xs.length
  · have e : xs[i]? = some xs[i] := List.getElem?_eq_getElem hlt
    refine .inr ⟨⟨xs, xs[i], hl', e⟩, Pv (i + 1), fun σ' H' p' => ⟨xs.length - (i + 1), by omega, rfl, hlt, p'⟩, fun v H' y => ?_⟩
    obtain ⟨T, x, rfl, hT, rfl, hx⟩ := y
    exact hs i x T σ H (hx xs hl') hT p
  · have e : i = xs.length := by omega
    subst e
    exact .inl ⟨⟨xs, hl', rfl⟩, hd σ H p⟩
end Mx

namespace Mx
open PySem PySem.Spec PyProof.Rows L2
/-! ### data with dicts, read and shown -/
mutual
inductive Rs (h : Heap) : Value → PyData → Prop
  | none : Rs h .none .none
  | bool (b) : Rs h (.bool b) (.bool b)
  | int (i t) : Rs h (.int i t) (.int i)
  | str (x t) : Rs h (.str x t) (.str x)
  | list {a : Addr} {o : Obj} {vs : Array Value} {n : Nat} {xs : List PyData} : h.get? a = some o → o.cls = .type "list" → o.data = .seq vs n → RsAll h vs.toList xs → Rs h (.ref a) (.list xs)
  | tuple {a : Addr} {o : Obj} {vs : Array Value} {n : Nat} {xs : List PyData} : h.get? a = some o → o.cls = .type "tuple" → o.data = .seq vs n → RsAll h vs.toList xs → Rs h (.ref a) (.tuple xs)
  | dict {a : Addr} {o : Obj} {es : Array DictEntry} {n : Nat} {kvs : List (PyData × PyData)} : h.get? a = some o → o.cls = .type "dict" → o.data = .dict es n → (a == sysModules) = false → RsAll h (es.toList.map (·.key)) (kvs.map (·.1)) →
      RsAll h (es.toList.map (·.val)) (kvs.map (·.2)) → Rs h (.ref a) (.dict kvs)
inductive RsAll (h : Heap) : List Value → List PyData → Prop
  | nil : RsAll h [] []
  | cons {v : Value} {vs : List Value} {d : PyData} {ds : List PyData} : Rs h v d → RsAll h vs ds → RsAll h (v :: vs) (d :: ds)
end
mutual
theorem Rs.reads {h : Heap} : ∀ {v : Value} {d : PyData}, Rs h v d → ∃ as, Reads h v d as
  | _, _, .none => ⟨_, .none⟩
  | _, _, .bool b => ⟨_, .bool b⟩
  | _, _, .int i t => ⟨_, .int i t⟩
  | _, _, .str x t => ⟨_, .str x t⟩
  | _, _, .list a b c d => let ⟨_, r⟩ := RsAll.reads d; ⟨_, .list a b c r⟩
  | _, _, .tuple a b c d => let ⟨_, r⟩ := RsAll.reads d; ⟨_, .tuple a b c r⟩
  | _, _, .dict a b c _ d e => let ⟨_, r⟩ := RsAll.reads d; let ⟨_, q⟩ := RsAll.reads e; ⟨_, .dict a b c r q⟩
theorem RsAll.reads {h : Heap} : ∀ {vs : List Value} {ds : List PyData}, RsAll h vs ds → ∃ as, ReadsAll h vs ds as
  | _, _, .nil => ⟨_, .nil⟩
  | _, _, .cons a b => let ⟨_, r⟩ := Rs.reads a; let ⟨_, q⟩ := RsAll.reads b; ⟨_, .cons r q⟩
end
section
variable {prog : Program} {w : World} {h₀ : Heap}
mutual
theorem Rs.shown : ∀ {v : Value} {d : PyData}, Rs h₀ v d → d.showable = true → d.shown.length ≤ sizeLine → ∃ bs, ReadAtMost h₀ d.depth bs ∧ ReprK prog w bs h₀ d.depth v d.shown
  | _, _, .none, _, _ => ⟨[], (fun _ h => nomatch h), by simp only [PyData.shown]; exact .of_is ReprIs.none _ _ _⟩
  | _, _, .bool b, _, _ => ⟨[], (fun _ h => nomatch h), by simp only [PyData.shown]; exact .of_is (ReprIs.bool b) _ _ _⟩
  | _, _, .int i t, hs, _ => ⟨[], (fun _ h => nomatch h), by simp only [PyData.shown]; exact .of_is (ReprIs.int t (by simpa [PyData.showable] using hs)) _ _ _⟩
  | _, _, .str x t, _, hz => ⟨[], (fun _ h => nomatch h), by simp only [PyData.shown]; exact .of_is (ReprIs.str x t (by simpa only [PyData.shown] using hz)) _ _ _⟩
  | _, _, .list (a := a) (vs := vs) (xs := xs) h1 h2 h3 h4, hs, hz => by
    have hz' : (listText (PyData.shownAll xs)).length ≤ sizeLine := by simpa only [PyData.shown] using hz
    obtain ⟨bs, hb, hk⟩ := RsAll.shown h4 (by simpa [PyData.showable] using hs) (fun t ht => Nat.le_trans (listText_mem_le ht) hz')
    obtain ⟨as, r⟩ := Rs.reads (.list h1 h2 h3 h4)
    have hna : a ∉ bs := not_mem_of_deeper r (by simp only [PyData.depth]; omega) hb
    refine ⟨a :: bs, ReadAtMost.cons r (by simp only [PyData.depth]; omega) hb, ?_⟩
    simp only [PyData.depth, PyData.shown]
    obtain ⟨l⟩ := vs
    cases l with
    | nil =>
      have h4' : RsAll h₀ [] xs := h4
      cases h4'
      simp only [PyData.shownAll, listText_nil]
      exact ReprK.listEmpty h1 h2 h3
    | cons x l => exact ReprK.list h1 h2 h3 hna (by simpa using hk.length_eq) (fun i y e => hk.item i y (by simpa using e))
  | _, _, .tuple (a := a) (xs := xs) h1 h2 h3 h4, hs, hz => by
    have hz' : (tupleText (PyData.shownAll xs)).length ≤ sizeLine := by simpa only [PyData.shown] using hz
    obtain ⟨bs, hb, hk⟩ := RsAll.shown h4 (by simpa [PyData.showable] using hs) (fun t ht => Nat.le_trans (tupleText_mem_le ht) hz')
    obtain ⟨as, r⟩ := Rs.reads (.tuple h1 h2 h3 h4)
    have hna : a ∉ bs := not_mem_of_deeper r (by simp only [PyData.depth]; omega) hb
    refine ⟨a :: bs, ReadAtMost.cons r (by simp only [PyData.depth]; omega) hb, ?_⟩
    simp only [PyData.depth, PyData.shown]
    exact ReprK.tuple h1 h2 h3 hna hk
  | _, _, .dict (a := a) (es := es) (kvs := kvs) h1 h2 h3 h6 h4 h5, hs, hz => by
    have hz' : (dictText (PyData.shownKv kvs)).length ≤ sizeLine := by simpa only [PyData.shown] using hz
    obtain ⟨hs1, hs2⟩ := PyData.showableKv_split kvs (by simpa [PyData.showable] using hs)
    obtain ⟨b1, hb1, k1⟩ := RsAll.shown h4 hs1 (fun t ht => let ⟨p, hp, hl⟩ := PyData.shownKv_key_le kvs t ht; Nat.le_trans hl (Nat.le_trans (dictText_mem_le hp) hz'))
    obtain ⟨b2, hb2, k2⟩ := RsAll.shown h5 hs2 (fun t ht => let ⟨p, hp, hl⟩ := PyData.shownKv_val_le kvs t ht; Nat.le_trans hl (Nat.le_trans (dictText_mem_le hp) hz'))
    obtain ⟨as, r⟩ := Rs.reads (.dict h1 h2 h3 h6 h4 h5)
    have hb : ReadAtMost h₀ (PyData.depthKv kvs) (b1 ++ b2) := (hb1.mono (PyData.depthAll_keys_le kvs)).append (hb2.mono (PyData.depthAll_vals_le kvs))
    have hna : a ∉ b1 ++ b2 := not_mem_of_deeper r (by simp only [PyData.depth]; omega) hb
    refine ⟨a :: (b1 ++ b2), ReadAtMost.cons r (by simp only [PyData.depth]; omega) hb, ?_⟩
    simp only [PyData.depth, PyData.shown, PyData.shownKv_eq]
    exact ReprK.dict h1 h2 h3 h6 hna (ReprEntriesK.of_two es.toList _ _
      (k1.more_le (fun b hb => List.mem_append_left _ hb) (PyData.depthAll_keys_le kvs)) (k2.more_le (fun b hb => List.mem_append_right _ hb) (PyData.depthAll_vals_le kvs)))
theorem RsAll.shown : ∀ {vs : List Value} {ds : List PyData}, RsAll h₀ vs ds → PyData.showableAll ds = true → (∀ t ∈ PyData.shownAll ds, t.length ≤ sizeLine) →
    ∃ bs, ReadAtMost h₀ (PyData.depthAll ds) bs ∧ ReprAllK prog w bs h₀ (PyData.depthAll ds) vs (PyData.shownAll ds)
  | _, _, .nil, _, _ => ⟨[], (fun _ h => nomatch h), by simp only [PyData.shownAll]; exact .nil⟩
  | _, _, .cons (d := d) (ds := ds) r rs, hs, hz => by
    have hs' : d.showable = true ∧ PyData.showableAll ds = true := by simpa [PyData.showableAll] using hs
    obtain ⟨b1, hb1, k1⟩ := Rs.shown r hs'.1 (hz _ (by simp only [PyData.shownAll]; exact List.mem_cons_self ..))
    obtain ⟨b2, hb2, k2⟩ := RsAll.shown rs hs'.2 (fun t ht => hz t (by simp only [PyData.shownAll]; exact List.mem_cons_of_mem _ ht))
    refine ⟨b1 ++ b2, ?_, ?_⟩
    · intro b hm
      simp only [PyData.depthAll]
      rcases List.mem_append.mp hm with hm | hm
      · obtain ⟨d', as', r', hd'⟩ := hb1 b hm
        exact ⟨d', as', r', Nat.le_trans hd' (Nat.le_max_left _ _)⟩
      · obtain ⟨d', as', r', hd'⟩ := hb2 b hm
        exact ⟨d', as', r', Nat.le_trans hd' (Nat.le_max_right _ _)⟩
    · simp only [PyData.depthAll, PyData.shownAll]
      exact .cons ((k1.more fun b hb => List.mem_append_left _ hb).level_le (Nat.le_max_left _ _)) (k2.more_le (fun b hb => List.mem_append_right _ hb) (Nat.le_max_right _ _))
end
/-- repr of a list of data -/
theorem repr_list {a : Addr} {xs : List PyData} {A : Around} {E : Value → Shared → Prop} {s : Shared} {Q : Value → Shared → Prop} (r : Rs s.heap (.ref a) (.list xs)) (hs : (PyData.list xs).showable = true) (hg : A.guards = some []) (hu : A.units + ((PyData.list xs).depth + 1) < cLine)
    (hQ : ∀ h' u tk, (∀ b o, s.heap.get? b = some o → h'.get? b = some o) → Q (.str (PyData.list xs).shown u) { s with heap := h', toks := tk })
    (hsz : (PyData.list xs).shown.length ≤ sizeLine) : wpAny (model prog w) A (call (.builtin "repr") [.ref a]) Q E s := by
  generalize hd : PyData.list xs = d at r hs hu hQ hsz
  cases r with
  | tuple => cases hd
  | dict => cases hd
  | list h1 h2 h3 h4 =>
    rename_i o vs n xs'
    cases hd
    have hz' : (listText (PyData.shownAll xs)).length ≤ sizeLine := by simpa only [PyData.shown] using hsz
    obtain ⟨bs, hb, hk⟩ := RsAll.shown (prog := prog) (w := w) h4 (by simpa [PyData.showable] using hs) (fun t ht => Nat.le_trans (listText_mem_le ht) hz')
    obtain ⟨as, r⟩ := Rs.reads (.list h1 h2 h3 h4)
    have hna : a ∉ bs := not_mem_of_deeper r (by simp only [PyData.depth]; omega) hb
    refine call_repr_slot (by omega) ⟨o, h1, h2⟩ F.slot_list_repr.toG ?_
    have hu' : A.in1.units + (PyData.list xs).depth < cLine := by show A.units + 1 + _ < cLine; omega
    simp only [PyData.depth] at hu'
    have hQ' : ∀ h' u tk, (∀ b o, s.heap.get? b = some o → h'.get? b = some o) → ∃ x t, Value.str (PyData.list xs).shown u = .str x t ∧ Q (.str (PyData.list xs).shown u) { s with heap := h', toks := tk } := fun h' u tk k => ⟨_, _, rfl, hQ h' u tk k⟩
    simp only [PyData.shown] at hQ'
    obtain ⟨l⟩ := vs
    cases l with
    | nil =>
      have h4' : RsAll s.heap [] xs := h4
      cases h4'
      simp only [PyData.shownAll, listText_nil] at hQ'
      exact call_list_repr_empty ⟨o, h1, h2⟩ h1 h3 (hQ' s.heap _ _ fun _ _ e => e)
    | cons x l => exact call_list_reprK h1 h2 h3 hna (by simpa using hk.length_eq) (fun i y e => hk.item i y (by simpa using e)) hg (fun b _ => Clear.nil b) hu' (fun _ _ e => e) hQ' hz'
end
/-! ### the same over the abstract heap -/
def keyD : Key → PyData
  | .inl i => .int i
  | .inr x => .str x
mutual
inductive Dx (K : PySem.W.Frag) (H : Hp) : V → PyData → Prop
  | non : Dx K H .non .none
  | bl (b : Bool) : Dx K H (.bl b) (.bool b)
  | int (i : Int) : Dx K H (.int i) (.int i)
  | str (x : Str) : Dx K H (.str x) (.str x)
  | lst {a : Addr} {xs : List V} {ds : List PyData} : SqL K H a xs → DxAll K H xs ds → Dx K H (.ref a) (.list ds)
  | tup {a : Addr} {xs : List V} {ds : List PyData} : SqT K H a xs → DxAll K H xs ds → Dx K H (.ref a) (.tuple ds)
  | dct {a : Addr} {kvs : List (Key × V)} {ds : List (PyData × PyData)} : Rd H a (.dK kvs) → DxKv K H kvs ds → Dx K H (.ref a) (.dict ds)
inductive DxAll (K : PySem.W.Frag) (H : Hp) : List V → List PyData → Prop
  | nil : DxAll K H [] []
  | cons {v : V} {vs : List V} {d : PyData} {ds : List PyData} : Dx K H v d → DxAll K H vs ds → DxAll K H (v :: vs) (d :: ds)
inductive DxKv (K : PySem.W.Frag) (H : Hp) : List (Key × V) → List (PyData × PyData) → Prop
  | nil : DxKv K H [] []
  | cons {k : Key} {v : V} {vs : List (Key × V)} {d : PyData} {ds : List (PyData × PyData)} : Dx K H v d → DxKv K H vs ds → DxKv K H ((k, v) :: vs) ((keyD k, d) :: ds)
end
theorem rs_keys {P : Program} {w : World} {h : Heap} {K : PySem.W.Frag} {H : Hp} : ∀ {kvs : List (Key × V)} {ds : List (PyData × PyData)} {es : List DictEntry} {vs : List (Key × Value)}, DxKv K H kvs ds → Pairs (mixKind P w) es vs → KV kvs vs → RsAll h (es.map (·.key)) (ds.map (·.1))
  | _, _, _, _, .nil, p, r => by cases r; cases p; exact .nil
  | _, _, _, _, .cons (k := k) _ q, p, r => by
    cases r with
    | cons r1 r2 =>
      cases p with
      | cons p1 p2 p3 =>
        refine .cons ?_ (rs_keys q p3 r2)
        have hk := p1
        rw [← r1.1] at hk
        rcases keyIs_shape hk with ⟨i, t, e1, e2⟩ | ⟨x, t, e1, e2⟩
        · dsimp only at e1 e2 ⊢
          rw [e2, e1]
          exact .int i t
        · dsimp only at e1 e2 ⊢
          rw [e2, e1]
          exact .str x t
section
variable {X : Cx} {pins : List (Addr × Obj)} {σ : L2.St} {H : Hp} {s : Shared}
mutual
theorem Dx.rs (I : Inv X pins σ H s) : ∀ {v : V} {d : PyData} {u : Value}, Dx X.K H v d → RelV v u → Rs s.heap u d
  | _, _, _, .non, r => by cases r; exact .none
  | _, _, _, .bl b, r => by cases r; exact .bool b
  | _, _, _, .int i, r => by obtain ⟨t, rfl⟩ := r; exact .int i t
  | _, _, _, .str x, r => by obtain ⟨t, rfl⟩ := r; exact .str x t
  | _, _, _, .lst hs ha, r => by
    cases r
    obtain ⟨its, rv, ⟨o, n, ho, hc, _, hd⟩, _⟩ := I.list hs
    exact .list ho hc hd (DxAll.rs I ha rv)
  | _, _, _, .tup hs ha, r => by
    cases r
    obtain ⟨its, rv, ⟨o, ho, hc, n, hd⟩, _⟩ := I.tuple hs
    exact .tuple ho hc hd (DxAll.rs I ha rv)
  | _, _, _, .dct hs ha, r => by
    cases r
    obtain ⟨hz, hsm, vs, rel, o, es, ep, ho, hx, hd, _, ps, _⟩ := dk_rd I.hok hs
    exact .dict ho hx.1 hd hsm (rs_keys ha ps rel) (DxKv.rs I ha rel ps)
theorem DxAll.rs (I : Inv X pins σ H s) : ∀ {vs : List V} {ds : List PyData} {us : List Value}, DxAll X.K H vs ds → Vals vs us → RsAll s.heap us ds
  | _, _, _, .nil, r => by cases r; exact .nil
  | _, _, _, .cons h1 h2, r => by
    cases r with
    | cons r1 r2 => exact .cons (Dx.rs I h1 r1) (DxAll.rs I h2 r2)
theorem DxKv.rs (I : Inv X pins σ H s) : ∀ {kvs : List (Key × V)} {ds : List (PyData × PyData)} {vs : List (Key × Value)} {es : List DictEntry}, DxKv X.K H kvs ds → KV kvs vs → Pairs (mixKind X.prog X.w) es vs → RsAll s.heap (es.map (·.val)) (ds.map (·.2))
  | _, _, _, _, .nil, r, p => by cases r; cases p; exact .nil
  | _, _, _, _, .cons h1 h2, r, p => by
    cases r with
    | cons r1 r2 =>
      cases p with
      | cons p1 p2 p3 => exact .cons (by dsimp only; rw [p2]; exact Dx.rs I h1 r1.2) (DxKv.rs I h2 r2 p3)
end
end
def rReprX (K : PySem.W.Frag) : List V → Hp → VK → Prop := fun xs H Q => ∃ (a : Addr) (ds : List PyData), xs = [.ref a] ∧ Dx K H (.ref a) (.list ds) ∧ (PyData.list ds).showable = true ∧ (PyData.list ds).depth ≤ 60 ∧ (PyData.list ds).shown.length ≤ sizeLine ∧ Q (.str (PyData.list ds).shown) H
theorem call_reprX {X : Cx} {k : Nat} (hr : RmG k X.A) : CallR X (.builtin "repr") (rReprX X.K) := by
  intro pins s σ H vs us Q I r h
  obtain ⟨a, ds, rfl, hd, h1, h3, h4, q⟩ := h
  cases r with
  | cons ra rn =>
    cases rn
    cases ra
    have hu := hr.r.un
    refine repr_list (Dx.rs I hd rfl) h1 hr.g (by omega) (fun h' u tk hk => ?_) h4
    exact ⟨.str (PyData.list ds).shown, H, I.kept hk, ⟨u, rfl⟩, q⟩
/-! ### frames -/
section
variable {Tb : List (Addr × Str)} {K : PySem.W.Frag} {H H' : Hp}
theorem rd_ext {a : Addr} {u : HO} (g : LamX.ExtN H H') (n : ∀ ps, u ≠ .tbl ps) (h : Rd H a u) : Rd H' a u := by
  rcases h with h | ⟨o, h⟩
  · exact .inl (g _ _ h n)
  · exact .inr ⟨o, g _ _ h fun ps z => by cases z⟩
theorem sql_ext {a : Addr} {xs : List V} (g : LamX.ExtN H H') (h : SqL K H a xs) : SqL K H' a xs := h.imp (rd_ext g fun ps z => by cases z) id
theorem sqt_ext {a : Addr} {xs : List V} (g : LamX.ExtN H H') (h : SqT K H a xs) : SqT K H' a xs := h.imp (rd_ext g fun ps z => by cases z) id
mutual
theorem Dx.ext (g : LamX.ExtN H H') : ∀ {v : V} {d : PyData}, Dx K H v d → Dx K H' v d
  | _, _, .non => .non
  | _, _, .bl b => .bl b
  | _, _, .int i => .int i
  | _, _, .str x => .str x
  | _, _, .lst h r => .lst (sql_ext g h) (DxAll.ext g r)
  | _, _, .tup h r => .tup (sqt_ext g h) (DxAll.ext g r)
  | _, _, .dct h r => .dct (rd_ext g (fun ps z => by cases z) h) (DxKv.ext g r)
theorem DxAll.ext (g : LamX.ExtN H H') : ∀ {v : List V} {d : List PyData}, DxAll K H v d → DxAll K H' v d
  | _, _, .nil => .nil
  | _, _, .cons a b => .cons (Dx.ext g a) (DxAll.ext g b)
theorem DxKv.ext (g : LamX.ExtN H H') : ∀ {v : List (Key × V)} {d : List (PyData × PyData)}, DxKv K H v d → DxKv K H' v d
  | _, _, .nil => .nil
  | _, _, .cons a b => .cons (Dx.ext g a) (DxKv.ext g b)
end
mutual
theorem Dp.ext (g : LamX.ExtN H H') : ∀ {v : V} {d : PyData}, Dp K H v d → Dp K H' v d
  | _, _, .non => .non
  | _, _, .bl b => .bl b
  | _, _, .int i => .int i
  | _, _, .str x => .str x
  | _, _, .lst h r => .lst (sql_ext g h) (DpAll.ext g r)
  | _, _, .tup h r => .tup (sqt_ext g h) (DpAll.ext g r)
theorem DpAll.ext (g : LamX.ExtN H H') : ∀ {v : List V} {d : List PyData}, DpAll K H v d → DpAll K H' v d
  | _, _, .nil => .nil
  | _, _, .cons a b => .cons (Dp.ext g a) (DpAll.ext g b)
end
mutual
theorem Dx.dp : ∀ {v : V} {d : PyData}, Dp K H v d → Dx K H v d
  | _, _, .non => .non
  | _, _, .bl b => .bl b
  | _, _, .int i => .int i
  | _, _, .str x => .str x
  | _, _, .lst h r => .lst h (DxAll.dp r)
  | _, _, .tup h r => .tup h (DxAll.dp r)
theorem DxAll.dp : ∀ {v : List V} {d : List PyData}, DpAll K H v d → DxAll K H v d
  | _, _, .nil => .nil
  | _, _, .cons a b => .cons (Dx.dp a) (DxAll.dp b)
end
theorem dp_go {v : V} {d : PyData} (h : Dp K H v d) (g : Go Tb H H') : Dp K H' v d := Dp.ext g.1 h
theorem dp_same {v : V} {d : PyData} (h : Dp K H v d) (g : Same H H') : Dp K H' v d := Dp.ext (.of g) h
theorem dx_go {v : V} {d : PyData} (h : Dx K H v d) (g : Go Tb H H') : Dx K H' v d := Dx.ext g.1 h
theorem ty_go {v : V} {t : Value} (h : TyX K H v t) (g : Go Tb H H') : TyX K H' v t := TyX_go g.1 h
end
theorem vals_rev : ∀ {vs : List V} {us : List Value}, Vals vs us → Vals vs.reverse us.reverse
  | _, _, .nil => .nil
  | _, _, .cons r t => by rw [List.reverse_cons, List.reverse_cons]; exact (vals_rev t).append (.cons r .nil)
end Mx

namespace Mx
open PySem PySem.Spec PyProof.Rows L2
section
variable {Tb : List (Addr × Str)} {H H0 H1 H2 H' : Hp} {p q a : Addr} {o u : HO} {xs : List V}
theorem go_set2 (h : H a = some (.lst xs)) (n : H2 a = none) (g : Go Tb H0 H2) (t : Go Tb H0 H) : Go Tb H0 (L2.upd H a o) := by
  refine ⟨fun b u h1 h2 => ?_, fun tb p hp => ?_⟩
  · have hb : b ≠ a := fun z => by
      have e := g.1 b u h1 h2
      rw [z, n] at e
      cases e
    rw [upd_ne hb]
    exact t.1 b u h1 h2
  · obtain ⟨ps, e1, e2, e3⟩ := t.2 tb p hp
    refine ⟨ps, ?_, e2, fun pos cv hc => ?_⟩
    · rw [upd_ne (fun z => by rw [z, h] at e1; cases e1)]
      exact e1
    · obtain ⟨c', rfl, e5⟩ := e3 pos cv hc
      refine ⟨c', rfl, ?_⟩
      rw [upd_ne (fun z => by rw [z, h] at e5; unfold LamX.CodeO at e5; cases e5)]
      exact e5
theorem fr_set2 (n : H2 a = none) (g : Same H0 H2) (t : Same H0 H) : Same H0 (L2.upd H a o) := fun b u h1 => by
  have hb : b ≠ a := fun z => by
    have e := g b u h1
    rw [z, n] at e
    cases e
  rw [upd_ne hb]
  exact t b u h1
theorem lk_neN (n : H2 p = none) (h2 : H2 q = some u) (h : H q = some u) : upd H p o q = some u := lk_ne (ne_of_none h2 n) h
theorem lk_neN' (n : H2 q = none) (h2 : H2 p = some (.lst xs)) (h : H q = some u) : upd H p o q = some u := lk_ne (fun z => ne_of_none h2 n z.symm) h
def NT (u : HO) : Prop := ∀ ps, u ≠ .tbl ps
theorem nt_lst {xs : List V} : NT (.lst xs) := fun ps z => by cases z
theorem nt_tup {xs : List V} : NT (.tup xs) := fun ps z => by cases z
theorem nt_dK {xs : List (Key × V)} : NT (.dK xs) := fun ps z => by cases z
theorem nt_xd {xs : List (Str × V)} : NT (.xd xs) := fun ps z => by cases z
theorem nt_ins {C dx : Addr} {xs : List (Str × V)} : NT (.ins C dx xs) := fun ps z => by cases z
def NL (u : HO) : Prop := ∀ xs, u ≠ .lst xs
theorem nl_tup {xs : List V} : NL (.tup xs) := fun ps z => by cases z
theorem nl_dK {xs : List (Key × V)} : NL (.dK xs) := fun ps z => by cases z
theorem nl_xd {xs : List (Str × V)} : NL (.xd xs) := fun ps z => by cases z
theorem nl_ins {C dx : Addr} {xs : List (Str × V)} : NL (.ins C dx xs) := fun ps z => by cases z
theorem lk_go (g : Go Tb H H') (n : NT u) (h : H q = some u) : H' q = some u := g.1 _ _ h n
theorem lk_kp_nl {c : Int} (k : Kp a H H') (st : StAt a c H) (n : NL u) (h : H q = some u) : H' q = some u := k _ _ (fun z => by obtain ⟨_, _, _, e, _⟩ := st; rw [z, e] at h; exact n _ (Option.some.inj h).symm) h
theorem en_new (hp : H p = none) (t : LamX.ExtN H0 H) : LamX.ExtN H0 (L2.upd H p o) := t.trans (.of (Same.new (Same.refl _) hp))
theorem en_same (s : Same H H') (t : LamX.ExtN H0 H) : LamX.ExtN H0 H' := t.trans (.of s)
theorem en_go (s : Go Tb H H') (t : LamX.ExtN H0 H) : LamX.ExtN H0 H' := t.trans s.1
theorem en_set2 (n : H2 a = none) (g : LamX.ExtN H0 H2) (t : LamX.ExtN H0 H) : LamX.ExtN H0 (L2.upd H a o) := fun b u h1 h2 => by
  have hb : b ≠ a := fun z => by
    have e := g b u h1 h2
    rw [z, n] at e
    cases e
  rw [upd_ne hb]
  exact t b u h1 h2
theorem en_kp (k : Kp a H H') (n : H2 a = none) (g : LamX.ExtN H0 H2) (t : LamX.ExtN H0 H) : LamX.ExtN H0 H' := fun b u h1 h2 => by
  have hb : b ≠ a := fun z => by
    have e := g b u h1 h2
    rw [z, n] at e
    cases e
  exact k b u hb (t b u h1 h2)
theorem dp_ext {K : PySem.W.Frag} {v : V} {d : PyData} (h : Dp K H v d) (g : LamX.ExtN H H') : Dp K H' v d := Dp.ext g h
theorem dx_ext {K : PySem.W.Frag} {v : V} {d : PyData} (h : Dx K H v d) (g : LamX.ExtN H H') : Dx K H' v d := Dx.ext g h
theorem ty_ext {K : PySem.W.Frag} {v : V} {t : Value} (h : TyX K H v t) (g : LamX.ExtN H H') : TyX K H' v t := TyX_go g h
/-- what is new since H0 in H1 stands in H -/
def New (H0 H1 H : Hp) : Prop := ∀ b u, H0 b = none → H1 b = some u → NT u → H b = some u
/-- data that leans on what is new alone -/
def Dn (K : PySem.W.Frag) (H0 H1 : Hp) (v : V) (d : PyData) : Prop := ∀ H, New H0 H1 H → Dp K H v d
theorem dn_use {K : PySem.W.Frag} {v : V} {d : PyData} (h : Dn K H0 H1 v d) (g : New H0 H1 H) : Dp K H v d := h H g
theorem nw_refl : New H0 H1 H1 := fun _ _ _ h _ => h
theorem nw_new (hp : H p = none) (t : New H0 H1 H) : New H0 H1 (L2.upd H p o) := fun b u h1 h2 h3 => lk_new hp (t b u h1 h2 h3)
theorem nw_same (s : Same H H') (t : New H0 H1 H) : New H0 H1 H' := fun b u h1 h2 h3 => s _ _ (t b u h1 h2 h3)
theorem nw_go (s : Go Tb H H') (t : New H0 H1 H) : New H0 H1 H' := fun b u h1 h2 h3 => s.1 _ _ (t b u h1 h2 h3) h3
theorem nw_set (h : H0 a = some (.lst xs)) (t : New H0 H1 H) : New H0 H1 (L2.upd H a o) := fun b u h1 h2 h3 => lk_ne (fun z => by rw [z, h] at h1; cases h1) (t b u h1 h2 h3)
theorem nw_set2 (n : H2 a = none) (g : New H0 H1 H2) (t : New H0 H1 H) : New H0 H1 (L2.upd H a o) := fun b u h1 h2 h3 => lk_ne (fun z => by
  have e := g b u h1 h2 h3
  rw [z, n] at e
  cases e) (t b u h1 h2 h3)
theorem nw_kp {c : Int} (k : Kp a H H') (st : StAt a c H0) (t : New H0 H1 H) : New H0 H1 H' := fun b u h1 h2 h3 => k b u (ne_st h1 st) (t b u h1 h2 h3)
theorem lsx_ext {K : PySem.W.Frag} {xs : List V} (h : LsX K H a xs) (g : LamX.ExtN H H') : LsX K H' a xs := h.imp (rd_ext g fun ps z => by cases z) id
theorem st_ne {c : Int} (n : a ≠ p) (st : StAt a c H) : StAt a c (L2.upd H p o) := let ⟨x, m, v, e, h1, h2⟩ := st; ⟨x, m, v, lk_ne n e, h1, h2⟩
theorem tabs_new (hp : H p = none) (t : LamX.Tabs Tb H) : LamX.Tabs Tb (L2.upd H p o) := t.ext (Same.new (Same.refl _) hp)
theorem tabs_same (s : Same H H') (t : LamX.Tabs Tb H) : LamX.Tabs Tb H' := t.ext s
theorem tabs_go (s : Go Tb H H') (t : LamX.Tabs Tb H) : LamX.Tabs Tb H' := s.2 t
theorem tabs_set (h : H a = some (.lst xs)) (t : LamX.Tabs Tb H) : LamX.Tabs Tb (L2.upd H a o) := by
  intro p hp
  obtain ⟨ps, e1, e2, e3⟩ := t p hp
  refine ⟨ps, ?_, e2, fun pos cv hc => ?_⟩
  · rw [upd_ne (fun z => by rw [z, h] at e1; cases e1)]
    exact e1
  · obtain ⟨c', rfl, e5⟩ := e3 pos cv hc
    refine ⟨c', rfl, ?_⟩
    rw [upd_ne (fun z => by rw [z, h] at e5; unfold LamX.CodeO at e5; cases e5)]
    exact e5
theorem tabs_kp {c : Int} (k : Kp a H H') (st : StAt a c H) (t : LamX.Tabs Tb H) : LamX.Tabs Tb H' := by
  intro p hp
  obtain ⟨u, m, v, e, _, _⟩ := st
  obtain ⟨ps, e1, e2, e3⟩ := t p hp
  refine ⟨ps, k _ _ (fun z => by rw [z, e] at e1; cases e1) e1, e2, fun pos cv h => ?_⟩
  obtain ⟨c', rfl, e5⟩ := e3 pos cv h
  exact ⟨c', rfl, k _ _ (fun z => by rw [z, e] at e5; unfold LamX.CodeO at e5; cases e5) e5⟩
end
theorem shaped_ti (x : Str) (hx : PyData.canLay0 (.str x) = true) (k : Int) : SeqAt.shaped (.tuple [.str x, .int k]) = true := by
  simp only [SeqAt.shaped, lay_t, lay_c, lay_e, lay_i, hx, PyData.depth, PyData.depthAll, Bool.and_true, Bool.true_and]
  rfl
theorem shaped_l2 {d e : PyData} (sd : SeqAt.shaped d = true) (se : SeqAt.shaped e = true) (hd : d.depth ≤ 60) (he : e.depth ≤ 60) : SeqAt.shaped (.list [d, e]) = true := by
  have a1 := SeqAt.canLay_of_shaped sd
  have a2 := SeqAt.canLay_of_shaped se
  simp only [SeqAt.shaped, lay_l, lay_c, lay_e, a1, a2, PyData.depth, PyData.depthAll, Bool.and_true, Bool.true_and]
  exact decide_eq_true (by omega)
/-- keywords of a def with one default, each of its two parameters told: the keywords in the other order -/
theorem kb_ofD {K : PySem.W.Frag} {x qual : Str} {st : Stmt} {f : Addr} {fd : FuncData} {ps ks : List Str} {dv : V} (F : FunD K x qual (defArgs st) (defBody st) (defScope st) [dv] [] f fd)
    (h : ∀ (T : Addr) (kV doc pm : Value) (an : Option Addr) (cdv ct : Value) (us ws its : List Value), us.length + ws.length = ps.length → its.length = 1 →
      ∃ k, bindArgs (PySem.W.fnOf x qual (defArgs st) (defBody st) (defScope st) (.ref T) kV doc pm an cdv ct) ⟨us, ks.zip ws⟩ = seqItems? (.ref T) >>= k ∧ k (some its.toArray) = pure (ps.zip (us ++ ws.reverse))) :
    KBinds K fd ps ks (fun us ws => us ++ ws.reverse) (fun vs zs => vs ++ zs.reverse) := by
  obtain ⟨oc, od, dV, kV, doc, pm, an, cdv, ct, osl, rfl, lk, hcd, hD, hK⟩ := F.ex
  rcases hD with ⟨e, _⟩ | ⟨_, T, o, its, m, rfl, lT, oT, rT⟩
  · exact absurd e (by simp)
  · refine ⟨fun s us ws X hl => ?_, fun a b => a.append (vals_rev b)⟩
    rw [List.length_append, List.length_reverse] at hl
    obtain ⟨k, e1, e2⟩ := h T kV doc pm an cdv ct us ws its hl rT.length.symm
    refine BindsTo.of_looks fun M => ?_
    rw [e1]
    exact looks_items X lT oT (.of_pure e2)
end Mx

namespace Gx
open PySem
open Sem (wp)

/-! ### a generator that sleeps stays as it is, whatever its consumer does -/
/-- the same to the eye, but it cannot be woken -/
def asleep : GenState → GenState
  | .suspended _ l c p fs cl => .suspended (fun _ => .unsupported "") l c p fs cl
  | x => x
def IsSusp (x : GenState) : Prop := ∃ k l c p fs cl, x = .suspended k l c p fs cl
theorem asleep_seen (x : GenState) : (asleep x).seen = x.seen := by cases x <;> rfl
theorem asleep_bare (x : GenState) : (asleep x).bare = x.bare := by cases x <;> rfl
/-- T is G, but where O says so a true sleeper stands in the place of one that cannot be woken -/
structure Hid (O : Nat → Option GenState) (G T : Array GenState) : Prop where
  size : T.size = G.size
  slept : ∀ i gs, O i = some gs → IsSusp gs ∧ T[i]? = some gs ∧ G[i]? = some (asleep gs)
  awake : ∀ i, O i = none → T[i]? = G[i]?
  whole : ∀ i k l c p fs cl, O i = none → G[i]? = some (.suspended k l c p fs cl) → splitAtGen fs = none
def EndW (e : End) : Prop := ∀ v g l k c p fs, e = .susp v g l k c p fs → splitAtGen fs = none
section
variable {O : Nat → Option GenState} {G T : Array GenState} {g : Nat} {x : GenState}
theorem Hid.lt (h : Hid O G T) {gs : GenState} (e : O g = some gs) : g < G.size := by
  obtain ⟨_, _, q⟩ := h.slept g gs e
  exact (Array.getElem?_eq_some_iff.mp q).1
theorem Hid.set (h : Hid O G T) (hg : O g = none) (hx : ∀ k l c p fs cl, x = .suspended k l c p fs cl → splitAtGen fs = none) : Hid O (G.setIfInBounds g x) (T.setIfInBounds g x) where
  size := by simp [h.size]
  slept := fun i gs e => by
    have n : g ≠ i := fun z => by rw [z, e] at hg; cases hg
    obtain ⟨a, b, c⟩ := h.slept i gs e
    exact ⟨a, by rw [Array.getElem?_setIfInBounds_ne n]; exact b, by rw [Array.getElem?_setIfInBounds_ne n]; exact c⟩
  awake := fun i e => by
    by_cases n : g = i
    · subst n
      rw [Array.getElem?_setIfInBounds, Array.getElem?_setIfInBounds, if_pos rfl, if_pos rfl, h.size]
    · rw [Array.getElem?_setIfInBounds_ne n, Array.getElem?_setIfInBounds_ne n]
      exact h.awake i e
  whole := fun i k l c p fs cl e q => by
    by_cases n : g = i
    · subst n
      rw [Array.getElem?_setIfInBounds, if_pos rfl] at q
      split at q
      · exact hx k l c p fs cl (Option.some.inj q)
      · cases q
    · rw [Array.getElem?_setIfInBounds_ne n] at q
      exact h.whole i k l c p fs cl e q
theorem Hid.push (h : Hid O G T) (hx : ¬ IsSusp x) : Hid O (G.push x) (T.push x) where
  size := by simp [h.size]
  slept := fun i gs e => by
    have n := h.lt e
    obtain ⟨a, b, c⟩ := h.slept i gs e
    exact ⟨a, by rw [Array.getElem?_push_lt (by rw [h.size]; exact n), ← b, Array.getElem?_eq_getElem], by rw [Array.getElem?_push_lt n, ← c, Array.getElem?_eq_getElem]⟩
  awake := fun i e => by
    rw [Array.getElem?_push, Array.getElem?_push, h.size, h.awake i e]
  whole := fun i k l c p fs cl e q => by
    rw [Array.getElem?_push] at q
    split at q
    · exact absurd ⟨_, _, _, _, _, _, Option.some.inj q⟩ hx
    · exact h.whole i k l c p fs cl e q
end
theorem no_run {M : Model} {Γ : Ctx} {p : Pos} {t : Sem Fin} {fs : List Frame} {s s' : Shared} {e : End} (h : Runs M Γ p t fs s e s') : ∀ w, t ≠ .unsupported w := by
  induction h <;> intro w z <;> first | (cases z; done) | skip
  all_goals first | (rename_i ih _; exact ih w z) | (rename_i ih; exact ih w z) | (rename_i ih _ _; exact ih w z)
theorem endW_ret (r : Result) : EndW (.ret r) := fun _ _ _ _ _ _ _ z => by cases z
theorem endW_state {e : End} (h : EndW e) : ∀ k l c p fs cl, e.genState = .suspended k l c p fs cl → splitAtGen fs = none := by
  intro k l c p fs cl z
  cases e with
  | ret r => cases z
  | susp v g l' k' c' p' fs' =>
    injection z with _ _ _ _ z5 _
    subst z5
    exact h _ _ _ _ _ _ _ rfl
theorem sim {M : Model} {O : Nat → Option GenState} {Γ : Ctx} {p : Pos} {t : Sem Fin} {fs : List Frame} {s s' : Shared} {e : End} (h : Runs M Γ p t fs s e s') :
    splitAtGen fs = none → ∀ T, Hid O s.gens T → ∃ T', Runs M Γ p t fs { s with gens := T } e { s' with gens := T' } ∧ Hid O s'.gens T' ∧ EndW e := by
  induction h with
  | done => exact fun _ T hT => ⟨T, .done, hT, endW_ret _⟩
  | raise => exact fun _ T hT => ⟨T, .raise, hT, endW_ret _⟩
  | again q _ ih => exact fun f T hT => let ⟨T', a, b, c⟩ := ih f T hT; ⟨T', .again q a, b, c⟩
  | rule _ ih => exact fun f T hT => let ⟨T', a, b, c⟩ := ih f T hT; ⟨T', .rule a, b, c⟩
  | «at» _ ih => exact fun f T hT => let ⟨T', a, b, c⟩ := ih f T hT; ⟨T', .at a, b, c⟩
  | load q _ ih => exact fun f T hT => let ⟨T', a, b, c⟩ := ih f T hT; ⟨T', .load q a, b, c⟩
  | update q _ ih => exact fun f T hT => let ⟨T', a, b, c⟩ := ih f T hT; ⟨T', .update q a, b, c⟩
  | loadIfAlive _ ih => exact fun f T hT => let ⟨T', a, b, c⟩ := ih f T hT; ⟨T', .loadIfAlive a, b, c⟩
  | point _ ih => exact fun f T hT => let ⟨T', a, b, c⟩ := ih f T hT; ⟨T', .point a, b, c⟩
  | alloc _ ih => exact fun f T hT => let ⟨T', a, b, c⟩ := ih f T hT; ⟨T', .alloc a, b, c⟩
  | fresh _ ih => exact fun f T hT => let ⟨T', a, b, c⟩ := ih f T hT; ⟨T', .fresh a, b, c⟩
  | ask _ ih => exact fun f T hT => let ⟨T', a, b, c⟩ := ih f T hT; ⟨T', .ask a, b, c⟩
  | choose q _ ih => exact fun f T hT => let ⟨T', a, b, c⟩ := ih f T hT; ⟨T', .choose q a, b, c⟩
  | os _ ih => exact fun f T hT => let ⟨T', a, b, c⟩ := ih f T hT; ⟨T', .os a, b, c⟩
  | handled _ ih => exact fun f T hT => let ⟨T', a, b, c⟩ := ih f T hT; ⟨T', .handled a, b, c⟩
  | @genState g st Γ p k s e s' q _ ih =>
    intro f T hT
    obtain ⟨T', a, b, c⟩ := ih f T hT
    cases o : O g with
    | none => exact ⟨T', .genState (by rw [hT.awake g o]; exact q) a, b, c⟩
    | some gs =>
      obtain ⟨_, h1, h2⟩ := hT.slept g gs o
      rw [q] at h2
      have e2 := Option.some.inj h2
      rw [e2, asleep_seen] at a
      exact ⟨T', .genState h1 a, b, c⟩
  | stack _ ih => exact fun f T hT => let ⟨T', a, b, c⟩ := ih f T hT; ⟨T', .stack a, b, c⟩
  | thread _ ih => exact fun f T hT => let ⟨T', a, b, c⟩ := ih f T hT; ⟨T', .thread a, b, c⟩
  | @newGen Γ p k s e s' c _ ih =>
    intro f T hT
    obtain ⟨T', a, b, c⟩ := ih f (T.push _) (hT.push (by rintro ⟨_, _, _, _, _, _, z⟩; cases z))
    refine ⟨T', .newGen ?_, b, c⟩
    show Runs _ _ _ (k T.size) _ _ _ _
    rw [hT.size]
    exact a
  | call _ _ ih1 ih2 =>
    intro f T hT
    obtain ⟨T1, a1, b1, _⟩ := ih1 rfl T hT
    obtain ⟨T2, a2, b2, c2⟩ := ih2 f T1 b1
    exact ⟨T2, .call a1 a2, b2, c2⟩
  | callSusp _ ih =>
    intro f T hT
    obtain ⟨T1, a1, b1, c1⟩ := ih rfl T hT
    refine ⟨T1, .callSusp a1, b1, fun _ _ _ _ _ _ fs z => ?_⟩
    injection z with _ _ _ _ _ _ z7
    rw [← z7, splitAtGen_append_none _ (c1 _ _ _ _ _ _ _ rfl)]
    rfl
  | yield => exact fun f T hT => ⟨T, .yield, hT, fun _ _ _ _ _ _ fs z => by injection z with _ _ _ _ _ _ z7; rw [← z7]; rfl⟩
  | @resumeFresh Γ p g l k s c e₁ s₁ e s' q r1 q2 r2 ih1 ih2 =>
    intro f T hT
    have o : O g = none := by
      cases o : O g with
      | none => rfl
      | some gs =>
        obtain ⟨⟨_, _, _, _, _, _, rfl⟩, _, h2⟩ := hT.slept g gs o
        rw [q] at h2
        cases h2
    obtain ⟨T1, a1, b1, c1⟩ := ih1 rfl (T.setIfInBounds g .running) (hT.set o (fun _ _ _ _ _ _ z => by cases z))
    obtain ⟨T2, a2, b2, c2⟩ := ih2 f (T1.setIfInBounds g e₁.genState) (b1.set o (endW_state c1))
    exact ⟨T2, .resumeFresh (by rw [hT.awake g o]; exact q) a1 q2 a2, b2, c2⟩
  | @resumeSuspended Γ p g r l k s k₀ l₀ c₀ p₀ fs cl e₁ s₁ e s' q r1 q2 r2 ih1 ih2 =>
    intro f T hT
    cases o : O g with
    | some gs =>
      obtain ⟨⟨_, _, _, _, _, _, rfl⟩, _, h2⟩ := hT.slept g gs o
      rw [q] at h2
      have e2 := Option.some.inj h2
      injection e2 with e3 _ _ _ _ _
      exact absurd (show k₀ r = .unsupported "" by rw [e3]) (no_run r1 _)
    | none =>
      obtain ⟨T1, a1, b1, c1⟩ := ih1 (hT.whole g _ _ _ _ _ _ o q) (T.setIfInBounds g .running) (hT.set o (fun _ _ _ _ _ _ z => by cases z))
      obtain ⟨T2, a2, b2, c2⟩ := ih2 f (T1.setIfInBounds g e₁.genState) (b1.set o (endW_state c1))
      exact ⟨T2, .resumeSuspended (by rw [hT.awake g o]; exact q) a1 q2 a2, b2, c2⟩
  | @resumeJustStarted g v Γ p k s e s' l c q n _ ih =>
    intro f T hT
    have o : O g = none := by
      cases o : O g with
      | none => rfl
      | some gs =>
        obtain ⟨⟨_, _, _, _, _, _, rfl⟩, _, h2⟩ := hT.slept g gs o
        rw [q] at h2
        cases h2
    obtain ⟨T', a, b, c⟩ := ih f T hT
    exact ⟨T', .resumeJustStarted (by rw [hT.awake g o]; exact q) n a, b, c⟩
  | @resumeThrowFresh g Γ p k e s' x l s c q _ ih =>
    intro f T hT
    have o : O g = none := by
      cases o : O g with
      | none => rfl
      | some gs =>
        obtain ⟨⟨_, _, _, _, _, _, rfl⟩, _, h2⟩ := hT.slept g gs o
        rw [q] at h2
        cases h2
    obtain ⟨T', a, b, c⟩ := ih f (T.setIfInBounds g .finished) (hT.set o (fun _ _ _ _ _ _ z => by cases z))
    exact ⟨T', .resumeThrowFresh (by rw [hT.awake g o]; exact q) a, b, c⟩
  | @resumeRunning g Γ p k s e s' r l q _ ih =>
    intro f T hT
    have o : O g = none := by
      cases o : O g with
      | none => rfl
      | some gs =>
        obtain ⟨⟨_, _, _, _, _, _, rfl⟩, _, h2⟩ := hT.slept g gs o
        rw [q] at h2
        cases h2
    obtain ⟨T', a, b, c⟩ := ih f T hT
    exact ⟨T', .resumeRunning (by rw [hT.awake g o]; exact q) a, b, c⟩
  | @resumeFinished g Γ p k s e s' r l q _ ih =>
    intro f T hT
    have o : O g = none := by
      cases o : O g with
      | none => rfl
      | some gs =>
        obtain ⟨⟨_, _, _, _, _, _, rfl⟩, _, h2⟩ := hT.slept g gs o
        rw [q] at h2
        cases h2
    obtain ⟨T', a, b, c⟩ := ih f T hT
    exact ⟨T', .resumeFinished (by rw [hT.awake g o]; exact q) a, b, c⟩
  | segRet _ _ ih1 ih2 =>
    intro f T hT
    have f2 : splitAtGen _ = none := Option.map_eq_none_iff.mp f
    obtain ⟨T1, a1, b1, _⟩ := ih1 rfl T hT
    obtain ⟨T2, a2, b2, c2⟩ := ih2 f2 T1 b1
    exact ⟨T2, .segRet a1 a2, b2, c2⟩
  | segGen _ _ _ _ => exact fun f => by cases f
  | segSuspOut q _ ih =>
    intro f T hT
    obtain ⟨T1, a1, b1, c1⟩ := ih rfl T hT
    refine ⟨T1, .segSuspOut q a1, b1, fun _ _ _ _ _ _ fs z => ?_⟩
    injection z with _ _ _ _ _ _ z7
    rw [← z7, splitAtGen_append_none _ (c1 _ _ _ _ _ _ _ rfl), q]
    rfl
  | segSuspGen q _ _ _ _ _ => exact fun f => by rw [q] at f; cases f
end Gx
namespace Gx
open PySem
open Sem (wp)
section
variable {M : Model} {O : Nat → Option GenState} {T : Array GenState}
theorem awake_of {s : Shared} {g : Nat} (hT : Hid O s.gens T) {x : GenState} (q : s.gens[g]? = some x) (hx : ¬ IsSusp x) : O g = none := by
  cases o : O g with
  | none => rfl
  | some gs =>
    obtain ⟨⟨_, _, _, _, _, _, rfl⟩, _, h2⟩ := hT.slept g gs o
    rw [q] at h2
    exact absurd ⟨_, _, _, _, _, _, Option.some.inj h2⟩ hx
open Classical in
theorem wakes_sim {Γ : Ctx} {p : Pos} {g : Nat} {r : Resume} {s s' : Shared} {res : GenResult} (h : Wakes M Γ p g r s res s') (hT : Hid O s.gens T) :
    ∃ T', Wakes M Γ p g r { s with gens := T } res { s' with gens := T' } ∧ Hid O s'.gens T' := by
  have run : Runs M Γ p (.resume g r [] fun z => if z = res then (.pure (.done .next) : Sem PySem.Fin) else .unsupported "") [] s (.ret (.ok .next)) s' :=
    (Sem.runs_resume_iff M Γ).mpr ⟨res, s', h, by rw [if_pos rfl]; exact .done⟩
  obtain ⟨T', a, b, _⟩ := sim run rfl T hT
  obtain ⟨res2, s2, h2, r2⟩ := (Sem.runs_resume_iff M Γ).mp a
  by_cases e : res2 = res
  · subst e
    rw [if_pos rfl] at r2
    cases r2
    exact ⟨T', h2, b⟩
  · rw [if_neg e] at r2
    exact absurd rfl (no_run r2 "")
theorem wp_sim {α : Type} (M : Model) (Γ : Ctx) (O : Nat → Option GenState) (t : Sem α) : ∀ (Q : α → Pos → Shared → Prop) (E : Value → Pos → Shared → Prop) (p : Pos) (s : Shared) (T : Array GenState), Hid O s.gens T → wp M Γ t Q E p s →
    wp M Γ t (fun a p' s' => ∃ s1 T', s' = { s1 with gens := T' } ∧ Hid O s1.gens T' ∧ Q a p' s1) (fun e p' s' => ∃ s1 T', s' = { s1 with gens := T' } ∧ Hid O s1.gens T' ∧ E e p' s1) p { s with gens := T } := by
  induction t with
  | pure a => intro Q E p s T hT h; exact ⟨s, T, rfl, hT, h⟩
  | raise e => intro Q E p s T hT h; exact ⟨s, T, rfl, hT, h⟩
  | unsupported _ => intro Q E p s T _ h; exact h
  | finish _ => intro Q E p s T _ h; exact h
  | rule _ k ih => intro Q E p s T hT h; exact ih () Q E p s T hT h
  | «at» p' k ih => intro Q E p s T hT h; exact ih () Q E p' s T hT h
  | load a _ k ih => intro Q E p s T hT h; obtain ⟨o, ho, h⟩ := h; exact ⟨o, ho, ih o Q E p s T hT h⟩
  | update a _ f k ih => intro Q E p s T hT h; exact ⟨h.1, ih () Q E p { s with heap := s.heap.update a f } T hT h.2⟩
  | loadIfAlive a k ih => intro Q E p s T hT h; exact ih _ Q E p s T hT h
  | point _ k ih => intro Q E p s T hT h; exact ih () Q E p s T hT h
  | register _ _ => intro Q E p s T _ h; exact h
  | alloc o k ih => intro Q E p s T hT h; exact ih s.heap.objs.size Q E p { s with heap := s.heap.push o } T hT h
  | fresh k ih => intro Q E p s T hT h; exact ih s.toks Q E p { s with toks := s.toks + 1 } T hT h
  | ask k ih => intro Q E p s T hT h; exact ih _ Q E p s T hT h
  | choose src m k ih => intro Q E p s T hT h; exact ⟨h.1, ih _ Q E p { s with drawn := s.drawn.bump src } T hT h.2⟩
  | os q _ k ih => intro Q E p s T hT h; exact ih (Os.step s.os q).2 Q E p { s with os := (Os.step s.os q).1 } T hT h
  | call c hd _ _ k ih =>
    intro Q E p s T hT h
    obtain ⟨r, s', hr, h⟩ := h
    obtain ⟨T1, a1, b1, _⟩ := sim hr rfl T hT
    exact ⟨r, _, a1, ih r Q E p s' T1 b1 h⟩
  | handled own k ih => intro Q E p s T hT h; exact ih _ Q E p s T hT h
  | genState g k ih =>
    intro Q E p s T hT h
    obtain ⟨st, hs, h⟩ := h
    cases o : O g with
    | none => exact ⟨st, by show T[g]? = _; rw [hT.awake g o]; exact hs, ih _ Q E p s T hT h⟩
    | some gs =>
      obtain ⟨_, h1, h2⟩ := hT.slept g gs o
      rw [hs] at h2
      have e2 := Option.some.inj h2
      rw [e2, asleep_seen] at h
      exact ⟨gs, h1, ih _ Q E p s T hT h⟩
  | newGen c k ih =>
    intro Q E p s T hT h
    have z := ih s.gens.size Q E p { s with gens := s.gens.push (.fresh c) } (T.push (.fresh c)) (hT.push (by rintro ⟨_, _, _, _, _, _, z⟩; cases z)) h
    show wp M Γ (k T.size) _ _ _ _
    rw [hT.size]
    exact z
  | resume g r _ k ih =>
    intro Q E p s T hT h
    obtain ⟨res, s', hw, h⟩ := h
    obtain ⟨T1, a1, b1⟩ := wakes_sim hw hT
    exact ⟨res, _, a1, ih res Q E p s' T1 b1 h⟩
  | yield _ _ _ _ => intro Q E p s T _ h; exact h
  | stack k ih => intro Q E p s T hT h; exact ih _ Q E p s T hT h
  | fork _ _ => intro Q E p s T _ h; exact h
  | thread k ih => intro Q E p s T hT h; exact ih _ Q E p s T hT h
  | await _ _ _ _ _ => intro Q E p s T _ h; exact h
end
/-- all that sleeps -/
def sleepers (T : Array GenState) : Nat → Option GenState := fun i => match T[i]? with
  | some (.suspended k l c p fs cl) => some (.suspended k l c p fs cl)
  | _ => none
theorem sleepers_some {T : Array GenState} {i : Nat} {gs : GenState} (h : sleepers T i = some gs) : IsSusp gs ∧ T[i]? = some gs := by
  unfold sleepers at h
  split at h
  · rename_i q
    have := Option.some.inj h
    subst this
    exact ⟨⟨_, _, _, _, _, _, rfl⟩, q⟩
  · cases h
theorem sleepers_of {T : Array GenState} {i : Nat} {gs : GenState} (q : T[i]? = some gs) (h : IsSusp gs) : sleepers T i = some gs := by
  obtain ⟨_, _, _, _, _, _, rfl⟩ := h
  unfold sleepers
  rw [q]
theorem hid_all (T : Array GenState) : Hid (sleepers T) (T.map asleep) T where
  size := by simp
  slept := fun i gs e => by
    obtain ⟨a, b⟩ := sleepers_some e
    exact ⟨a, b, by rw [Array.getElem?_map, b]; rfl⟩
  awake := fun i e => by
    rw [Array.getElem?_map]
    cases q : T[i]? with
    | none => rfl
    | some x =>
      cases x with
      | suspended => rw [sleepers_of q ⟨_, _, _, _, _, _, rfl⟩] at e; cases e
      | _ => rfl
  whole := fun i k l c p fs cl e q => by
    rw [Array.getElem?_map] at q
    cases q1 : T[i]? with
    | none => rw [q1] at q; cases q
    | some x =>
      rw [q1] at q
      cases x with
      | suspended => rw [sleepers_of q1 ⟨_, _, _, _, _, _, rfl⟩] at e; cases e
      | _ => cases q
/-- what a run leaves of those who slept through it -/
structure Woke (G G1 T1 : Array GenState) (T : Array GenState) : Prop where
  kept : ∀ (g : Nat) (x : GenState), T[g]? = some x → IsSusp x → T1[g]? = some x
  bare : PyProof.Rows.AllBare T → PyProof.Rows.AllBare G1 → PyProof.Rows.AllBare T1
theorem woke_of {G1 T1 T : Array GenState} (h : Hid (sleepers T) G1 T1) : Woke (T.map asleep) G1 T1 T where
  kept := fun g x q hx => (h.slept g x (sleepers_of q hx)).2.1
  bare := fun bT bG y hy => by
    obtain ⟨i, hi, e⟩ := Array.mem_iff_getElem.mp hy
    have q : T1[i]? = some y := by rw [Array.getElem?_eq_getElem hi, e]
    cases o : sleepers T i with
    | some gs =>
      obtain ⟨_, h1, _⟩ := h.slept i gs o
      rw [q] at h1
      rw [Option.some.inj h1]
      exact bT gs (Array.mem_of_getElem? (sleepers_some o).2)
    | none =>
      rw [h.awake i o] at q
      exact bG y (Array.mem_of_getElem? q)
theorem bare_asleep {T : Array GenState} (h : PyProof.Rows.AllBare T) : PyProof.Rows.AllBare (T.map asleep) := fun y hy => by
  obtain ⟨x, hx, rfl⟩ := Array.mem_map.mp hy
  rw [asleep_bare]
  exact h x hx
/-- THE RULE: what is shown where none of the sleepers can be woken holds as it is, and they sleep on -/
theorem wpAny_hidden {α : Type} {M : Model} {A : Around} {m : Sem α} {Q : α → Shared → Prop} {E : Value → Shared → Prop} {s : Shared} (h : wpAny M A m Q E { s with gens := s.gens.map asleep }) :
    wpAny M A m (fun a s' => ∃ s1 T1, s' = { s1 with gens := T1 } ∧ Woke (s.gens.map asleep) s1.gens T1 s.gens ∧ Q a s1) (fun e s' => ∃ s1 T1, s' = { s1 with gens := T1 } ∧ Woke (s.gens.map asleep) s1.gens T1 s.gens ∧ E e s1) s := fun Γ p hΓ => by
  have z := wp_sim M Γ (sleepers s.gens) m _ _ p _ s.gens (hid_all s.gens) (h Γ p hΓ)
  refine Sem.wp_mono M Γ m (fun a p' s' ⟨s1, T1, e, b, q⟩ => ⟨s1, T1, e, woke_of b, q⟩) (fun a p' s' ⟨s1, T1, e, b, q⟩ => ⟨s1, T1, e, woke_of b, q⟩) p s z
end Gx

namespace Gx
open PySem PySem.Spec PyProof.Rows L2 GenW

/-! ### a stretch of a generator's run: from its waking to where it sleeps or ends -/
def Sg (M : Model) (A : Around) (c : Code) (t : Sem PySem.Fin) (fs : List Frame) (s : Shared) (Φ : End → Shared → Prop) : Prop :=
  ∀ Γ p, Γ.code = c → Γ.Woken A → ∃ e s', Runs M Γ p t fs s e s' ∧ e.quiet = true ∧ Φ e s'
section
variable {M : Model} {A : Around} {c : Code} {fs : List Frame} {s : Shared} {Φ : End → Shared → Prop} {α : Type}
theorem sg_wrap {m : Sem α} {K : α → Sem PySem.Fin} {J : Value → Sem PySem.Fin} {gd : Bool → Bool} {lv : List Value → List Value}
    (h : wpAny M (A.over c fs) m (fun a s' => Sg M A c (K a) fs s' Φ) (fun x s' => Sg M A c (J x) fs s' Φ) s) : Sg M A c (m.wrap K J gd lv) fs s Φ := by
  intro Γ p hc hΓ
  subst hc
  obtain ⟨e, s', hr, hq, hf⟩ := runs_wrap_of_wp (Φ := fun e s' => e.quiet = true ∧ Φ e s') K J gd lv m (h (Γ.over fs) p (hΓ.over fs)) (fun a p' s' h' => h' Γ p' rfl hΓ) fun x p' s' h' => h' Γ p' rfl hΓ
  exact ⟨e, s', hr, hq, hf⟩
theorem sg_at {q : Pos} {k : Unit → Sem PySem.Fin} (h : Sg M A c (k ()) fs s Φ) : Sg M A c (.at q k) fs s Φ :=
  sg_wrap (m := standAt q) (K := k) (J := .raise) (gd := id) (lv := id) (wpAny_standAt h)
theorem sg_point {l : List Value} {k : Unit → Sem PySem.Fin} (h : Sg M A c (k ()) fs s Φ) : Sg M A c (.point l k) fs s Φ :=
  sg_wrap (m := point) (K := k) (J := .raise) (gd := id) (lv := fun _ => l) (wpAny_point h)
theorem sg_call {c' : Code} {h : Option Value} {g : Bool} {l : List Value} {k : Result → Sem PySem.Fin} (hc : ∀ p, Sg M A c' (M.den c') (.ret k h g l c p [] :: fs) s Φ) : Sg M A c (.call c' h g l k) fs s Φ := by
  intro Γ p e hΓ
  subst e
  obtain ⟨e, s', hr, hq⟩ := hc p (Γ.goto c') p rfl (hΓ.goto c')
  exact ⟨e, s', runs_call_seg hr, hq⟩
theorem sg_leaf {k : Result → Sem PySem.Fin} {h : Option Value} {g : Bool} {l kp : List Value} {c₁ : Code} {p₁ : Pos} (r : Result) (hk : Sg M A c₁ (k r) fs s Φ) : Sg M A c (leafOf r) (.ret k h g l c₁ p₁ kp :: fs) s Φ := by
  intro Γ p e hΓ
  subst e
  obtain ⟨e, s', hr, hq⟩ := hk (Γ.goto c₁) p₁ rfl (hΓ.goto c₁)
  exact ⟨e, s', Runs.pop r hr, hq⟩
theorem sg_again {c' : Code} (q : c'.quiet = true) (hc : Sg M A c' (M.den c') fs s Φ) : Sg M A c (.pure (.again c')) fs s Φ := by
  intro Γ p e hΓ
  subst e
  obtain ⟨e, s', hr, hq⟩ := hc (Γ.goto c') p rfl (hΓ.goto c')
  exact ⟨e, s', Runs.head (c₁ := c') (fun _ _ x => .again q x) hr, hq⟩
theorem sg_end (r : Result) (h : Φ (.ret r) s) : Sg M A c (leafOf r) [] s Φ := fun Γ p e hΓ => ⟨.ret r, s, Runs.leaf r, rfl, h⟩
theorem sg_yield {v : Value} {l : List Value} {k : Resume → Sem PySem.Fin} (hfs : splitAtGen fs = none) (hg : fs.any Frame.guarded = false) (h : ∀ p, Φ (.susp v false l k c p fs) s) : Sg M A c (.yield v false l k) fs s Φ := by
  intro Γ p e hΓ
  subst e
  exact ⟨_, s, Runs.yield' fs hfs, by simp [End.quiet, hg], h p⟩
end
/-! ### who runs, what is promised -/
/-- a generator that was made: its def, its caller's place, where its names stand, what stays of its own object -/
structure GX where
  P : Program
  w : World
  K : PySem.W.Frag
  mg : Str → Option Value
  base : Heap
  N : List Str
  qual : Str
  scope : Scope
  f : Addr
  cd : Value
  A : Around
  outer : List Env
  L : Addr
  pn : List (Addr × Obj)
def GX.env (C : GX) : Env := envOfC C.qual C.scope C.L C.f C.cd
/-- an exception that leaves it: what is pinned is untracked -/
def GX.exP (C : GX) (xp : List (Addr × Obj)) (E : XK) : XK := fun cls d H' => E cls d H' ∧ ∀ p ∈ C.pn ++ xp, H' p.1 = none
/-- xp: what its consumer pins while it runs -/
def GX.X (C : GX) (xp : List (Addr × Obj)) (s0 : Shared) (H0 : Hp) (E : XK) : Cx where
  prog := C.P
  w := C.w
  K := C.K
  mg := C.mg
  base := C.base
  A := C.A.deeper C.env
  N := C.N
  s_0 := s0
  H_0 := H0
  env := C.env
  outer := C.outer
  stack := C.env :: C.outer
  ex := []
  fn := fun _ => true
  calm := true
  pn := C.pn ++ xp
  xe := fun e s' => wpAny (model C.P C.w) (C.A.deeper C.env) (leaving C.env e) (fun _ s'' => CX C.P C.w C.outer H0 s0 (C.exP xp E) e s'' ∧ ∀ p ∈ C.pn ++ xp, s''.heap.get? p.1 = some p.2) (fun _ _ => False) s'
theorem takes_g {C : GX} {xp : List (Addr × Obj)} {s0 : Shared} {H0 : Hp} {E : XK} : Takes (C.X xp s0 H0 E) (fun cls d _ H' => E cls d H') := fun u s' x => by
  obtain ⟨a, B, sI, pins, σ, H, cls, d, e, I, nb, up, sky, na, os, ag, w⟩ := x
  exact XE.leaveG (X := C.X xp s0 H0 E) (W := fun cls d _ H' => C.exP xp E cls d H') (E := C.exP xp E) rfl rfl rfl (fun _ _ _ _ h => h) ⟨a, B, sI, pins, σ, H, cls, d, e, I, nb, up, sky, na, os, ag, w, fun p hp => (I.pin p (List.mem_append_left _ hp)).2.1⟩
theorem owns_g {C : GX} {xp : List (Addr × Obj)} {s0 : Shared} {H0 : Hp} {E : XK} : PassesOwn (model C.P C.w) (C.X xp s0 H0 E).A (C.X xp s0 H0 E).env (C.X xp s0 H0 E).xe :=
  passes_of (X := C.X xp s0 H0 E) (K := fun e s'' => CX C.P C.w C.outer H0 s0 (C.exP xp E) e s'' ∧ ∀ p ∈ C.pn ++ xp, s''.heap.get? p.1 = some p.2) (E₁ := fun _ _ => False) rfl
/-- what is wanted of a stretch: of an item, of the end, of an exception -/
structure Wish (τ : Type) where
  yd : V → τ → Hp → Prop
  dn : Hp → Prop
  ex : XK
/-- a generator's promise: where it stands (τ), what it will meet from there, what must be kept while it sleeps -/
structure GSpec where
  τ : Type
  W : τ → Hp → Wish τ → Prop
  Fr : τ → Hp → Hp → Prop
abbrev AslT (τ : Type) := τ → (Resume → Sem PySem.Fin) → Code → List Frame → List (Addr × Obj) → Hp → Prop
/-- the end of a stretch -/
def Phi (C : GX) (τ : Type) (go : AslT τ) (xp : List (Addr × Obj)) (s0 : Shared) (H0 : Hp) (Q : Wish τ) (e : End) (s1 : Shared) : Prop :=
  match e with
  | .ret (.ok fl) => (fl = .ret .none ∨ fl = .next) ∧ ∃ H', s1.os = s0.os ∧ AllBare s1.gens ∧ Un (frs C.outer) [] H0 H' s0.heap s1.heap ∧ HOk C.P C.w H' s1.heap ∧ (∀ p ∈ C.pn ++ xp, s1.heap.get? p.1 = some p.2 ∧ H' p.1 = none) ∧ Q.dn H'
  | .ret (.error x) => CX C.P C.w C.outer H0 s0 (C.exP xp Q.ex) x s1 ∧ ∀ p ∈ C.pn ++ xp, s1.heap.get? p.1 = some p.2
  | .susp v _ _ k c _ fs => ∃ x t H' pl, RelV x v ∧ s1.os = s0.os ∧ AllBare s1.gens ∧ Un (frs C.outer) [] H0 H' s0.heap s1.heap ∧ HOk C.P C.w H' s1.heap ∧ (∀ p ∈ C.pn ++ xp ++ pl, s1.heap.get? p.1 = some p.2 ∧ H' p.1 = none) ∧
      (∀ p ∈ pl, C.L ≤ p.1 ∧ (∀ v, p.2.data ≠ .cell v) ∧ ∀ q ∈ xp, p.1 ≠ q.1) ∧ Q.yd x t H' ∧ go t k c fs pl H'
/-- how it is woken -/
structure Wk (C : GX) (pl xp : List (Addr × Obj)) (s : Shared) (H : Hp) (s0 : Shared) : Prop where
  os : s.os = s0.os
  bare : AllBare s.gens
  sz : s0.heap.objs.size ≤ C.L
  bsz : C.base.objs.size ≤ s0.heap.objs.size
  sub : ∀ b o, s0.heap.get? b = some o → s.heap.get? b = some o
  bs : ∀ b o, C.base.get? b = some o → s0.heap.get? b = some o ∧ H b = none
  funs : s0.heap.FunFrames C.base C.outer
  frf : ∀ b ∈ frs C.outer, H b = none
  xok : ∀ p ∈ xp, p.1 ≠ C.L ∧ p.1 ∉ frs C.outer ∧ ∀ v, p.2.data ≠ .cell v
  dis : ∀ p ∈ pl, ∀ q ∈ xp, p.1 ≠ q.1
  pins : ∀ p ∈ C.pn ++ xp ++ pl, s.heap.get? p.1 = some p.2 ∧ H p.1 = none
  hok : HOk C.P C.w H s.heap
def Asl (C : GX) (S : GSpec) : Nat → AslT S.τ
  | 0 => fun _ _ _ _ _ _ => True
  | n + 1 => fun t k c fs pl H => ∀ (xp : List (Addr × Obj)) (s s0 : Shared) (H2 : Hp) (Q : Wish S.τ), Wk C pl xp s H2 s0 → S.Fr t H H2 → S.W t H2 Q → Sg (model C.P C.w) C.A c (k (.send .none)) fs s (Phi C S.τ (Asl C S n) xp s0 H2 Q)
/-! ### statements of a generator -/
structure GE (τ : Type) where
  nx : L2.St → Hp → Wish τ → Prop
  rt : V → Hp → Wish τ → Prop
  bk : L2.St → Hp → Wish τ → Prop := fun _ _ _ => False
  ct : L2.St → Hp → Wish τ → Prop := fun _ _ _ => False
abbrev TG2 (τ : Type) := GE τ → L2.St → Hp → Wish τ → Prop
def GE.at {τ : Type} (D : GE τ) (Q : Wish τ) : Ends := { nx := fun σ H => D.nx σ H Q, rt := fun v H => D.rt v H Q, bk := fun σ H => D.bk σ H Q, ct := fun σ H => D.ct σ H Q }
/-- the generator's own iterators -/
def IpOk (C : GX) (ip xp : List (Addr × Obj)) : Prop := ∀ p ∈ ip, C.L ≤ p.1 ∧ ∀ q ∈ xp, p.1 ≠ q.1
structure GCo (C : GX) (c : Code) (fs : List Frame) (gd : Bool → Bool) : Prop where
  over : C.A.over c fs = C.A.deeper C.env
  split : splitAtGen fs = none
  guard : fs.any Frame.guarded = false
  gd : gd false = false
structure GK2 (C : GX) (S : GSpec) (ip : List (Addr × Obj)) (c : Code) (fs : List Frame) (K : Flow → Sem PySem.Fin) (J : Value → Sem PySem.Fin) (D : GE S.τ) : Prop where
  ok : ∀ (n : Nat) (xp : List (Addr × Obj)) (s0 : Shared) (H0 : Hp) (Q : Wish S.τ) (s : Shared) (f : Flow), IpOk C ip xp → SP (C.X xp s0 H0 Q.ex) ip (D.at Q) f s → Sg (model C.P C.w) C.A c (K f) fs s (Phi C S.τ (Asl C S n) xp s0 H0 Q)
  exc : ∀ (n : Nat) (xp : List (Addr × Obj)) (s0 : Shared) (H0 : Hp) (Q : Wish S.τ) (e : Value) (s : Shared), (C.X xp s0 H0 Q.ex).xe e s → Sg (model C.P C.w) C.A c (J e) fs s (Phi C S.τ (Asl C S n) xp s0 H0 Q)
structure GSt (C : GX) (S : GSpec) (st : Stmt) (t : TG2 S.τ) : Prop where
  run : ∀ (n : Nat) (ip xp : List (Addr × Obj)) (s0 : Shared) (H0 : Hp) (Q : Wish S.τ) (c : Code) (fs : List Frame) (K : Flow → Sem PySem.Fin) (J : Value → Sem PySem.Fin) (gd : Bool → Bool) (lv : List Value → List Value) (s : Shared) (σ : L2.St) (H : Hp) (D : GE S.τ),
    GCo C c fs gd → IpOk C ip xp → GK2 C S ip c fs K J D → Inv (C.X xp s0 H0 Q.ex) ip σ H s → t D σ H Q → Sg (model C.P C.w) C.A c ((exec st C.env).wrap K J gd lv) fs s (Phi C S.τ (Asl C S n) xp s0 H0 Q)
structure GSts (C : GX) (S : GSpec) (st : List Stmt) (t : TG2 S.τ) : Prop where
  run : ∀ (n : Nat) (ip xp : List (Addr × Obj)) (s0 : Shared) (H0 : Hp) (Q : Wish S.τ) (c : Code) (fs : List Frame) (K : Flow → Sem PySem.Fin) (J : Value → Sem PySem.Fin) (gd : Bool → Bool) (lv : List Value → List Value) (s : Shared) (σ : L2.St) (H : Hp) (D : GE S.τ),
    GCo C c fs gd → IpOk C ip xp → GK2 C S ip c fs K J D → Inv (C.X xp s0 H0 Q.ex) ip σ H s → t D σ H Q → Sg (model C.P C.w) C.A c ((execs st C.env).wrap K J gd lv) fs s (Phi C S.τ (Asl C S n) xp s0 H0 Q)
section
variable {C : GX} {S : GSpec} {st : Stmt} {rest : List Stmt}
/-- a statement that hands out nothing -/
def tPl {τ : Type} (t : XK → TS) : TG2 τ := fun D σ H Q => t Q.ex (D.at Q) σ H
theorem g_ps {t : XK → TS} (h : ∀ (xp : List (Addr × Obj)) (s0 : Shared) (H0 : Hp) (E : XK), PS (C.X xp s0 H0 E) st (t E)) : GSt C S st (tPl t) := by
  refine ⟨fun n ip xp s0 H0 Q c fs K J gd lv s σ H D g hi k I ht => sg_wrap ?_⟩
  rw [g.over]
  exact wpAny_mono ((h xp s0 H0 Q.ex).run ip s σ H (D.at Q) I ht) (fun f s' hs => k.ok n xp s0 H0 Q s' f hi hs) fun x s' hx => k.exc n xp s0 H0 Q x s' hx
theorem g_pss {t : XK → TS} (h : ∀ (xp : List (Addr × Obj)) (s0 : Shared) (H0 : Hp) (E : XK), PSs (C.X xp s0 H0 E) rest (t E)) : GSts C S rest (tPl t) := by
  refine ⟨fun n ip xp s0 H0 Q c fs K J gd lv s σ H D g hi k I ht => sg_wrap ?_⟩
  rw [g.over]
  exact wpAny_mono ((h xp s0 H0 Q.ex).run ip s σ H (D.at Q) I ht) (fun f s' hs => k.ok n xp s0 H0 Q s' f hi hs) fun x s' hx => k.exc n xp s0 H0 Q x s' hx
def tNil2 {τ : Type} : TG2 τ := fun D σ H Q => D.nx σ H Q
theorem g_nil : GSts C S [] tNil2 := ⟨fun n ip xp s0 H0 Q c fs K J gd lv s σ H D g hi k I ht => k.ok n xp s0 H0 Q s .next hi ⟨σ, H, I, ht⟩⟩
def tThen {τ : Type} (t u : TG2 τ) : TG2 τ := fun D σ H Q => t { D with nx := fun σ' H' Q' => u D σ' H' Q' } σ H Q
theorem g_cons {t u : TG2 S.τ} (a : GSt C S st t) (b : GSts C S rest u) : GSts C S (st :: rest) (tThen t u) := by
  refine ⟨fun n ip xp s0 H0 Q c fs K J gd lv s σ H D g hi k I ht => ?_⟩
  rw [execs_cons_wrap]
  refine a.run n ip xp s0 H0 Q c fs _ J gd lv s σ H { D with nx := fun σ' H' Q' => u D σ' H' Q' } g hi ⟨fun n' xp' s0' H0' Q' s' f hi' hs => ?_, k.exc⟩ I ht
  cases f with
  | next =>
    obtain ⟨σ', H', I', q⟩ := hs
    exact b.run n' ip xp' s0' H0' Q' c fs K J gd lv s' σ' H' D g hi' k I' q
  | brk => exact k.ok n' xp' s0' H0' Q' s' .brk hi' hs
  | cont => exact k.ok n' xp' s0' H0' Q' s' .cont hi' hs
  | ret u => exact k.ok n' xp' s0' H0' Q' s' (.ret u) hi' hs
/-- if with an item within -/
def tIf2 {τ : Type} (tc : XK → TT) (t u : TG2 τ) : TG2 τ := fun D σ H Q => tc Q.ex σ H fun b H1 => if b = true then t D σ H1 Q else u D σ H1 Q
theorem g_if {c : Expr} {a b : List Stmt} {pos : Pos} {tc : XK → TT} {t u : TG2 S.τ} (hc : ∀ (xp : List (Addr × Obj)) (s0 : Shared) (H0 : Hp) (E : XK), PT (C.X xp s0 H0 E) c (tc E)) (ha : GSts C S a t) (hb : GSts C S b u) : GSt C S (.If c a b pos) (tIf2 tc t u) := by
  refine ⟨fun n ip xp s0 H0 Q cc fs K J gd lv s σ H D g hi k I ht => ?_⟩
  rw [exec_If]
  show Sg _ _ _ (.at pos fun _ => ((isTrue c C.env (eval c C.env)) >>= fun d => if d = true then execs a C.env else execs b C.env).wrap K J gd lv) _ _ _
  refine sg_at ?_
  rw [Sem.bind_eq_wrap', Sem.wrap_wrap]
  refine sg_wrap ?_
  rw [g.over]
  refine wpAny_mono ((hc xp s0 H0 Q.ex).run ip s σ H _ I ht) (fun d s' ⟨H1, I1, q1⟩ => ?_) fun x s' hx => k.exc n xp s0 H0 Q x s' hx
  cases d with
  | true => exact ha.run n ip xp s0 H0 Q cc fs K J gd lv s' σ H1 D g hi k I1 q1
  | false => exact hb.run n ip xp s0 H0 Q cc fs K J gd lv s' σ H1 D g hi k I1 q1
/-! ### it sleeps and is woken -/
theorem rebase {ip xp xp2 : List (Addr × Obj)} {s0 s02 s s2 : Shared} {H0 H H2 : Hp} {E E2 : XK} {σ : L2.St} {lo : Obj} (nc : C.env.cells = []) (I : Inv (C.X xp s0 H0 E) ip σ H s) (hlo : s.heap.get? C.L = some lo) (wk : Wk C ((C.L, lo) :: ip) xp2 s2 H2 s02) : Inv (C.X xp2 s02 H2 E2) ip σ H2 s2 := by
  have no : ∀ {x : Str} {c : Addr}, C.env.cells.lookup x = some c → False := fun {x c} h => by rw [nc] at h; cases h
  have hp := wk.pins (C.L, lo) (List.mem_append_right _ List.mem_cons_self)
  refine ⟨⟨I.ok.mod, I.ok.kind, I.ok.glob, I.ok.blt, wk.sz, I.ok.inj, I.ok.has, fun x c _ h => (no h).elim, I.ok.hd, I.ok.frames, I.ok.stk, fun b z => absurd (show b ∈ ([] : List Addr) from z) (by simp), wk.bs, wk.bsz, fun b o _ z => absurd (show b ∈ ([] : List Addr) from z) (by simp),
      fun b z => absurd (show b ∈ ([] : List Addr) from z) (by simp), wk.funs, wk.frf⟩,
    wk.os, wk.bare, ⟨fun b o e _ _ _ => wk.sub b o e, fun b o e _ _ _ => ⟨o.slots, wk.sub b o e⟩, fun _ _ _ n _ => n, fun b o e _ => ⟨o, wk.sub b o e⟩, fun _ _ q => q, fun _ _ _ q => q, fun b ps q => ⟨#[], by rw [Array.append_empty]; exact q⟩⟩,
    ?_, fun x c h => (no h).elim, hp.2, fun x c h => (no h).elim, fun p hm => ?_, wk.hok, I.len⟩
  · obtain ⟨m, ⟨o, es, ep, ho, r⟩, hl⟩ := I.loc
    have e : o = lo := by
      have ho' : s.heap.get? C.L = some o := ho
      rw [hlo] at ho'
      exact (Option.some.inj ho').symm
    subst e
    refine ⟨m, ⟨o, es, ep, hp.1, r⟩, fun i x v h1 h2 h3 => ?_⟩
    obtain ⟨u, ru, l⟩ := hl i x v h1 h2 h3
    refine ⟨u, ru, ?_⟩
    rcases l with l | ⟨_, c, hc, _⟩
    · exact .inl l
    · exact (no hc).elim
  · rcases List.mem_append.mp hm with z | z
    · rcases List.mem_append.mp z with y | y
      · obtain ⟨_, _, a3, a4, a5⟩ := I.pin p (List.mem_append_left _ (List.mem_append_left _ y))
        have q := wk.pins p (List.mem_append_left _ (List.mem_append_left _ y))
        exact ⟨q.1, q.2, a3, a4, a5⟩
      · have q := wk.pins p (List.mem_append_left _ (List.mem_append_right _ y))
        obtain ⟨a3, a4, a5⟩ := wk.xok p y
        exact ⟨q.1, q.2, a3, a4, a5⟩
    · obtain ⟨_, _, a3, a4, a5⟩ := I.pin p (List.mem_append_right _ z)
      have q := wk.pins p (List.mem_append_right _ (List.mem_cons_of_mem _ z))
      exact ⟨q.1, q.2, a3, a4, a5⟩
def tYd (S : GSpec) (te : XK → TE) : TG2 S.τ := fun D σ H Q => te Q.ex σ H fun x H1 => ∃ t, Q.yd x t H1 ∧ ∀ H2 Q2, S.Fr t H1 H2 → S.W t H2 Q2 → D.nx σ H2 Q2
theorem g_yield {e : Expr} {yp pos : Pos} {te : XK → TE} (nc : C.env.cells = []) (he : ∀ (xp : List (Addr × Obj)) (s0 : Shared) (H0 : Hp) (E : XK), PE (C.X xp s0 H0 E) e (te E)) (hco : C.scope.isCoroutine = false) (hin : interactive C.env = false := by rfl) : GSt C S (.Expr (.Yield (some e) yp) pos) (tYd S te) := by
  refine ⟨fun n ip xp s0 H0 Q c fs K J gd lv s σ H D g hi k I ht => ?_⟩
  rw [exec_Expr C.env _ pos hin rfl]
  show Sg _ _ _ (.at pos fun _ => ((eval e C.env >>= fun v => (standAt yp >>= fun _ => yieldOut C.env v)) >>= fun x => dropValue (.Yield (some e) yp) pos x).wrap K J gd lv) _ _ _
  have hy : ∀ v, yieldOut C.env v = yieldValue v := fun v => by
    have e2 : C.env.scope.isCoroutine = false := hco
    simp only [yieldOut, e2, Bool.false_eq_true, if_false]
  simp only [hy]
  refine sg_at ?_
  rw [Sem.bind_eq_wrap', Sem.bind_eq_wrap', Sem.wrap_wrap, Sem.wrap_wrap]
  refine sg_wrap ?_
  rw [g.over]
  refine wpAny_mono ((he xp s0 H0 Q.ex).run ip s σ H _ I ht) (fun v s' hv => ?_) fun x s' hx => k.exc n xp s0 H0 Q x s' hx
  obtain ⟨x, H1, I1, rv, t, hyd, hnx⟩ := hv
  obtain ⟨m, hn, _⟩ := I1.loc
  obtain ⟨lo, es, ep, hlo, hdat, _⟩ := id hn
  have hlo' : s'.heap.get? C.L = some lo := hlo
  refine sg_at ?_
  show Sg _ _ _ (.yield v (gd false) (lv []) _) _ _ _
  rw [g.gd]
  refine sg_yield g.split g.guard fun p => ?_
  refine ⟨x, t, H1, (C.L, lo) :: ip, rv, I1.os, I1.bare, I1.base, I1.hok, fun p hp => ?_, fun p hp => ?_, hyd, ?_⟩
  · rcases List.mem_append.mp hp with z | z
    · have q := I1.pin p (List.mem_append_left _ z)
      exact ⟨q.1, q.2.1⟩
    · rcases List.mem_cons.mp z with z | z
      · rw [z]
        exact ⟨hlo', I1.free⟩
      · have q := I1.pin p (List.mem_append_right _ z)
        exact ⟨q.1, q.2.1⟩
  · rcases List.mem_cons.mp hp with z | z
    · rw [z]
      exact ⟨Nat.le_refl _, (fun v q => by rw [hdat] at q; cases q), fun q hq e => (I1.pin q (List.mem_append_left _ (List.mem_append_right _ hq))).2.2.1 e.symm⟩
    · exact ⟨(hi p z).1, (I1.pin p (List.mem_append_right _ z)).2.2.2.2, (hi p z).2⟩
  · cases n with
    | zero => trivial
    | succ n =>
      intro xp2 s2 s02 H2 Q2 wk fr hw
      exact k.ok n xp2 s02 H2 Q2 s2 .next (fun p hp => ⟨(hi p hp).1, wk.dis p (List.mem_cons_of_mem _ hp)⟩) ⟨σ, H2, rebase nc I1 hlo' wk, hnx H2 Q2 fr hw⟩
/-! ### while -/
def tWh2 {τ : Type} (c : XK → TT) (tb : TG2 τ) : TG2 τ := fun D σ H Q => ∃ W : Nat → L2.St → Hp → Wish τ → Prop, (∃ m, W m σ H Q) ∧ ∀ m σ H Q, W m σ H Q →
  c Q.ex σ H fun b H1 => if b = true then ∃ N : L2.St → Hp → Wish τ → Prop, (∀ σ' H' Q', N σ' H' Q' → ∃ m', m' < m ∧ W m' σ' H' Q') ∧ tb { D with nx := N, ct := N, bk := D.nx } σ H1 Q else D.nx σ H1 Q
/-- the loop's code over the frame it came from -/
theorem gco_loop {c c' : Code} {fs : List Frame} {gd : Bool → Bool} {k : Result → Sem PySem.Fin} {l kp : List Value} {p : Pos} (g : GCo C c fs gd) (hw : c'.weight = 0) (hu : c'.cUnits = 0) : GCo C c' (.ret k none (gd false) l c p kp :: fs) id where
  over := (over_loop hw hu).trans g.over
  split := by
    show (splitAtGen fs).map _ = none
    rw [g.split]
    rfl
  guard := by
    show (gd false || fs.any Frame.guarded) = false
    rw [g.gd, g.guard]
    rfl
  gd := rfl
theorem sg_While {M : Model} {A : Around} {Φ : End → Shared → Prop} {c : Code} {fs : List Frame} {s : Shared} {K : Flow → Sem PySem.Fin} {J : Value → Sem PySem.Fin} {gd : Bool → Bool} {lv : List Value → List Value} {env : Env} {test : Expr} {body : List Stmt} {pos : Pos}
    (h : ∀ p, Sg M A (.whileLoop test body [] env) (M.den (.whileLoop test body [] env)) (.ret (fun r => ((match r with | .ok f => (.pure f : Sem Flow) | .error e => .raise e).onRaise (cameBack env)).wrap K J gd lv) none (gd false) (lv []) c p [] :: fs) s Φ) :
    Sg M A c ((exec (.While test body [] pos) env).wrap K J gd lv) fs s Φ := sg_at (sg_call h)
/-- behind a turn -/
def afterTurn (test : Expr) (body : List Stmt) (env : Env) : Flow → Sem PySem.Fin := fun f => match f with
  | .next | .cont => .pure (.again (.whileLoop test body [] env))
  | .brk => .pure (.done .next)
  | .ret v => .pure (.done (.ret v))
def turnLeft (env : Env) : Value → Sem PySem.Fin := fun x => (do noteFrame x env; theTreesLotGoes x : Sem Unit).wrap (fun _ => .raise x) .raise id id
theorem sg_whileLoop {P : Program} {w : World} {A : Around} {Φ : End → Shared → Prop} {fs : List Frame} {s : Shared} {env : Env} {test : Expr} {body : List Stmt}
    (h : wpAny (model P w) (A.over (.whileLoop test body [] env) fs) (isTrue test env (eval test env)) (fun b s' =>
        if b = true then Sg (model P w) A (.whileLoop test body [] env) ((execs body env).wrap (afterTurn test body env) (turnLeft env) id id) fs s' Φ
        else Sg (model P w) A (.whileLoop test body [] env) (.pure (.done .next)) fs s' Φ)
      (fun x s' => Sg (model P w) A (.whileLoop test body [] env) (turnLeft env x) fs s' Φ) s) :
    Sg (model P w) A (.whileLoop test body [] env) ((model P w).den (.whileLoop test body [] env)) fs s Φ := by
  show Sg _ A _ ((whileTurn test body [] env).onRaise (fun x => do noteFrame x env; theTreesLotGoes x)) fs s Φ
  unfold whileTurn
  rw [Sem.onRaise_eq_wrap, Sem.bind_eq_wrap', Sem.wrap_wrap]
  have lf : ∀ x, ((do noteFrame x env; theTreesLotGoes x : Sem Unit).bind fun _ => (.raise x : Sem PySem.Fin)) = turnLeft env x := fun x => Sem.bind_eq_wrap _ _
  refine sg_wrap (wpAny_mono h (fun b s' hb => ?_) fun x s' hx => ?_)
  · cases b with
    | true =>
      rw [if_pos rfl] at hb
      show Sg _ A _ (Sem.wrap _ _ _ _ (if true = true then _ else _)) fs s' Φ
      rw [if_pos rfl, Sem.bind_eq_wrap', Sem.wrap_wrap]
      rw [Sem.wrap_congr (execs body env) _ _ (K' := afterTurn test body env) (H' := turnLeft env) (fun f => by cases f <;> rfl) (fun e => by first | exact lf e | (show ((do noteFrame e env; theTreesLotGoes e : Sem Unit).bind fun _ => (.raise e : Sem PySem.Fin)) = _; exact lf e))]
      exact hb
    | false =>
      rw [if_neg Bool.false_ne_true] at hb
      exact hb
  · rw [← lf] at hx
    exact hx
theorem g_while {test : Expr} {body : List Stmt} {pos : Pos} {tc : XK → TT} {tb : TG2 S.τ} (hc : ∀ (xp : List (Addr × Obj)) (s0 : Shared) (H0 : Hp) (E : XK), PT (C.X xp s0 H0 E) test (tc E)) (hb : GSts C S body tb) : GSt C S (.While test body [] pos) (tWh2 tc tb) := by
  refine ⟨fun n ip xp s0 H0 Q c fs K J gd lv s σ H D g hi k I ht => ?_⟩
  obtain ⟨W, ⟨m0, w0⟩, turn⟩ := ht
  refine sg_While fun p => ?_
  have gl := gco_loop (k := fun r => ((match r with | .ok f => (.pure f : Sem Flow) | .error e => .raise e).onRaise (cameBack C.env)).wrap K J gd lv) (c' := .whileLoop test body [] C.env) (l := lv []) (kp := []) (p := p) g rfl rfl
  -- an exception leaves the loop's code
  have left : ∀ (n : Nat) (xp : List (Addr × Obj)) (s0 : Shared) (H0 : Hp) (Q : Wish S.τ) (e : Value) (s : Shared), cameBackBy (model C.P C.w) (C.A.deeper C.env) C.env (C.X xp s0 H0 Q.ex).xe e s →
      Sg (model C.P C.w) C.A c (((Sem.raise e : Sem Flow).onRaise (cameBack C.env)).wrap K J gd lv) fs s (Phi C S.τ (Asl C S n) xp s0 H0 Q) := fun n xp s0 H0 Q e s h => by
    show Sg _ _ _ (((cameBack C.env e).bind fun _ => (Sem.raise e : Sem Flow)).wrap K J gd lv) _ _ _
    rw [Sem.bind_eq_wrap, Sem.wrap_wrap]
    refine sg_wrap ?_
    rw [g.over]
    exact wpAny_mono h (fun _ s' hx => k.exc n xp s0 H0 Q e s' hx) fun x s' hx => k.exc n xp s0 H0 Q x s' hx
  have ee : ∀ (n : Nat) (xp : List (Addr × Obj)) (s0 : Shared) (H0 : Hp) (Q : Wish S.τ) (x : Value) (s : Shared), (C.X xp s0 H0 Q.ex).xe x s →
      Sg (model C.P C.w) C.A (.whileLoop test body [] C.env) (turnLeft C.env x) (.ret (fun r => ((match r with | .ok f => (.pure f : Sem Flow) | .error e => .raise e).onRaise (cameBack C.env)).wrap K J gd lv) none (gd false) (lv []) c p [] :: fs) s (Phi C S.τ (Asl C S n) xp s0 H0 Q) := fun n xp s0 H0 Q x s hx => by
    refine sg_wrap ?_
    rw [gl.over]
    refine wpAny_bind (wpAny_mono (owns_g (C := C) (xp := xp) (s0 := s0) (H0 := H0) (E := Q.ex) x s hx) (fun _ s'' hcb => wpAny_theTreesLotGoes ?_) fun y s'' hcb => ?_)
    · exact sg_leaf (.error x) (left n xp s0 H0 Q x s'' hcb)
    · exact sg_leaf (.error y) (left n xp s0 H0 Q y s'' hcb)
  have loop : ∀ (m : Nat) (n : Nat) (xp : List (Addr × Obj)) (s0 : Shared) (H0 : Hp) (Q : Wish S.τ) (s : Shared) (σ : L2.St) (H : Hp), W m σ H Q → IpOk C ip xp → Inv (C.X xp s0 H0 Q.ex) ip σ H s →
      Sg (model C.P C.w) C.A (.whileLoop test body [] C.env) ((model C.P C.w).den (.whileLoop test body [] C.env)) (.ret (fun r => ((match r with | .ok f => (.pure f : Sem Flow) | .error e => .raise e).onRaise (cameBack C.env)).wrap K J gd lv) none (gd false) (lv []) c p [] :: fs) s (Phi C S.τ (Asl C S n) xp s0 H0 Q) := by
    intro m
    induction m using Nat.strongRecOn with
    | ind m ih =>
      intro n xp s0 H0 Q s σ H w hi I
      refine sg_whileLoop ?_
      rw [gl.over]
      refine wpAny_mono ((hc xp s0 H0 Q.ex).run ip s σ H _ I (turn m σ H Q w)) (fun b s' hb' => ?_) fun x s' hx => ee n xp s0 H0 Q x s' hx
      obtain ⟨H2, I2, q2⟩ := hb'
      cases b with
      | true =>
        rw [if_pos rfl] at q2 ⊢
        obtain ⟨N, hN, q2⟩ := q2
        refine hb.run n ip xp s0 H0 Q _ _ _ _ id id s' σ H2 { D with nx := N, ct := N, bk := D.nx } gl hi ⟨fun n' xp' s0' H0' Q' s3 f hi' hs => ?_, fun n' xp' s0' H0' Q' x s3 hx => ee n' xp' s0' H0' Q' x s3 hx⟩ I2 q2
        cases f with
        | next =>
          obtain ⟨σ3, H3, I3, n3⟩ := hs
          obtain ⟨m', hm, w3⟩ := hN σ3 H3 Q' n3
          exact sg_again rfl (ih m' hm n' xp' s0' H0' Q' s3 σ3 H3 w3 hi' I3)
        | cont =>
          obtain ⟨σ3, H3, I3, n3⟩ := hs
          obtain ⟨m', hm, w3⟩ := hN σ3 H3 Q' n3
          exact sg_again rfl (ih m' hm n' xp' s0' H0' Q' s3 σ3 H3 w3 hi' I3)
        | brk => exact sg_leaf (.ok .next) (k.ok n' xp' s0' H0' Q' s3 .next hi' hs)
        | ret v => exact sg_leaf (.ok (.ret v)) (k.ok n' xp' s0' H0' Q' s3 (.ret v) hi' hs)
      | false =>
        rw [if_neg Bool.false_ne_true] at q2 ⊢
        exact sg_leaf (.ok .next) (k.ok n xp s0 H0 Q s' .next hi ⟨σ, H2, I2, q2⟩)
  exact loop m0 n xp s0 H0 Q s σ H w0 hi I
end
end Gx

namespace Gx
open PySem PySem.Spec PyProof.Rows L2 GenW

/-! ### the heap as far as the generator's call -/
def cutH (h : Heap) (L : Addr) : Heap := { h with objs := h.objs.extract 0 L }
def cutS (s : Shared) (L : Addr) : Shared := { s with heap := cutH s.heap L }
theorem cut_get {h : Heap} {L b : Nat} : (cutH h L).get? b = if b < L then h.get? b else none := by
  unfold cutH Heap.get?
  simp only [Array.getElem?_extract]
  by_cases e : b < L
  · rw [if_pos e]
    have q : (if b < min L h.objs.size - 0 then h.objs[0 + b]? else none) = h.objs[b]? := by
      by_cases e2 : b < h.objs.size
      · rw [if_pos (by simp only [Nat.sub_zero]; exact Nat.lt_min.mpr ⟨e, e2⟩), Nat.zero_add]
      · rw [if_neg (by simp only [Nat.sub_zero]; exact fun z => e2 (Nat.lt_min.mp z).2), Array.getElem?_eq_none (Nat.le_of_not_lt e2)]
    rw [q]
  · rw [if_neg e, if_neg (by simp only [Nat.sub_zero]; exact fun z => e (Nat.lt_min.mp z).1)]
theorem cut_some {h : Heap} {L b : Addr} {o : Obj} (e : (cutH h L).get? b = some o) : b < L ∧ h.get? b = some o := by
  rw [cut_get] at e
  split at e
  · rename_i q
    exact ⟨q, e⟩
  · cases e
theorem cut_of {h : Heap} {L b : Addr} {o : Obj} (e : h.get? b = some o) (l : b < L) : (cutH h L).get? b = some o := by
  rw [cut_get, if_pos l]
  exact e
theorem cut_size (h : Heap) (L : Nat) : (cutH h L).objs.size ≤ L := by
  unfold cutH
  simp only [Array.size_extract]
  omega
theorem cut_size_of {h : Heap} {L : Nat} (e : L ≤ h.objs.size) : (cutH h L).objs.size = L := by
  unfold cutH
  simp only [Array.size_extract]
  omega
/-- what is younger than L -/
def young (h : Heap) (L : Addr) : List Addr := (List.range h.objs.size).filter fun b => decide (L ≤ b)
theorem young_mem {h : Heap} {L b : Addr} : b ∈ young h L ↔ b < h.objs.size ∧ L ≤ b := by
  unfold young
  rw [List.mem_filter, List.mem_range, decide_eq_true_eq]
theorem not_young {h : Heap} {L b : Addr} {o : Obj} (e : h.get? b = some o) (n : b ∉ young h L) : b < L := by
  by_cases q : b < L
  · exact q
  · exact absurd (young_mem.mpr ⟨Heap.lt_size e, Nat.le_of_not_lt q⟩) n
theorem un_young {fs : List Addr} {H H' : Hp} {h h' : Heap} {L : Addr} (u : Un fs [] H H' (cutH h L) h') : Un fs (young h L) H H' h h' where
  keep := fun b o e n hf hy => u.keep b o (cut_of e (not_young e hy)) n hf (by simp)
  slot := fun b o e n hf hy => u.slot b o (cut_of e (not_young e hy)) n hf (by simp)
  free := fun b o e n hy => u.free b o (cut_of e (not_young e hy)) n (by simp)
  there := fun b o e hy => u.there b o (cut_of e (not_young e hy)) (by simp)
  tups := u.tups
  frzs := u.frzs
  tbls := u.tbls
/-- a consumer's state, all of whose own is older than L -/
structure Old (X : Cx) (pins : List (Addr × Obj)) (L : Addr) : Prop where
  s0 : X.s_0.heap.objs.size ≤ L
  loc : X.env.locals < L
  cel : ∀ x c, X.env.cells.lookup x = some c → c < L
  pin : ∀ p ∈ X.pn ++ pins, p.1 < L
theorem Old.of {X : Cx} {pins : List (Addr × Obj)} {σ : L2.St} {H : Hp} {s : Shared} (I : Inv X pins σ H s) : Old X pins s.heap.objs.size :=
  ⟨I.sz, I.lt, fun x c e => by
    obtain ⟨v, o, ho, _⟩ := I.cell x c e
    exact Heap.lt_size ho, fun p hp => Heap.lt_size (I.pin p hp).1⟩
theorem Old.ch {X : Cx} {pins : List (Addr × Obj)} {L : Addr} {h : Heap} (o : Old X pins L) : ∀ b ∈ young h L, (b ∈ X.ex ∨ X.s_0.heap.objs.size ≤ b) ∧ b ≠ X.env.locals ∧ (∀ x c, X.env.cells.lookup x = some c → c ≠ b) ∧ ∀ p ∈ X.pn ++ pins, p.1 ≠ b := fun b hb => by
  have hl := (young_mem.mp hb).2
  exact ⟨.inr (Nat.le_trans o.s0 hl), Nat.ne_of_gt (Nat.lt_of_lt_of_le o.loc hl), fun x c e => Nat.ne_of_lt (Nat.lt_of_lt_of_le (o.cel x c e) hl), fun p hp => Nat.ne_of_lt (Nat.lt_of_lt_of_le (o.pin p hp) hl)⟩
section
variable {X : Cx} {pins : List (Addr × Obj)} {σ : L2.St} {H H' : Hp} {s s' : Shared} {L : Addr}
/-- behind a stretch, the consumer's state -/
theorem after (I : Inv X pins σ H s) (o : Old X pins L) (os : s'.os = s.os) (hb : AllBare s'.gens) (u : Un (frs X.stack) [] H H' (cutH s.heap L) s'.heap) (hok : HOk X.prog X.w H' s'.heap) : Inv X pins σ H' s' :=
  I.call' (ch := young s.heap L) os (un_young u) hok hb o.ch
/-- an exception out of a stretch is in the consumer's air -/
theorem xe_stretch {W : WX} {E : XK} (I : Inv X pins σ H s) (ol : Old X pins L) (hW : ∀ cls d H', E cls d H' → W cls d σ H') {u : Value} (c : CX X.prog X.w X.stack H (cutS s L) E u s') : XE X W u s' := by
  obtain ⟨a, B, H', cls, d, rfl, fl, hok, ub, na, os, ag, hE⟩ := c
  obtain ⟨G, g1, g2⟩ := restrict s'.heap fun b => (B.get? b).isSome || decide (b ∈ frs X.stack)
  have st : B.StaysIn s'.heap := fl.1
  have gB : ∀ b o, B.get? b = some o → G.get? b = some o := fun b o e => by
    rw [g1 b (by simp [e])]
    exact st b o e
  have gF : ∀ b, b ∈ frs X.stack → G.get? b = s'.heap.get? b := fun b hb => g1 b (by simp [hb])
  have og : ∀ b o, G.get? b = some o → s'.heap.get? b = some o ∧ ((B.get? b).isSome = true ∨ b ∈ frs X.stack) := fun b o e => by
    cases q : ((B.get? b).isSome || decide (b ∈ frs X.stack)) with
    | false => rw [g2 b q] at e; cases e
    | true =>
      rw [g1 b q] at e
      exact ⟨e, by simpa [Bool.or_eq_true] using q⟩
  refine ⟨a, B, { s with heap := G, gens := s'.gens, drawn := s'.drawn, toks := s'.toks }, pins, σ, H', cls, d, rfl, ?_, fun b o e hb => ?_, Heap.UpToSlots.of_keeps fun b o e => (og b o e).1, .inr (.inl fl), na, os, ag, hW _ _ _ hE⟩
  · refine after I ol rfl ag ⟨fun b o e n hb _ => gB b o (ub.keep b o e n hb), fun b o e n hb _ => ?_, fun b o e n _ => ub.free b o e n, fun b o e _ => ?_, ub.tups, ub.frzs, ub.tbls⟩ (hok.kept gB)
    · obtain ⟨sl, q⟩ := ub.slot b o e hb
      exact ⟨sl, by rw [gF b hb]; exact q⟩
    · by_cases hb : b ∈ frs X.stack
      · obtain ⟨sl, q⟩ := ub.slot b o e hb
        exact ⟨_, by rw [gF b hb]; exact q⟩
      · obtain ⟨o', q⟩ := ub.there b o e hb
        exact ⟨o', gB b o' q⟩
  · obtain ⟨e', h⟩ := og b o e
    rcases h with h | h
    · obtain ⟨o', q⟩ := Option.isSome_iff_exists.mp h
      have z := st b o' q
      rw [e'] at z
      cases z
      exact q
    · exact absurd h hb
end
/-! ### the first waking -/
def AslF (C : GX) (S : GSpec) (n : Nat) (t0 : S.τ) (c : Code) (pl : List (Addr × Obj)) : Prop := ∀ (xp : List (Addr × Obj)) (s s0 : Shared) (H2 : Hp) (Q : Wish S.τ), Wk C pl xp s H2 s0 → S.W t0 H2 Q →
  Sg (model C.P C.w) C.A c ((model C.P C.w).den c) [] s (Phi C S.τ (Asl C S n) xp s0 H2 Q)
/-- what a call of a generator def gives -/
def GMade2 (P : Program) (w : World) (K : PySem.W.Frag) (mg : Str → Option Value) (base : Heap) (k : Nat) (outer : List Env) (s : Shared) (S : GSpec) (t0 : S.τ) (u : Value) (s' : Shared) : Prop :=
  ∃ (a : Addr) (g : Nat) (c : Code) (go lo : Obj) (N : List Str) (qual : Str) (scope : Scope) (f : Addr) (cd : Value), u = .ref a ∧ s.heap.objs.size < a ∧ (∀ h : Heap, h.get? a = some go → h.IsGen a g) ∧ (∀ v, go.data ≠ .cell v) ∧ (∀ v, lo.data ≠ .cell v) ∧
    s'.heap.get? a = some go ∧ s'.heap.get? s.heap.objs.size = some lo ∧ s'.gens[g]? = some (.fresh c) ∧ s'.os = s.os ∧ AllBare s'.gens ∧ (∀ b o, s.heap.get? b = some o → s'.heap.get? b = some o) ∧
    ∀ A : Around, Room k A → A.frames = some outer → ∀ n, AslF ⟨P, w, K, mg, base, N, qual, scope, f, cd, A, outer, s.heap.objs.size, [(a, go)]⟩ S n t0 c [(s.heap.objs.size, lo)]
structure GFn2 (P : Program) (w : World) (K : PySem.W.Frag) (mg : Str → Option Value) (base : Heap) (k : Nat) (f : Addr) (fd : FuncData) (ps : List Str) (S : GSpec) (start : List V → S.τ) : Prop where
  run : ∀ (A : Around) (outer : List Env) (s : Shared) (H : Hp) (args : Args) (us : List Value) (vs : List V), Room k A → Env0 P w K mg base A outer s H → BindsTo s fd args (ps.zip us) → Vals vs us → vs.length = ps.length →
    codeAny (model P w) A (.call (.ref f) args) (fun r s' => match r with | .ok (.ret u) => GMade2 P w K mg base k outer s S (start vs) u s' | _ => False) s
theorem sg_func {P : Program} {w : World} {A : Around} {Φ : End → Shared → Prop} {fs : List Frame} {s : Shared} {env : Env} {body : List Stmt}
    (h : Sg (model P w) A (.func body env) ((execs body env).wrap (fun f => .pure (.done (.ret (match f with | .ret v => v | _ => .none)))) (fun e => (leaving env e).wrap (fun _ => .raise e) .raise id id) id id) fs s Φ) :
    Sg (model P w) A (.func body env) ((model P w).den (.func body env)) fs s Φ := by
  show Sg _ A _ (.point [] fun _ => ((execs body env).onRaise (leaving env)) >>= _) fs s Φ
  refine sg_point ?_
  rw [Sem.onRaise_eq_wrap, Sem.bind_eq_wrap', Sem.wrap_wrap]
  rw [Sem.wrap_congr (execs body env) _ _ (K' := fun f => .pure (.done (.ret (match f with | .ret v => v | _ => .none)))) (H' := fun e => (leaving env e).wrap (fun _ => .raise e) .raise id id) (fun f => by cases f <;> rfl)
    (fun e => by rw [Sem.bind_eq_wrap, Sem.wrap_wrap]; rfl)]
  exact h
theorem rebase0 {C : GX} {xp : List (Addr × Obj)} {s0 s02 s s2 : Shared} {H0 H H2 : Hp} {E E2 : XK} {σ : L2.St} {lo : Obj} (nc : C.env.cells = []) (I : Inv (({ C with pn := [] } : GX).X [] s0 H0 E) [] σ H s) (hlo : s.heap.get? C.L = some lo)
    (hpn : ∀ p ∈ C.pn, p.1 ≠ C.L ∧ p.1 ∉ frs C.outer ∧ ∀ v, p.2.data ≠ .cell v) (wk : Wk C [(C.L, lo)] xp s2 H2 s02) : Inv (C.X xp s02 H2 E2) [] σ H2 s2 := by
  have no : ∀ {x : Str} {c : Addr}, C.env.cells.lookup x = some c → False := fun {x c} h => by rw [nc] at h; cases h
  have hp := wk.pins (C.L, lo) (List.mem_append_right _ List.mem_cons_self)
  refine ⟨⟨I.ok.mod, I.ok.kind, I.ok.glob, I.ok.blt, wk.sz, I.ok.inj, I.ok.has, fun x c _ h => (no h).elim, I.ok.hd, I.ok.frames, I.ok.stk, fun b z => absurd (show b ∈ ([] : List Addr) from z) (by simp), wk.bs, wk.bsz, fun b o _ z => absurd (show b ∈ ([] : List Addr) from z) (by simp),
      fun b z => absurd (show b ∈ ([] : List Addr) from z) (by simp), wk.funs, wk.frf⟩,
    wk.os, wk.bare, ⟨fun b o e _ _ _ => wk.sub b o e, fun b o e _ _ _ => ⟨o.slots, wk.sub b o e⟩, fun _ _ _ n _ => n, fun b o e _ => ⟨o, wk.sub b o e⟩, fun _ _ q => q, fun _ _ _ q => q, fun b ps q => ⟨#[], by rw [Array.append_empty]; exact q⟩⟩,
    ?_, fun x c h => (no h).elim, hp.2, fun x c h => (no h).elim, fun p hm => ?_, wk.hok, I.len⟩
  · obtain ⟨m, ⟨o, es, ep, ho, r⟩, hl⟩ := I.loc
    have e : o = lo := by
      have ho' : s.heap.get? C.L = some o := ho
      rw [hlo] at ho'
      exact (Option.some.inj ho').symm
    subst e
    refine ⟨m, ⟨o, es, ep, hp.1, r⟩, fun i x v h1 h2 h3 => ?_⟩
    obtain ⟨u, ru, l⟩ := hl i x v h1 h2 h3
    refine ⟨u, ru, ?_⟩
    rcases l with l | ⟨_, c, hc, _⟩
    · exact .inl l
    · exact (no hc).elim
  · rcases List.mem_append.mp hm with z | z
    · rcases List.mem_append.mp z with y | y
      · have q := wk.pins p (List.mem_append_left _ (List.mem_append_left _ y))
        obtain ⟨a1, a2, a3⟩ := hpn p y
        exact ⟨q.1, q.2, a1, a2, a3⟩
      · have q := wk.pins p (List.mem_append_left _ (List.mem_append_right _ y))
        obtain ⟨a1, a2, a3⟩ := wk.xok p y
        exact ⟨q.1, q.2, a1, a2, a3⟩
    · cases z
/-- THE RULE: a generator def, by its body -/
theorem gfn2_of {P : Program} {w : World} {K : PySem.W.Frag} {mg : Str → Option Value} {base : Heap} {k : Nat} {f : Addr} {name qual : Str} {params : Arguments} {body : List Stmt} {scope : Scope} {dV kV doc pm cdv ct oc : Value} {an od : Option Addr}
    {osl : Array (Option Value)} {N ps : List Str} {S : GSpec} {start : List V → S.τ} (lk : K.lookup f = some ⟨oc, od, .func (PySem.W.fnOf name qual params body scope dV kV doc pm an cdv ct), osl⟩) (hcd : PySem.W.codeIn K cdv qual = true) (Sc : GScope N ps scope)
    (nc : ∀ n, cellsFrom n scope.names [] = [])
    (hbody : ∀ (A : Around) (outer : List Env) (L : Addr) (pn : List (Addr × Obj)), Room k (A.deeper (envOfC qual scope L f cdv)) → ∃ t : TG2 S.τ, GSts ⟨P, w, K, mg, base, N, qual, scope, f, cdv, A, outer, L, pn⟩ S body t ∧
      ∀ vs H Q, vs.length = ps.length → S.W (start vs) H Q → t { nx := fun _ H' Q' => Q'.dn H', rt := fun v H' Q' => v = .non ∧ Q'.dn H' } (L2.start N vs) H Q) :
    GFn2 P w K mg base (k + 1) f (PySem.W.fnOf name qual params body scope dV kV doc pm an cdv ct) ps S start := by
  refine ⟨fun A outer s H args us vs hr e0 hb r hl => ?_⟩
  have KX : K.In s.heap := e0.mod.kin.keeps fun b o e => (e0.bs b o e).1
  have lim : s.heap.NoLimit := e0.mod.nolimit.keeps fun b o e => (e0.bs b o e).1
  have hkind : ∀ y ∈ ps.zip us, scope.names.lookup y.1 = some .local ∨ (scope.names.lookup y.1 = some .cell ∧ ((cellsFrom (s.heap.objs.size + 1) scope.names []).lookup y.1).isSome = true) := fun ⟨x, v⟩ hy => by
    rcases Sc.par x (List.of_mem_zip hy).1 with q | q
    · exact .inl q
    · exact .inr ⟨q, PySem.W.cellsFrom_some _ _ _ (.inl q)⟩
  refine codeAny_call_generator hr.depth (KX _ _ lk) rfl Sc.co Sc.gen rfl (PySem.W.codeRec_of KX hcd) (hb _ _ _ _ ?_)
  refine wpAny_newFunctionEnv_cells Sc.kind hkind fun env he s1 x => ?_
  subst he
  have lim1 : s1.heap.NoLimit := lim.keeps x.toInCall.keep
  refine ⟨lim1, ?_⟩
  obtain ⟨h1, tk, es1, hk1⟩ := x.done
  have os1 : s1.os = s.os := by rw [es1]
  have gen1 : s1.gens = s.gens := by rw [es1]
  have lt1 : s.heap.objs.size < s1.heap.objs.size := x.toInCall.ns.lt
  have kp1 : ∀ b o, s.heap.get? b = some o → s1.heap.get? b = some o := x.toInCall.keep
  obtain ⟨lo, les, lep, hlo, hlod, _⟩ := id x.toInCall.ns
  have hlo' : s1.heap.get? s.heap.objs.size = some lo := hlo
  have main : ∀ (go : Obj) (nm qn : Value) (tk2 : Nat), go.cls = .type "generator" → go.data = .fields #[.int s1.gens.size 0, nm, qn] → go.slots = #[] → (∀ h : Heap, (h.push go).get? h.objs.size = some go) →
      GMade2 P w K mg base (k + 1) outer s S (start vs) (.ref s1.heap.objs.size) { s1 with gens := s1.gens.push (.fresh (.func body (envOfC qual scope s.heap.objs.size f cdv))), toks := tk2, heap := s1.heap.push go } := by
    intro go nm qn tk2 hgc hgd0 hgs hgp
    refine ⟨s1.heap.objs.size, s1.gens.size, _, go, lo, N, qual, scope, f, cdv, rfl, lt1, fun h e => ⟨go, nm, qn, e, hgc, hgd0, hgs⟩, (fun v q => by rw [hgd0] at q; cases q), (fun v q => by rw [hlod] at q; cases q), hgp _, Heap.get?_push_of_some _ hlo', Array.getElem?_push_size .., os1, ?_,
      fun b o e => Heap.get?_push_of_some _ (kp1 b o e), ?_⟩
    · exact AllBare.push (by rw [gen1]; exact e0.bare) rfl
    intro Aw hrw hfr n xp s2 s02 H2 Q wk hw
    have e0w : Env0 P w K mg base Aw outer s H := ⟨hfr, e0.mod, e0.bs, e0.bsz, e0.funs, e0.frf, e0.hok, e0.bare⟩
    obtain ⟨t, ht, hq⟩ := hbody Aw outer s.heap.objs.size [(s1.heap.objs.size, go)] (hrw.deeper _)
    have I1 : Inv (gcxOf P w K mg base N qual scope f cdv Aw outer s H (fun _ _ _ => False) []) [] (L2.start N vs) H s1 := inv_startG Sc hrw.hd e0w hl r x
    have J1 : Inv (({ P := P, w := w, K := K, mg := mg, base := base, N := N, qual := qual, scope := scope, f := f, cd := cdv, A := Aw, outer := outer, L := s.heap.objs.size, pn := [] } : GX).X [] s H (fun _ _ _ => False)) [] (L2.start N vs) H s1 := Inv.unwish (I1.wish (fun _ _ => False))
    have I2 := rebase0 (C := ⟨P, w, K, mg, base, N, qual, scope, f, cdv, Aw, outer, s.heap.objs.size, [(s1.heap.objs.size, go)]⟩) (E2 := Q.ex) (nc _) J1 hlo' (fun p hp => by
      rw [List.mem_singleton.mp hp]
      exact ⟨Nat.ne_of_gt lt1, I1.nofs (Nat.le_refl _), fun v q => by rw [hgd0] at q; cases q⟩) wk
    refine sg_func ?_
    refine ht.run n [] xp s02 H2 Q _ [] _ _ id id s2 (L2.start N vs) H2 _ ⟨over_func, rfl, rfl, rfl⟩ (fun p hp => by cases hp) ⟨fun n' xp' s0' H0' Q' s' fl hi' hs => ?_, fun n' xp' s0' H0' Q' e s' hx => ?_⟩ I2 (hq vs H2 Q hl hw)
    · cases fl with
      | next =>
        obtain ⟨σ', H', I', q⟩ := hs
        exact sg_end (.ok (.ret .none)) ⟨.inl rfl, H', I'.os, I'.bare, I'.base, I'.hok, fun p hp => ⟨(I'.pin p (List.mem_append_left _ hp)).1, (I'.pin p (List.mem_append_left _ hp)).2.1⟩, q⟩
      | brk => obtain ⟨_, _, _, q⟩ := hs; exact False.elim q
      | cont => obtain ⟨_, _, _, q⟩ := hs; exact False.elim q
      | ret u =>
        obtain ⟨v, σ', H', I', rv, ev, q⟩ := hs
        subst ev
        have eu : u = Value.none := rv
        subst eu
        exact sg_end (.ok (.ret .none)) ⟨.inl rfl, H', I'.os, I'.bare, I'.base, I'.hok, fun p hp => ⟨(I'.pin p (List.mem_append_left _ hp)).1, (I'.pin p (List.mem_append_left _ hp)).2.1⟩, q⟩
    · refine sg_wrap ?_
      rw [over_func]
      exact wpAny_mono hx (fun _ s'' q => sg_end (.error e) q) fun _ _ q => q.elim
  exact main _ _ _ _ rfl rfl rfl fun h => Heap.get?_push_size _ rfl
end Gx

namespace Gx
open PySem PySem.Spec PyProof.Rows L2 GenW

/-! ### waking: next -/
/-- it can be woken, for Φ -/
def Ready (M : Model) (A : Around) (gs : GenState) (s : Shared) (Φ : End → Shared → Prop) : Prop :=
  (∃ c, gs = .fresh c ∧ Sg M A c (M.den c) [] s Φ) ∨ (∃ k l c p fs cl, gs = .suspended k l c p fs cl ∧ Sg M A c (k (.send .none)) fs s Φ)
theorem resume2 {M : Model} {A : Around} {Φ : End → Shared → Prop} {E : Value → Shared → Prop} {s : Shared} {g : Nat} {gs : GenState} {l : List Value} {α : Type} {k : GenResult → Sem α} {Q : α → Shared → Prop} (hg : s.gens[g]? = some gs)
    (hgo : Ready M A gs (s.setGen g .running) Φ) (h : ∀ e s1, e.quiet = true → Φ e s1 → wpAny M A (k e.result) Q E (s1.setGen g e.genState)) : wpAny M A (.resume g (.send .none) l k) Q E s := by
  intro Γ p hΓ
  rw [Sem.wp_resume]
  rcases hgo with ⟨c, rfl, z⟩ | ⟨k₀, l₀, c₀, p₀, fs₀, cl, rfl, z⟩
  · obtain ⟨e, s1, hr, hq, hf⟩ := z (Γ.wake c p) p rfl (hΓ.wake c p)
    exact ⟨_, _, by unfold Wakes; rw [hg]; exact ⟨e, s1, hr, hq, rfl, rfl⟩, h e s1 hq hf Γ p hΓ⟩
  · obtain ⟨e, s1, hr, hq, hf⟩ := z (Γ.wake c₀ p) p₀ rfl (hΓ.wake c₀ p)
    exact ⟨_, _, by unfold Wakes; rw [hg]; exact ⟨e, s1, hr, hq, rfl, rfl⟩, h e s1 hq hf Γ p hΓ⟩
theorem next2 {P : Program} {w : World} {A : Around} {E : Value → Shared → Prop} {s : Shared} {a : Addr} {g : Nat} {gs : GenState} {Φ : End → Shared → Prop} {Q : Option Value → Shared → Prop} (hh : A.handled = none)
    (hl : s.heap.NoLimit) (hroom : A.depth < recursionLimit) (hg : s.heap.IsGen a g) (hgs : s.gens[g]? = some gs) (hgo : Ready (model P w) A.in1 gs (s.setGen g .running) Φ)
    (hY : ∀ v gd l k c p fs s1, Φ (.susp v gd l k c p fs) s1 → (End.susp v gd l k c p fs).quiet = true → Q (some v) (s1.setGen g (End.susp v gd l k c p fs).genState))
    (hP : ∀ fl s1, Φ (.ret (.ok fl)) s1 → (fl = .ret .none ∨ fl = .next) ∧ ∀ h', (∀ b o, s1.heap.get? b = some o → h'.get? b = some o) → Q none { s1.setGen g .finished with heap := h' })
    (hE : ∀ e s1, Φ (.ret (.error e)) s1 → s1.heap.IsGen a g ∧ NotStop (model P w) e s1.heap ∧ E e (s1.setGen g .finished)) :
    wpAny (model P w) A (pyNext (.ref a)) Q E s := by
  unfold pyNext
  refine wpAny_bind (wpAny_attempt (wpAny_callSpecial?_slot (name := Str.ofString "__next__") hg.typeIs slot_gen_next (wpAny_call_entry slot_gen_next hg.typeIs entry_gen_next ?_ (args_gen_next _))))
  show wpAny _ A.in1 (Builtin.Generator.genWake (.ref a) (.send .none)) _ _ s
  unfold Builtin.Generator.genWake
  refine wpAny_bind (wpAny_holding (wpAny_genNumber hg (wpAny_bind (wpAny_genState hgs ?_))))
  have alive : gs.status = .fresh ∨ gs.status = .suspended := by
    rcases hgo with ⟨c, rfl, _⟩ | ⟨_, _, _, _, _, _, rfl, _⟩
    · exact .inl rfl
    · exact .inr rfl
  have go : ∀ {Q2 : Value → Shared → Prop} {E2 : Value → Shared → Prop} {k : GenResult → Sem Value}, (∀ e s1, e.quiet = true → Φ e s1 → wpAny (model P w) A.in1 (k e.result) Q2 E2 (s1.setGen g e.genState)) → wpAny (model P w) A.in1 (.resume g (.send .none) [] k) Q2 E2 s := fun h => resume2 hgs hgo h
  rcases alive with q | q
  all_goals
    rw [q]
    refine wpAny_bind (wpAny_roomToWake hl hroom ?_)
    show wpAny _ A.in1 (.resume g (.send .none) [] _) _ _ s
    refine resume2 hgs hgo fun e s1 hq hf => ?_
    cases e with
    | susp v gd l k c p fs => exact wpAny_pure ⟨v, rfl, wpAny_pure (hY v gd l k c p fs s1 hf hq)⟩
    | ret r =>
      cases r with
      | ok fl =>
        obtain ⟨hr, hp⟩ := hP fl s1 hf
        have hres : End.result (.ret (.ok fl)) = .returned .none := by rcases hr with hr | hr <;> rw [hr] <;> rfl
        first | rw [hres] | simp only [hres]
        show wpAny _ A.in1 (newExc (.type "StopIteration") [] >>= _) _ _ _
        refine wpAny_bind ?_
        simp only [newExc, newTuple]
        refine wpAny_bind (wpAny_newObj_type ?_ (by size_fits))
        refine wpAny_bind (m := firstArgMember _ _) (wpAny_of_eq (a := Value.none) (by first | rfl | (simp only [firstArgMember]; rfl)) ?_)
        refine wpAny_newObj_type ?_ (by size_fits)
        simp only [raiseNew]
        refine wpAny_bind (wpAny_bind (wpAny_handled ?_))
        first | rw [show A.in1.handled = none from hh] | rw [hh]
        refine wpAny_throw ?_
        refine wpAny_bind (wpAny_isInstance (T := "StopIteration") (b := true) ⟨_, Heap.get?_push_size _ rfl, rfl⟩ isSubtype_stop ?_)
        exact wpAny_pure (hp _ fun b o hb => Heap.get?_push_of_some _ (Heap.get?_push_of_some _ hb))
      | error e =>
        obtain ⟨hg1, hns, hq2⟩ := hE e s1 hf
        obtain ⟨o, nm, qn, ho, hc, hd, hsl⟩ := hg1
        show wpAny _ A.in1 (Builtin.Generator.genLeft (.ref a) e) _ _ _
        unfold Builtin.Generator.genLeft Builtin.Generator.madeByALambda
        refine wpAny_bind (wpAny_bind (wpAny_load (o := o) ho (wpAny_pure ?_)))
        refine wpAny_bind (hns _ _ _ _ rfl ?_)
        rw [Bool.and_false, if_neg Bool.false_ne_true]
        unfold Builtin.Generator.genEscaped
        first
          | refine wpAny_bind (hns _ _ _ _ rfl ?_)
          | refine wpAny_bind (wpAny_pure (wpAny_bind (hns _ _ _ _ rfl ?_)))
        rw [if_pos (show (!false) = true from rfl)]
        first
          | refine wpAny_throw ?_
          | refine wpAny_bind (wpAny_throw ?_)
        refine wpAny_bind (hns _ _ _ _ rfl ?_)
        rw [if_neg Bool.false_ne_true]
        exact wpAny_throw hq2
/-! ### a for over a generator -/
theorem mem_frs {env : Env} {l : List Env} {F : Addr} (h : env.frame = some F) : F ∈ frs (env :: l) := by
  unfold frs
  rw [List.filterMap_cons, h]
  exact List.mem_cons_self
theorem mem_frs_tail {env : Env} {l : List Env} {F : Addr} (h : F ∈ frs l) : F ∈ frs (env :: l) := by
  unfold frs at *
  rw [List.filterMap_cons]
  split
  · exact h
  · exact List.mem_cons_of_mem _ h
theorem funs_cut {base h : Heap} {L : Addr} : ∀ {l : List Env}, h.FunFrames base l → (∀ b ∈ frs l, b < L) → (cutH h L).FunFrames base l
  | [], _, _ => trivial
  | _ :: _, ⟨hk, ⟨F, o, hf, hb, ho, hd⟩, hr⟩, hl => ⟨hk, ⟨F, o, hf, hb, cut_of ho (hl F (mem_frs hf)), hd⟩, funs_cut hr fun b hb => hl b (mem_frs_tail hb)⟩
theorem inv_gens {X : Cx} {pins : List (Addr × Obj)} {σ : L2.St} {H : Hp} {s : Shared} {G : Array GenState} (I : Inv X pins σ H s) (h : AllBare G) : Inv X pins σ H { s with gens := G } :=
  ⟨I.ok, I.os, h, I.base, I.loc, I.cell, I.free, I.freeC, I.pin, I.hok, I.len⟩
theorem letGo_gen {M : Model} {A : Around} {E : Value → Shared → Prop} {s : Shared} {target : Expr} {a : Addr} {g : Nat} {v : Value} {Q : Unit → Shared → Prop} (hg : s.heap.IsGen a g) (h : Q () s) : wpAny M A (letOwnedTupleGo target (.ref a) v) Q E s := by
  obtain ⟨o, nm, qn, ho, hc, hd, _⟩ := hg
  have main : wpAny M A (do
      let (.ref r, .ref b) := ((.ref a : Value), v) | return
      let o ← load r
      match o.cls, o.data with
      | .type n, .fields vs =>
        if ["enumerate", "zip", "dict_itemiterator", "dict_reverseitemiterator", "odict_iterator", "itertools.zip_longest", "itertools.pairwise"].contains n && vs[0]? == some (rawInt b) then
          rule "for.unpacks-the-owned-tuple"
          updateField r 0 .none
      | _, _ => pure ()) Q E s := by
    cases v with
    | ref b =>
      refine wpAny_bind (wpAny_load ho ?_)
      rw [hc, hd]
      have e : (["enumerate", "zip", "dict_itemiterator", "dict_reverseitemiterator", "odict_iterator", "itertools.zip_longest", "itertools.pairwise"].contains "generator") = false := by decide
      simp only [e, Bool.false_and, Bool.false_eq_true, if_false]
      exact wpAny_pure h
    | _ => exact wpAny_pure h
  unfold letOwnedTupleGo
  cases target <;> first | exact wpAny_pure h | exact main
/-- an expression whose value is a generator that has not begun -/
structure PGen2 (X : Cx) (S : GSpec) (k : Nat) (e : Expr) (tg : L2.St → Hp → (S.τ → Hp → Prop) → Prop) : Prop where
  run : ∀ (pins : List (Addr × Obj)) (s : Shared) (σ : L2.St) (H : Hp) (R : S.τ → Hp → Prop), Inv X pins σ H s → tg σ H R →
    wpAny (model X.prog X.w) X.A (eval e X.env) (fun u s' => ∃ H1 sc t0, Inv X pins σ H1 sc ∧ GMade2 X.prog X.w X.K X.mg X.base k X.stack sc S t0 u s' ∧ R t0 H1) X.xe s
/-- what a turn wishes -/
def wTurn (S : GSpec) (K : PySem.W.Frag) (g : TG) (tb : TS) (Wx : WX) (D : Ends) (Iv : Nat → S.τ → L2.St → Hp → Prop) (m : Nat) (σ : L2.St) : Wish S.τ where
  yd := fun x t2 H2 => ∃ N : L2.St → Hp → Prop, (∀ σ3 H3, N σ3 H3 → S.Fr t2 H2 H3 ∧ ∃ m', m' < m ∧ Iv m' t2 σ3 H3) ∧ g x σ H2 fun σ2 H3 => tb { D with nx := N, ct := N, bk := D.nx } σ2 H3
  dn := fun H2 => D.nx σ H2
  ex := fun cls d H2 => PySem.W.subIn K cls (.type "StopIteration") = some false ∧ Wx cls d σ H2
def tForG (S : GSpec) (K : PySem.W.Frag) (tg : L2.St → Hp → (S.τ → Hp → Prop) → Prop) (g : TG) (tb : TS) (Wx : WX) : TS := fun D σ H => tg σ H fun t0 H1 => ∃ Iv : Nat → S.τ → L2.St → Hp → Prop, (∃ m, Iv m t0 σ H1) ∧
  ∀ m t σ' H', Iv m t σ' H' → S.W t H' (wTurn S K g tb Wx D Iv m σ')
section
variable {X : Cx} {S : GSpec} {k : Nat} {tg : L2.St → Hp → (S.τ → Hp → Prop) → Prop} {g : TG} {tb : TS} {Wx : WX}
theorem ps_forG {tgt iter : Expr} {body : List Stmt} {pos : Pos} (hp : PassesOwn (model X.prog X.w) X.A X.env X.xe) (hc : X.calm = true) (tk : Takes X Wx) (hr : Room (k + 1) X.A) (he : PGen2 X S k iter tg) (hg : PG X.nox tgt g) (hb : PSs X.nox body tb)
    (hs : ∀ x, foldedSetIterable iter X.env x = pure x := by intro _; rfl) : PS X (.For tgt iter body [] pos) (tForG S X.K tg g tb Wx) := by
  refine ⟨fun pins s σ H D I h => ?_⟩
  refine wpAny_For (thn (he.run pins s σ H _ I h) fun u s1 h1 => ?_) hs
  obtain ⟨H1, sc, t0, Ic, ⟨a, gn, c, go, lo, N, qual, scope, f, cd, rfl, hLa, isg, dgo, dlo, hgo, hlo, hgs, hos, hbare, hkp, wake⟩, Iv, ⟨m0, w0⟩, turn⟩ := h1
  refine wpAny_pyIter_gen (isg _ hgo) ?_
  have old : Old X pins sc.heap.objs.size := Old.of Ic
  obtain ⟨L, hL⟩ : ∃ L, L = sc.heap.objs.size := ⟨_, rfl⟩
  rw [← hL] at old hLa hlo wake
  have rmA : Room k X.A.in1 := hr.in1
  have wake2 := wake X.A.in1 rmA Ic.ok.frames
  obtain ⟨C, hC⟩ : ∃ C : GX, C = ⟨X.prog, X.w, X.K, X.mg, X.base, N, qual, scope, f, cd, X.A.in1, X.stack, L, [(a, go)]⟩ := ⟨_, rfl⟩
  rw [← hC] at wake2
  have frl : ∀ b ∈ frs X.stack, b < L := fun b hb => by
    rcases List.mem_cons.mp (Ic.stkSub b hb) with z | z
    · rw [z]; exact old.loc
    · obtain ⟨_, o, e, _⟩ := Ic.ok.funs.mem z
      exact Nat.lt_of_lt_of_le (Heap.lt_size e) old.s0
  -- a generator's pin is none of ours
  have gp : ∀ {p : Addr × Obj} {s2 : Shared} {H2 : Hp}, s2.heap.get? p.1 = some p.2 → H2 p.1 = none → L ≤ p.1 → (∀ v, p.2.data ≠ .cell v) → s2.heap.get? p.1 = some p.2 ∧ H2 p.1 = none ∧ p.1 ≠ X.env.locals ∧ p.1 ∉ X.fs ∧ ∀ v, p.2.data ≠ .cell v := fun {p s2 H2} h1 h2 h3 h4 =>
    ⟨h1, h2, Nat.ne_of_gt (Nat.lt_of_lt_of_le old.loc h3), fun z => by
      obtain ⟨_, o, e, _⟩ := Ic.ok.funs.mem z
      exact absurd (Nat.lt_of_lt_of_le (Heap.lt_size e) (Nat.le_trans old.s0 h3)) (Nat.lt_irrefl _), h4⟩
  have I1 : Inv X pins σ H1 s1 := Ic.call' (ch := []) hos (Un.kept hkp) (Ic.hok.kept hkp) hbare fun b z => absurd z (by simp)
  refine codeAny_forLoop_any (fun n s' => ∃ (t : S.τ) (σ' : L2.St) (H' : Hp) (gs : GenState) (pl : List (Addr × Obj)), Inv X pins σ' H' s' ∧ (∀ p ∈ (a, go) :: pl, s'.heap.get? p.1 = some p.2 ∧ H' p.1 = none ∧ L ≤ p.1 ∧ ∀ v, p.2.data ≠ .cell v) ∧ s'.gens[gn]? = some gs ∧ Iv n t σ' H' ∧
    ∃ i, n ≤ i ∧ ∀ (s2 s0 : Shared) (Q : Wish S.τ), Wk C pl [] s2 H' s0 → S.W t H' Q → Ready (model X.prog X.w) X.A.in1 gs s2 (Phi C S.τ (Asl C S i) [] s0 H' Q)) ?_ m0 ?_
  case refine_2 =>
    refine ⟨t0, σ, H1, .fresh c, [(L, lo)], I1, fun p hp => ?_, hgs, w0, m0, Nat.le_refl _, fun s2 s0 Q wk hw => .inl ⟨c, rfl, ?_⟩⟩
    · rcases List.mem_cons.mp hp with z | z
      · rw [z]
        exact ⟨hgo, Ic.hok.fresh (by rw [← hL]; exact Nat.le_of_lt hLa), Nat.le_of_lt hLa, dgo⟩
      · rw [List.mem_singleton.mp z]
        exact ⟨hlo, Ic.hok.fresh (by rw [← hL]; exact Nat.le_refl _), Nat.le_refl _, dlo⟩
    · have z := wake2 m0 [] s2 s0 H1 Q wk hw
      rw [hC] at z ⊢
      exact z
  rintro n s3 ⟨t, σ3, H3, gs, pl, I3, hpin, hgs3, w3, i, hni, ready⟩
  have isg3 : s3.heap.IsGen a gn := isg _ (hpin (a, go) List.mem_cons_self).1
  have szL : L ≤ s3.heap.objs.size := Nat.le_of_lt (Nat.lt_of_lt_of_le (Nat.lt_of_le_of_lt (Nat.le_refl _) hLa) (Nat.le_of_lt (Heap.lt_size (hpin (a, go) List.mem_cons_self).1)))
  have wk : Wk C pl [] (s3.setGen gn .running) H3 (cutS s3 L) := by
    rw [hC]
    refine ⟨rfl, allBare_setGen I3.bare rfl, cut_size _ _, ?_, fun b o e => (cut_some e).2, fun b o e => ⟨cut_of (I3.bs b o e).1 ?_, (I3.bs b o e).2⟩, funs_cut I3.stack frl, I3.stkFree, fun p hp => absurd hp (by simp), fun p _ q hq => absurd hq (by simp), fun p hp => ?_, I3.hok⟩
    · show X.base.objs.size ≤ (cutH s3.heap L).objs.size
      rw [cut_size_of szL]
      exact Nat.le_trans I3.ok.bsz old.s0
    · exact Nat.lt_of_lt_of_le (Heap.lt_size e) (Nat.le_trans I3.ok.bsz old.s0)
    · have hm : p ∈ (a, go) :: pl := hp
      exact ⟨(hpin p hm).1, (hpin p hm).2.1⟩
  refine wpAny_passesOwn hp (wpAny_gsz (n := gn + 1) (Array.getElem?_eq_some_iff.mp hgs3).1 (next2 (I3.ok.hd hc) I3.nolimit (by have := hr.dp; omega) isg3 hgs3 (ready _ _ _ wk (turn n t σ3 H3 w3)) ?_ ?_ ?_))
  · -- an item
    rintro v gd l kk cc pp ff s4 ⟨x, t2, H4, pl2, rv, os, bare, un, hok, pins2, plok, ⟨NN, hN, step⟩, asl⟩ hq
    intro hsz
    subst hC
    have I4 : Inv X pins σ3 H4 s4 := after I3 old os bare un hok
    obtain ⟨gs4, hg4⟩ : ∃ y, y = (End.susp v gd l kk cc pp ff).genState := ⟨_, rfl⟩
    rw [← hg4] at hsz ⊢
    have susp4 : IsSusp gs4 := by rw [hg4]; exact ⟨_, _, _, _, _, _, rfl⟩
    have bare4 : gs4.bare = true := by rw [hg4]; exact End.bare_of_quiet hq
    have hlt : gn < s4.gens.size := by
      rw [setGen_size] at hsz
      exact hsz
    have I5 : Inv X pins σ3 H4 (s4.setGen gn gs4) := inv_gens I4 (allBare_setGen bare bare4)
    have at5 : (s4.setGen gn gs4).gens[gn]? = some gs4 := setGen_at hlt
    have pall : ∀ p ∈ (a, go) :: pl2, s4.heap.get? p.1 = some p.2 ∧ H4 p.1 = none ∧ L ≤ p.1 ∧ ∀ v, p.2.data ≠ .cell v := fun p hm => by
      refine ⟨(pins2 p hm).1, (pins2 p hm).2, ?_⟩
      rcases List.mem_cons.mp hm with z | z
      · rw [z]
        exact ⟨Nat.le_of_lt hLa, dgo⟩
      · exact ⟨(plok p z).1, (plok p z).2.1⟩
    have I5p : Inv X (pins ++ (a, go) :: pl2) σ3 H4 (s4.setGen gn gs4) := I5.pins_of fun p hm => by
      rcases List.mem_append.mp hm with z | z
      · exact I5.pin p (List.mem_append_right _ z)
      · obtain ⟨h1, h2, h3, h4⟩ := pall p z
        exact gp (s2 := s4.setGen gn gs4) h1 h2 h3 h4
    refine wpAny_passesOwn hp (letGo_gen (g := gn) (isg _ (pall (a, go) List.mem_cons_self).1) ?_)
    refine wpAny_passesOwn hp (wpAny_mono (wpAny_hidden (hg.run _ { s4.setGen gn gs4 with gens := (s4.setGen gn gs4).gens.map asleep } σ3 H4 x v _ ((inv_gens I5p (bare_asleep I5.bare)).wish _) rv step)) (fun _ s6 h6 => ?_) fun _ _ h6 => ?_)
    · obtain ⟨s6h, T1, e6, wk6, σ6, H6, I6, q6⟩ := h6
      subst e6
      have at6 : T1[gn]? = some gs4 := wk6.kept gn gs4 at5 susp4
      have bare6 : AllBare T1 := wk6.bare I5.bare I6.bare
      have J6 : Inv X (pins ++ (a, go) :: pl2) σ6 H6 { s6h with gens := T1 } := inv_gens I6.unwish bare6
      refine wpAny_passesOwn hp (wpAny_mono (wpAny_hidden (hb.run _ { s6h with gens := T1.map asleep } σ6 H6 _ ((inv_gens J6 (bare_asleep bare6)).wish _) q6)) (fun f s7 h7 => ?_) fun _ _ h7 => ?_)
      · obtain ⟨s7h, T2, e7, wk7, sp7⟩ := h7
        subst e7
        have at7 : T2[gn]? = some gs4 := wk7.kept gn gs4 at6 susp4
        have back : ∀ {σ7 : L2.St} {H7 : Hp}, Inv X.nox (pins ++ (a, go) :: pl2) σ7 H7 s7h → Inv X (pins ++ (a, go) :: pl2) σ7 H7 { s7h with gens := T2 } := fun I7 => inv_gens I7.unwish (wk7.bare bare6 I7.bare)
        have drop : ∀ {σ7 : L2.St} {H7 : Hp} {s : Shared}, Inv X (pins ++ (a, go) :: pl2) σ7 H7 s → Inv X pins σ7 H7 s := fun I7 => I7.pins_of fun p hm => I7.pin p (List.mem_append_right _ (List.mem_append_left _ hm))
        have again : ∀ {σ7 : L2.St} {H7 : Hp}, Inv X.nox (pins ++ (a, go) :: pl2) σ7 H7 s7h → NN σ7 H7 → ∃ m, m < n ∧ ∃ (t : S.τ) (σ' : L2.St) (H' : Hp) (gs : GenState) (pl : List (Addr × Obj)), Inv X pins σ' H' { s7h with gens := T2 } ∧
            (∀ p ∈ (a, go) :: pl, s7h.heap.get? p.1 = some p.2 ∧ H' p.1 = none ∧ L ≤ p.1 ∧ ∀ v, p.2.data ≠ .cell v) ∧ T2[gn]? = some gs ∧ Iv m t σ' H' ∧
            ∃ i, m ≤ i ∧ ∀ (s2 s0 : Shared) (Q : Wish S.τ), Wk _ pl [] s2 H' s0 → S.W t H' Q → Ready (model X.prog X.w) X.A.in1 gs s2 (Phi _ S.τ (Asl _ S i) [] s0 H' Q) := fun {σ7 H7} I7 n7 => by
          obtain ⟨fr, m', hm, iv⟩ := hN σ7 H7 n7
          have J7 := back I7
          refine ⟨m', hm, t2, σ7, H7, gs4, pl2, drop J7, fun p hpm => ?_, at7, iv, ?_⟩
          · have z := J7.pin p (List.mem_append_right _ (List.mem_append_right _ hpm))
            exact ⟨z.1, z.2.1, (pall p hpm).2.2⟩
          · cases i with
            | zero => omega
            | succ i' => exact ⟨i', by omega, fun s2 s0 Q wk hw => .inr ⟨kk, _, cc, _, ff, _, hg4, asl [] s2 s0 H7 Q wk fr hw⟩⟩
        cases f with
        | next => obtain ⟨σ7, H7, I7, n7⟩ := sp7; exact again I7 n7
        | cont => obtain ⟨σ7, H7, I7, n7⟩ := sp7; exact again I7 n7
        | brk => obtain ⟨σ7, H7, I7, q7⟩ := sp7; exact ⟨σ7, H7, drop (back I7), q7⟩
        | ret v => obtain ⟨x7, σ7, H7, I7, r7, q7⟩ := sp7; exact ⟨x7, σ7, H7, drop (back I7), r7, q7⟩
      · obtain ⟨_, _, _, _, z⟩ := h7
        exact z.elim
    · obtain ⟨_, _, _, _, z⟩ := h6
      exact z.elim
  · -- the end
    rintro fl s4 ⟨hfl, H4, os, bare, un, hok, pins2, dn⟩
    rw [hC] at un hok pins2
    refine ⟨hfl, fun h' k2 _ => ?_⟩
    have I4 : Inv X pins σ3 H4 s4 := after I3 old os bare un hok
    have I5 := inv_gens (G := (s4.setGen gn .finished).gens) I4 (allBare_setGen bare rfl)
    have I6 := I5.kept (t' := s4.toks) k2
    exact wpAny_execs_nil ⟨σ3, H4, I6, dn⟩
  · -- an exception
    rintro e s4 ⟨cx, pinned⟩
    rw [hC] at cx pinned
    refine ⟨isg _ (pinned (a, go) List.mem_cons_self), notStop_of (K := X.K) (fun cls d H q => q.1.1) ?_ cx, fun _ => ?_⟩
    · obtain ⟨b1, B, H5, cls, d, _, fl, _, ub, _⟩ := id cx
      exact I3.ok.mod.kin.keeps fun b o eb => fl.1 b o (ub.keep b o (cut_of (I3.bs b o eb).1 (Nat.lt_of_lt_of_le (Heap.lt_size eb) (Nat.le_trans I3.ok.bsz old.s0))) (I3.bs b o eb).2 fun hm => by
        obtain ⟨z, _⟩ := I3.stack.mem hm
        rw [eb] at z
        cases z)
    · obtain ⟨b1, B, H5, cls, d, z1, fl, z2, ub, z3, z4, z5, z6⟩ := cx
      refine tk _ _ (xe_stretch (s' := s4.setGen gn .finished) I3 old (fun cls d H' q => q.1.2) ⟨b1, B, H5, cls, d, z1, fl, z2, ub, z3, z4, allBare_setGen z5 rfl, z6⟩)
end
end Gx

namespace Gx
open PySem PySem.Spec PyProof.Rows L2 GenW

/-! ### generators made by a call -/
section
variable {X : Cx} {S : GSpec} {start : List V → S.τ} {k : Nat} {f : Addr} {fd : FuncData} {ps : List Str} {dvs : List V} {ds : List Value} {x : Str} {p pos' : Pos}
theorem run_gfn2 {pins : List (Addr × Obj)} {σ : L2.St} {H : Hp} {s : Shared} {us : List Value} {vs : List V} {R : S.τ → Hp → Prop} {E1 : Value → Shared → Prop} (F : GFn2 X.prog X.w X.K X.mg X.base k f fd ps S start) (hr : Room k X.A) (hb : Binds X.K fd ps ds) (hd : Vals dvs ds)
    (I : Inv X pins σ H s) (r : Vals vs us) (hl : (vs ++ dvs).length = ps.length) (h : R (start (vs ++ dvs)) H) :
    wpAny (model X.prog X.w) X.A (call (.ref f) us) (fun u s' => ∃ H1 sc t0, Inv X pins σ H1 sc ∧ GMade2 X.prog X.w X.K X.mg X.base k X.stack sc S t0 u s' ∧ R t0 H1) E1 s := by
  have r2 : Vals (vs ++ dvs) (us ++ ds) := r.append hd
  have hl2 : (us ++ ds).length = ps.length := by rw [← r2.length]; exact hl
  refine wpAny_call (codeAny_mono (F.run X.A X.stack s H ⟨us, []⟩ (us ++ ds) (vs ++ dvs) hr I.env0 (hb s us I.kIn hl2) r2 hl) fun r s' hq => ?_)
  cases r with
  | error e => exact False.elim hq
  | ok fl =>
    cases fl with
    | ret u => exact ⟨H, s, _, I, hq, h⟩
    | next => exact False.elim hq
    | brk => exact False.elim hq
    | cont => exact False.elim hq
def tCall2 (S : GSpec) (start : List V → S.τ) (n : Nat) (dvs : List V) (t : TA) : L2.St → Hp → (S.τ → Hp → Prop) → Prop := fun σ H R => t σ H fun vs H1 => (vs ++ dvs).length = n ∧ R (start (vs ++ dvs)) H1
/-- f(e, ..) of a generator def -/
theorem pgen2_call {e : Expr} {es : List Expr} {t : TA} (F : GFn2 X.prog X.w X.K X.mg X.base k f fd ps S start) (hr : Room k X.A) (hg : Gl X x) (hm : X.mg x = some (.ref f)) (hk : PySem.W.keepIn X.K (.ref f) = true) (hb : Binds X.K fd ps ds) (hd : Vals dvs ds)
    (ha : PA X (e :: es) t) (hdb : (x == ("__debug__" : Str)) = false := by decide) (he : starEach (e :: es) X.env = (false, eval e X.env) :: starEach es X.env := by rfl) (hpl : (backTo pos' (starEach es X.env)).any (·.1) = false := by rfl) :
    PGen2 X S k (.Call (.Name x p) (e :: es) [] pos') (tCall2 S start ps.length dvs t) := by
  refine ⟨fun pins s σ H R I h => ?_⟩
  refine wpAny_Call_Name_kw (ld_glob I hg hm ?_ hdb)
  refine PySem.W.callWith_K (h₀ := X.base) I.ok.mod.kin hk (thn (ha.run pos' pins s σ H _ I h) fun us s1 ⟨vs, H1, I1, r, hl, q⟩ => ⟨I1.kIn, ?_⟩) he hpl
  exact run_gfn2 F hr hb hd I1 r hl q
end
/-! ### list(g) -/
section
variable {X : Cx} {S : GSpec} {k : Nat} {tg : L2.St → Hp → (S.τ → Hp → Prop) → Prop} {Wx : WX}
/-- what a turn of list(g) wishes: ys is out -/
def wList (S : GSpec) (K : PySem.W.Frag) (Wx : WX) (σ : L2.St) (Q : VK) (Iv : Nat → S.τ → List V → Hp → Prop) (m : Nat) (ys : List V) : Wish S.τ where
  yd := fun x t2 H2 => ys.length < sizeLine ∧ S.Fr t2 H2 H2 ∧ ∃ m', m' < m ∧ Iv m' t2 (ys ++ [x]) H2
  dn := fun H2 => ∀ p, H2 p = none → Q (.ref p) (upd H2 p (.lst ys))
  ex := fun cls d H2 => PySem.W.subIn K cls (.type "StopIteration") = some false ∧ Wx cls d σ H2
def tListG2 (S : GSpec) (K : PySem.W.Frag) (tg : L2.St → Hp → (S.τ → Hp → Prop) → Prop) (Wx : WX) : TE := fun σ H Q => tg σ H fun t0 H1 => ∃ Iv : Nat → S.τ → List V → Hp → Prop, (∃ m, Iv m t0 [] H1) ∧ ∀ m t ys H', Iv m t ys H' → S.W t H' (wList S K Wx σ Q Iv m ys)
/-- list.extend.loop over a generator -/
theorem drain2 {pins : List (Addr × Obj)} {σ : L2.St} {C : GX} {A : Around} {Q : VK} {Iv : Nat → S.τ → List V → Hp → Prop} {R : Result → Shared → Prop} {Sx a L : Addr} {gn : Nat} {go : Obj} {N : List Str} {qual : Str} {scope : Scope} {f : Addr} {cd : Value}
    (hC : C = ⟨X.prog, X.w, X.K, X.mg, X.base, N, qual, scope, f, cd, A.in1.in1, X.stack, L, [(a, go)]⟩) (hh : A.handled = none) (hd : A.depth < recursionLimit) (old : Old X pins L) (frl : ∀ b ∈ frs X.stack, b < L) (hLa : L < a) (hLS : L < Sx) (hSa : Sx ≠ a) (dgo : ∀ v, go.data ≠ .cell v)
    (isg : ∀ h : Heap, h.get? a = some go → h.IsGen a gn) (tk : Takes X Wx) (turn : ∀ m t ys H', Iv m t ys H' → S.W t H' (wList S X.K Wx σ Q Iv m ys))
    (hend : ∀ s' ys H' acc c, Inv X pins σ H' s' → s'.heap.get? Sx = some (lstObj acc c) → Vals ys acc.toList → H' Sx = none → ys.length ≤ sizeLine → (∀ p, H' p = none → Q (.ref p) (upd H' p (.lst ys))) → R (.ok (.ret .none)) s') (hexc : ∀ e s', X.xe e s' → R (.error e) s') :
    ∀ (n : Nat) (s : Shared) (t : S.τ) (ys : List V) (H' : Hp) (gs : GenState) (pl : List (Addr × Obj)) (acc : Array Value) (c : Nat), Iv n t ys H' → ys.length ≤ sizeLine → Inv X pins σ H' s → s.heap.get? Sx = some (lstObj acc c) → Vals ys acc.toList → H' Sx = none →
      (∀ p ∈ (a, go) :: pl, s.heap.get? p.1 = some p.2 ∧ H' p.1 = none ∧ L ≤ p.1 ∧ (∀ v, p.2.data ≠ .cell v) ∧ p.1 ≠ Sx) → s.gens[gn]? = some gs →
      (∃ i, n ≤ i ∧ ∀ (xp : List (Addr × Obj)) (s2 s0 : Shared) (Q : Wish S.τ), Wk C pl xp s2 H' s0 → S.W t H' Q → Ready (model X.prog X.w) A.in1.in1 gs s2 (Phi C S.τ (Asl C S i) xp s0 H' Q)) →
      codeAny (model X.prog X.w) A (.builtin "list.extend.loop" ⟨[.ref Sx, .ref a, .none], []⟩) R s := by
  intro n
  induction n using Nat.strongRecOn with
  | ind n ih =>
    rintro s t ys H' gs pl acc c w hle I hS hv hSn hpin hgs ⟨i, hni, ready⟩
    have isg3 : s.heap.IsGen a gn := isg _ (hpin (a, go) List.mem_cons_self).1
    have szL : L ≤ s.heap.objs.size := Nat.le_of_lt (Nat.lt_trans hLa (Heap.lt_size (hpin (a, go) List.mem_cons_self).1))
    have wk : Wk C pl [(Sx, lstObj acc c)] (s.setGen gn .running) H' (cutS s L) := by
      rw [hC]
      refine ⟨rfl, allBare_setGen I.bare rfl, cut_size _ _, ?_, fun b o e => (cut_some e).2, fun b o e => ⟨cut_of (I.bs b o e).1 ?_, (I.bs b o e).2⟩, funs_cut I.stack frl, I.stkFree, fun p hp => ?_, fun p hp q hq => ?_, fun p hp => ?_, I.hok⟩
      · show X.base.objs.size ≤ (cutH s.heap L).objs.size
        rw [cut_size_of szL]
        exact Nat.le_trans I.ok.bsz old.s0
      · exact Nat.lt_of_lt_of_le (Heap.lt_size e) (Nat.le_trans I.ok.bsz old.s0)
      · rw [List.mem_singleton.mp hp]
        exact ⟨Nat.ne_of_gt hLS, fun z => absurd (Nat.lt_trans hLS (frl _ z)) (Nat.lt_irrefl _), fun v q => by cases q⟩
      · rw [List.mem_singleton.mp hq]
        exact (hpin p (List.mem_cons_of_mem _ hp)).2.2.2.2
      · have hm : p = (a, go) ∨ p = (Sx, lstObj acc c) ∨ p ∈ pl := by simpa using hp
        rcases hm with z | z | z
        · rw [z]
          exact ⟨(hpin (a, go) List.mem_cons_self).1, (hpin (a, go) List.mem_cons_self).2.1⟩
        · rw [z]
          exact ⟨hS, hSn⟩
        · exact ⟨(hpin p (List.mem_cons_of_mem _ z)).1, (hpin p (List.mem_cons_of_mem _ z)).2.1⟩
    refine codeAny_builtin F.entry_extend_loop ?_
    rw [Around.under_plainId F.plain_extend_loop _]
    show wpAny _ A.in1 (pyNext (.ref a) >>= _) _ _ s
    refine wpAny_bind (wpAny_gsz (n := gn + 1) (Array.getElem?_eq_some_iff.mp hgs).1 (next2 (A := A.in1) hh I.nolimit hd isg3 hgs (ready _ _ _ _ wk (turn n t ys H' w)) ?_ ?_ ?_))
    · -- an item
      rintro v gd l kk cc pp ff s4 ⟨x, t2, H4, pl2, rv, os, bare, un, hok, pins2, plok, ⟨hlt9, fr, m', hm, iv⟩, asl⟩ hq
      subst hC
      intro hsz
      have I4 : Inv X pins σ H4 s4 := after I old os bare un hok
      obtain ⟨gs4, hg4⟩ : ∃ y, y = (End.susp v gd l kk cc pp ff).genState := ⟨_, rfl⟩
      rw [← hg4] at hsz ⊢
      have bare4 : gs4.bare = true := by rw [hg4]; exact End.bare_of_quiet hq
      have hlt : gn < s4.gens.size := by
        rw [setGen_size] at hsz
        exact hsz
      have atS := pins2 (Sx, lstObj acc c) (List.mem_append_left _ (List.mem_append_right _ List.mem_cons_self))
      have hS4 : s4.heap.get? Sx = some (lstObj acc c) := atS.1
      have hasz : acc.size = ys.length := by
        have e1 := hv.length
        have e2 : acc.toList.length = acc.size := by simp
        omega
      have hasz' : acc.size < sizeLine := by omega
      show wpAny _ A.in1 (updateSeq Sx (·.push v) >>= _) _ _ _
      refine wpAny_bind ?_
      refine wpAny_updateSeq (s := s4.setGen gn gs4) hS4 rfl (wpAny_pure ⟨plainId_quiet F.plain_extend_loop _, ?_⟩) (Nat.le_of_lt hasz') (by show (acc.push v).size ≤ sizeLine + 1; rw [Array.size_push]; omega)
      have keep3 : ∀ b o, b ≠ Sx → s4.heap.get? b = some o → (s4.heap.update Sx (Obj.mapSeq (·.push v))).get? b = some o := fun b o hbS e => (Heap.get?_update_other _ _ (Ne.symm hbS)).trans e
      have I5 : Inv X pins σ H4 (s4.setGen gn gs4) := inv_gens I4 (allBare_setGen bare bare4)
      have I6 : Inv X pins σ H4 { s4.setGen gn gs4 with heap := s4.heap.update Sx (Obj.mapSeq (·.push v)), toks := (s4.setGen gn gs4).toks } := I5.turned (it := Sx) (t' := (s4.setGen gn gs4).toks) keep3 atS.2 (Nat.ne_of_gt (Nat.lt_trans old.loc hLS)) (.inr (Nat.le_of_lt (Nat.lt_of_le_of_lt old.s0 hLS)))
        (fun x c e => Nat.ne_of_lt (Nat.lt_trans (old.cel x c e) hLS)) fun p hp => Nat.ne_of_lt (Nat.lt_trans (old.pin p hp) hLS)
      have hS6 : (s4.heap.update Sx (Obj.mapSeq (·.push v))).get? Sx = some (Obj.mapSeq (·.push v) (lstObj acc c)) := Heap.get?_update_self _ hS4 rfl
      refine ih m' hm _ t2 (ys ++ [x]) H4 gs4 pl2 (acc.push v) _ iv (by rw [List.length_append]; exact hlt9) I6 hS6 (by rw [Array.toList_push]; exact hv.append (.cons rv .nil)) atS.2 (fun p hp => ?_) (setGen_at hlt) ?_
      · rcases List.mem_cons.mp hp with z | z
        · rw [z]
          have q := pins2 (a, go) (List.mem_append_left _ (List.mem_append_left _ List.mem_cons_self))
          exact ⟨keep3 _ _ (Ne.symm hSa) q.1, q.2, Nat.le_of_lt hLa, dgo, Ne.symm hSa⟩
        · have q := pins2 p (List.mem_append_right _ z)
          have nS : p.1 ≠ Sx := (plok p z).2.2 (Sx, lstObj acc c) List.mem_cons_self
          exact ⟨keep3 _ _ nS q.1, q.2, (plok p z).1, (plok p z).2.1, nS⟩
      · cases i with
        | zero => omega
        | succ i' => exact ⟨i', by omega, fun xp s2 s0 Q wk hw => .inr ⟨kk, _, cc, _, ff, _, hg4, asl xp s2 s0 H4 Q wk fr hw⟩⟩
    · -- the end
      rintro fl s4 ⟨hfl, H4, os, bare, un, hok, pins2, dn⟩
      rw [hC] at un hok pins2
      refine ⟨hfl, fun h' k2 _ => ?_⟩
      have I4 : Inv X pins σ H4 s4 := after I old os bare un hok
      have atS := pins2 (Sx, lstObj acc c) (List.mem_append_right _ List.mem_cons_self)
      have I6 := (inv_gens (G := (s4.setGen gn .finished).gens) I4 (allBare_setGen bare rfl)).kept (t' := s4.toks) k2
      exact wpAny_pure (hend _ ys H4 acc c I6 (k2 _ _ atS.1) hv atS.2 hle dn)
    · -- an exception
      rintro e s4 ⟨cx, pinned⟩
      rw [hC] at cx pinned
      refine ⟨isg _ (pinned (a, go) List.mem_cons_self), notStop_of (K := X.K) (fun cls d H q => q.1.1) ?_ cx, fun _ => hexc _ _ ?_⟩
      · obtain ⟨b1, B, H5, cls, d, _, fl, _, ub, _⟩ := id cx
        exact I.ok.mod.kin.keeps fun b o eb => fl.1 b o (ub.keep b o (cut_of (I.bs b o eb).1 (Nat.lt_of_lt_of_le (Heap.lt_size eb) (Nat.le_trans I.ok.bsz old.s0))) (I.bs b o eb).2 fun hm => by
          obtain ⟨z, _⟩ := I.stack.mem hm
          rw [eb] at z
          cases z)
      · obtain ⟨b1, B, H5, cls, d, z1, fl, z2, ub, z3, z4, z5, z6⟩ := cx
        exact tk _ _ (xe_stretch (s' := s4.setGen gn .finished) I old (fun cls d H' q => q.1.2) ⟨b1, B, H5, cls, d, z1, fl, z2, ub, z3, z4, allBare_setGen z5 rfl, z6⟩)
end
end Gx

namespace Gx
open PySem PySem.Spec PyProof.Rows L2 GenW

/-- a young list of ours is tracked -/
theorem adopt {X : Cx} {pins : List (Addr × Obj)} {σ : L2.St} {H : Hp} {s : Shared} {L Sx : Addr} {acc : Array Value} {c : Nat} {ys : List V} (J : Inv X pins σ H s) (old : Old X pins L) (hl : L ≤ Sx) (e : s.heap.get? Sx = some (lstObj acc c)) (r : Vals ys acc.toList) (hn : H Sx = none) (hz : ys.length ≤ sizeLine) :
    Inv X pins σ (upd H Sx (.lst ys)) s := by
  have nt : ∀ {b : Addr} {u : HO}, H b = some u → b ≠ Sx := fun q => ne_of_none q hn
  refine J.call' (ch := [Sx]) rfl ⟨fun b o q _ _ _ => q, fun b o q _ _ _ => ⟨o.slots, q⟩, fun b o q n hx => ?_, fun b o q _ => ⟨o, q⟩, fun b xs q => ?_, fun b o u q => ?_, fun b ps q => ?_⟩ (fun b u q => ?_) J.bare fun b hb => ?_
  · rw [upd_ne (fun z => hx (by rw [z]; exact List.mem_singleton.mpr rfl))]
    exact n
  · rw [upd_ne (nt q)]; exact q
  · rw [upd_ne (nt q)]; exact q
  · exact ⟨#[], by rw [upd_ne (nt q), Array.append_empty]; exact q⟩
  · by_cases hb : b = Sx
    · subst hb
      rw [upd_same] at q
      cases q
      exact ⟨hz, acc.toList, c, r, by rw [e]⟩
    · rw [upd_ne hb] at q
      exact (J.hok b u q).stay (fun _ _ _ z => z) (fun d z => by rw [upd_ne (nt z)]; exact z) fun d xs z => by rw [upd_ne (nt z)]; exact z
  · rw [List.mem_singleton.mp hb]
    exact ⟨.inr (Nat.le_trans old.s0 hl), Nat.ne_of_gt (Nat.lt_of_lt_of_le old.loc hl), fun x c e => Nat.ne_of_lt (Nat.lt_of_lt_of_le (old.cel x c e) hl), fun p hp => Nat.ne_of_lt (Nat.lt_of_lt_of_le (old.pin p hp) hl)⟩
section
variable {X : Cx} {S : GSpec} {k : Nat} {tg : L2.St → Hp → (S.τ → Hp → Prop) → Prop} {Wx : WX}
/-- list(g), the generator told -/
theorem pe_listG2 {e : Expr} {nm : Str} {p pos : Pos} (tk : Takes X Wx) (hr : Room (k + 3) X.A) (h : PGen2 X S k e tg) (hg : Gl X nm) (hmg : X.mg nm = none) (hv : bootBuiltins nm = some (.type "list")) (hnm : nm ≠ "__name__" := by decide) (hdb : (nm == ("__debug__" : Str)) = false := by decide)
    (he : starEach [e] X.env = (false, eval e X.env) :: starEach [] X.env := by rfl) : PE X (.Call (.Name nm p) [e] [] pos) (tListG2 S X.K tg Wx) := by
  refine ⟨fun pins s σ H Q I hq => ?_⟩
  refine wpAny_Call_Name_kw (ld_blt I hg hmg hv ?_ hnm hdb)
  refine PyProof.Rows.callWith_type1 ?_ he rfl
  rw [he]
  show wpAny _ _ (spliced ((false, eval e X.env) :: backTo pos (starEach [] X.env))) _ _ s
  refine Calls.spliced_cons (thn (h.run pins s σ H _ I hq) fun u s1 h1 => ?_)
  refine Calls.spliced_nil ?_
  obtain ⟨H1, sc, t0, Ic, ⟨a, gn, c, go, lo, N, qual, scope, f, cd, rfl, hLa, isg, dgo, dlo, hgo, hlo, hgs, hos, hbare, hkp, wake⟩, Iv, ⟨m0, w0⟩, turn⟩ := h1
  have old : Old X pins sc.heap.objs.size := Old.of Ic
  obtain ⟨L, hL⟩ : ∃ L, L = sc.heap.objs.size := ⟨_, rfl⟩
  rw [← hL] at old hLa hlo wake
  have frl : ∀ b ∈ frs X.stack, b < L := fun b hb => by
    rcases List.mem_cons.mp (Ic.stkSub b hb) with z | z
    · rw [z]; exact old.loc
    · obtain ⟨_, o, e, _⟩ := Ic.ok.funs.mem z
      exact Nat.lt_of_lt_of_le (Heap.lt_size e) old.s0
  have I1 : Inv X pins σ H1 s1 := Ic.call' (ch := []) hos (Un.kept hkp) (Ic.hok.kept hkp) hbare fun b z => absurd z (by simp)
  have ha2 : a < s1.heap.objs.size := Heap.lt_size hgo
  have hSa : s1.heap.objs.size ≠ a := Nat.ne_of_gt ha2
  -- the call of list, up to its loop
  refine callType_codes (Q₁ := fun obj s₁ => obj = .ref s1.heap.objs.size ∧ s₁ = { s1 with heap := s1.heap.push { cls := .type "list", data := .seq #[] } }) F.called_list (F.typeCall_list_1 _) F.entry_list_init (code_list_new _ ⟨rfl, rfl⟩) fun obj s₁ h₁ => ?_
  obtain ⟨rfl, rfl⟩ := h₁
  have hS : (s1.heap.push { cls := .type "list", data := .seq #[] }).get? s1.heap.objs.size = some { cls := .type "list", data := .seq #[] } := Heap.get?_push_size _ rfl
  refine ⟨⟨_, hS, rfl⟩, F.args_list_init_2 _ _, ?_⟩
  show wpAny _ X.A.in1.in1 (do let old ← Builtin.List.listItems (.ref s1.heap.objs.size); Builtin.List.listUpdate (.ref s1.heap.objs.size) (fun _ => #[]); letGo old.toList.reverse; Builtin.List.listExtendWith (.ref s1.heap.objs.size) (.ref a) .none) _ _ _
  refine wpAny_bind ?_
  unfold Builtin.List.listItems
  refine wpAny_bind (wpAny_seqItems hS rfl (wpAny_pure ?_))
  show wpAny _ X.A.in1.in1 (updateSeq s1.heap.objs.size (fun _ => #[]) >>= fun _ => letGo (#[] : Array Value).toList.reverse >>= fun _ => Builtin.List.listExtendWith (.ref s1.heap.objs.size) (.ref a) .none) _ _ _
  refine wpAny_bind (wpAny_updateSeq hS rfl ?_)
  have hS2 := Heap.get?_update_self (Obj.mapSeq (fun _ => (#[] : Array Value))) hS rfl
  refine wpAny_bind (wpAny_letGo ?_)
  unfold Builtin.List.listExtendWith
  have up : ∀ (h : Heap) (f : Obj → Obj), (∀ b o, s1.heap.get? b = some o → h.get? b = some o) → ∀ b o, s1.heap.get? b = some o → (h.update s1.heap.objs.size f).get? b = some o := fun h f q b o e =>
    (Heap.get?_update_other _ _ (Ne.symm (Nat.ne_of_lt (Heap.lt_size e)))).trans (q b o e)
  have k1 : ∀ b o, s1.heap.get? b = some o → (s1.heap.push { cls := .type "list", data := .seq #[] }).get? b = some o := fun b o e => Heap.get?_push_of_some _ e
  have k2 := up _ (Obj.mapSeq (fun _ => (#[] : Array Value))) k1
  have gty : ∀ {h : Heap}, (∀ b o, s1.heap.get? b = some o → h.get? b = some o) → h.IsGen a gn := fun {h} q => isg _ (q _ _ hgo)
  refine wpAny_bind (wpAny_typeOf (Heap.IsGen.typeIs (s := { s1 with heap := _ }) (gty k2)) ?_)
  have e1 : Builtin.List.listSameRef (.ref s1.heap.objs.size) (.ref a) = false := by simp [Builtin.List.listSameRef, hSa]
  have e2 : (Value.type "generator" == Value.type "list") = false := by decide
  have e3 : (Value.type "generator" == Value.type "tuple") = false := by decide
  simp only [e1, e2, e3, Bool.or_false, Bool.false_eq_true, if_false]
  refine wpAny_bind (wpAny_pyIter_gen (s := { s1 with heap := _ }) (gty k2) ?_)
  refine wpAny_bind (wpAny_holding ?_)
  unfold Builtin.List.listLengthHint
  refine wpAny_bind (wpAny_specialOf (Heap.IsGen.typeIs (s := { s1 with heap := _ }) (gty k2)) F.gen_no_len ?_)
  show wpAny _ X.A.in1.in1 (specialOf (Value.ref a) (Str.ofString "__length_hint__") >>= _) _ _ _
  refine wpAny_bind (wpAny_specialOf (Heap.IsGen.typeIs (s := { s1 with heap := _ }) (gty k2)) F.gen_no_hint ?_)
  refine wpAny_pure ?_
  show wpAny _ X.A.in1.in1 (rule "list.extend.makes-room" >>= fun _ => Builtin.List.listTouch (.ref s1.heap.objs.size) >>= fun _ =>
    again (.builtin "list.extend.loop" ⟨[.ref s1.heap.objs.size, .ref a, .none], []⟩)) _ _ _
  refine wpAny_bind (wpAny_rule ?_)
  refine wpAny_bind ?_
  show wpAny _ X.A.in1.in1 (updateSeq s1.heap.objs.size (·.push .none) >>= fun _ => updateSeq s1.heap.objs.size (·.pop)) _ _ _
  refine wpAny_bind (wpAny_updateSeq hS2 rfl ?_)
  have hS3 := Heap.get?_update_self (Obj.mapSeq (·.push Value.none)) hS2 rfl
  refine wpAny_updateSeq (hz := by seq_fits) hS3 rfl ?_
  have hS4 := Heap.get?_update_self (Obj.mapSeq (·.pop)) hS3 rfl
  have k4 := up _ (Obj.mapSeq (·.pop)) (up _ (Obj.mapSeq (·.push Value.none)) k2)
  refine wpAny_pure ⟨plainId_quiet F.plain_extend_loop _, ?_⟩
  have I4 := I1.kept (t' := s1.toks) k4
  have wake2 := wake X.A.in1.in1.in1 ⟨hr.hd, by have := hr.dp; show X.A.depth + 3 * k + 5 < _; omega, by have := hr.un; show X.A.units + 1 + 1 + 1 + 16 * k + 200 < _; omega⟩ Ic.ok.frames
  refine drain2 (X := X) (Wx := Wx) (Q := Q) (Iv := Iv) (A := X.A.in1) (L := L) (gn := gn) (N := N) (qual := qual) (scope := scope) (f := f) (cd := cd) rfl hr.hd (by have := hr.dp; show X.A.depth < _; omega) old frl hLa (Nat.lt_trans hLa ha2) hSa dgo isg tk turn
    (fun s' ys H' acc c2 J hSs hvs hn hle hdn => ?_) (fun e s' hx => hx) m0 _ t0 [] H1 (.fresh c) [(L, lo)] #[] _ w0 (Nat.zero_le _) I4 hS4 .nil (I1.hok.fresh (Nat.le_refl _)) (fun p hp => ?_) hgs ⟨m0, Nat.le_refl _, fun xp s2 s0 Q wk hw => .inl ⟨c, rfl, wake2 m0 xp s2 s0 H1 Q wk hw⟩⟩
  · refine ⟨rfl, .ref s1.heap.objs.size, upd H' s1.heap.objs.size (.lst ys), ?_, rfl, hdn _ hn⟩
    exact adopt J old (Nat.le_of_lt (Nat.lt_trans hLa ha2)) hSs hvs hn hle
  · rcases List.mem_cons.mp hp with z | z
    · rw [z]
      exact ⟨k4 _ _ hgo, Ic.hok.fresh (by rw [← hL]; exact Nat.le_of_lt hLa), Nat.le_of_lt hLa, dgo, Ne.symm hSa⟩
    · rw [List.mem_singleton.mp z]
      exact ⟨k4 _ _ hlo, Ic.hok.fresh (by rw [← hL]; exact Nat.le_refl _), Nat.le_refl _, dlo, Nat.ne_of_lt (Nat.lt_trans hLa ha2)⟩
end
end Gx

namespace Gx
open PySem PySem.Spec PyProof.Rows L2 GenW

/-! ### [.. for .. in g], nothing raised within -/
/-- a state whose frame's names are younger than L, and pinned -/
structure Old2 (X : Cx) (L : Addr) : Prop where
  s0 : X.s_0.heap.objs.size ≤ L
  cel : ∀ x c, X.env.cells.lookup x = some c → c < L
  pn : X.pn = []
theorem after2 {X : Cx} {σ : L2.St} {H H' : Hp} {s s' : Shared} {L : Addr} {lo : Obj} (I : Inv X [] σ H s) (o : Old2 X L) (hlo : s.heap.get? X.env.locals = some lo) (hlo' : s'.heap.get? X.env.locals = some lo) (hfl : X.env.locals ∉ frs X.stack) (hfn : H' X.env.locals = none) (os : s'.os = s.os) (hb : AllBare s'.gens)
    (u : Un (frs X.stack) [] H H' (cutH s.heap L) s'.heap) (hok : HOk X.prog X.w H' s'.heap) : Inv X [] σ H' s' := by
  refine I.call' (ch := (young s.heap L).filter fun b => decide (b ≠ X.env.locals)) os ⟨fun b ob e n hf hy => ?_, fun b ob e n hf hy => ?_, fun b ob e n hy => ?_, fun b ob e hy => ?_, u.tups, u.frzs, u.tbls⟩ hok hb fun b hb => ?_
  · by_cases z : b = X.env.locals
    · subst z
      rw [hlo] at e
      cases e
      exact hlo'
    · exact u.keep b ob (cut_of e (not_young e fun q => hy (List.mem_filter.mpr ⟨q, by simpa using z⟩))) n hf (by simp)
  · have z : b ≠ X.env.locals := fun z => hfl (by rw [← z]; exact hf)
    exact u.slot b ob (cut_of e (not_young e fun q => hy (List.mem_filter.mpr ⟨q, by simpa using z⟩))) n hf (by simp)
  · by_cases z : b = X.env.locals
    · rw [z]
      exact hfn
    · exact u.free b ob (cut_of e (not_young e fun q => hy (List.mem_filter.mpr ⟨q, by simpa using z⟩))) n (by simp)
  · by_cases z : b = X.env.locals
    · exact ⟨lo, by rw [z]; exact hlo'⟩
    · exact u.there b ob (cut_of e (not_young e fun q => hy (List.mem_filter.mpr ⟨q, by simpa using z⟩))) (by simp)
  · obtain ⟨h1, h2⟩ := List.mem_filter.mp hb
    have hl := (young_mem.mp h1).2
    refine ⟨.inr (Nat.le_trans o.s0 hl), by simpa using h2, fun x c e => Nat.ne_of_lt (Nat.lt_of_lt_of_le (o.cel x c e) hl), fun p hp => ?_⟩
    rw [o.pn] at hp
    cases hp
/-- what a turn of such a comprehension wishes -/
def wLc (S : GSpec) (g : TG) (tt : TT) (te : TE) (vs : List Nat) (σ : L2.St) (Q : VK) (D : Addr) (Iv : Nat → S.τ → Hp → Prop) (m : Nat) : Wish S.τ where
  yd := fun x t2 H2 => ∃ Nx : Hp → Prop, (∀ H3, Nx H3 → S.Fr t2 H2 H3 ∧ ∃ m', m' < m ∧ Iv m' t2 H3) ∧ g x (wipe σ vs) H2 fun σ2 H3 => wipe σ2 vs = wipe σ vs ∧ tt σ2 H3 fun b H4 =>
    if b = true then te σ2 H4 fun y H5 => ∃ acc, H5 D = some (.lst acc) ∧ acc.length < sizeLine ∧ Nx (upd H5 D (.lst (acc ++ [y]))) else Nx H4
  dn := fun H2 => Q (.ref D) H2
  ex := fun _ _ _ => False
def tLcG (S : GSpec) (tg : L2.St → Hp → (S.τ → Hp → Prop) → Prop) (g : TG) (tt : TT) (te : TE) (vs : List Nat) : TE := fun σ H Q => tg σ H fun t0 H1 => ∀ D, H1 D = none → ∃ Iv : Nat → S.τ → Hp → Prop, (∃ m, Iv m t0 (upd H1 D (.lst []))) ∧
  (∀ m t H', Iv m t H' → S.W t H' (wLc S g tt te vs σ Q D Iv m))
section
variable {X : Cx} {S : GSpec} {k : Nat} {tg : L2.St → Hp → (S.τ → Hp → Prop) → Prop}
theorem pe_lcG {elt tgt iter : Expr} {ifs : List Expr} {scope : Scope} {own : List (Str × Nat)} {pos : Pos} {g : TG} {tt : TT} {te : TE} (hc : X.calm = true) (hN : X.N.Nodup) (hr : Room (k + 1) X.A) (hi : PGen2 X S k iter tg) (ok : BlkOk X.N X.env.scope scope own) (hcl : ∀ n acc, cellsFrom n scope.names acc = acc)
    (hg : ∀ (s : Shared) (H : Hp) (C : Addr) (cl : List (Str × Addr)) (fp : List Addr), PG (X.blk s H scope (compEnvC scope cl C X.env) fp) tgt g) (ht : ∀ (s : Shared) (H : Hp) (C : Addr) (cl : List (Str × Addr)) (fp : List Addr), PTs (X.blk s H scope (compEnvC scope cl C X.env) fp) ifs tt)
    (he : ∀ (s : Shared) (H : Hp) (C : Addr) (cl : List (Str × Addr)) (fp : List Addr), PE (X.blk s H scope (compEnvC scope cl C X.env) fp) elt te) (hs : ∀ x, foldedSetIterable iter X.env x = pure x := by intro _; rfl) :
    PE X (.ListComp elt [⟨tgt, iter, ifs, 0⟩] scope pos) (tLcG S tg g tt te (own.map (·.2))) := by
  refine ⟨fun pins s σ H Q I h => ?_⟩
  rw [eval_ListComp]
  have hfree : ∀ y ∈ scope.names, y.2 = .free → ∃ c, X.env.cells.lookup y.1 = some c := fun y hy e => by
    rcases ok.free y hy e with k | k
    · exact I.ok.has _ (.inl k)
    · exact I.ok.has _ (.inr k)
  refine wpAny_comprehension_free (use := none) rfl hs (closure_ok hfree) ok.kind (fun y hy e => by rw [ok.uniq y hy, e]) (thn (hi.run pins s σ H _ I h) fun u s1 h1 => ?_)
  obtain ⟨H1, sc, t0, Ic, ⟨a, gn, c, go, lo, N, qual, fscope, f, cd, rfl, hLa, isg, dgo, dlo, hgo, hlo, hgs, hos, hbare, hkp, wake⟩, q⟩ := h1
  refine wpAny_pyIter_gen (isg _ hgo) ?_
  refine wpAny_newObj_type (newEnv_comp ?_) (by show 0 ≤ sizeLine; decide)
  have old : Old X pins sc.heap.objs.size := Old.of Ic
  obtain ⟨L, hL⟩ : ∃ L, L = sc.heap.objs.size := ⟨_, rfl⟩
  rw [← hL] at old hLa hlo wake
  have frl : ∀ b ∈ frs X.stack, b < L := fun b hb => by
    rcases List.mem_cons.mp (Ic.stkSub b hb) with z | z
    · rw [z]; exact old.loc
    · obtain ⟨_, o, e, _⟩ := Ic.ok.funs.mem z
      exact Nat.lt_of_lt_of_le (Heap.lt_size e) old.s0
  have I1 : Inv X pins σ H1 s1 := Ic.call' (ch := []) hos (Un.kept hkp) (Ic.hok.kept hkp) hbare fun b z => absurd z (by simp)
  have ha2 : a < s1.heap.objs.size := Heap.lt_size hgo
  generalize hD : s1.heap.objs.size = D
  have hDn : H1 D = none := I1.hok.fresh (Nat.le_of_eq hD)
  obtain ⟨Iv, ⟨m0, w0⟩, turn⟩ := q D hDn
  generalize hs3 : ({ s1 with heap := s1.heap.push { cls := .type "list", data := .seq ([] : List Value).toArray } } : Shared) = s3
  have I3 : Inv X pins σ (upd H1 D (.lst [])) s3 := by
    rw [← hs3]
    refine I1.laid (t' := s1.toks) (fun b o e => Heap.get?_push_of_some _ e) (Nat.le_of_eq hD) ⟨Nat.zero_le _, [], 0, .nil, ?_⟩
    rw [← hD]
    exact Heap.get?_push_size _ rfl
  have h3 : s3.heap = s1.heap.push { cls := .type "list", data := .seq ([] : List Value).toArray } := by rw [← hs3]
  have g3 : s3.gens = s1.gens := by rw [← hs3]
  have o3 : s3.os = s1.os := by rw [← hs3]
  have kp13 : ∀ b o, s1.heap.get? b = some o → s3.heap.get? b = some o := fun b o e => by rw [h3]; exact Heap.get?_push_of_some _ e
  have I4 := block_start (fp := []) I3 ok hN (fun b hb => nomatch hb)
  have cel : cellsFrom (s3.heap.objs.size + 1) scope.names (cloFrom X.env.cells scope.names []) = cloFrom X.env.cells scope.names [] := hcl _ _
  have pg := hg sc H1 s3.heap.objs.size (cellsFrom (s3.heap.objs.size + 1) scope.names (cloFrom X.env.cells scope.names [])) []
  have pt := ht sc H1 s3.heap.objs.size (cellsFrom (s3.heap.objs.size + 1) scope.names (cloFrom X.env.cells scope.names [])) []
  have pe := he sc H1 s3.heap.objs.size (cellsFrom (s3.heap.objs.size + 1) scope.names (cloFrom X.env.cells scope.names [])) []
  show codeAny _ _ (.compStart (.ListComp elt [⟨tgt, iter, ifs, 0⟩] scope pos) 0 (.ref a) (.ref D) (compEnvC scope (cellsFrom (s3.heap.objs.size + 1) scope.names (cloFrom X.env.cells scope.names [])) s3.heap.objs.size X.env)) (compPost (model X.prog X.w) X.A X.xe none _ (.ref D) s3.heap.objs.size) { s3 with heap := pushCells (s3.heap.push { cls := .type "dict", data := .dict #[] }) scope.names }
  have kp34 : ∀ b o, s3.heap.get? b = some o → (pushCells (s3.heap.push { cls := .type "dict", data := .dict #[] }) scope.names).get? b = some o := fun b o e => pushCells_keeps _ _ _ _ (Heap.get?_push_of_some _ e)
  have cO : ∀ x c, (compEnvC scope (cellsFrom (s3.heap.objs.size + 1) scope.names (cloFrom X.env.cells scope.names [])) s3.heap.objs.size X.env).cells.lookup x = some c → c < L := fun x c e => by
    have e : (cellsFrom (s3.heap.objs.size + 1) scope.names (cloFrom X.env.cells scope.names [])).lookup x = some c := e
    rw [cel] at e
    rcases cloFrom_mem (PySem.mem_of_lookup e) with hm | ⟨h1, rfl⟩
    · cases hm
    · obtain ⟨c, hc⟩ := hfree _ h1 rfl
      rw [hc]
      exact old.cel _ _ hc
  generalize hce : compEnvC scope (cellsFrom (s3.heap.objs.size + 1) scope.names (cloFrom X.env.cells scope.names [])) s3.heap.objs.size X.env = ce at I4 pg pt pe cO ⊢
  have cL : ce.locals = s3.heap.objs.size := by subst hce; rfl
  have hLc : L < ce.locals := by
    rw [cL, h3, Heap.size_push]
    exact Nat.lt_trans (Nat.lt_trans hLa ha2) (Nat.lt_succ_self _)
  generalize hH3 : upd H1 D (.lst []) = H3 at I3 I4 w0
  generalize hs4 : ({ s3 with heap := pushCells (s3.heap.push { cls := .type "dict", data := .dict #[] }) scope.names } : Shared) = s4 at I4 ⊢
  have h4 : s4.heap = pushCells (s3.heap.push { cls := .type "dict", data := .dict #[] }) scope.names := by rw [← hs4]
  have g4 : s4.gens = s1.gens := by rw [← hs4]; exact g3
  have o4 : s4.os = sc.os := by rw [← hs4]; exact o3.trans hos
  have kp : ∀ b o, s1.heap.get? b = some o → s4.heap.get? b = some o := fun b o e => by rw [h4]; exact kp34 b o (kp13 b o e)
  have kpc : ∀ b o, sc.heap.get? b = some o → s4.heap.get? b = some o := fun b o e => kp b o (hkp b o e)
  have scD : ∀ b o, sc.heap.get? b = some o → b ≠ D := fun b o e => by
    rw [← hD]
    exact Nat.ne_of_lt (Nat.lt_of_lt_of_le (Heap.lt_size e) (by rw [← hL]; exact Nat.le_of_lt (Nat.lt_trans hLa ha2)))
  have IB : Inv (X.blk sc H1 scope ce []) [] (wipe σ (own.map (·.2))) H3 s4 := by
    refine ⟨⟨I4.ok.mod, I4.ok.kind, I4.ok.glob, I4.ok.blt, ?_, I4.ok.inj, I4.ok.has, fun x c hx e => ?_, I4.ok.hd, I4.ok.frames, I4.ok.stk, (fun b z => nomatch z), Ic.bs, Nat.le_trans Ic.ok.bsz Ic.sz, (fun b o _ z => nomatch z), (fun b z => nomatch z), Ic.stack, Ic.stkFree⟩,
      o4, I4.bare, ⟨fun b o e _ _ _ => kpc b o e, fun b o e _ _ _ => ⟨o.slots, kpc b o e⟩, fun b o e n _ => ?_, fun b o e _ => ⟨o, kpc b o e⟩, fun b xs e => ?_, fun b o u e => ?_, fun b ps e => ⟨#[], ?_⟩⟩, I4.loc, I4.cell, I4.free, I4.freeC, I4.pin, I4.hok, I4.len⟩
    · show sc.heap.objs.size ≤ ce.locals
      rw [← hL]
      exact Nat.le_of_lt hLc
    · have z : s3.heap.objs.size ≤ c := I4.ok.cab x c hx e
      exact absurd (Nat.lt_of_lt_of_le (Nat.lt_trans (cO x c e) (by rw [cL] at hLc; exact hLc)) z) (Nat.lt_irrefl _)
    · rw [← hH3, upd_ne (scD b o e)]
      exact n
    · rw [← hH3, upd_ne (ne_of_none e hDn)]; exact e
    · rw [← hH3, upd_ne (ne_of_none e hDn)]; exact e
    · rw [← hH3, upd_ne (ne_of_none e hDn), Array.append_empty]; exact e
  have o2 : Old2 (X.blk sc H1 scope ce []) L := ⟨Nat.le_of_eq hL.symm, cO, rfl⟩
  obtain ⟨C, hC⟩ : ∃ C : GX, C = ⟨X.prog, X.w, X.K, X.mg, X.base, N, qual, fscope, f, cd, X.A.in1, X.stack, L, [(a, go)]⟩ := ⟨_, rfl⟩
  have wake2 := wake X.A.in1 hr.in1 Ic.ok.frames
  rw [← hC] at wake2
  have aLc : a ≠ ce.locals := by
    rw [cL, h3, Heap.size_push]
    exact Nat.ne_of_lt (Nat.lt_trans ha2 (Nat.lt_succ_self _))
  have loop : codeAny (model X.prog X.w) X.A (.compLoop (.ListComp elt [⟨tgt, iter, ifs, 0⟩] scope pos) 0 (.ref a) (.ref D) ce) (compPost (model X.prog X.w) X.A X.xe none (EP X pins σ Q) (.ref D) s3.heap.objs.size) s4 := by
    refine compLoop_any (fun n s' => ∃ (t : S.τ) (H' : Hp) (gs : GenState) (pl : List (Addr × Obj)), Inv (X.blk sc H1 scope ce []) [] (wipe σ (own.map (·.2))) H' s' ∧ (∀ p ∈ (a, go) :: pl, s'.heap.get? p.1 = some p.2 ∧ H' p.1 = none ∧ L ≤ p.1 ∧ (∀ v, p.2.data ≠ .cell v) ∧ p.1 ≠ ce.locals) ∧ s'.gens[gn]? = some gs ∧ Iv n t H' ∧
      ∃ i, n ≤ i ∧ ∀ (xp : List (Addr × Obj)) (s2 s0 : Shared) (Q : Wish S.τ), Wk C pl xp s2 H' s0 → S.W t H' Q → Ready (model X.prog X.w) X.A.in1 gs s2 (Phi C S.τ (Asl C S i) xp s0 H' Q)) ?_ m0 ?_
    case refine_2 =>
      refine ⟨t0, H3, .fresh c, [(L, lo)], IB, fun p hp => ?_, by rw [g4]; exact hgs, w0, m0, Nat.le_refl _, fun xp s2 s0 Q wk hw => .inl ⟨c, rfl, ?_⟩⟩
      · have fresh : ∀ b, L ≤ b → b ≠ D → H3 b = none := fun b hb nb => by
          rw [← hH3, upd_ne nb]
          exact Ic.hok.fresh (by rw [← hL]; exact hb)
        rcases List.mem_cons.mp hp with z | z
        · rw [z]
          exact ⟨kp _ _ hgo, fresh _ (Nat.le_of_lt hLa) (by rw [← hD]; exact Nat.ne_of_lt ha2), Nat.le_of_lt hLa, dgo, aLc⟩
        · rw [List.mem_singleton.mp z]
          exact ⟨kp _ _ hlo, fresh _ (Nat.le_refl _) (by rw [← hD]; exact Nat.ne_of_lt (Nat.lt_trans hLa ha2)), Nat.le_refl _, dlo, Nat.ne_of_lt hLc⟩
      · have z := wake2 m0 xp s2 s0 H3 Q wk hw
        rw [hC] at z ⊢
        exact z
    rintro n s5 ⟨t, H5, gs, pl, I5, hpin, hgs5, w5, i, hni, ready⟩
    obtain ⟨mm, ⟨lb, les, lep, hlb, hlbd, _⟩, _⟩ := id I5.loc
    have hlb' : s5.heap.get? ce.locals = some lb := hlb
    have isg5 : s5.heap.IsGen a gn := isg _ (hpin (a, go) List.mem_cons_self).1
    have szL : L ≤ s5.heap.objs.size := Nat.le_of_lt (Nat.lt_trans hLa (Heap.lt_size (hpin (a, go) List.mem_cons_self).1))
    have bsl : X.base.objs.size ≤ L := Nat.le_trans I.ok.bsz old.s0
    have nfl : ce.locals ∉ frs X.stack := fun z => absurd (Nat.lt_trans hLc (frl _ z)) (Nat.lt_irrefl _)
    have wk : Wk C pl [(ce.locals, lb)] (s5.setGen gn .running) H5 (cutS s5 L) := by
      rw [hC]
      refine ⟨rfl, allBare_setGen I5.bare rfl, cut_size _ _, ?_, fun b o e => (cut_some e).2, fun b o e => ⟨cut_of (I5.bs b o e).1 (Nat.lt_of_lt_of_le (Heap.lt_size e) bsl), (I5.bs b o e).2⟩, funs_cut I5.stack frl, I5.stkFree, fun p hp => ?_, fun p hp q hq => ?_, fun p hp => ?_, I5.hok⟩
      · show X.base.objs.size ≤ (cutH s5.heap L).objs.size
        rw [cut_size_of szL]
        exact bsl
      · rw [List.mem_singleton.mp hp]
        exact ⟨Nat.ne_of_gt hLc, nfl, fun v q => by rw [hlbd] at q; cases q⟩
      · rw [List.mem_singleton.mp hq]
        exact (hpin p (List.mem_cons_of_mem _ hp)).2.2.2.2
      · have hm : p = (a, go) ∨ p = (ce.locals, lb) ∨ p ∈ pl := by simpa using hp
        rcases hm with z | z | z
        · rw [z]
          exact ⟨(hpin (a, go) List.mem_cons_self).1, (hpin (a, go) List.mem_cons_self).2.1⟩
        · rw [z]
          exact ⟨hlb', I5.free⟩
        · exact ⟨(hpin p (List.mem_cons_of_mem _ z)).1, (hpin p (List.mem_cons_of_mem _ z)).2.1⟩
    refine wpAny_gsz (n := gn + 1) (Array.getElem?_eq_some_iff.mp hgs5).1 (next2 (I5.ok.hd hc) I5.nolimit (by have := hr.dp; omega) isg5 hgs5 (ready _ _ _ _ wk (turn n t H5 w5)) ?_ ?_ ?_)
    · -- an item
      rintro v gd l kk cc pp ff s6 ⟨x, t2, H6, pl2, rv, os, bare, un, hok, pins2, plok, ⟨Nx, hNx, step⟩, asl⟩ hq
      subst hC
      intro hsz
      have atL := pins2 (ce.locals, lb) (List.mem_append_left _ (List.mem_append_right _ List.mem_cons_self))
      have I6 : Inv (X.blk sc H1 scope ce []) [] (wipe σ (own.map (·.2))) H6 s6 := after2 I5 o2 hlb' atL.1 nfl atL.2 os bare un hok
      obtain ⟨gs4, hg4⟩ : ∃ y, y = (End.susp v gd l kk cc pp ff).genState := ⟨_, rfl⟩
      rw [← hg4] at hsz ⊢
      have susp4 : IsSusp gs4 := by rw [hg4]; exact ⟨_, _, _, _, _, _, rfl⟩
      have bare4 : gs4.bare = true := by rw [hg4]; exact End.bare_of_quiet hq
      have hlt : gn < s6.gens.size := by
        rw [setGen_size] at hsz
        exact hsz
      have I7 : Inv (X.blk sc H1 scope ce []) [] (wipe σ (own.map (·.2))) H6 (s6.setGen gn gs4) := inv_gens I6 (allBare_setGen bare bare4)
      have at7 : (s6.setGen gn gs4).gens[gn]? = some gs4 := setGen_at hlt
      have pall : ∀ p ∈ (a, go) :: pl2, s6.heap.get? p.1 = some p.2 ∧ H6 p.1 = none ∧ L ≤ p.1 ∧ (∀ v, p.2.data ≠ .cell v) ∧ p.1 ≠ ce.locals := fun p hm => by
        rcases List.mem_cons.mp hm with z | z
        · rw [z]
          have q := pins2 (a, go) (List.mem_append_left _ (List.mem_append_left _ List.mem_cons_self))
          exact ⟨q.1, q.2, Nat.le_of_lt hLa, dgo, aLc⟩
        · have q := pins2 p (List.mem_append_right _ z)
          exact ⟨q.1, q.2, (plok p z).1, (plok p z).2.1, (plok p z).2.2 (ce.locals, lb) List.mem_cons_self⟩
      have I7p : Inv (X.blk sc H1 scope ce []) ((a, go) :: pl2) (wipe σ (own.map (·.2))) H6 (s6.setGen gn gs4) := I7.pins_of fun p hm => by
        obtain ⟨h1, h2, h3, h4, h5⟩ := pall p hm
        exact ⟨h1, h2, h5, fun z => absurd (Nat.lt_of_lt_of_le (frl _ z) h3) (Nat.lt_irrefl _), h4⟩
      refine letGo_gen (g := gn) (isg _ (pall (a, go) List.mem_cons_self).1) ?_
      refine wpAny_mono (wpAny_hidden (pg.run _ { s6.setGen gn gs4 with gens := (s6.setGen gn gs4).gens.map asleep } _ H6 x v _ (inv_gens I7p (bare_asleep I7.bare)) rv step)) (fun _ s8 h8 => ?_) fun _ _ h8 => ?_
      · obtain ⟨s8h, T8, e8, wk8, σ8, H8, I8, hw8, q8⟩ := h8
        subst e8
        have at8 : T8[gn]? = some gs4 := wk8.kept gn gs4 at7 susp4
        have bare8 : AllBare T8 := wk8.bare I7.bare I8.bare
        have J8 := inv_gens I8 bare8
        -- the turn's end
        have fin : ∀ {s' : Shared} {H' : Hp}, Inv (X.blk sc H1 scope ce []) ((a, go) :: pl2) σ8 H' s' → s'.gens[gn]? = some gs4 → Nx H' → ∃ m, m < n ∧ ∃ (t : S.τ) (H' : Hp) (gs : GenState) (pl : List (Addr × Obj)), Inv (X.blk sc H1 scope ce []) [] (wipe σ (own.map (·.2))) H' s' ∧
            (∀ p ∈ (a, go) :: pl, s'.heap.get? p.1 = some p.2 ∧ H' p.1 = none ∧ L ≤ p.1 ∧ (∀ v, p.2.data ≠ .cell v) ∧ p.1 ≠ ce.locals) ∧ s'.gens[gn]? = some gs ∧ Iv m t H' ∧
            ∃ i, m ≤ i ∧ ∀ (xp : List (Addr × Obj)) (s2 s0 : Shared) (Q : Wish S.τ), Wk _ pl xp s2 H' s0 → S.W t H' Q → Ready (model X.prog X.w) X.A.in1 gs s2 (Phi _ S.τ (Asl _ S i) xp s0 H' Q) := fun {s' H'} I' at' nx => by
          obtain ⟨fr, m', hm, iv⟩ := hNx H' nx
          have hl : (wipe σ (own.map (·.2))).length = σ8.length := by rw [← hw8, wipe_length]
          refine ⟨m', hm, t2, H', gs4, pl2, (I'.pins_of (pins' := []) (fun p hp => nomatch hp)).weak hl (fun j v e => ?_), fun p hp => ?_, at', iv, ?_⟩
          · rw [← hw8] at e
            exact (wipe_some e).1
          · have z := I'.pin p (List.mem_append_right _ hp)
            exact ⟨z.1, z.2.1, (pall p hp).2.2⟩
          · cases i with
            | zero => omega
            | succ i' => exact ⟨i', by omega, fun xp s2 s0 Q wk hw => .inr ⟨kk, _, cc, _, ff, _, hg4, asl xp s2 s0 H' Q wk fr hw⟩⟩
        refine wpAny_mono (wpAny_hidden (pt.run _ { s8h with gens := T8.map asleep } σ8 H8 _ (inv_gens I8 (bare_asleep bare8)) q8)) (fun b s9 h9 => ?_) fun _ _ h9 => ?_
        · obtain ⟨s9h, T9, e9, wk9, H9, I9, q9⟩ := h9
          subst e9
          have at9 : T9[gn]? = some gs4 := wk9.kept gn gs4 at8 susp4
          have bare9 : AllBare T9 := wk9.bare bare8 I9.bare
          have J9 := inv_gens I9 bare9
          cases b with
          | false =>
            simp only [Bool.false_eq_true, if_false] at q9 ⊢
            exact fin J9 at9 q9
          | true =>
            simp only [if_true] at q9 ⊢
            refine wpAny_mono (wpAny_hidden (pe.run _ { s9h with gens := T9.map asleep } σ8 H9 _ (inv_gens I9 (bare_asleep bare9)) q9)) (fun z s10 h10 => ?_) fun _ _ h10 => ?_
            · obtain ⟨s10h, T10, e10, wk10, yv, H10, I10, r10, acc, hD10, hz10, nx⟩ := h10
              subst e10
              have at10 : T10[gn]? = some gs4 := wk10.kept gn gs4 at9 susp4
              have bare10 : AllBare T10 := wk10.bare bare9 I10.bare
              have J10 := inv_gens I10 bare10
              refine wpAny_mono (wpAny_hidden (app_ok (X := X.blk sc H1 scope ce []) (E := fun _ _ => False) (s := { s10h with gens := T10.map asleep }) (Q := fun _ s' => Inv (X.blk sc H1 scope ce []) ((a, go) :: pl2) σ8 (upd H10 D (.lst (acc ++ [yv]))) s') (inv_gens I10 (bare_asleep bare10)) hD10 hz10 r10 fun s11 I11 => I11)) (fun _ s11 h11 => ?_) fun _ _ h11 => ?_
              · obtain ⟨s11h, T11, e11, wk11, I11⟩ := h11
                subst e11
                exact fin (inv_gens I11 (wk11.bare bare10 I11.bare)) (wk11.kept gn gs4 at10 susp4) nx
              · obtain ⟨_, _, _, _, z⟩ := h11
                exact z.elim
            · obtain ⟨_, _, _, _, z⟩ := h10
              exact z.elim
        · obtain ⟨_, _, _, _, z⟩ := h9
          exact z.elim
      · obtain ⟨_, _, _, _, z⟩ := h8
        exact z.elim
    · -- the end
      rintro fl s6 ⟨hfl, H6, os, bare, un, hok, pins2, dn⟩
      rw [hC] at un hok pins2
      refine ⟨hfl, fun h' k2 _ => ?_⟩
      have atL := pins2 (ce.locals, lb) (List.mem_append_right _ List.mem_cons_self)
      have I6 : Inv (X.blk sc H1 scope ce []) [] (wipe σ (own.map (·.2))) H6 s6 := after2 I5 o2 hlb' atL.1 nfl atL.2 os bare un hok
      have I7 := (inv_gens (G := (s6.setGen gn .finished).gens) I6 (allBare_setGen bare rfl)).kept (t' := s6.toks) k2
      have I8 : Inv X pins σ H6 { s6.setGen gn .finished with heap := h' } := Ic.call' (ch := []) I7.os I7.base I7.hok I7.bare fun b hb => nomatch hb
      have nC : H6 s3.heap.objs.size = none := by
        rw [← cL]
        exact atL.2
      obtain ⟨m, hn, _⟩ := I7.loc
      have hn : h'.Ns ce.locals m := hn
      rw [cL] at hn
      have hlc : sc.heap.objs.size ≤ s3.heap.objs.size := by
        rw [← hL, ← cL]
        exact Nat.le_of_lt hLc
      obtain ⟨f0, f1, f2, f3, f4, f5⟩ := Ic.fpOk hlc nC
      exact ⟨m, hn, fun h'' sb => ⟨.ref D, H6, I8.turned (t' := s6.toks) (fun b o hb e => (sb.2 b hb).trans e) f0 f1 f3 f4 f5, rfl, dn⟩⟩
    · -- no exception
      rintro e s6 ⟨cx, _⟩
      obtain ⟨_, _, _, _, _, _, _, _, _, _, _, _, z⟩ := cx
      exact z.1.elim
  exact codeAny_compStart_list loop (wpAny_pyIter_gen (isg _ (kp _ _ hgo)) loop)
end
end Gx

namespace Mx
open PySem PySem.Spec PyProof.Rows L2

/-! ### a dict of the module, texts to texts: k in d, d[k], for k in d, for k, v in d.items() -/
def kdB : List DictEntry → List (Str × Str) → Bool
  | [], [] => true
  | e :: es, (k, v) :: kvs => Value.isStrOf k e.key && Value.isStrOf v e.val && kdB es kvs
  | _, _ => false
structure KD (K : PySem.W.Frag) (w : World) (d : Addr) (kvs : List (Str × Str)) : Prop where
  ex : ∃ es n, KDict K w d es n ∧ kdB es.toList kvs = true
theorem kdB_cons {e : DictEntry} {es : List DictEntry} {k v : Str} {kvs : List (Str × Str)} (h : kdB (e :: es) ((k, v) :: kvs) = true) : (∃ t, e.key = .str k t) ∧ (∃ t, e.val = .str v t) ∧ kdB es kvs = true := by
  have h2 : (Value.isStrOf k e.key && Value.isStrOf v e.val && kdB es kvs) = true := h
  rw [Bool.and_eq_true, Bool.and_eq_true] at h2
  exact ⟨Value.isStrOf_shape h2.1.1, Value.isStrOf_shape h2.1.2, h2.2⟩
theorem kdB_len : ∀ {es : List DictEntry} {kvs : List (Str × Str)}, kdB es kvs = true → es.length = kvs.length
  | [], [], _ => rfl
  | e :: es, (k, v) :: kvs, h => by
    rw [List.length_cons, List.length_cons, kdB_len (kdB_cons h).2.2]
  | [], _ :: _, h => by cases h
  | _ :: _, [], h => by cases h
theorem kdB_at : ∀ {es : List DictEntry} {kvs : List (Str × Str)}, kdB es kvs = true → ∀ (i : Nat) (k v : Str), kvs[i]? = some (k, v) → ∃ e, es[i]? = some e ∧ (∃ t, e.key = .str k t) ∧ ∃ t, e.val = .str v t
  | [], [], _, i, k, v, q => by simp at q
  | e :: es, (k0, v0) :: kvs, h, 0, k, v, q => by
    obtain ⟨h1, h2, _⟩ := kdB_cons h
    have q2 : (k0, v0) = (k, v) := by simpa using q
    cases q2
    exact ⟨e, rfl, h1, h2⟩
  | e :: es, (k0, v0) :: kvs, h, i + 1, k, v, q => by
    obtain ⟨_, _, h3⟩ := kdB_cons h
    exact kdB_at h3 i k v (by simpa using q)
  | [], _ :: _, h, _, _, _, _ => by cases h
  | _ :: _, [], h, _, _, _, _ => by cases h
/-- what stands at a key -/
def atK (kvs : List (Str × Str)) (z : Str) : Option Str := (kvs.find? fun p => p.1 == z).map (·.2)
theorem kdB_find (z : Str) : ∀ {es : List DictEntry} {kvs : List (Str × Str)}, kdB es kvs = true → (es.any (·.refKey) = false) ∧ (match es.find? (·.key.isStr z) with
    | some e => ∃ v t, e.val = .str v t ∧ atK kvs z = some v
    | none => atK kvs z = none)
  | [], [], _ => ⟨rfl, rfl⟩
  | e :: es, (k, v) :: kvs, h => by
    obtain ⟨⟨t, h1⟩, ⟨t2, h2⟩, h3⟩ := kdB_cons h
    obtain ⟨i1, i2⟩ := kdB_find z h3
    have e0 : e.refKey = false := by unfold DictEntry.refKey; rw [h1]
    have e1 : e.key.isStr z = (k == z) := by rw [h1]; rfl
    refine ⟨by rw [List.any_cons, e0, i1]; rfl, ?_⟩
    rw [List.find?_cons, e1]
    cases q : k == z with
    | true =>
      refine ⟨v, t2, h2, ?_⟩
      unfold atK
      rw [List.find?_cons]
      simp only [q]
      rfl
    | false =>
      have ea : atK ((k, v) :: kvs) z = atK kvs z := by
        unfold atK
        rw [List.find?_cons]
        simp only [q]
      rw [ea]
      exact i2
  | [], _ :: _, h => by cases h
  | _ :: _, [], h => by cases h
theorem KD.look {K : PySem.W.Frag} {w : World} {d : Addr} {kvs : List (Str × Str)} {es : Array DictEntry} {n : Nat} (D : KDict K w d es n) (h : kdB es.toList kvs = true) (z : Str) :
    ∃ r, PySem.W.nsIn K d z = some r ∧ ((r = none ∧ atK kvs z = none) ∨ ∃ v t, r = some (.str v t) ∧ atK kvs z = some v) := by
  obtain ⟨i1, i2⟩ := kdB_find z h
  unfold PySem.W.nsIn
  rw [D.at_]
  dsimp only
  cases q : es.toList.find? (·.key.isStr z) with
  | some e =>
    rw [q] at i2
    obtain ⟨v, t, h1, h2⟩ := i2
    exact ⟨some (.str v t), by show some (some e.val) = _; rw [h1], .inr ⟨v, t, rfl, h2⟩⟩
  | none =>
    rw [q] at i2
    refine ⟨none, ?_, .inl ⟨rfl, i2⟩⟩
    rw [if_neg (by rw [i1]; exact Bool.false_ne_true)]
section
variable {X : Cx}
def rKIn (K : PySem.W.Frag) (w : World) (neg : Bool) : V → V → Hp → VK → Prop := fun x y H Q => ∃ (d : Addr) (kvs : List (Str × Str)) (z : Str), x = .str z ∧ y = .ref d ∧ KD K w d kvs ∧ Q (.bl (if neg then !(atK kvs z).isSome else (atK kvs z).isSome)) H
theorem op_kin : OpR X (compareOp .In) (rKIn X.K X.w false) := by
  intro pins s σ H x y v u Q I rx ry h
  obtain ⟨d, kvs, z, rfl, rfl, ⟨es, n, D, hB⟩, q⟩ := h
  obtain ⟨r, e, hr⟩ := KD.look D hB z
  refine op_in_kd D pins s σ H _ _ v u Q I rx ry ⟨z, r, rfl, rfl, e, ?_⟩
  rcases hr with ⟨rfl, ea⟩ | ⟨v, t, rfl, ea⟩
  · rw [ea] at q; exact q
  · rw [ea] at q; exact q
theorem op_knotIn : OpR X (compareOp .NotIn) (rKIn X.K X.w true) := by
  intro pins s σ H x y v u Q I rx ry h
  obtain ⟨d, kvs, z, rfl, rfl, ⟨es, n, D, hB⟩, q⟩ := h
  obtain ⟨r, e, hr⟩ := KD.look D hB z
  refine op_notIn_kd D pins s σ H _ _ v u Q I rx ry ⟨z, r, rfl, rfl, e, ?_⟩
  rcases hr with ⟨rfl, ea⟩ | ⟨v, t, rfl, ea⟩
  · rw [ea] at q; exact q
  · rw [ea] at q; exact q
def rKIx (K : PySem.W.Frag) (w : World) : R2 := fun x y H Q => ∃ (d : Addr) (kvs : List (Str × Str)) (z v : Str), x = .ref d ∧ y = .str z ∧ KD K w d kvs ∧ atK kvs z = some v ∧ Q (.str v) H
theorem ix_kd : IxR X (rKIx X.K X.w) := by
  intro value slice pins s σ H x y v u Q I rx ry h hs
  obtain ⟨d, kvs, z, v0, rfl, rfl, ⟨es, n, D, hB⟩, ea, q⟩ := h
  obtain ⟨r, e, hr⟩ := KD.look D hB z
  rcases hr with ⟨rfl, eb⟩ | ⟨v1, t1, rfl, eb⟩
  · rw [ea] at eb; cases eb
  · rw [ea] at eb
    obtain rfl := Option.some.inj eb
    refine ix_kdict value slice pins s σ H _ _ v u Q I rx ry ?_ hs
    exact ⟨d, z, .str v0, rfl, rfl, ⟨es, n, _, D.at_, D.lit, e, ⟨t1, rfl⟩⟩, q⟩
/-! the walks -/
def Kkd (d : Addr) (kvs : List (Str × Str)) : It := ⟨fun i _ => i < kvs.length, fun i H x H' => H' = H ∧ ∃ p, kvs[i]? = some p ∧ x = .str p.1, fun i _ => kvs.length ≤ i⟩
def Kki (d : Addr) (kvs : List (Str × Str)) : It := ⟨fun i _ => i < kvs.length, fun i H x H' => ∃ T p, kvs[i]? = some p ∧ x = .ref T ∧ H T = none ∧ H' = upd H T (.tup [.str p.1, .str p.2]), fun i _ => kvs.length ≤ i⟩
theorem walk_kd {d : Addr} {kvs : List (Str × Str)} : Walk (Kkd d kvs) kvs.length (fun _ => True) (fun i H x H' => H' = H ∧ ∃ p, kvs[i]? = some p ∧ x = .str p.1) :=
  ⟨fun _ _ hi _ => hi, fun _ _ => Nat.le_refl _, fun _ _ _ _ _ _ y => y⟩
theorem walk_ki {d : Addr} {kvs : List (Str × Str)} : Walk (Kki d kvs) kvs.length (fun _ => True) (fun i H x H' => ∃ T p, kvs[i]? = some p ∧ x = .ref T ∧ H T = none ∧ H' = upd H T (.tup [.str p.1, .str p.2])) :=
  ⟨fun _ _ hi _ => hi, fun _ _ => Nat.le_refl _, fun _ _ _ _ _ _ y => y⟩
theorem turn_kd {P : Program} {w : World} {K : PySem.W.Frag} {tg : Expr} {d : Addr} {kvs : List (Str × Str)} {es : Array DictEntry} {n : Nat} (it : Addr) (D : KDict K w d es n) (hB : kdB es.toList kvs = true) :
    Turn P w K tg (Kkd d kvs) [it] it (fun i h => h.IsKeyIter it d i kvs.length n) where
  mem := by simp
  obj := fun i h st b hb => by
    have e : b = it := by simpa using hb
    subst e
    obtain ⟨oi, e, c, dd⟩ := st
    exact ⟨oi, e, fun v z => by rw [dd] at z; cases z⟩
  keep := fun i h h' st k => st.at fun oi e => k it (by simp) oi e
  item := by
    intro X hP hw hK hc i pins s σ H E I hf st hi
    subst hP hw hK
    obtain ⟨f0, f1, f2, f3, f4, f5⟩ := hf it (by simp)
    have hgd := I.kIn _ _ D.at_
    have hl : es.size = kvs.length := by rw [← kdB_len hB, Array.length_toList]
    have hi : i < kvs.length := hi
    obtain ⟨⟨k, v⟩, hkv⟩ : ∃ p, kvs[i]? = some p := ⟨kvs[i], List.getElem?_eq_getElem hi⟩
    obtain ⟨en, hen, ⟨t, hk⟩, _⟩ := kdB_at hB i k v hkv
    refine next_key_item st hgd rfl hl (by rw [← Array.getElem?_toList]; exact hen) fun h' st' sb => ?_
    have I1 : Inv X pins σ H { s with heap := h' } := I.turned (t' := s.toks) (fun b ob hb e => (sb.2 b hb).trans e) f0 f1 f3 f4 f5
    obtain ⟨oi, e, c, dd⟩ := id st'
    exact ⟨en.key, rfl, go_of (s := { s with heap := h' }) e c dd (by decide) ⟨.str k, H, I1, ⟨t, hk⟩, ⟨rfl, (k, v), hkv, rfl⟩, st', fun b hb => (hf b hb).1⟩⟩
  done := by
    intro X hP hw hK hc i pins s σ H E I hf st hg
    subst hP hw hK
    obtain ⟨f0, f1, f2, f3, f4, f5⟩ := hf it (by simp)
    have hgd := I.kIn _ _ D.at_
    have hl : es.size = kvs.length := by rw [← kdB_len hB, Array.length_toList]
    exact next_key_end (I.ok.hd hc) st hgd rfl hl hg fun h' eb => ⟨rfl, I.turned (t' := s.toks) (fun b ob hb e => eb b ob hb e) f0 f1 f3 f4 f5⟩
  self := fun A i s Q E st h => by
    refine wpAny_pyIter_slot st.typeIs F.slot_dict_keyiterator_iter (wpAny_call_entry F.slot_dict_keyiterator_iter st.typeIs F.entry_dict_keyiterator_iter ?_ (F.args_dict_keyiterator_iter_1 _))
    show wpAny _ _ (ret (.ref it)) _ _ s
    exact wpAny_pure ⟨_, rfl, "dict_keyiterator", _, st.typeIs, F.slot_dict_keyiterator_next.lookup, h⟩
theorem raw_kd {K : PySem.W.Frag} {w : World} {d : Addr} {es : Array DictEntry} {n : Nat} {h : Heap} (D : KDict K w d es n) (k : K.In h) : h.DictRaw d es n := ⟨_, k _ _ D.at_, ⟨rfl, rfl, rfl⟩, rfl⟩
theorem turn_ki {P : Program} {w : World} {K : PySem.W.Frag} {elts : List Expr} {kk : Nat} {tpos : Pos} {d : Addr} {kvs : List (Str × Str)} {es : Array DictEntry} {n : Nat} (it : Addr) (D : KDict K w d es n) (hB : kdB es.toList kvs = true) :
    Turn P w K (.Tuple elts kk tpos) (Kki d kvs) [it] it (fun i h => ∃ ok ov, IsItemIter h it d i kvs.length n ok ov) where
  mem := by simp
  obj := fun i h st b hb => by
    have e : b = it := by simpa using hb
    subst e
    obtain ⟨ok, ov, e⟩ := st
    exact ⟨_, e, fun v z => nomatch z⟩
  keep := fun i h h' st k => let ⟨ok, ov, e⟩ := st; ⟨ok, ov, k it (by simp) _ e⟩
  item := by
    intro X hP hw hK hc i pins s σ H E I hf st hi
    subst hP hw hK
    have hm := raw_kd D I.kIn
    have hl : es.size = kvs.length := by rw [← kdB_len hB, Array.length_toList]
    have hi : i < kvs.length := hi
    obtain ⟨⟨k, v⟩, hkv⟩ : ∃ p, kvs[i]? = some p := ⟨kvs[i], List.getElem?_eq_getElem hi⟩
    obtain ⟨en, hen, ⟨t, hk⟩, ⟨t2, hv⟩⟩ := kdB_at hB i k v hkv
    have hi2 : i < es.size := by omega
    have een : es[i] = en := by
      have z : es[i]? = some en := by rw [← Array.getElem?_toList]; exact hen
      rw [Array.getElem?_eq_getElem hi2] at z
      exact Option.some.inj z
    obtain ⟨ok, ov, he⟩ := st
    rw [← hl] at he
    have hlt : it < s.heap.objs.size := Heap.lt_size he
    refine wpAny_pyNext_items_item_raw he hm hi2 fun h' ho hT hz hk2 => ?_
    rw [een] at ho hT
    refine ⟨_, rfl, wpAny_letOwnedTupleGo_items (s := { s with heap := h' }) ho fun h'' he' sb => ?_⟩
    have hT2 : h''.get? s.heap.objs.size = some { cls := .type "tuple", data := .seq #[en.key, en.val] } := (sb.2 _ (Nat.ne_of_gt hlt)).trans hT
    have new : ObjOk X.prog X.w (upd H s.heap.objs.size (.tup [.str k, .str v])) h'' s.heap.objs.size (.tup [.str k, .str v]) :=
      ⟨by show 2 ≤ sizeLine; decide, [en.key, en.val], .cons ⟨t, hk⟩ (.cons ⟨t2, hv⟩ .nil), ⟨_, hT2, rfl, _, rfl⟩⟩
    have I1 : Inv X pins σ (upd H s.heap.objs.size (.tup [.str k, .str v])) { s with heap := h'' } :=
      I.turnedNew (t' := s.toks) (ch := [it]) (fun b ob hb e => (sb.2 b (by simpa using hb)).trans (hk2 b ob (by simpa using hb) e)) hf (Nat.le_refl _) new
    refine ⟨.ref s.heap.objs.size, _, I1, rfl, ⟨_, (k, v), hkv, rfl, I.hok.fresh (Nat.le_refl _), rfl⟩, ⟨en.key, en.val, ?_⟩, fun b hb => ?_⟩
    · rw [← hl]; exact he'
    · have e : b = it := by simpa using hb
      rw [e, upd_ne (Nat.ne_of_lt hlt)]
      exact (hf it (by simp)).1
  done := by
    intro X hP hw hK hc i pins s σ H E I hf st hg
    subst hP hw hK
    obtain ⟨f0, f1, f2, f3, f4, f5⟩ := hf it (by simp)
    have hm := raw_kd D I.kIn
    have hl : es.size = kvs.length := by rw [← kdB_len hB, Array.length_toList]
    obtain ⟨ok, ov, he⟩ := st
    rw [← hl] at he
    have hg : kvs.length ≤ i := hg
    exact wpAny_pyNext_items_end_raw (I.ok.hd hc) he hm (by omega) fun h' eb => ⟨rfl, I.turned (t' := s.toks) (fun b ob hb e => eb b ob hb e) f0 f1 f3 f4 f5⟩
  self := fun A i s Q E st h => let ⟨_, _, e⟩ := st; PySem.W.kcp_self e h
def iKd (K : PySem.W.Frag) (w : World) (td : TE) : TI := fun σ H R => td σ H fun x H1 => ∃ d kvs, x = .ref d ∧ KD K w d kvs ∧ R (Kkd d kvs) H1
def iKi (K : PySem.W.Frag) (w : World) (td : TE) : TI := fun σ H R => td σ H fun x H1 => ∃ d kvs, x = .ref d ∧ KD K w d kvs ∧ R (Kki d kvs) H1
variable {tg e : Expr} {td : TE} {apos cpos : Pos}
theorem pi_kd (he : PE X e td) : PI X tg e (iKd X.K X.w td) := by
  refine ⟨fun pins s σ H R I h => ?_⟩
  refine thn (he.run pins s σ H _ I h) fun u s1 ⟨x, H1, I1, rx, d, kvs, ex, ⟨es, n, D, hB⟩, q⟩ => ?_
  subst ex
  obtain rfl : u = Value.ref d := rx
  have hl : es.size = kvs.length := by rw [← kdB_len hB, Array.length_toList]
  refine iter_keys D.low (I1.kIn _ _ D.at_) ⟨rfl, rfl, rfl⟩ rfl (pi_one (tk := s1.toks) I1 _ (turn_kd _ D hB) ⟨_, Heap.get?_push_size _ rfl, rfl, ?_⟩ q)
  rw [hl] <;> rfl
theorem pi_ki {elts : List Expr} {kk : Nat} {tpos : Pos} (he : PE X e td) (hbase : attributeBase e "items" X.env (eval e X.env) = eval e X.env := by rfl) (hline : (apos.endLine == cpos.line) = true := by rfl) :
    PI X (.Tuple elts kk tpos) (.Call (.Attribute e "items" apos) [] [] cpos) (iKi X.K X.w td) := by
  refine ⟨fun pins s σ H R I h => ?_⟩
  refine wpAny_Call_method (T := "dict") (id := "dict.items") hbase rfl hline F.plainAttrs_dict F.slot_dict_items F.type_dict_items (thn (he.run pins s σ H _ I h) fun u s1 ⟨x, H1, I1, rx, d, kvs, ex, ⟨es, n, D, hB⟩, q⟩ => ?_)
  subst ex
  obtain rfl : u = Value.ref d := rx
  have hl : es.size = kvs.length := by rw [← kdB_len hB, Array.length_toList]
  have hm := raw_kd D I1.kIn
  refine ⟨hm.typeIs, fun a ea => by cases ea; exact ⟨_, I1.kIn _ _ D.at_, rfl⟩, ?_⟩
  have I2 : Inv X pins σ H1 { s1 with heap := s1.heap.push { cls := .type "dict_items", data := .fields #[.ref d] } } := I1.kept (t' := s1.toks) fun b ob q => Heap.get?_push_of_some _ q
  have fin : wpAny (model X.prog X.w) X.A (pyIter (.ref s1.heap.objs.size)) (PIE X pins σ (.Tuple elts kk tpos) R) X.xe { s1 with heap := s1.heap.push { cls := .type "dict_items", data := .fields #[.ref d] } } := by
    refine wpAny_pyIter_items_raw (d := d) ⟨_, Heap.get?_push_size _ rfl, rfl, rfl⟩ (raw_kd D I2.kIn) (pi_one (tk := s1.toks) I2 _ (turn_ki _ D hB) ⟨.none, .none, ?_⟩ q)
    rw [← hl]
    exact Heap.get?_push_size _ rfl
  show wpAny _ _ (callWith cpos (.builtin "dict.items") [.ref d] [] []) _ X.xe s1
  exact method_meetsIn F.slot_dict_items F.entry_dict_items rfl (PySem.evalArgs_none ⟨rfl, hm.typeIs, F.args_dict_items_1 _, _, meets_dict_items_raw d D.low, ⟨es, n, hm⟩, fin⟩)
end
end Mx

namespace Mx
open PySem PySem.Spec PyProof.Rows L2

/-! ### a set of texts: set(list), sorted(set) -/
def txK (e : Int × Value) : Str := match e.2 with | .str x _ => x | _ => Str.empty
def TxE (P : Program) (w : World) (e : Int × Value) : Prop := ∃ x tk, e.2 = Value.str x tk ∧ e.1 = (strKind P w).hash x
def TxSet (P : Program) (w : World) (h : Heap) (a : Addr) (M : List Str) : Prop :=
  ∃ o es ep t, h.get? a = some o ∧ o.ExactSet ∧ o.data = .set es ep t ∧ (∀ e ∈ es.toList, TxE P w e) ∧ (es.toList.map txK).Perm M ∧ M.Nodup ∧
    es.size < scanBound ∧ t.fits es.size = true ∧ Ris t.place.toList ∧ (w.params.followText "set-order" = true ∨ t.led = true)
def ins (M : List Str) (x : Str) : List Str := if x ∈ M then M else x :: M
theorem ins_len (M : List Str) (x : Str) : (ins M x).length ≤ M.length + 1 := by
  unfold ins
  split
  · omega
  · rw [List.length_cons]; omega
section
variable {P : Program} {w : World} {h h' : Heap} {a : Addr} {M : List Str}
theorem TxSet.at (R : TxSet P w h a M) (k : ∀ o, h.get? a = some o → h'.get? a = some o) : TxSet P w h' a M := by
  obtain ⟨o, es, ep, t, ho, r⟩ := R
  exact ⟨o, es, ep, t, k o ho, r⟩
theorem tx_elems {l : List (Int × Value)} (g : ∀ e ∈ l, TxE P w e) : ElemsOf (strKind P w) l := fun e he => by
  obtain ⟨k, tk, h1, h2⟩ := g e he
  exact ⟨⟨k, by rw [h1]; exact strKind_is P w k tk, h2⟩, by rw [h1] <;> rfl⟩
theorem tx_is {e : Int × Value} (g : TxE P w e) (k : Str) : (strKind P w).is k e.2 = true ↔ txK e = k := by
  obtain ⟨k0, tk, h1, _⟩ := g
  unfold txK
  rw [h1]
  show ((k0 == k) = true) ↔ k0 = k
  exact beq_iff_eq
theorem tx_mem {l : List (Int × Value)} (g : ∀ e ∈ l, TxE P w e) (k : Str) : k ∈ l.map txK ↔ ∃ e ∈ l, (strKind P w).is k e.2 = true := by
  rw [List.mem_map]
  constructor
  · rintro ⟨e, he, q⟩
    exact ⟨e, he, (tx_is (g e he) k).2 q⟩
  · rintro ⟨e, he, q⟩
    exact ⟨e, he, (tx_is (g e he) k).1 q⟩
end
section
variable {P : Program} {w : World} {A : Around} {E : Value → Shared → Prop} {s : Shared} {a : Addr} {M : List Str}
theorem tx_tail {g : Bool → Sem Unit} (hg : ∀ (b : Bool) (s₁ : Shared) (Q' : Unit → Shared → Prop), Q' () s₁ → wpAny (model P w) A (g b) Q' E s₁)
    {o : Obj} {es : Array (Int × Value)} {ep : Nat} {t : SetTable} (ho : s.heap.get? a = some o) (hex : o.ExactSet) (hd : o.data = .set es ep t)
    {es1 : Array (Int × Value)} {t2 : SetTable} {M' : List Str} (g1 : ∀ e ∈ es1.toList, TxE P w e) (pm1 : (es1.toList.map txK).Perm M') (nd1 : M'.Nodup)
    (hb1 : es1.size < scanBound) (hf2 : t2.fits es1.size = true) (hr : Ris t2.place.toList) (hl : w.params.followText "set-order" = true ∨ t2.led = true) {wasDummy : Bool} {R : Option Bool → Shared → Prop}
    (hR : ∀ h', Heap.SameBut a s.heap h' → TxSet P w h' a M' → R (some true) { s with heap := h' }) :
    wpAny (model P w) A (do
        storeSet a es1 t2
        if (!wasDummy && t2.tooFull) = true then do
            g (relayAll t2 es1 (SetTable.grown es1.size)).2.2
            storeSet a (relayAll t2 es1 (SetTable.grown es1.size)).1 (relayAll t2 es1 (SetTable.grown es1.size)).2.1
            pure (some true)
          else pure (some true)) R E s := by
  refine wpAny_bind (wpAny_storeSet_of ho hd ?_ (fits_of_scanBound hb1))
  have ho1 := store_at (es' := es1) (t' := t2) ho hd
  have sb1 := Heap.SameBut.update s.heap a (Obj.putSet es1 t2)
  split
  · have pm := relayAll_perm t2 es1 (SetTable.grown es1.size)
    have hf3 := relayAll_fits t2 es1 (SetTable.grown es1.size)
    have hr3 := relayAll_ris t2 es1 (SetTable.grown es1.size)
    have hl3 := relayAll_led t2 es1 (SetTable.grown es1.size)
    generalize relayAll t2 es1 (SetTable.grown es1.size) = Z at pm hf3 hr3 hl3 ⊢
    obtain ⟨es2, t3, gave⟩ := Z
    dsimp only at pm hf3 hr3 hl3 ⊢
    have hsz : es2.size = es1.size := by rw [← Array.length_toList, pm.length_eq, Array.length_toList]
    have hb2 : es2.size < scanBound := by rw [hsz]; exact hb1
    refine wpAny_bind (hg _ _ _ ?_)
    refine wpAny_bind (wpAny_storeSet_of ho1 rfl ?_ (fits_of_scanBound hb2))
    have ho2 := store_at (es' := es2) (t' := t3) ho1 rfl
    refine wpAny_pure (hR _ (sb1.trans (Heap.SameBut.update _ a _)) ?_)
    exact ⟨_, es2, _, t3, ho2, hex, rfl, fun e he => g1 e (pm.mem_iff.mp he), (pm.map txK).trans pm1, nd1, hb2, hf3, hr3, hl.imp id fun z => by rw [hl3]; exact z⟩
  · exact wpAny_pure (hR _ sb1 ⟨_, es1, _, t2, ho1, hex, rfl, g1, pm1, nd1, hb1, hf2, hr, hl⟩)
theorem tx_add {k : Str} {tk : Tok} {Q : Bool → Shared → Prop} (R : TxSet P w s.heap a M) (room : M.length + 1 < scanBound)
    (hQ : ∀ h' b, Heap.SameBut a s.heap h' → TxSet P w h' a (ins M k) → Q b { s with heap := h' }) :
    wpAny (model P w) A (setAddHashed a (.str k tk) ((strKind P w).hash k)) Q E s := by
  obtain ⟨o, es, ep, t, ho, hex, hd, g, pmM, nd, hb, hf, hr, hl⟩ := R
  have hkey : (strKind P w).is k (.str k tk) = true := strKind_is P w k tk
  have hsc : (Value.str k tk).scannable = true := rfl
  have hel : ElemsOf (strKind P w) es.toList := tx_elems g
  unfold setAddHashed setAddHashedIn
  refine wpAny_holding (wpAny_bind (wpAny_setState_of ho hd hf ?_))
  dsimp only
  rw [byScan_of hsc hb hel]
  simp only [↓reduceIte]
  unfold setAddByScan
  refine wpAny_bind ?_
  refine wpAny_bind (wpAny_rule ?_)
  refine wpAny_bind (wpAny_setScan_of hkey ho hd hf hel ?_)
  cases hfi : List.findIdx? (fun e => (strKind P w).is k e.2) es.toList with
  | some j =>
    dsimp only
    obtain ⟨hj, pj, _⟩ := List.findIdx?_eq_some_iff_getElem.mp hfi
    have hkM : k ∈ M := pmM.mem_iff.mp ((tx_mem (P := P) (w := w) g k).2 ⟨es.toList[j], List.getElem_mem hj, pj⟩)
    refine wpAny_pure (wpAny_pure ?_)
    exact hQ s.heap _ (Heap.SameBut.refl a s.heap) ⟨o, es, ep, t, ho, hex, hd, g, by unfold ins; rw [if_pos hkM]; exact pmM, by unfold ins; rw [if_pos hkM]; exact nd, hb, hf, hr, hl⟩
  | none =>
    dsimp only
    have hnk : k ∉ es.toList.map txK := fun z => by
      obtain ⟨e, he, q⟩ := (tx_mem (P := P) (w := w) g k).1 z
      have c := List.findIdx?_eq_none_iff.mp hfi e he
      rw [q] at c
      cases c
    have hkM : k ∉ M := fun z => hnk (pmM.mem_iff.mpr z)
    have eM : ins M k = k :: M := by unfold ins; rw [if_neg hkM]
    have hgw : ∀ (b : Bool) {s₁ : Shared} {Q' : Unit → Shared → Prop}, Q' () s₁ → wpAny (model P w) A (match b with | true => rule "set.scan.the-table-gave-way" | false => pure ()) Q' E s₁ :=
      fun b s₁ Q' q => by cases b <;> first | exact wpAny_pure q | exact wpAny_rule q
    have pm := layNew_perm t es ((strKind P w).hash k) (.str k tk)
    have hf1 := layNew_fits t es ((strKind P w).hash k) (.str k tk)
    have hr1 := layNew_ris t es ((strKind P w).hash k) (.str k tk) hr
    have hl1 := layNew_led t es ((strKind P w).hash k) (.str k tk)
    generalize layNew t es ((strKind P w).hash k) (.str k tk) = Z at pm hf1 hr1 hl1 ⊢
    obtain ⟨es1, t1, wasDummy, gave⟩ := Z
    dsimp only at pm hf1 hr1 hl1 ⊢
    rw [Array.toList_push] at pm
    have pc : es1.toList.Perm (((strKind P w).hash k, Value.str k tk) :: es.toList) := pm.trans (List.perm_append_singleton _ _)
    have pk : (es1.toList.map txK).Perm (k :: es.toList.map txK) := pc.map txK
    have g1 : ∀ e ∈ es1.toList, TxE P w e := fun e he => by
      rcases List.mem_cons.mp (pc.mem_iff.mp he) with z | z
      · rw [z]; exact ⟨k, tk, rfl, rfl⟩
      · exact g e z
    have pm1 : (es1.toList.map txK).Perm (k :: M) := pk.trans (List.Perm.cons _ pmM)
    have nd1 : (k :: M).Nodup := List.nodup_cons.mpr ⟨hkM, nd⟩
    have hsz : es1.size = M.length + 1 := by
      have q := pm1.length_eq
      rw [List.length_map, Array.length_toList, List.length_cons] at q
      exact q
    have hb1 : es1.size < scanBound := by rw [hsz]; exact room
    have hled : w.params.followText "set-order" = true ∨ t1.led = true := hl.imp id fun z => by rw [hl1]; exact z
    have fin : ∀ h', Heap.SameBut a s.heap h' → TxSet P w h' a (k :: M) → Q true { s with heap := h' } := fun h' sb r => hQ h' _ sb (by rw [eM]; exact r)
    refine wpAny_bind (hgw _ ?_)
    split
    · refine wpAny_bind ?_
      rw [hashByValue_scannable 8 hsc]
      refine wpAny_pure ?_
      refine tx_tail ?_ ho hex hd g1 pm1 nd1 hb1 ?_ ?_ ?_ ?_
      · intro b s₁ Q' q; cases b <;> first | exact wpAny_pure q | exact wpAny_rule q
      · first | (split <;> first | exact hf1 | exact SetTable.fits_plain_off hf1) | exact hf1 | exact SetTable.fits_plain_off hf1
      · first | (split <;> exact hr1) | exact hr1
      · first | (split <;> exact hled) | exact hled
      · intro h' sb r; dsimp only; exact wpAny_pure (fin h' sb r)
    · refine wpAny_bind (wpAny_pure ?_)
      simp only [↓reduceIte]
      refine tx_tail ?_ ho hex hd g1 pm1 nd1 hb1 hf1 hr1 hled ?_
      · intro b s₁ Q' q; cases b <;> first | exact wpAny_pure q | exact wpAny_rule q
      · intro h' sb r; dsimp only; exact wpAny_pure (fin h' sb r)
theorem tx_fresh {h : Heap} {a : Addr} (ho : h.get? a = some { cls := .type "set", dict := none, data := .set #[] 0 (.fresh 0 0 (!w.params.followText "set-order")) }) : TxSet P w h a [] :=
  ⟨_, #[], 0, _, ho, ⟨rfl, rfl, rfl⟩, rfl, (fun e he => by simp at he), (by simp), (by simp), (by decide), (by rfl), List.Pairwise.nil, by
    show _ ∨ (!w.params.followText "set-order") = true
    cases w.params.followText "set-order"
    · exact .inr rfl
    · exact .inl rfl⟩
theorem fold_len (xs M : List Str) : (xs.foldl ins M).length ≤ M.length + xs.length := by
  induction xs generalizing M with
  | nil => exact Nat.le_refl _
  | cons x r ih =>
    have q := ih (ins M x)
    have q2 := ins_len M x
    rw [List.foldl_cons, List.length_cons]
    omega
/-- set.update over a walk of texts -/
theorem tx_update {I : Addr} {fp wr : List Addr} {G : Array GenState → Array GenState → Prop} {n : Nat} {Pv : Nat → Value → Prop} {St : Nat → Shared → Prop} {R : Result → Shared → Prop}
    (W : WalksS P w A.in1 I fp wr G n Pv St) (S : Addr) (hSf : S ∉ fp) (xs : List Str) (hn : n = xs.length) (hb : xs.length + 1 < scanBound) (hval : ∀ i v, Pv i v → ∃ k t, xs[i]? = some k ∧ v = .str k t) :
    ∀ (k i : Nat) (s : Shared), n - i = k → i ≤ n → St i s → TxSet P w s.heap S ((xs.take i).foldl ins []) →
      (∀ s', Moved (S :: wr) G s s' → TxSet P w s'.heap S (xs.foldl ins []) → R (.ok (.ret .none)) s') →
      codeAny (model P w) A (.builtin "set.update.loop" ⟨[.ref S, .ref I], []⟩) R s := by
  have hSw : S ∉ wr := fun z => hSf (W.sub _ z)
  have hsub : ∀ b ∈ wr, b ∈ S :: wr := fun b z => List.mem_cons_of_mem _ z
  intro k
  induction k with
  | zero =>
    intro i s hk' hi hst hS hR
    have hin : i = n := by omega
    subst hin
    refine codeAny_builtin F.entry_set_update_loop ?_
    rw [Around.under_plainId F.plain_set_update_loop _]
    show wpAny _ A.in1 (pyNext (.ref I) >>= _) _ _ s
    refine wpAny_bind (W.done s _ _ hst fun s' hm => ?_)
    show wpAny _ A.in1 (ret Value.none) _ _ s'
    have e : xs.take i = xs := List.take_of_length_le (by omega)
    rw [e] at hS
    exact wpAny_pure (hR s' (hm.mono hsub) (hS.at fun o e => hm.heap S o hSw e))
  | succ k ih =>
    intro i s hk hi hst hS hR
    have hlt : i < n := by omega
    refine codeAny_builtin F.entry_set_update_loop ?_
    rw [Around.under_plainId F.plain_set_update_loop _]
    show wpAny _ A.in1 (pyNext (.ref I) >>= _) _ _ s
    refine wpAny_bind (W.item i s _ _ hlt hst fun v s' hP hst' hm => ?_)
    obtain ⟨x, tk, hx, rfl⟩ := hval i v hP
    have hS' : TxSet P w s'.heap S ((xs.take i).foldl ins []) := hS.at fun o e => hm.heap S o hSw e
    have ml := fold_len (xs.take i) []
    have tl2 : (xs.take i).length ≤ xs.length := by rw [List.length_take]; omega
    show wpAny _ A.in1 (holding [Value.str x tk] (setAdd S (.str x tk)) >>= _) _ _ s'
    refine wpAny_bind (wpAny_holding ?_)
    unfold setAdd
    refine wpAny_holding ?_
    refine wpAny_bind ((strKind P w).pyHash (k := x) (strKind_is _ _ _ _) ?_)
    refine tx_add (s := { s' with toks := s'.toks + 1 }) hS' (by simp only [List.length_nil] at ml; omega) fun h' b hsb hS2 => ?_
    have hSi : TxSet P w h' S ((xs.take (i + 1)).foldl ins []) := by
      rw [List.take_add_one, hx, List.foldl_append]
      exact hS2
    refine wpAny_pure ⟨plainId_quiet F.plain_set_update_loop _, ih (i + 1) _ (by omega) hlt (W.frame _ s' _ _ hst' (Nat.le_succ _) fun b hb o e => ?_) hSi fun s'' hm'' hS'' => ?_⟩
    · rw [hsb.2 b (fun z : b = S => hSf (by rw [← z]; exact hb))]; exact e
    · refine hR s'' (Moved.trans W.gtrans ((hm.mono hsub).then_heap (Nat.le_succ _) fun b o hb e => ?_) hm'') hS''
      rw [hsb.2 b (fun z : b = S => hb (by rw [z]; exact List.mem_cons_self))]; exact e
set_option maxHeartbeats 6400000 in
theorem tx_of_list {l : Addr} {items : Array Value} {xs : List Str} {Q : Value → Shared → Prop} (hh : A.handled = none) (hl : s.heap.IsList l items) (hi : StrsAre items.toList xs) (hb : xs.length + 1 < scanBound)
    (h : ∀ (h' : Heap) (tk : Nat), TxSet P w h' s.heap.objs.size (xs.foldl ins []) → (∀ b o, s.heap.get? b = some o → h'.get? b = some o) → Q (.ref s.heap.objs.size) { s with heap := h', toks := tk }) :
    wpAny (model P w) A (call (.type "set") [.ref l]) Q E s := by
  have hisz : items.size = xs.length := by rw [← StrsAre.len_eq hi, Array.length_toList]
  obtain ⟨c, tl, hmro⟩ := F.called_set.mro
  have hmade := F.called_set.made
  have hsub := F.called_set.sub
  refine wpAny_call (codeAny_of_tree ?_)
  show wpAny _ _ (callAny (.type "set") _) _ _ _
  refine wpAny_pure ⟨Code.quiet_builtin _ (by decide +kernel), codeAny_builtin F.entry_type_call ?_⟩
  rw [Around.under_plain (weight_type_call_type "set" [.ref l] []) rfl]
  have h1 := F.called_set.notType
  have h2 := F.called_set.canCreate
  have hct := F.typeCall_set_1 (.ref l)
  repeat (any_goals (first | assumption | wp_step))
  refine codeAny_mono (code_set_led1 (.ref l) (E := E) (Q₁ := fun obj s₁ => obj = .ref s.heap.objs.size ∧ s₁ = { s with heap := s.heap.push { cls := .type "set", dict := none, data := .set #[] 0 (.fresh 0 0 (!w.params.followText "set-order")) } }) ⟨rfl, rfl⟩) fun r s₁ hr => ?_
  cases r with
  | error e => exact hr
  | ok fl =>
    cases fl with
    | ret obj =>
      obtain ⟨rfl, rfl⟩ := hr
      have hS : (s.heap.push { cls := .type "set", dict := none, data := .set #[] 0 (.fresh 0 0 (!w.params.followText "set-order")) }).get? s.heap.objs.size = some { cls := .type "set", dict := none, data := .set #[] 0 (.fresh 0 0 (!w.params.followText "set-order")) } := Heap.get?_push_size _ rfl
      have hT : Shared.TypeIs { s with heap := s.heap.push { cls := .type "set", dict := none, data := .set #[] 0 (.fresh 0 0 (!w.params.followText "set-order")) } } (.ref s.heap.objs.size) "set" := ⟨_, hS, rfl⟩
      have hli := F.called_set.init.lookup
      have hbi := F.called_set.init.bind (.ref s.heap.objs.size)
      repeat (any_goals (first | assumption | wp_step))
      refine codeAny_mono (codeAny_call_builtin (R := wants (fun r s₂ => r = .none ∧ ∃ h' tk, s₂ = { s with heap := h', toks := tk } ∧ TxSet P w h' s.heap.objs.size (xs.foldl ins []) ∧
          (∀ b o, s.heap.get? b = some o → h'.get? b = some o)) E) F.called_set.init.plain F.entry_set_init (check_set_init_1 hT ?_)) fun r₂ s₂ hr₂ => ?_
      · obtain ⟨ol, hol, hcl, nl, hdl⟩ := hl
        obtain ⟨ocls, odict, odata, oslots⟩ := ol
        simp only at hcl hdl
        subst hcl; subst hdl
        have hol' : (s.heap.push { cls := .type "set", dict := none, data := .set #[] 0 (.fresh 0 0 (!w.params.followText "set-order")) }).get? l = some { cls := .type "list", dict := odict, data := .seq items nl, slots := oslots } := Heap.get?_push_of_some _ hol
        have hsls := F.sub_list_set
        have hslf := F.sub_list_frozenset
        have hne : (Value.type "list" == Value.type "dict") = false := by decide
        have hl1 : (s.heap.push { cls := .type "set", dict := none, data := .set #[] 0 (.fresh 0 0 (!w.params.followText "set-order")) }).IsList l items := ⟨_, hol', rfl, nl, rfl⟩
        unfold Builtin.«set.__init__» noKeywords Builtin.Frozenset.updateFrom
        generalize hPI : pyIter = PI
        wp_walk
        subst hPI
        refine wpAny_pyIter_list hl1 ?_
        refine wpAny_bind (wpAny_runValue ?_)
        have hlS : l < s.heap.objs.size := Heap.lt_size hol
        have hh3 : A.in1.in1.in1.handled = none := by simp [hh]
        have hneI : l ≠ (s.heap.push { cls := .type "set", dict := none, data := .set #[] 0 (.fresh 0 0 (!w.params.followText "set-order")) }).objs.size := by
          rw [Heap.size_push]; exact Nat.ne_of_lt (Nat.lt_succ_of_lt hlS)
        have hSf : s.heap.objs.size ∉ [(s.heap.push { cls := .type "set", dict := none, data := .set #[] 0 (.fresh 0 0 (!w.params.followText "set-order")) }).objs.size, l] := by
          rw [Heap.size_push]; simp only [List.mem_cons, List.mem_singleton, List.not_mem_nil, or_false, not_or]
          exact ⟨Nat.ne_of_lt (Nat.lt_succ_self _), Nat.ne_of_gt hlS⟩
        have hval : ∀ (i : Nat) (v : Value), items[i]? = some v → ∃ k t, xs[i]? = some k ∧ v = .str k t := fun i v hv => by
          have hi2 : i < xs.length := by rw [← hisz]; exact (Array.getElem?_eq_some_iff.mp hv).1
          obtain ⟨t, e⟩ := SS.strs_at hi i v (by rw [Array.getElem?_toList]; exact hv)
          refine ⟨xs[i], t, List.getElem?_eq_getElem hi2, ?_⟩
          rw [e, List.getD_eq_getElem?_getD, List.getElem?_eq_getElem hi2] <;> rfl
        refine tx_update ((Walks.list hh3 _ l hneI items).toS) s.heap.objs.size
          hSf xs hisz hb hval (items.size - 0) 0 _ (by omega) (Nat.zero_le _)
          ⟨⟨_, Heap.get?_push_size _ rfl, rfl, rfl⟩, (hl1.push _)⟩ ?hS0 ?hR
        case hS0 => exact tx_fresh (Heap.get?_push_of_some _ hS)
        case hR =>
          intro s' hm hS'
          obtain ⟨h', g', d', tk', os'⟩ := s'
          have eg : g' = s.gens := hm.gens
          have ed : d' = s.drawn := hm.drawn
          have eo : os' = s.os := hm.os
          subst eg; subst ed; subst eo
          show wpAny _ _ _ _ _ _
          refine wpAny_pure ?_
          show wpAny _ _ (ret Value.none) _ _ _
          refine wpAny_pure ⟨rfl, h', tk', rfl, hS', fun b o e => ?_⟩
          have hb0 : b < s.heap.objs.size := Heap.lt_size e
          have hb1 : b ≠ s.heap.objs.size := Nat.ne_of_lt hb0
          have hb2 : b ≠ (s.heap.push { cls := .type "set", dict := none, data := .set #[] 0 (.fresh 0 0 (!w.params.followText "set-order")) }).objs.size := by
            rw [Heap.size_push]; exact Nat.ne_of_lt (Nat.lt_succ_of_lt hb0)
          exact hm.heap b o (by simp only [List.mem_cons, List.mem_singleton, List.not_mem_nil, or_false, not_or]; exact ⟨hb1, hb2⟩) (Heap.get?_push_of_some _ (Heap.get?_push_of_some _ e))
      · cases r₂ with
        | error e => exact hr₂
        | ok fl₂ =>
          cases fl₂ with
          | ret r =>
            obtain ⟨rfl, h', tk, rfl, hS', hk'⟩ := hr₂
            repeat (any_goals (first | assumption | wp_step))
            exact h _ _ hS' hk'
          | _ => exact hr₂.elim
    | _ => exact hr.elim
theorem strs_mem : ∀ {us : List Value}, (∀ u ∈ us, ∃ k tk, u = Value.str k tk) → ∃ ys, StrsAre us ys
  | [], _ => ⟨[], .nil⟩
  | u :: us, g => by
    obtain ⟨k, tk, rfl⟩ := g u List.mem_cons_self
    obtain ⟨ys, r⟩ := strs_mem fun v hv => g v (List.mem_cons_of_mem _ hv)
    exact ⟨k :: ys, .cons k tk r⟩
theorem strs_txK : ∀ {us : List Value} {ys : List Str}, StrsAre us ys → us.map (fun u => txK (0, u)) = ys
  | _, _, .nil => rfl
  | _, _, .cons y t r => by rw [List.map_cons, strs_txK r] <;> rfl
theorem sorted_tx {Q : Value → Shared → Prop} (R : TxSet P w s.heap a M) (hh : A.handled = none) (h64 : M.length < 64)
    (hQ : ∀ s' p (out : Array Value) (c : Nat) (ys : List Str), (∀ b o, s.heap.get? b = some o → s'.heap.get? b = some o) → s'.gens = s.gens → s'.os = s.os → s.heap.objs.size ≤ p →
      s'.heap.get? p = some (seqObj "list" out c) → StrsAre out.toList ys → ys.Perm M → sortedS ys = true → Q (.ref p) s') :
    wpAny (model P w) A (call (.builtin "sorted") [.ref a]) Q E s := by
  obtain ⟨o, es, ep, t, ho, hex, hd, g, pmM, nd, hb, hf, hr, hl⟩ := R
  refine Calls.call_function_entry kind_sorted plain_sorted entry_sorted (args_sorted1 _) ?_
  unfold Builtin.«sorted»
  refine wpAny_bind (m := checkCount "sorted" 1 1 _) (wpAny_pure ?_)
  refine wpAny_bind (collect_set (A := A.in1) hh ⟨o, ho, hex.1, hd⟩ hf hb hr hl fun s1 vs k1 hz g1 o1 pm => ?_)
  have hvl : vs.length = M.length := by rw [pm.length_eq, List.length_map, ← pmM.length_eq, List.length_map]
  obtain ⟨zs, hI⟩ := strs_mem (us := vs) fun v hv => by
    obtain ⟨e, he, q⟩ := List.mem_map.mp (pm.mem_iff.mp hv)
    obtain ⟨k, tk, h1, _⟩ := g e he
    exact ⟨k, tk, by rw [← q]; exact h1⟩
  have pz : zs.Perm M := by
    have q := pm.map fun u => txK (0, u)
    rw [strs_txK hI, List.map_map] at q
    have e : (fun u => txK (0, u)) ∘ (fun x : Int × Value => x.2) = txK := by
      funext x
      rfl
    rw [e] at q
    exact q.trans pmM
  refine wpAny_bind (wpAny_newList ?_ (by rw [hvl, sizeLine_eq]; omega))
  have hoL : (s1.heap.push (seqObj "list" vs.toArray 0)).get? s1.heap.objs.size = some (seqObj "list" vs.toArray 0) := Heap.get?_push_size _ rfl
  refine wpAny_bind (wpAny_holding (wpAny_call_entry slot_list_sort ⟨_, hoL, rfl⟩ entry_list_sort (list_sort_treeK strKind_oneLt hoL hI.keysOf (fun v₁ v₂ rest e => keyKind_strs (by rw [← e]; exact hI)) (by rw [hvl]; exact h64) fun st' hp hs => ⟨_, rfl, ?_⟩) (args_list_sort _)))
  obtain ⟨ys, a1, a2, a3⟩ := sorted_out_str hI hp hs
  generalize (arrOf st').map (·.2) = out at a1 ⊢
  obtain ⟨c, hc⟩ := sortedHeap_at (vs := vs) (out := out) hoL
  refine wpAny_pure ⟨_, rfl, hQ _ s1.heap.objs.size out c ys (fun b u e => ?_) g1 o1 hz hc a1 (a2.trans pz) a3⟩
  have q := k1 b u e
  have hlt := Heap.lt_size q
  show (sortedHeap (s1.heap.push (seqObj "list" vs.toArray 0)) s1.heap.objs.size vs out).get? b = some u
  rw [sortedHeap_old (Nat.ne_of_lt hlt) (by rw [size_push']; exact Nat.lt_succ_of_lt hlt)]
  exact Heap.get?_push_of_some _ q
end
/-! the rules -/
def TxSO (P : Program) (w : World) (a : Addr) (M : List Str) : HO := .ext fun h => TxSet P w h a M
theorem txSO_new {P : Program} {w : World} {H : Hp} {h : Heap} {a : Addr} {M : List Str} (R : TxSet P w h a M) : ObjOk P w H h a (TxSO P w a M) := by
  have ⟨o, _, _, _, ho, _⟩ := R
  exact ⟨R, ⟨o, ho⟩, fun h1 h2 p k => TxSet.at p k⟩
section
variable {X : Cx}
def rSetOfS (K : PySem.W.Frag) (P : Program) (w : World) : List V → Hp → VK → Prop := fun vs H Q => ∃ (l : Addr) (xs : List Str), vs = [V.ref l] ∧ SqL K H l (xs.map V.str) ∧ xs.length < 64 ∧ ∀ a, H a = none → Q (.ref a) (upd H a (TxSO P w a (xs.foldl ins [])))
theorem cr_setOfS (hc : X.calm = true) : CallR X (.type "set") (rSetOfS X.K X.prog X.w) := by
  intro pins s σ H vs us Q I r h
  obtain ⟨l, xs, rfl, hl, hf, q⟩ := h
  rw [Vals.ref1 r]
  obtain ⟨its, rv, pl, hz⟩ := I.list hl
  have hn : H s.heap.objs.size = none := I.hok.fresh (Nat.le_refl _)
  refine tx_of_list (P := X.prog) (w := X.w) (xs := xs) (I.ok.hd hc) pl.isList (by simpa using rv.strs) (by unfold scanBound; omega) fun h' tk R k => ?_
  exact ⟨.ref s.heap.objs.size, upd H s.heap.objs.size (TxSO X.prog X.w s.heap.objs.size (xs.foldl ins [])), I.laid (t' := tk) k (Nat.le_refl _) (txSO_new R), rfl, q _ hn⟩
def rSortedTx (P : Program) (w : World) : List V → Hp → VK → Prop := fun vs H Q => ∃ (a : Addr) (M : List Str), vs = [V.ref a] ∧ H a = some (TxSO P w a M) ∧ M.length < 64 ∧ ∀ (ys : List Str) (p : Addr), ys.Perm M → sortedS ys = true → H p = none → Q (.ref p) (upd H p (.lst (ys.map V.str)))
theorem cr_sortedTx (hc : X.calm = true) : CallR X (.builtin "sorted") (rSortedTx X.prog X.w) := by
  intro pins s σ H vs us Q I r h
  obtain ⟨a, M, rfl, ha, h64, q⟩ := h
  have R : TxSet X.prog X.w s.heap a M := (I.hok a _ ha).1
  rw [Vals.ref1 r]
  refine sorted_tx R (I.ok.hd hc) h64 fun s' p out c ys k g o hp hg hi pm st => ?_
  have hlen : (ys.map V.str).length ≤ sizeLine := by rw [List.length_map, pm.length_eq, sizeLine_eq]; omega
  have hn : H p = none := I.hok.fresh hp
  have J : Inv X pins σ (upd H p (.lst (ys.map V.str))) { s with heap := s'.heap, gens := s'.gens, drawn := s'.drawn, toks := s'.toks } :=
    I.call (ch := []) (Un.laid k hp hn) (I.hok.laid k hp ⟨hlen, out.toList, c, vals_of_strs hi, hg⟩) (by rw [g]; exact I.bare) (fun _ z => nomatch z)
  have e : s' = { s with heap := s'.heap, gens := s'.gens, drawn := s'.drawn, toks := s'.toks } := by
    cases s'
    cases s
    cases o
    rfl
  rw [e]
  exact ⟨.ref p, _, J, rfl, q ys p pm st hn⟩
end
end Mx

namespace Gx
open PySem PySem.Spec PyProof.Rows L2 GenW
/-! ### the judgements of a generator's body, their readings spelled in the body's own context -/
section
variable {C : GX} {S : GSpec} {st : Stmt} {ds : Shared}
abbrev XP := List (Addr × Obj)
def dH : Hp := fun _ => none
def dS : Shared := {}
theorem g_psX {t : XP → Shared → Hp → XK → TS} (h : ∀ (xp : XP) (s0 : Shared) (H0 : Hp) (E : XK), PS (C.X xp s0 H0 E) st (t xp s0 H0 E)) (e : ∀ xp s0 H0 E, t xp s0 H0 E = t [] dS dH E := by intros; rfl) : GSt C S st (tPl (t [] dS dH)) :=
  g_ps fun xp s0 H0 E => by rw [← e xp s0 H0 E]; exact h xp s0 H0 E
theorem g_ifX {c : Expr} {a b : List Stmt} {pos : Pos} {tc : XP → Shared → Hp → XK → TT} {t u : TG2 S.τ} (hc : ∀ (xp : XP) (s0 : Shared) (H0 : Hp) (E : XK), PT (C.X xp s0 H0 E) c (tc xp s0 H0 E)) (ha : GSts C S a t) (hb : GSts C S b u)
    (e : ∀ xp s0 H0 E, tc xp s0 H0 E = tc [] dS dH E := by intros; rfl) : GSt C S (.If c a b pos) (tIf2 (tc [] dS dH) t u) :=
  g_if (fun xp s0 H0 E => by rw [← e xp s0 H0 E]; exact hc xp s0 H0 E) ha hb
theorem g_whileX {test : Expr} {body : List Stmt} {pos : Pos} {tc : XP → Shared → Hp → XK → TT} {tb : TG2 S.τ} (hc : ∀ (xp : XP) (s0 : Shared) (H0 : Hp) (E : XK), PT (C.X xp s0 H0 E) test (tc xp s0 H0 E)) (hb : GSts C S body tb)
    (e : ∀ xp s0 H0 E, tc xp s0 H0 E = tc [] dS dH E := by intros; rfl) : GSt C S (.While test body [] pos) (tWh2 (tc [] dS dH) tb) :=
  g_while (fun xp s0 H0 E => by rw [← e xp s0 H0 E]; exact hc xp s0 H0 E) hb
theorem g_yieldX {e : Expr} {yp pos : Pos} {te : XP → Shared → Hp → XK → TE} (nc : C.env.cells = []) (he : ∀ (xp : XP) (s0 : Shared) (H0 : Hp) (E : XK), PE (C.X xp s0 H0 E) e (te xp s0 H0 E)) (hco : C.scope.isCoroutine = false)
    (q : ∀ xp s0 H0 E, te xp s0 H0 E = te [] dS dH E := by intros; rfl) (hin : interactive C.env = false := by rfl) : GSt C S (.Expr (.Yield (some e) yp) pos) (tYd S (te [] dS dH)) :=
  g_yield nc (fun xp s0 H0 E => by rw [← q xp s0 H0 E]; exact he xp s0 H0 E) hco hin
end
end Gx

namespace Mx
open PySem PySem.Spec PyProof.Rows L2
/-! ### a method that begins with super().m(x) -/
/-- its context: the cell of its class is older than the call -/
def cxC (CX : CXT) (P : Program) (w : World) (K : PySem.W.Frag) (mg : Str → Option Value) (base : Heap) (N : List Str) (qual : Str) (scope : Scope) (f : Addr) (cd : Value) (cc : Addr) (A : Around) (outer : List Env) (s : Shared) (H : Hp) (E : XK) : Cx where
  prog := P
  w := w
  K := K
  mg := mg
  base := base
  A := A.deeper (PySem.W.ksEnv qual scope s.heap.objs.size f cd cc)
  N := N
  s_0 := s
  H_0 := H
  env := PySem.W.ksEnv qual scope s.heap.objs.size f cd cc
  outer := outer
  stack := PySem.W.ksEnv qual scope s.heap.objs.size f cd cc :: outer
  ex := []
  calm := true
  fn := fun x => !(x == ("__class__" : Str))
  pn := []
  xe := fun e s' => wpAny (model P w) (A.deeper (PySem.W.ksEnv qual scope s.heap.objs.size f cd cc)) (leaving (PySem.W.ksEnv qual scope s.heap.objs.size f cd cc) e) (fun _ s'' => CX outer H s E e s'') (fun e' s'' => CX outer H s E e' s'') s'
structure SupScope (N P : List Str) (sc : Scope) : Prop where
  kind : sc.kind = .function
  co : sc.isCoroutine = false
  gen : sc.isGenerator = false
  nd : N.Nodup
  pre : N.take P.length = P
  par : ∀ x ∈ P, sc.names.lookup x = some .local
  nocell : ∀ y ∈ sc.names, y.2 ≠ .cell
  free : ∀ y ∈ sc.names, y.2 = .free → y.1 = "__class__"
  cl : sc.names.lookup ("__class__" : Str) = some .free
  sup : sc.names.lookup ("super" : Str) = some .globalImplicit
theorem inv_startC {CX : CXT} {P : Program} {w : World} {K : PySem.W.Frag} {mg : Str → Option Value} {base : Heap} {N ps : List Str} {qual : Str} {scope : Scope} {f cc : Addr} {cd : Value} {A : Around} {outer : List Env} {s : Shared} {h₀ : Heap} {H : Hp} {E : XK} {us : List Value} {vs : List V} {t' : Nat} {ocl : Obj} {vc : Option Value}
    (S : SupScope N ps scope) (hd : A.handled = none) (e0 : Env0 P w K mg base A outer s H) (hl : vs.length = ps.length) (r : Vals vs us) (hcc : K.lookup cc = some ocl) (hcd : ocl.data = .cell vc)
    (hns : h₀.Ns s.heap.objs.size (fun x => (ps.zip us).reverse.lookup x)) (hk : ∀ b o, s.heap.get? b = some o → h₀.get? b = some o) :
    Inv (cxC CX P w K mg base N qual scope f cd cc A outer s H E) [] (start N vs) H { s with heap := h₀, toks := t' } := by
  have hpl : ps.length ≤ N.length := by have := congrArg List.length S.pre; rw [List.length_take] at this; omega
  have noA : ∀ b : Addr, b ∉ (cxC CX P w K mg base N qual scope f cd cc A outer s H E).ex := fun b z => absurd (show b ∈ ([] : List Addr) from z) (by simp)
  have hb : base.get? cc = some ocl := e0.mod.kin _ _ hcc
  have cell1 : ∀ x c, (cxC CX P w K mg base N qual scope f cd cc A outer s H E).env.cells.lookup x = some c → x = "__class__" ∧ c = cc := fun x c h => by
    have h : ([(("__class__" : Str), cc)] : List (Str × Addr)).lookup x = some c := h
    rw [List.lookup_cons] at h
    cases q : (x == ("__class__" : Str)) with
    | true =>
      rw [q] at h
      exact ⟨eq_of_beq q, (Option.some.inj h).symm⟩
    | false =>
      rw [q] at h
      cases h
  refine ⟨⟨e0.mod, S.kind, rfl, rfl, Nat.le_refl _, fun y z c h1 h2 => ?_, fun y hy => ?_, fun y c hy h => ?_, fun _ => hd, Around.frames_deeper e0.frames, .inr ⟨rfl, rfl⟩, fun b z => absurd z (noA b), e0.bs, e0.bsz, fun b _ _ => noA b, fun b z => absurd z (noA b), e0.funs, e0.frf⟩,
    rfl, e0.bare, Un.kept hk, ⟨_, hns, fun i y v h1 h2 h3 => ?_⟩, fun y c h => ?_, e0.hok.fresh (Nat.le_refl _), fun y c h => ?_, fun p hp => absurd (show p ∈ ([] : List (Addr × Obj)) from hp) (by simp), e0.hok.kept hk, ?_⟩
  · rw [(cell1 _ _ h1).1, (cell1 _ _ h2).1]
  · have hy : scope.names.lookup y = some .cell ∨ scope.names.lookup y = some .free := hy
    rcases hy with hy | hy
    · exact absurd rfl (S.nocell _ (PySem.mem_of_lookup hy))
    · have e := S.free _ (PySem.mem_of_lookup hy) rfl
      have e : y = "__class__" := e
      subst e
      exact ⟨cc, rfl⟩
  · have e := (cell1 _ _ h).1
    subst e
    exact absurd (show (!(("__class__" : Str) == "__class__")) = true from hy) (by decide)
  · have hi : i < vs.length := by
      unfold L2.start at h2
      by_cases hi : i < vs.length
      · exact hi
      · rw [List.getElem?_append_right (by simpa using hi)] at h2
        rw [List.getElem?_replicate] at h2
        split at h2 <;> cases h2
    have ha : vs[i]? = some v := by
      unfold L2.start at h2
      rw [List.getElem?_append_left (by simpa using hi), List.getElem?_map] at h2
      cases e : vs[i]? with
      | none => rw [e] at h2; cases h2
      | some a => rw [e] at h2; cases h2; rfl
    obtain ⟨u, hu, rv⟩ := r.get ha
    have hp : ps[i]? = some y := by
      rw [← S.pre, List.getElem?_take_of_lt (by omega)]; exact h1
    have ndP : ps.Nodup := by rw [← S.pre]; exact S.nd.sublist (List.take_sublist _ _)
    have hk2 : (PySem.W.ksEnv qual scope s.heap.objs.size f cd cc).kindOf y = some .local := S.par y (List.mem_of_getElem? hp)
    refine ⟨u, rv, .inl ⟨hk2, ?_⟩⟩
    have q := bindL_get (m := fun _ => none) ndP hp hu hk2
    rw [bindL_loc _ _ (fun x hx => S.par x.1 (List.of_mem_zip hx).1)] at q
    rw [Option.or_none] at q
    exact q
  · rw [(cell1 _ _ h).2]
    obtain ⟨c, d, dd, sl⟩ := ocl
    exact ⟨vc, _, hk _ _ (e0.bs _ _ hb).1, hcd⟩
  · rw [(cell1 _ _ h).2]
    exact (e0.bs _ _ hb).2
  · unfold L2.start
    show _ = N.length
    rw [List.length_append, List.length_map, List.length_replicate]
    omega
/-- what of the text such a method needs -/
structure SupF (P : Program) (K : PySem.W.Frag) (mg : Str → Option Value) (D : Addr) (f : Addr) (fd : FuncData) (cda cc : Addr) : Prop where
  arg : ∃ ar, (fd.params.posonlyargs ++ fd.params.args).head? = some ar ∧ ar.arg = "self"
  code : ∃ ccl cdd vs ccs file tf, K.lookup cda = some ⟨ccl, cdd, .fields vs, ccs⟩ ∧ vs[2]? = some (.str file tf) ∧ ((P.main.file : Str) == file) = true
  cell : ∃ cl cld csl, K.lookup cc = some ⟨cl, cld, .cell (some (.ref D)), csl⟩
  clsD : ∃ cdD, PySem.W.clsIn K D = some cdD
  sup : mg "super" = none
  top : (P.main.scope.names.lookup ("super" : Str)).isSome = false
  opq : PySem.W.nsIn K cStatics "thirdparty.any" = some none
theorem fn_super {CX : CXT} {P : Program} {w : World} {K : PySem.W.Frag} {mg : Str → Option Value} {base : Heap} {k : Nat} {f cda cc D f2 : Addr} {fd2 : FuncData} {name qual nm y : Str} {params : Arguments} {rest : List Stmt} {scope : Scope} {dV kV doc pm ct oc : Value} {an od : Option Addr}
    {osl : Array (Option Value)} {N ps ps2 : List Str} {sp sp2 : Sp} {p0 p1 p2 p3 p4 p5 : Pos} {j : Nat} {pl : Sem Bool}
    (lk : K.lookup f = some ⟨oc, od, .func (PySem.W.ksFn name qual params (.Expr (.Call (.Attribute (.Call (.Name "super" p0) [] [] p1) nm p2) [.Name y p3] [] p4) p5 :: rest) scope dV kV doc pm an (.ref cda) ct cc), osl⟩) (hcd : PySem.W.codeIn K (.ref cda) qual = true) (S : SupScope N ps scope)
    (SF : SupF P K mg D f (PySem.W.ksFn name qual params (.Expr (.Call (.Attribute (.Call (.Name "super" p0) [] [] p1) nm p2) [.Name y p3] [] p4) p5 :: rest) scope dV kV doc pm an (.ref cda) ct cc) cda cc)
    (h0 : N[0]? = some ("self" : Str)) (hj : N[j]? = some y) (hself : scope.names.lookup ("self" : Str) = some .local) (hyl : scope.names.lookup y = some .local) (hyd : (y == ("__debug__" : Str)) = false) (hycd : (y == ("__classdict__" : Str)) = false) (hnm : (nm == ("__class__" : Str)) = false)
    (F2 : FnOk P w K mg base CX0 k f2 fd2 ps2 sp2) (hb2 : Binds K fd2 ps2 []) (ht2 : PySem.W.typeIn K (.ref f2) = some (.type "function")) (hf2 : PySem.W.fnIn K f2 = true)
    (len : ∀ vs H Q E, sp vs H Q E → vs.length = ps.length)
    (hbody : ∀ (A : Around) (outer : List Env) (s : Shared) (H : Hp) (vs : List V) (Q : VK) (E : XK), Room k (A.deeper (PySem.W.ksEnv qual scope s.heap.objs.size f (.ref cda) cc)) → sp vs H Q E →
      ∃ t a C dx fs v, PSs (cxC CX P w K mg base N qual scope f (.ref cda) cc A outer s H E) rest t ∧ vs[0]? = some (V.ref a) ∧ vs[j]? = some v ∧ H a = some (.ins C dx fs) ∧ PySem.W.mroIn K C (.ref D) = some true ∧ PySem.W.ks_superIn K C D nm = some (some (.ref f2)) ∧
        sp2 [.ref a, v] H (fun _ H2 => t { nx := fun _ H' => Q .non H', rt := Q } (L2.start N vs) H2) E0)
    (hev : ∀ L, eval (.Call (.Attribute (.Call (.Name "super" p0) [] [] p1) nm p2) [.Name y p3] [] p4) (PySem.W.ksEnv qual scope L f (.ref cda) cc) = (do
      let ov ← attributeBase (.Call (.Name "super" p0) [] [] p1) nm (PySem.W.ksEnv qual scope L f (.ref cda) cc) (eval (.Call (.Name "super" p0) [] [] p1) (PySem.W.ksEnv qual scope L f (.ref cda) cc))
      standAt p2.atName
      let (g, first) ← holding [ov] (getMethod ov nm pl)
      callWith p4 g first (backTo p4 (starEach [.Name y p3] (PySem.W.ksEnv qual scope L f (.ref cda) cc))) []) := by intro _; rfl)
    (hin : ∀ L, interactive (PySem.W.ksEnv qual scope L f (.ref cda) cc) = false := by intro _; rfl) (hsw : ∀ L, swapsWith (.Call (.Attribute (.Call (.Name "super" p0) [] [] p1) nm p2) [.Name y p3] [] p4) none p5.line (PySem.W.ksEnv qual scope L f (.ref cda) cc) = pure false := by intro _; rfl)
    (hst : ∀ L, starEach [.Name y p3] (PySem.W.ksEnv qual scope L f (.ref cda) cc) = (false, eval (.Name y p3) (PySem.W.ksEnv qual scope L f (.ref cda) cc)) :: starEach [] (PySem.W.ksEnv qual scope L f (.ref cda) cc) := by intro _; rfl) :
    FnOk P w K mg base CX (k + 1) f (PySem.W.ksFn name qual params (.Expr (.Call (.Attribute (.Call (.Name "super" p0) [] [] p1) nm p2) [.Name y p3] [] p4) p5 :: rest) scope dV kV doc pm an (.ref cda) ct cc) ps sp := by
  refine ⟨len, fun A outer s H args us vs Q E hr e0 hb r hsp => ?_⟩
  have hl := len _ _ _ _ hsp
  have hul : us.length = ps.length := by rw [← r.length, hl]
  have KX : K.In s.heap := e0.mod.kin.keeps fun b o e => (e0.bs b o e).1
  have lim : s.heap.NoLimit := e0.mod.nolimit.keeps fun b o e => (e0.bs b o e).1
  refine PySem.ks_codeAny_call_defAt hr.depth (KX _ _ lk) rfl lim (PySem.W.codeRec_of KX hcd) rfl hb S.nocell (fun x hx => S.par x.1 (List.of_mem_zip hx).1) (fun h₀ hns hk => ?_) S.co S.gen S.kind
  obtain ⟨t, a, C, dx, fs, v, ht, hv0, hvj, ha, hsub, hsm, hq⟩ := hbody A outer s H vs Q E (hr.deeper _) hsp
  obtain ⟨ar, har1, har2⟩ := SF.arg
  obtain ⟨ccl, cdd, cvs, ccs, file, tf, hcode, hvs, hfile⟩ := SF.code
  obtain ⟨cl, cld, csl, hcell⟩ := SF.cell
  obtain ⟨cdD, hD⟩ := SF.clsD
  have I : Inv (cxC CX P w K mg base N qual scope f (.ref cda) cc A outer s H E) [] (L2.start N vs) H { s with heap := h₀, toks := s.toks + (ps.zip us).length } := inv_startC S hr.hd e0 hl r hcell rfl hns hk
  have KX1 : K.In h₀ := KX.keeps hk
  have hs0 : (L2.start N vs)[0]? = some (some (V.ref a)) := by
    unfold L2.start
    rw [List.getElem?_append_left (by rw [List.length_map]; exact (List.getElem?_eq_some_iff.mp hv0).1), List.getElem?_map, hv0]
    rfl
  have hsj : (L2.start N vs)[j]? = some (some v) := by
    unfold L2.start
    rw [List.getElem?_append_left (by rw [List.length_map]; exact (List.getElem?_eq_some_iff.mp hvj).1), List.getElem?_map, hvj]
    rfl
  obtain ⟨m, hm, hlook⟩ := I.loc
  obtain ⟨u, hu, look⟩ := hlook 0 "self" (.ref a) h0 hs0 (.inl hself)
  obtain rfl : u = Value.ref a := hu
  have hmself : m "self" = some (.ref a) := by
    rcases look with ⟨_, e⟩ | ⟨e, _⟩
    · exact e
    · have e : scope.names.lookup ("self" : Str) = some .cell ∨ scope.names.lookup ("self" : Str) = some .free := e
      rw [hself] at e
      rcases e with e | e <;> cases e
  obtain ⟨mA, O, _⟩ := ins_get I.hok ha
  obtain ⟨od', J, _⟩ := O.look
  obtain ⟨mb, hb1, hb2'⟩ := I.mod.blt
  obtain ⟨oD, hD1, hD2⟩ : ∃ oD, h₀.get? D = some oD ∧ oD.data = .cls cdD := by
    unfold PySem.W.clsIn at hD
    split at hD
    · rename_i c d cd' sl ho
      cases hD
      exact ⟨_, KX1 _ _ ho, rfl⟩
    · cases hD
  refine PySem.ks_wpAt_execs_cons (PySem.ks_wpAt_Expr_any (PySem.ks_wpAt_MethodCall (pl := pl) ?_ (hev _)) (hin _) (hsw _))
  refine PySem.ks_wpAt_super_base (env := PySem.W.ksEnv qual scope s.heap.objs.size f (.ref cda) cc) S.sup S.cl hnm rfl (KX1 _ _ lk) rfl har1 rfl (KX1 _ _ hcode) rfl hvs hfile SF.top ?_
  refine PySem.W.ks_loadName_global S.kind S.sup (Calls.loadGlobal_builtin (env := PySem.W.ksEnv qual scope s.heap.objs.size f (.ref cda) cc) (I.mod.glob.keeps I.bk) SF.sup (hb1.keeps I.bk) ((hb2' "super" (by decide)).trans (show bootBuiltins "super" = some (.type "super") by kernel_rfl)) ⟨rfl, ?_⟩)
  refine wpAny_loadName_free S.kind S.cl rfl ⟨_, KX1 _ _ hcell, rfl⟩ ?_
  rw [har2]
  refine wpAny_loadName_local S.kind hself hm hmself ?_
  refine PySem.ks_wpAny_isType_cls hD1 hD2 ⟨rfl, ?_⟩
  refine PySem.ks_wpAny_call_super hD1 hD2 J.at_ J.cls (fun c e => by have q := J.no; unfold PySem.W.notCls at q; rw [e] at q; exact Bool.noConfusion q) (PySem.W.looks_mroIn KX1 hsub) (fun h' hso hk' => ?_)
  have I1 : Inv (cxC CX P w K mg base N qual scope f (.ref cda) cc A outer s H E) [] (L2.start N vs) H { s with heap := h', toks := s.toks + (ps.zip us).length } := I.kept hk'
  have KX2 : K.In h' := KX1.keeps hk'
  obtain ⟨mA2, O2, _⟩ := ins_get I1.hok ha
  obtain ⟨od2, J2, _⟩ := O2.look
  cases hcC : PySem.W.clsIn K C with
  | none => unfold PySem.W.ks_superIn at hsm; rw [hcC] at hsm; cases hsm
  | some cdC =>
    unfold PySem.W.ks_superIn at hsm
    rw [hcC] at hsm
    obtain ⟨of, hof, hofc⟩ : ∃ of, h'.get? f2 = some of ∧ of.cls = .type "function" := by
      have ht' : (K.lookup f2).map (·.cls) = some (.type "function") := ht2
      cases z : K.lookup f2 with
      | none => rw [z] at ht'; cases ht'
      | some of => rw [z] at ht'; exact ⟨of, KX2 _ _ z, Option.some.inj ht'⟩
    refine PySem.ks_wpAny_getMethod_super hso (PySem.W.looks_opaque KX2 SF.opq) (l₀ := cdC.mro) (fun A Q E s k q => wpAny_bind ((PySem.W.looks_clsIn KX2 hcC) A _ E s k (wpAny_pure q))) rfl KX2 hsm hof hofc (PySem.W.ks_ne KX2 J2 hcC) hnm ?_
    have I2 := ClX.pin_new (a := h'.objs.size) (o := PySem.W.methodObj (.ref f2) (.ref a)) (h' := h'.push (PySem.W.methodObj (.ref f2) (.ref a))) (t' := s.toks + (ps.zip us).length + 1) I1 (fun _ _ z => Heap.get?_push_of_some _ z) (Nat.le_refl _) (Heap.get?_push_size h' rfl) (fun v z => nomatch z)
    have hL : h'.objs.size ≠ (cxC CX P w K mg base N qual scope f (.ref cda) cc A outer s H E).env.locals := (I2.pin (h'.objs.size, PySem.W.methodObj (.ref f2) (.ref a)) (List.mem_append_right _ List.mem_cons_self)).2.2.1
    refine PySem.W.callWith_M (K := K) (h₀ := base) (first := []) e0.mod.kin (news_at hL (ClX.base_none I1 (Nat.le_refl _)) (ClX.pin_at I2)) List.mem_cons_self hf2 ?_ (hst _) rfl
    refine wpAny_mono ((pa_cons (pv j hj (.inl hyl) hyd hycd) pa_nil (hst _)).run p4 _ _ (L2.start N vs) H (fun vs' H' => vs' = [v] ∧ H' = H) I2 ⟨v, hsj, rfl, rfl⟩) (fun us2 s2 h2 => ?_) fun _ _ z => z
    obtain ⟨vs2, H2, I3, r2, rfl, rfl⟩ := h2
    refine ⟨⟨ClX.pin_at I3, I3.kIn⟩, ?_⟩
    refine wpAny_mono (wpAny_call (PySem.W.method_call (ClX.pin_at I3) (codeAny_mono (F2.run _ _ s2 _ ⟨.ref a :: us2, []⟩ (.ref a :: us2) [.ref a, v] _ E0 (hr.deeper _) I3.env0 (by
      have q := hb2 s2 (.ref a :: us2) I3.kIn (by rw [List.append_nil]; have e := F2.len _ _ _ _ hq; rw [← e, List.length_cons, ← r2.length]; rfl)
      rw [List.append_nil] at q
      exact q) (.cons rfl r2) hq) (fun rr s4 hq4 => ?_)))) (Q := EP (cxC CX P w K mg base N qual scope f (.ref cda) cc A outer s H2 E) ((h'.objs.size, PySem.W.methodObj (.ref f2) (.ref a)) :: []) (L2.start N vs) (fun _ H2 => t { nx := fun _ H' => Q .non H', rt := Q } (L2.start N vs) H2)) (fun u3 s3 h3 => ?_) fun _ _ z => z
    · cases rr with
      | error e => exact hq4.elim
      | ok fl =>
        cases fl with
        | ret u => exact I3.after hq4
        | next => exact False.elim hq4
        | brk => exact False.elim hq4
        | cont => exact False.elim hq4
    obtain ⟨v3, H3, I4, _, q3⟩ := ClX.unpinE h3
    refine wpAt_of_wpAny (wpAny_mono (ht.run [] s3 (L2.start N vs) H3 _ I4 q3) (fun fl s' hs => ?_) fun e s' hs => hs)
    have fin : ∀ {σ' : L2.St} {H' : Hp} {v : V} {u : Value}, Inv (cxC CX P w K mg base N qual scope f (.ref cda) cc A outer s H2 E) [] σ' H' s' → RelV v u → Q v H' → CE outer P w _ s Q u s' :=
      fun {σ' H' v u} J rv q => ⟨v, H', J.os, J.bare, J.base, J.hok, rv, q⟩
    cases fl with
    | ret u =>
      obtain ⟨v, σ', H', J, rv, q⟩ := hs
      exact fin J rv q
    | next =>
      obtain ⟨σ', H', J, q⟩ := hs
      exact fin (v := V.non) (u := Value.none) J rfl q
    | brk =>
      obtain ⟨_, _, _, q⟩ := hs
      exact False.elim q
    | cont =>
      obtain ⟨_, _, _, q⟩ := hs
      exact False.elim q
end Mx

namespace Gx
open PySem PySem.Spec PyProof.Rows L2 GenW
/-! ### f(k = v, ..) of a generator def -/
def tCall2K (S : GSpec) (start : List V → S.τ) (n : Nat) (gV : List V → List V → List V) (t : TA) : L2.St → Hp → (S.τ → Hp → Prop) → Prop := fun σ H R => t σ H fun zs H1 => (gV [] zs).length = n ∧ R (start (gV [] zs)) H1
section
variable {X : Cx} {S : GSpec} {start : List V → S.τ} {k : Nat} {f : Addr} {fd : FuncData} {ps ks : List Str} {x : Str} {p pos : Pos} {kws : List Keyword} {tk : TA} {g : List Value → List Value → List Value} {gV : List V → List V → List V}
theorem pgen2_kw0 (F : GFn2 X.prog X.w X.K X.mg X.base k f fd ps S start) (hr : Room k X.A) (hg : Gl X x) (hm : X.mg x = some (.ref f)) (hk : PySem.W.keepIn X.K (.ref f) = true)
    (hb : KBinds X.K fd ps ks g gV) (hkw : PK X kws tk) (hall : (backToKw pos (keywordEach kws X.env)).all (·.1.isSome) = true := by rfl)
    (hks : (backToKw pos (keywordEach kws X.env)).filterMap (·.1) = ks := by rfl) (hdb : (x == ("__debug__" : Str)) = false := by decide)
    (hpl : ((backTo pos (starEach [] X.env)).any (·.1) || (backToKw pos (keywordEach kws X.env)).any (·.1.isNone)) = false := by rfl) :
    PGen2 X S k (.Call (.Name x p) [] kws pos) (tCall2K S start ps.length gV tk) := by
  refine ⟨fun pins s σ H R I h => ?_⟩
  refine wpAny_Call_Name_kw (ld_glob I hg hm (PySem.W.callWith_KW0 (h₀ := X.base) I.ok.mod.kin hk hall (thn (hkw.run pos pins s σ H _ I h) fun ws s1 h1 => ?_) hpl) hdb)
  obtain ⟨zs, H1, I1, rz, hl, q⟩ := h1
  refine ⟨I1.kIn, ?_⟩
  rw [hks]
  have r2 := hb.rel (vs := []) (us := []) .nil rz
  have hl2 : (g [] ws).length = ps.length := by rw [← r2.length]; exact hl
  refine wpAny_call (codeAny_mono (F.run X.A X.stack s1 H1 ⟨[], ks.zip ws⟩ (g [] ws) (gV [] zs) hr I1.env0 (hb.to s1 [] ws I1.kIn hl2) r2 hl) fun r s' hq => ?_)
  cases r with
  | error e => exact False.elim hq
  | ok fl =>
    cases fl with
    | ret u => exact ⟨H1, s1, _, I1, hq, q⟩
    | next => exact False.elim hq
    | brk => exact False.elim hq
    | cont => exact False.elim hq
end
end Gx

namespace Mx
open PySem PySem.Spec PyProof.Rows L2
section
variable {J : It} {n : Nat} {G : Hp → Prop} {Y : Nat → Hp → V → Hp → Prop} {Tb : List (Addr × Str)}
/-- lc_flt, the turns may make lambdas -/
theorem lc_fltG (w : Walk J n G Y) {g : TG} {tt : TT} {te : TE} {vs : List Nat} {σ : L2.St} {H1 : Hp} {D : Addr} {Qd : Hp → Prop} (f : Nat → Bool) (y : Nat → V) (hD : H1 D = none) (hn : n ≤ 1000000)
    (hG : ∀ H, Go Tb H1 H → G H) (hY : ∀ i H x H', Y i H x H' → Same H H')
    (hs : ∀ i x H H' (Nx : V → Hp → Prop) (Mx : Hp → Prop), i < n → Go Tb H1 H → Y i H x H' → (f i = true → ∀ H4, Go Tb H' H4 → Nx (y i) H4) → (f i = false → ∀ H3, Go Tb H' H3 → Mx H3) →
      g x (wipe σ vs) H' fun σ2 H2 => wipe σ2 vs = wipe σ vs ∧ tt σ2 H2 fun b H3 => if b = true then te σ2 H3 Nx else Mx H3)
    (hd : ∀ H, Go Tb H1 H → H D = some (.lst (picked n f y)) → Qd H) :
    ∃ W : Nat → Nat → Hp → Prop, (∃ m, W 0 m (upd H1 D (.lst []))) ∧ ∀ i m H, W i m H →
      (J.stop i H ∧ Qd H) ∨ (J.go i H ∧ ∃ Nx : Hp → Prop, (∀ H', Nx H' → ∃ m', m' < m ∧ W (i + 1) m' H') ∧ ∀ x H', J.yld i H x H' → g x (wipe σ vs) H' fun σ2 H2 => wipe σ2 vs = wipe σ vs ∧ tt σ2 H2 fun b H3 =>
        if b = true then te σ2 H3 fun y H4 => ∃ acc, H4 D = some (.lst acc) ∧ acc.length < sizeLine ∧ Nx (upd H4 D (.lst (acc ++ [y]))) else Nx H3) := by
  refine lc_it w (fun i H => i ≤ n ∧ Go Tb H1 H ∧ H D = some (.lst (picked i f y))) ⟨Nat.zero_le _, go_new hD (Go.refl _ _), upd_same⟩ (fun i H _ p => hG H p.2.1) ?_ (fun H p => hd H p.2.1 p.2.2)
  rintro i x H H' hi ⟨_, go, e⟩ yy
  have sm := hY i H x H' yy
  refine hs i x H H' _ _ hi go yy (fun hf H4 s4 => ?_) (fun hf H3 s3 => ?_)
  · refine ⟨_, s4.lst (sm _ _ e), ?_, hi, go_set hD (s4.lst (sm _ _ e)) ((go.trans (.same sm)).trans s4), ?_⟩
    · have := picked_len i f y
      unfold sizeLine
      omega
    · rw [upd_same, picked_yes y hf]
  · exact ⟨hi, (go.trans (.same sm)).trans s3, by rw [picked_no y hf]; exact s3.lst (sm _ _ e)⟩
end
end Mx

namespace Gx
open PySem PySem.Spec PyProof.Rows L2 GenW
/-- what a turn of such a comprehension wishes -/
def wLcX (S : GSpec) (K : PySem.W.Frag) (Wx : WX) (σ0 : L2.St) (g : TG) (tt : TT) (te : TE) (vs : List Nat) (σ : L2.St) (Q : VK) (D : Addr) (Iv : Nat → S.τ → Hp → Prop) (m : Nat) : Wish S.τ where
  yd := fun x t2 H2 => ∃ Nx : Hp → Prop, (∀ H3, Nx H3 → S.Fr t2 H2 H3 ∧ ∃ m', m' < m ∧ Iv m' t2 H3) ∧ g x (wipe σ vs) H2 fun σ2 H3 => wipe σ2 vs = wipe σ vs ∧ tt σ2 H3 fun b H4 =>
    if b = true then te σ2 H4 fun y H5 => ∃ acc, H5 D = some (.lst acc) ∧ acc.length < sizeLine ∧ Nx (upd H5 D (.lst (acc ++ [y]))) else Nx H4
  dn := fun H2 => Q (.ref D) H2
  ex := fun cls d H2 => PySem.W.subIn K cls (.type "StopIteration") = some false ∧ Wx cls d σ0 H2
def tLcGX (S : GSpec) (K : PySem.W.Frag) (Wx : WX) (tg : L2.St → Hp → (S.τ → Hp → Prop) → Prop) (g : TG) (tt : TT) (te : TE) (vs : List Nat) : TE := fun σ H Q => tg σ H fun t0 H1 => ∀ D, H1 D = none → ∃ Iv : Nat → S.τ → Hp → Prop, (∃ m, Iv m t0 (upd H1 D (.lst []))) ∧
  (∀ m t H', Iv m t H' → S.W t H' (wLcX S K Wx σ g tt te vs σ Q D Iv m))
theorem noteFrame_frame {x : Value} {e e' : Env} (h : e.frame = e'.frame) : noteFrame x e = noteFrame x e' := by
  unfold PySem.noteFrame PySem.frameOf
  rw [h]
theorem none_of {base base' : Heap} {b : Addr} (hs : ∀ b o, base'.get? b = some o → base.get? b = some o) (e : base.get? b = none) : base'.get? b = none := by
  cases q : base'.get? b with
  | none => rfl
  | some o => rw [hs _ _ q] at e; cases e
theorem funs_but {base base' h h' : Heap} : ∀ {l : List Env}, h.FunFrames base l → (∀ b o, base'.get? b = some o → base.get? b = some o) → (∀ b ∈ frs l, h'.get? b = h.get? b) → h'.FunFrames base' l
  | [], _, _, _ => trivial
  | _ :: _, ⟨hk, ⟨F, o, hf, hb, ho, hd⟩, hr⟩, hs, hl => ⟨hk, ⟨F, o, hf, none_of hs hb, (hl F (mem_frs hf)).trans ho, hd⟩, funs_but hr hs fun b hb => hl b (mem_frs_tail hb)⟩
/-- an exception that leaves a comprehension: its names are let go, then it is in the consumer's air -/
theorem comp_leaves {X : Cx} {pins : List (Addr × Obj)} {σ : L2.St} {H : Hp} {s s' : Shared} {L : Addr} {W : WX} {E : XK} {ce : Env} {m : Str → Option Value} {u : Value} (I : Inv X pins σ H s) (ol : Old X pins L) (hfr : ce.frame = X.env.frame) (hLC : L ≤ ce.locals) (frl : ∀ b ∈ frs X.stack, b < L)
    (hs : X.stack = X.env :: X.outer) (hf : X.env.frame = some X.env.locals) (tk : Takes X W) (hW : ∀ cls d H', E cls d H' → H' ce.locals = none ∧ W cls d σ H') (hN : s'.heap.Ns ce.locals m) (c : CX X.prog X.w X.stack H (cutS s L) E u s') :
    notedBy (model X.prog X.w) X.A ce (fun e s'' => CompFails (model X.prog X.w) X.A X.xe ce e s'') u s' := by
  obtain ⟨a, B, H', cls, d, rfl, fl, hok, ub, na, os, ag, hE⟩ := c
  obtain ⟨nC, w⟩ := hW _ _ _ hE
  have hfrm : X.A.frames = some (X.env :: X.outer) := by rw [I.ok.frames, hs]
  show wpAny _ _ (noteFrame (.ref a) ce) (fun _ s2 => CompFails (model X.prog X.w) X.A X.xe ce (.ref a) s2) _ s'
  rw [noteFrame_frame hfr]
  refine HandSPX.looks_onZ Zc.steady hfrm hf (by rw [← hs]; exact fl) fun h1 held up => ?_
  obtain ⟨o, es, ep, ho, hd, hk⟩ := hN
  obtain ⟨sl, e1⟩ := up _ o ho (by intro vs z; rw [hd] at z; cases z)
  refine ⟨m, ⟨_, es, ep, e1, hd, hk⟩, fun h' m' hn' sb => ?_⟩
  obtain ⟨k1, k2, k3, oe, vs, T, oT, ts, he, hz, hd1, h1', hnT, hTe, hT, hdT, h3⟩ := id held
  have aC : a ≠ ce.locals := fun z => by rw [z, e1] at he; cases he; rw [hd] at hd1; cases hd1
  have tC : T ≠ ce.locals := fun z => by rw [z, e1] at hT; cases hT; rw [hd] at hdT; cases hdT
  have he' : h'.get? a = some oe := (sb.2 a aC).trans he
  have hT' : h'.get? T = some oT := (sb.2 T tC).trans hT
  have fC : ∀ b ∈ frs X.stack, b ≠ ce.locals := fun b hb z => by
    have q := frl b hb
    rw [z] at q
    exact absurd (Nat.lt_of_lt_of_le q hLC) (Nat.lt_irrefl _)
  unfold PySem.passOn
  refine wpAny_bind (wpAny_field he' hd1 h1' ?_)
  rw [if_neg (show ¬ ((Value.ref T == Value.none) = true) from by simp)]
  obtain ⟨B', hB'⟩ : ∃ B', B' = PySem.W.hideAll B [ce.locals] := ⟨_, rfl⟩
  have bo : ∀ b o, B'.get? b = some o → B.get? b = some o ∧ b ≠ ce.locals := fun b o e => by
    rw [hB'] at e
    refine ⟨PySem.W.of_hideAll _ e, fun z => ?_⟩
    rw [PySem.W.hideAll_none _ (by rw [z]; simp)] at e
    cases e
  have bi : ∀ b o, B.get? b = some o → b ≠ ce.locals → B'.get? b = some o := fun b o e n => by
    rw [hB']
    exact PySem.W.hideAll_get _ e (by simpa using n)
  have bn : ∀ b, B.get? b = none → B'.get? b = none := fun b e => by
    cases q : B'.get? b with
    | none => rfl
    | some o => rw [(bo b o q).1] at e; cases e
  have st' : B'.StaysIn h' := fun b o e => (sb.2 b (bo b o e).2).trans (k1 b o (bo b o e).1)
  have ff' : h'.FunFrames B' X.stack := by
    rw [hs]
    exact funs_but k3 (fun b o e => (bo b o e).1) fun b hb => sb.2 b (fC b (by rw [hs]; exact hb))
  have fin : wpAny (model X.prog X.w) X.A (setFlight (.ref a) ce.frame) (fun _ s4 => wpAny (model X.prog X.w) X.A (throw (.ref a) : Sem Value) (fun _ _ => False) X.xe s4) X.xe { s' with heap := h' } := by
    refine HandSPX.setFlight_anyZ (base := B') (l := X.stack) (Z := Zc cls d) (fl := rawInt X.env.locals) st' ff' ⟨oe, vs, T, oT, ts, he', hz, hd1, h1', bn _ hnT, hTe, hT', hdT, h3⟩ fun h2 st2 ff2 tr2 up2 => wpAny_throw (tk _ _ ?_)
    rw [hfr, hf] at tr2
    obtain ⟨G, g1, g2⟩ := restrict h2 fun b => (B'.get? b).isSome || decide (b ∈ frs X.stack)
    have gB : ∀ b o, B'.get? b = some o → G.get? b = some o := fun b o e => by
      rw [g1 b (by simp [e])]
      exact st2 b o e
    have gF : ∀ b, b ∈ frs X.stack → G.get? b = h2.get? b := fun b hb => g1 b (by simp [hb])
    have og : ∀ b o, G.get? b = some o → h2.get? b = some o ∧ ((B'.get? b).isSome = true ∨ b ∈ frs X.stack) := fun b o e => by
      cases q : ((B'.get? b).isSome || decide (b ∈ frs X.stack)) with
      | false => rw [g2 b q] at e; cases e
      | true =>
        rw [g1 b q] at e
        exact ⟨e, by simpa [Bool.or_eq_true] using q⟩
    have young : ∀ b o, (cutS s L).heap.get? b = some o → b ≠ ce.locals := fun b o e z => by
      have q := (cut_some e).1
      rw [z] at q
      exact absurd (Nat.lt_of_lt_of_le q hLC) (Nat.lt_irrefl _)
    have hok' : HOk X.prog X.w H' B' := fun b o q => (hok b o q).stay (fun c u hc r => bi c u r fun z => by
      rw [z] at hc
      rcases hc with hc | hc
      · rw [hc, q] at nC; cases nC
      · rw [hc] at nC; cases nC) (fun _ r => r) fun _ _ r => r
    have frame : ∀ (b : Addr) (o : Obj) sl, b ∈ frs X.stack → s'.heap.get? b = some { o with slots := sl } → (∀ vs, o.data ≠ .fields vs) → ∃ sl', G.get? b = some ({ o with slots := sl' } : Obj) := fun b o sl hb e hn => by
      obtain ⟨sl1, q1⟩ := up b _ e hn
      have q2 := (sb.2 b (fC b hb)).trans q1
      obtain ⟨sl2, q3⟩ := up2 b _ q2 hn
      exact ⟨sl2, by rw [gF b hb]; exact q3⟩
    have nof : ∀ (b : Addr) (o : Obj), (cutS s L).heap.get? b = some o → b ∈ frs X.stack → ∀ vs, o.data ≠ .fields vs := fun b o e hb => by
      obtain ⟨_, o₀, e₀, hnf⟩ := I.stack.mem hb
      rw [(cut_some e).2] at e₀; cases e₀
      exact hnf
    refine ⟨a, B', { s with heap := G, gens := s'.gens, drawn := s'.drawn, toks := s'.toks }, pins, σ, H', cls, d, rfl, ?_, fun b o e hb => ?_, Heap.UpToSlots.of_keeps fun b o e => (og b o e).1, .inr (.inr ⟨st2, bn _ k2, ff2, tr2⟩), na, os, ag, w⟩
    · refine after I ol rfl ag ⟨fun b o e n hb _ => gB b o (bi b o (ub.keep b o e n hb) (young b o e)), fun b o e n hb _ => ?_, fun b o e n _ => ub.free b o e n, fun b o e _ => ?_, ub.tups, ub.frzs, ub.tbls⟩ (hok'.kept gB)
      · have hb' : b ∈ frs X.stack := by assumption
        obtain ⟨sl, q⟩ := ub.slot b o e hb'
        exact frame b o sl hb' q (nof b o e hb')
      · by_cases hb : b ∈ frs X.stack
        · obtain ⟨sl, q⟩ := ub.slot b o e hb
          obtain ⟨sl', q'⟩ := frame b o sl hb q (nof b o e hb)
          exact ⟨_, q'⟩
        · obtain ⟨o', q⟩ := ub.there b o e hb
          exact ⟨o', gB b o' (bi b o' q (young b o e))⟩
    · obtain ⟨e', h⟩ := og b o e
      rcases h with h | h
      · obtain ⟨o', q⟩ := Option.isSome_iff_exists.mp h
        have z := st2 b o' q
        rw [e'] at z
        cases z
        exact q
      · exact absurd h hb
  first
    | exact wpAny_bind (wpAny_pure (wpAny_bind fin))
    | exact wpAny_bind fin
section
variable {X : Cx} {S : GSpec} {k : Nat} {tg : L2.St → Hp → (S.τ → Hp → Prop) → Prop}
theorem pe_lcGX {Wx : WX} {elt tgt iter : Expr} {ifs : List Expr} {scope : Scope} {own : List (Str × Nat)} {pos : Pos} {g : TG} {tt : TT} {te : TE} (tk : Takes X Wx) (hst : X.stack = X.env :: X.outer) (hfe : X.env.frame = some X.env.locals) (hc : X.calm = true) (hN : X.N.Nodup) (hr : Room (k + 1) X.A) (hi : PGen2 X S k iter tg) (ok : BlkOk X.N X.env.scope scope own) (hcl : ∀ n acc, cellsFrom n scope.names acc = acc)
    (hg : ∀ (s : Shared) (H : Hp) (C : Addr) (cl : List (Str × Addr)) (fp : List Addr), PG (X.blk s H scope (compEnvC scope cl C X.env) fp) tgt g) (ht : ∀ (s : Shared) (H : Hp) (C : Addr) (cl : List (Str × Addr)) (fp : List Addr), PTs (X.blk s H scope (compEnvC scope cl C X.env) fp) ifs tt)
    (he : ∀ (s : Shared) (H : Hp) (C : Addr) (cl : List (Str × Addr)) (fp : List Addr), PE (X.blk s H scope (compEnvC scope cl C X.env) fp) elt te) (hs : ∀ x, foldedSetIterable iter X.env x = pure x := by intro _; rfl) :
    PE X (.ListComp elt [⟨tgt, iter, ifs, 0⟩] scope pos) (tLcGX S X.K Wx tg g tt te (own.map (·.2))) := by
  refine ⟨fun pins s σ H Q I h => ?_⟩
  rw [eval_ListComp]
  have hfree : ∀ y ∈ scope.names, y.2 = .free → ∃ c, X.env.cells.lookup y.1 = some c := fun y hy e => by
    rcases ok.free y hy e with k | k
    · exact I.ok.has _ (.inl k)
    · exact I.ok.has _ (.inr k)
  refine comprehension_at (use := none) rfl hs (closure_ok hfree) ok.kind (fun y hy e => by rw [ok.uniq y hy, e]) (thn (hi.run pins s σ H _ I h) fun u s1 h1 => ?_)
  obtain ⟨H1, sc, t0, Ic, ⟨a, gn, c, go, lo, N, qual, fscope, f, cd, rfl, hLa, isg, dgo, dlo, hgo, hlo, hgs, hos, hbare, hkp, wake⟩, q⟩ := h1
  refine wpAny_pyIter_gen (isg _ hgo) ?_
  refine wpAny_newObj_type (newEnv_comp ?_) (by show 0 ≤ sizeLine; decide)
  have old : Old X pins sc.heap.objs.size := Old.of Ic
  obtain ⟨L, hL⟩ : ∃ L, L = sc.heap.objs.size := ⟨_, rfl⟩
  rw [← hL] at old hLa hlo wake
  have frl : ∀ b ∈ frs X.stack, b < L := fun b hb => by
    rcases List.mem_cons.mp (Ic.stkSub b hb) with z | z
    · rw [z]; exact old.loc
    · obtain ⟨_, o, e, _⟩ := Ic.ok.funs.mem z
      exact Nat.lt_of_lt_of_le (Heap.lt_size e) old.s0
  have I1 : Inv X pins σ H1 s1 := Ic.call' (ch := []) hos (Un.kept hkp) (Ic.hok.kept hkp) hbare fun b z => absurd z (by simp)
  have ha2 : a < s1.heap.objs.size := Heap.lt_size hgo
  generalize hD : s1.heap.objs.size = D
  have hDn : H1 D = none := I1.hok.fresh (Nat.le_of_eq hD)
  obtain ⟨Iv, ⟨m0, w0⟩, turn⟩ := q D hDn
  generalize hs3 : ({ s1 with heap := s1.heap.push { cls := .type "list", data := .seq ([] : List Value).toArray } } : Shared) = s3
  have I3 : Inv X pins σ (upd H1 D (.lst [])) s3 := by
    rw [← hs3]
    refine I1.laid (t' := s1.toks) (fun b o e => Heap.get?_push_of_some _ e) (Nat.le_of_eq hD) ⟨Nat.zero_le _, [], 0, .nil, ?_⟩
    rw [← hD]
    exact Heap.get?_push_size _ rfl
  have h3 : s3.heap = s1.heap.push { cls := .type "list", data := .seq ([] : List Value).toArray } := by rw [← hs3]
  have g3 : s3.gens = s1.gens := by rw [← hs3]
  have o3 : s3.os = s1.os := by rw [← hs3]
  have kp13 : ∀ b o, s1.heap.get? b = some o → s3.heap.get? b = some o := fun b o e => by rw [h3]; exact Heap.get?_push_of_some _ e
  have I4 := block_start (fp := []) I3 ok hN (fun b hb => nomatch hb)
  have cel : cellsFrom (s3.heap.objs.size + 1) scope.names (cloFrom X.env.cells scope.names []) = cloFrom X.env.cells scope.names [] := hcl _ _
  have pg := hg sc H1 s3.heap.objs.size (cellsFrom (s3.heap.objs.size + 1) scope.names (cloFrom X.env.cells scope.names [])) []
  have pt := ht sc H1 s3.heap.objs.size (cellsFrom (s3.heap.objs.size + 1) scope.names (cloFrom X.env.cells scope.names [])) []
  have pe := he sc H1 s3.heap.objs.size (cellsFrom (s3.heap.objs.size + 1) scope.names (cloFrom X.env.cells scope.names [])) []
  show codeAny _ _ (.compStart (.ListComp elt [⟨tgt, iter, ifs, 0⟩] scope pos) 0 (.ref a) (.ref D) (compEnvC scope (cellsFrom (s3.heap.objs.size + 1) scope.names (cloFrom X.env.cells scope.names [])) s3.heap.objs.size X.env)) (compEnds (model X.prog X.w) X.A X.xe none _ (.ref D) (compEnvC scope (cellsFrom (s3.heap.objs.size + 1) scope.names (cloFrom X.env.cells scope.names [])) s3.heap.objs.size X.env)) { s3 with heap := pushCells (s3.heap.push { cls := .type "dict", data := .dict #[] }) scope.names }
  have kp34 : ∀ b o, s3.heap.get? b = some o → (pushCells (s3.heap.push { cls := .type "dict", data := .dict #[] }) scope.names).get? b = some o := fun b o e => pushCells_keeps _ _ _ _ (Heap.get?_push_of_some _ e)
  have cO : ∀ x c, (compEnvC scope (cellsFrom (s3.heap.objs.size + 1) scope.names (cloFrom X.env.cells scope.names [])) s3.heap.objs.size X.env).cells.lookup x = some c → c < L := fun x c e => by
    have e : (cellsFrom (s3.heap.objs.size + 1) scope.names (cloFrom X.env.cells scope.names [])).lookup x = some c := e
    rw [cel] at e
    rcases cloFrom_mem (PySem.mem_of_lookup e) with hm | ⟨h1, rfl⟩
    · cases hm
    · obtain ⟨c, hc⟩ := hfree _ h1 rfl
      rw [hc]
      exact old.cel _ _ hc
  generalize hce : compEnvC scope (cellsFrom (s3.heap.objs.size + 1) scope.names (cloFrom X.env.cells scope.names [])) s3.heap.objs.size X.env = ce at I4 pg pt pe cO ⊢
  have cL : ce.locals = s3.heap.objs.size := by subst hce; rfl
  have hLc : L < ce.locals := by
    rw [cL, h3, Heap.size_push]
    exact Nat.lt_trans (Nat.lt_trans hLa ha2) (Nat.lt_succ_self _)
  generalize hH3 : upd H1 D (.lst []) = H3 at I3 I4 w0
  generalize hs4 : ({ s3 with heap := pushCells (s3.heap.push { cls := .type "dict", data := .dict #[] }) scope.names } : Shared) = s4 at I4 ⊢
  have h4 : s4.heap = pushCells (s3.heap.push { cls := .type "dict", data := .dict #[] }) scope.names := by rw [← hs4]
  have g4 : s4.gens = s1.gens := by rw [← hs4]; exact g3
  have o4 : s4.os = sc.os := by rw [← hs4]; exact o3.trans hos
  have kp : ∀ b o, s1.heap.get? b = some o → s4.heap.get? b = some o := fun b o e => by rw [h4]; exact kp34 b o (kp13 b o e)
  have kpc : ∀ b o, sc.heap.get? b = some o → s4.heap.get? b = some o := fun b o e => kp b o (hkp b o e)
  have scD : ∀ b o, sc.heap.get? b = some o → b ≠ D := fun b o e => by
    rw [← hD]
    exact Nat.ne_of_lt (Nat.lt_of_lt_of_le (Heap.lt_size e) (by rw [← hL]; exact Nat.le_of_lt (Nat.lt_trans hLa ha2)))
  have IB : Inv (X.blk sc H1 scope ce []) [] (wipe σ (own.map (·.2))) H3 s4 := by
    refine ⟨⟨I4.ok.mod, I4.ok.kind, I4.ok.glob, I4.ok.blt, ?_, I4.ok.inj, I4.ok.has, fun x c hx e => ?_, I4.ok.hd, I4.ok.frames, I4.ok.stk, (fun b z => nomatch z), Ic.bs, Nat.le_trans Ic.ok.bsz Ic.sz, (fun b o _ z => nomatch z), (fun b z => nomatch z), Ic.stack, Ic.stkFree⟩,
      o4, I4.bare, ⟨fun b o e _ _ _ => kpc b o e, fun b o e _ _ _ => ⟨o.slots, kpc b o e⟩, fun b o e n _ => ?_, fun b o e _ => ⟨o, kpc b o e⟩, fun b xs e => ?_, fun b o u e => ?_, fun b ps e => ⟨#[], ?_⟩⟩, I4.loc, I4.cell, I4.free, I4.freeC, I4.pin, I4.hok, I4.len⟩
    · show sc.heap.objs.size ≤ ce.locals
      rw [← hL]
      exact Nat.le_of_lt hLc
    · have z : s3.heap.objs.size ≤ c := I4.ok.cab x c hx e
      exact absurd (Nat.lt_of_lt_of_le (Nat.lt_trans (cO x c e) (by rw [cL] at hLc; exact hLc)) z) (Nat.lt_irrefl _)
    · rw [← hH3, upd_ne (scD b o e)]
      exact n
    · rw [← hH3, upd_ne (ne_of_none e hDn)]; exact e
    · rw [← hH3, upd_ne (ne_of_none e hDn)]; exact e
    · rw [← hH3, upd_ne (ne_of_none e hDn), Array.append_empty]; exact e
  have o2 : Old2 (X.blk sc H1 scope ce []) L := ⟨Nat.le_of_eq hL.symm, cO, rfl⟩
  obtain ⟨C, hC⟩ : ∃ C : GX, C = ⟨X.prog, X.w, X.K, X.mg, X.base, N, qual, fscope, f, cd, X.A.in1, X.stack, L, [(a, go)]⟩ := ⟨_, rfl⟩
  have wake2 := wake X.A.in1 hr.in1 Ic.ok.frames
  rw [← hC] at wake2
  have aLc : a ≠ ce.locals := by
    rw [cL, h3, Heap.size_push]
    exact Nat.ne_of_lt (Nat.lt_trans ha2 (Nat.lt_succ_self _))
  have loop : codeAny (model X.prog X.w) X.A (.compLoop (.ListComp elt [⟨tgt, iter, ifs, 0⟩] scope pos) 0 (.ref a) (.ref D) ce) (compEnds (model X.prog X.w) X.A X.xe none (EP X pins σ Q) (.ref D) ce) s4 := by
    refine compLoop_any (fun n s' => ∃ (t : S.τ) (H' : Hp) (gs : GenState) (pl : List (Addr × Obj)), Inv (X.blk sc H1 scope ce []) [] (wipe σ (own.map (·.2))) H' s' ∧ (∀ p ∈ (a, go) :: pl, s'.heap.get? p.1 = some p.2 ∧ H' p.1 = none ∧ L ≤ p.1 ∧ (∀ v, p.2.data ≠ .cell v) ∧ p.1 ≠ ce.locals) ∧ s'.gens[gn]? = some gs ∧ Iv n t H' ∧
      ∃ i, n ≤ i ∧ ∀ (xp : List (Addr × Obj)) (s2 s0 : Shared) (Q : Wish S.τ), Wk C pl xp s2 H' s0 → S.W t H' Q → Ready (model X.prog X.w) X.A.in1 gs s2 (Phi C S.τ (Asl C S i) xp s0 H' Q)) ?_ m0 ?_
    case refine_2 =>
      refine ⟨t0, H3, .fresh c, [(L, lo)], IB, fun p hp => ?_, by rw [g4]; exact hgs, w0, m0, Nat.le_refl _, fun xp s2 s0 Q wk hw => .inl ⟨c, rfl, ?_⟩⟩
      · have fresh : ∀ b, L ≤ b → b ≠ D → H3 b = none := fun b hb nb => by
          rw [← hH3, upd_ne nb]
          exact Ic.hok.fresh (by rw [← hL]; exact hb)
        rcases List.mem_cons.mp hp with z | z
        · rw [z]
          exact ⟨kp _ _ hgo, fresh _ (Nat.le_of_lt hLa) (by rw [← hD]; exact Nat.ne_of_lt ha2), Nat.le_of_lt hLa, dgo, aLc⟩
        · rw [List.mem_singleton.mp z]
          exact ⟨kp _ _ hlo, fresh _ (Nat.le_refl _) (by rw [← hD]; exact Nat.ne_of_lt (Nat.lt_trans hLa ha2)), Nat.le_refl _, dlo, Nat.ne_of_lt hLc⟩
      · have z := wake2 m0 xp s2 s0 H3 Q wk hw
        rw [hC] at z ⊢
        exact z
    rintro n s5 ⟨t, H5, gs, pl, I5, hpin, hgs5, w5, i, hni, ready⟩
    obtain ⟨mm, hlbN, _⟩ := id I5.loc
    obtain ⟨lb, les, lep, hlb, hlbd, _⟩ := id hlbN
    have hlb' : s5.heap.get? ce.locals = some lb := hlb
    have isg5 : s5.heap.IsGen a gn := isg _ (hpin (a, go) List.mem_cons_self).1
    have szL : L ≤ s5.heap.objs.size := Nat.le_of_lt (Nat.lt_trans hLa (Heap.lt_size (hpin (a, go) List.mem_cons_self).1))
    have bsl : X.base.objs.size ≤ L := Nat.le_trans I.ok.bsz old.s0
    have nfl : ce.locals ∉ frs X.stack := fun z => absurd (Nat.lt_trans hLc (frl _ z)) (Nat.lt_irrefl _)
    have wk : Wk C pl [(ce.locals, lb)] (s5.setGen gn .running) H5 (cutS s5 L) := by
      rw [hC]
      refine ⟨rfl, allBare_setGen I5.bare rfl, cut_size _ _, ?_, fun b o e => (cut_some e).2, fun b o e => ⟨cut_of (I5.bs b o e).1 (Nat.lt_of_lt_of_le (Heap.lt_size e) bsl), (I5.bs b o e).2⟩, funs_cut I5.stack frl, I5.stkFree, fun p hp => ?_, fun p hp q hq => ?_, fun p hp => ?_, I5.hok⟩
      · show X.base.objs.size ≤ (cutH s5.heap L).objs.size
        rw [cut_size_of szL]
        exact bsl
      · rw [List.mem_singleton.mp hp]
        exact ⟨Nat.ne_of_gt hLc, nfl, fun v q => by rw [hlbd] at q; cases q⟩
      · rw [List.mem_singleton.mp hq]
        exact (hpin p (List.mem_cons_of_mem _ hp)).2.2.2.2
      · have hm : p = (a, go) ∨ p = (ce.locals, lb) ∨ p ∈ pl := by simpa using hp
        rcases hm with z | z | z
        · rw [z]
          exact ⟨(hpin (a, go) List.mem_cons_self).1, (hpin (a, go) List.mem_cons_self).2.1⟩
        · rw [z]
          exact ⟨hlb', I5.free⟩
        · exact ⟨(hpin p (List.mem_cons_of_mem _ z)).1, (hpin p (List.mem_cons_of_mem _ z)).2.1⟩
    refine wpAny_gsz (n := gn + 1) (Array.getElem?_eq_some_iff.mp hgs5).1 (next2 (I5.ok.hd hc) I5.nolimit (by have := hr.dp; omega) isg5 hgs5 (ready _ _ _ _ wk (turn n t H5 w5)) ?_ ?_ ?_)
    · -- an item
      rintro v gd l kk cc pp ff s6 ⟨x, t2, H6, pl2, rv, os, bare, un, hok, pins2, plok, ⟨Nx, hNx, step⟩, asl⟩ hq
      subst hC
      intro hsz
      have atL := pins2 (ce.locals, lb) (List.mem_append_left _ (List.mem_append_right _ List.mem_cons_self))
      have I6 : Inv (X.blk sc H1 scope ce []) [] (wipe σ (own.map (·.2))) H6 s6 := after2 I5 o2 hlb' atL.1 nfl atL.2 os bare un hok
      obtain ⟨gs4, hg4⟩ : ∃ y, y = (End.susp v gd l kk cc pp ff).genState := ⟨_, rfl⟩
      rw [← hg4] at hsz ⊢
      have susp4 : IsSusp gs4 := by rw [hg4]; exact ⟨_, _, _, _, _, _, rfl⟩
      have bare4 : gs4.bare = true := by rw [hg4]; exact End.bare_of_quiet hq
      have hlt : gn < s6.gens.size := by
        rw [setGen_size] at hsz
        exact hsz
      have I7 : Inv (X.blk sc H1 scope ce []) [] (wipe σ (own.map (·.2))) H6 (s6.setGen gn gs4) := inv_gens I6 (allBare_setGen bare bare4)
      have at7 : (s6.setGen gn gs4).gens[gn]? = some gs4 := setGen_at hlt
      have pall : ∀ p ∈ (a, go) :: pl2, s6.heap.get? p.1 = some p.2 ∧ H6 p.1 = none ∧ L ≤ p.1 ∧ (∀ v, p.2.data ≠ .cell v) ∧ p.1 ≠ ce.locals := fun p hm => by
        rcases List.mem_cons.mp hm with z | z
        · rw [z]
          have q := pins2 (a, go) (List.mem_append_left _ (List.mem_append_left _ List.mem_cons_self))
          exact ⟨q.1, q.2, Nat.le_of_lt hLa, dgo, aLc⟩
        · have q := pins2 p (List.mem_append_right _ z)
          exact ⟨q.1, q.2, (plok p z).1, (plok p z).2.1, (plok p z).2.2 (ce.locals, lb) List.mem_cons_self⟩
      have I7p : Inv (X.blk sc H1 scope ce []) ((a, go) :: pl2) (wipe σ (own.map (·.2))) H6 (s6.setGen gn gs4) := I7.pins_of fun p hm => by
        obtain ⟨h1, h2, h3, h4, h5⟩ := pall p hm
        exact ⟨h1, h2, h5, fun z => absurd (Nat.lt_of_lt_of_le (frl _ z) h3) (Nat.lt_irrefl _), h4⟩
      refine letGo_gen (g := gn) (isg _ (pall (a, go) List.mem_cons_self).1) ?_
      refine wpAny_mono (wpAny_hidden (pg.run _ { s6.setGen gn gs4 with gens := (s6.setGen gn gs4).gens.map asleep } _ H6 x v _ (inv_gens I7p (bare_asleep I7.bare)) rv step)) (fun _ s8 h8 => ?_) fun _ _ h8 => ?_
      · obtain ⟨s8h, T8, e8, wk8, σ8, H8, I8, hw8, q8⟩ := h8
        subst e8
        have at8 : T8[gn]? = some gs4 := wk8.kept gn gs4 at7 susp4
        have bare8 : AllBare T8 := wk8.bare I7.bare I8.bare
        have J8 := inv_gens I8 bare8
        -- the turn's end
        have fin : ∀ {s' : Shared} {H' : Hp}, Inv (X.blk sc H1 scope ce []) ((a, go) :: pl2) σ8 H' s' → s'.gens[gn]? = some gs4 → Nx H' → ∃ m, m < n ∧ ∃ (t : S.τ) (H' : Hp) (gs : GenState) (pl : List (Addr × Obj)), Inv (X.blk sc H1 scope ce []) [] (wipe σ (own.map (·.2))) H' s' ∧
            (∀ p ∈ (a, go) :: pl, s'.heap.get? p.1 = some p.2 ∧ H' p.1 = none ∧ L ≤ p.1 ∧ (∀ v, p.2.data ≠ .cell v) ∧ p.1 ≠ ce.locals) ∧ s'.gens[gn]? = some gs ∧ Iv m t H' ∧
            ∃ i, m ≤ i ∧ ∀ (xp : List (Addr × Obj)) (s2 s0 : Shared) (Q : Wish S.τ), Wk _ pl xp s2 H' s0 → S.W t H' Q → Ready (model X.prog X.w) X.A.in1 gs s2 (Phi _ S.τ (Asl _ S i) xp s0 H' Q) := fun {s' H'} I' at' nx => by
          obtain ⟨fr, m', hm, iv⟩ := hNx H' nx
          have hl : (wipe σ (own.map (·.2))).length = σ8.length := by rw [← hw8, wipe_length]
          refine ⟨m', hm, t2, H', gs4, pl2, (I'.pins_of (pins' := []) (fun p hp => nomatch hp)).weak hl (fun j v e => ?_), fun p hp => ?_, at', iv, ?_⟩
          · rw [← hw8] at e
            exact (wipe_some e).1
          · have z := I'.pin p (List.mem_append_right _ hp)
            exact ⟨z.1, z.2.1, (pall p hp).2.2⟩
          · cases i with
            | zero => omega
            | succ i' => exact ⟨i', by omega, fun xp s2 s0 Q wk hw => .inr ⟨kk, _, cc, _, ff, _, hg4, asl xp s2 s0 H' Q wk fr hw⟩⟩
        refine wpAny_mono (wpAny_hidden (pt.run _ { s8h with gens := T8.map asleep } σ8 H8 _ (inv_gens I8 (bare_asleep bare8)) q8)) (fun b s9 h9 => ?_) fun _ _ h9 => ?_
        · obtain ⟨s9h, T9, e9, wk9, H9, I9, q9⟩ := h9
          subst e9
          have at9 : T9[gn]? = some gs4 := wk9.kept gn gs4 at8 susp4
          have bare9 : AllBare T9 := wk9.bare bare8 I9.bare
          have J9 := inv_gens I9 bare9
          cases b with
          | false =>
            simp only [Bool.false_eq_true, if_false] at q9 ⊢
            exact fin J9 at9 q9
          | true =>
            simp only [if_true] at q9 ⊢
            refine wpAny_mono (wpAny_hidden (pe.run _ { s9h with gens := T9.map asleep } σ8 H9 _ (inv_gens I9 (bare_asleep bare9)) q9)) (fun z s10 h10 => ?_) fun _ _ h10 => ?_
            · obtain ⟨s10h, T10, e10, wk10, yv, H10, I10, r10, acc, hD10, hz10, nx⟩ := h10
              subst e10
              have at10 : T10[gn]? = some gs4 := wk10.kept gn gs4 at9 susp4
              have bare10 : AllBare T10 := wk10.bare bare9 I10.bare
              have J10 := inv_gens I10 bare10
              refine wpAny_mono (wpAny_hidden (app_ok (X := X.blk sc H1 scope ce []) (E := fun _ _ => False) (s := { s10h with gens := T10.map asleep }) (Q := fun _ s' => Inv (X.blk sc H1 scope ce []) ((a, go) :: pl2) σ8 (upd H10 D (.lst (acc ++ [yv]))) s') (inv_gens I10 (bare_asleep bare10)) hD10 hz10 r10 fun s11 I11 => I11)) (fun _ s11 h11 => ?_) fun _ _ h11 => ?_
              · obtain ⟨s11h, T11, e11, wk11, I11⟩ := h11
                subst e11
                exact fin (inv_gens I11 (wk11.bare bare10 I11.bare)) (wk11.kept gn gs4 at10 susp4) nx
              · obtain ⟨_, _, _, _, z⟩ := h11
                exact z.elim
            · obtain ⟨_, _, _, _, z⟩ := h10
              exact z.elim
        · obtain ⟨_, _, _, _, z⟩ := h9
          exact z.elim
      · obtain ⟨_, _, _, _, z⟩ := h8
        exact z.elim
    · -- the end
      rintro fl s6 ⟨hfl, H6, os, bare, un, hok, pins2, dn⟩
      rw [hC] at un hok pins2
      refine ⟨hfl, fun h' k2 _ => ?_⟩
      have atL := pins2 (ce.locals, lb) (List.mem_append_right _ List.mem_cons_self)
      have I6 : Inv (X.blk sc H1 scope ce []) [] (wipe σ (own.map (·.2))) H6 s6 := after2 I5 o2 hlb' atL.1 nfl atL.2 os bare un hok
      have I7 := (inv_gens (G := (s6.setGen gn .finished).gens) I6 (allBare_setGen bare rfl)).kept (t' := s6.toks) k2
      have I8 : Inv X pins σ H6 { s6.setGen gn .finished with heap := h' } := Ic.call' (ch := []) I7.os I7.base I7.hok I7.bare fun b hb => nomatch hb
      have nC : H6 s3.heap.objs.size = none := by
        rw [← cL]
        exact atL.2
      obtain ⟨m, hn, _⟩ := I7.loc
      have hn : h'.Ns ce.locals m := hn
      rw [cL] at hn
      have hlc : sc.heap.objs.size ≤ s3.heap.objs.size := by
        rw [← hL, ← cL]
        exact Nat.le_of_lt hLc
      obtain ⟨f0, f1, f2, f3, f4, f5⟩ := Ic.fpOk hlc nC
      rw [← cL] at hn f0 f1 f3 f4 f5
      exact ⟨m, hn, fun h'' sb => ⟨.ref D, H6, I8.turned (t' := s6.toks) (fun b o hb e => (sb.2 b hb).trans e) f0 f1 f3 f4 f5, rfl, dn⟩⟩
    · -- an exception
      rintro e s6 ⟨cx, pinned⟩
      rw [hC] at cx pinned
      have J5 : Inv X pins σ H5 s5 := Ic.call' (ch := []) I5.os I5.base I5.hok I5.bare fun b hb => nomatch hb
      refine ⟨isg _ (pinned (a, go) List.mem_cons_self), notStop_of (K := X.K) (fun cls d H q => q.1.1) ?_ cx, fun _ => ?_⟩
      · obtain ⟨b1, B, H6, cls, d, _, fl, _, ub, _⟩ := id cx
        exact J5.ok.mod.kin.keeps fun b o eb => fl.1 b o (ub.keep b o (cut_of (J5.bs b o eb).1 (Nat.lt_of_lt_of_le (Heap.lt_size eb) (Nat.le_trans J5.ok.bsz old.s0))) (J5.bs b o eb).2 fun hm => by
          obtain ⟨z, _⟩ := J5.stack.mem hm
          rw [eb] at z
          cases z)
      · have atL := pinned (ce.locals, lb) (List.mem_append_right _ List.mem_cons_self)
        obtain ⟨o, es, ep, ho, hd, hk⟩ := hlbN
        rw [hlb] at ho
        cases ho
        obtain ⟨b1, B, H6, cls, d, z1, fl, z2, ub, z3, z4, z5, z6⟩ := cx
        exact comp_leaves (W := Wx) (L := L) (s := s5) (H := H5) J5 old (by subst hce; rfl) (Nat.le_of_lt hLc) frl hst hfe tk (fun cls d H' q => ⟨q.2 (ce.locals, lb) (List.mem_append_right _ List.mem_cons_self), q.1.2⟩) ⟨lb, es, ep, atL, hd, hk⟩ ⟨b1, B, H6, cls, d, z1, fl, z2, ub, z3, z4, allBare_setGen z5 rfl, z6⟩
  exact codeAny_compStart_list loop (wpAny_pyIter_gen (isg _ (kp _ _ hgo)) loop)
end
end Gx

namespace Mx
open PySem PySem.Spec PyProof.Rows L2

/-! ### o.m(k = v, ..) -/
def tMethK (C : Addr) (m : Str) (sp : Sp) (gV : List V → List V → List V) (E : XK) (ta : TE) (tk : TA) : TE := fun σ H Q => ta σ H fun x H1 => ∃ a dx fs, x = .ref a ∧ H1 a = some (.ins C dx fs) ∧ fs.lookup m = none ∧
  tk σ H1 fun zs H2 => sp (gV [x] zs) H2 Q E
section
variable {X : Cx} {CX : CXT} {C : Addr} {m : Str} {k : Nat} {f : Addr} {fd : FuncData} {ps ks : List Str} {sp : Sp} {E : XK} {ta : TE} {tk : TA} {o : Expr} {kws : List Keyword} {apos pos : Pos} {g : List Value → List Value → List Value} {gV : List V → List V → List V}
theorem pe_methK0 {pl : Sem Bool} (he : PE X o ta) (c : Cls X.K C) (hm : Meth X.K C m f) (F : FnOk X.prog X.w X.K X.mg X.base CX k f fd ps sp) (hr : Room k X.A) (hb : KBinds X.K fd ps ks g gV) (hx : Passes CX X E) (hkw : PK X kws tk)
    (hall : (backToKw pos (keywordEach kws X.env)).all (·.1.isSome) = true := by rfl) (hks : (backToKw pos (keywordEach kws X.env)).filterMap (·.1) = ks := by rfl)
    (hpl : ((backTo pos (starEach [] X.env)).any (·.1) || (backToKw pos (keywordEach kws X.env)).any (·.1.isNone)) = false := by rfl)
    (ht : eval (.Call (.Attribute o m apos) [] kws pos) X.env = (do
      let ov ← eval o X.env
      standAt apos.atName
      let (f, first) ← holding [ov] (getMethod ov m pl)
      callWith pos f first (backTo pos (starEach [] X.env)) (backToKw pos (keywordEach kws X.env))) := by rfl) :
    PE X (.Call (.Attribute o m apos) [] kws pos) (tMethK C m sp gV E ta tk) := by
  refine ⟨fun pins s σ H Q I h => ?_⟩
  refine PySem.W.methodCall_KW (pl := pl) (thn (he.run pins s σ H _ I h) fun u s1 ⟨x, H1, I1, rx, a, dx, fs, ex, ea, l, q⟩ => ?_) ht
  subst ex
  obtain rfl : u = Value.ref a := rx
  refine getmeth_ok I1 ea c hm l ?_
  refine PySem.W.callWith_KW0 (first := [.ref a]) (h₀ := X.base) I1.ok.mod.kin hm.kp hall (thn (hkw.run pos pins s1 σ H1 _ I1 q) fun ws s2 ⟨zs, H2, I2, rz, q2⟩ => ⟨I2.kIn, ?_⟩) hpl
  rw [hks]
  exact run_fnk (us := [.ref a]) (vs := [.ref a]) F hr hb hx I2 (.cons rfl .nil) rz q2
end

/-! ### try: .. except X as n: the exception is told behind the suite -/
def wK1 (K : PySem.W.Frag) (c : Value) (i : Nat) (ts : Addr → Value → Option Addr → TS) (Wout : WX) (D : Ends) : WX := fun cls d σ H =>
  ∃ b, PySem.W.exmOne K cls c = some b ∧ (b = true → ∀ a, H a = none → ts a cls d { nx := fun σ' H' => D.nx (σ'.set i none) (upd H' a (xoO a cls d)), rt := fun _ _ => False, bk := fun _ _ => False, ct := fun _ _ => False } (σ.set i (some (.ref a))) H) ∧
    (b = false → Wout cls d σ H)
theorem ps_try_k1 {X : Cx} {x1 n : Str} {c1 : Value} {i : Nat} {body suite : List Stmt} {b₀ : Stmt} {q1 pos pos' : Pos} {tb : WX → TS} {ts : Addr → Value → Option Addr → TS} {Wout : WX}
    (hs : X.stack = X.env :: X.outer) (hf : X.env.frame = some X.env.locals) (hex : X.ex = []) (hN : X.N.Nodup) (hi : X.N[i]? = some n) (hln : X.env.kindOf n = some .local) (n1 : Nm X x1 c1) (tk : Takes X Wout)
    (hb : ∀ (W : WX) (pn : List (Addr × Obj)) (xe : Value → Shared → Prop), Takes (X.tr pn xe) W → PassesOwn (model X.prog X.w) X.A X.env xe → PSs (X.tr pn xe) body (tb W))
    (hsu : ∀ (a : Addr) (oe : Obj) (cls : Value) (d : Option Addr) (pn : List (Addr × Obj)), Zc cls d oe → (∃ vs, oe.data = .fields vs) → PSs (X.suite a ((a, oe) :: pn)) (b₀ :: suite) (ts a cls d)) :
    PS X (.Try body [.ExceptHandler (some (.Name x1 q1)) (some n) (b₀ :: suite) pos'] [] [] pos) (fun D σ H => tb (wK1 X.K c1 i ts Wout D) D σ H) := by
  refine ⟨fun pins s σ H D I h => wpAny_Try_except ?_⟩
  have ok := I.ok
  have hfr : X.A.frames = some (X.env :: X.outer) := ok.frames.trans (by rw [hs])
  refine wpAny_mono ((hb (wK1 X.K c1 i ts Wout D) (X.pn ++ pins) (fun e s₁ => wpAny (model X.prog X.w) X.A (noteFrame e X.env) (fun _ s₂ => wpAny (model X.prog X.w) X.A (setFlight e none) (fun _ s₃ =>
    wpAny (model X.prog X.w) X.A (handleBy e X.env [.ExceptHandler (some (.Name x1 q1)) (some n) (b₀ :: suite) pos']) (SP X pins D) X.xe s₃) X.xe s₂) X.xe s₁) (fun u s' xx => ?_) PassesOwn.looking).run [] s σ H D (I.toTry _) h) (fun f s1 hsp => ?_) (fun _ _ z => z)
  · obtain ⟨a, B, sI, pins', σ', H', cls, d, rfl, J', nb, up, sky, na, os, ag, b, hb1, hyes, hno⟩ := xx
    have J : Inv X pins σ' H' sI := J'.ofTry ok
    rw [show (X.tr (X.pn ++ pins) _).stack = X.env :: X.outer from hs] at sky
    show wpAny (model X.prog X.w) X.A (noteFrame (.ref a) X.env) _ _ _
    refine Sky.land Zc.steady hfr hf sky fun h3 fl3 up3 => ?_
    have J3 : Inv X pins σ' H' { s' with heap := h3 } := J.landed nb fl3.1 (up.trans up3) os ag
    obtain ⟨oe3, vs3, he3, hz3, hd3⟩ := fl3.there
    have nfr : a ∉ frs X.stack := fun hm => by
      rw [hs] at hm
      obtain ⟨_, o', e', hnf⟩ := fl3.2.2.1.mem hm
      rw [he3] at e'
      cases e'
      exact hnf _ hd3
    have nL : a ≠ X.env.locals := fun z => nfr (by rw [hs]; exact List.mem_filterMap.mpr ⟨X.env, List.mem_cons_self, by rw [hf, z]⟩)
    have nF : a ∉ X.fs := fun hm => nfr (by
      rw [hs]
      obtain ⟨e, he, q⟩ := List.mem_filterMap.mp hm
      exact List.mem_filterMap.mpr ⟨e, List.mem_cons_of_mem _ he, q⟩)
    have nI : sI.heap.get? a = none := by
      cases e : sI.heap.get? a with
      | none => rfl
      | some o =>
        have z := nb a o e nfr
        rw [fl3.2.1] at z
        cases z
    have n0 : X.s_0.heap.get? a = none := by
      cases e : X.s_0.heap.get? a with
      | none => rfl
      | some o =>
        obtain ⟨o', z⟩ := J.base.there a o e (by rw [hex]; simp)
        rw [nI] at z
        cases z
    have np : ∀ p ∈ X.pn ++ pins, p.1 ≠ a := fun p hp z => by
      have q := (J.pin p hp).1
      rw [z, nI] at q
      cases q
    have S3 := J3.suite he3 hd3 na nL nF
    refine wpAny_handleBy_cons (codeAny_handlers_test ?_) (by intro q; cases q)
    have nm : ∀ {x : Str} {c : Value} {q : Pos} {s2 : Shared} {Q E : Value → Shared → Prop}, Nm X x c → Inv (X.suite a ((a, oe3) :: (X.pn ++ pins))) [] σ' H' s2 → Q c s2 → wpAny (model X.prog X.w) (X.A.mark (some (.ref a))) (eval (.Name x q) X.env) Q E s2 :=
      fun {x c q s2 Q E} nx S z => ld_glob (X := X.suite a ((a, oe3) :: (X.pn ++ pins))) S nx.g nx.m z nx.d
    have LT : PySem.W.Looks (model X.prog X.w) h3 (typeOf (.ref a)) cls := fun A Q E s k q => wpAny_typeOf_ref (k _ _ he3) (by rw [hz3.1]; exact q)
    have LM := PySem.W.exm_one (M := model X.prog X.w) (J3.kIn) LT hb1
    refine nm n1 S3 ?_
    refine LM.here ?_
    have fl5 := fl3
    have up5 := up.trans up3
    cases b with
    | true =>
      refine codeAny_handlers_suite_as (HandSPX.lands_againZ fl5 fun h4 fl4 up4 => ?_)
      have J4 : Inv X pins σ' H' { s' with heap := h4 } := J.landed nb fl4.1 (up5.trans up4) os ag
      obtain ⟨oe4, vs4, he4, hz4, hd4⟩ := fl4.there
      refine store_ok (X := X.suite a ((a, oe4) :: (X.pn ++ pins))) (v := .ref a) (J4.suite he4 hd4 na nL nF) hN hi (.inl hln) rfl (fun s5 S5 => ?_) (.inr hln)
      refine wpAny_mono ((hsu a oe4 cls d (X.pn ++ pins) hz4 ⟨_, hd4⟩).run [] s5 _ H' _ S5 (hyes rfl a na)) (fun f s6 hsp => ?_) (fun _ _ z => False.elim z)
      cases f with
      | next =>
        obtain ⟨σ6, H6, S6, q6⟩ := hsp
        have p6 := S6.pin (a, oe4) (List.mem_append_left _ List.mem_cons_self)
        have I6 : Inv X ((a, oe4) :: pins) σ6 H6 s6 := (S6.unsuite ok).pins_of fun p hp => by
          rcases List.mem_cons.mp hp with e | h
          · rw [e]; exact p6
          · exact (S6.unsuite ok).pin p (List.mem_append_right _ h)
        exact gone_ok I6 hN hi hln fun s7 J7 => by
          have p7 := J7.pin (a, oe4) (List.mem_append_right _ List.mem_cons_self)
          have K7 : Inv X pins (σ6.set i none) H6 s7 := J7.pins_of fun p hp => J7.pin p (List.mem_append_right _ (List.mem_cons_of_mem _ hp))
          exact ⟨_, _, track K7 p7.1 hz4 hd4 p7.2.1 n0 nL np, q6⟩
      | brk => exact hsp.elim fun _ h => h.elim fun _ h => h.2.elim
      | cont => exact hsp.elim fun _ h => h.elim fun _ h => h.2.elim
      | ret u => exact hsp.elim fun _ h => h.elim fun _ h => h.elim fun _ h => h.2.2.elim
    | false =>
      show wpAny _ X.A (handleBy (.ref a) X.env []) _ _ _
      refine wpAny_handleBy_nil ?_
      obtain ⟨k1, k2, k3, oe, vs, T, oT, ts', he, hz, hd, h1, hr⟩ := id fl5
      unfold PySem.passOn
      refine wpAny_bind (wpAny_field he hd h1 ?_)
      rw [if_neg (show ¬ ((Value.ref T == Value.none) = true) from by simp)]
      have fin : ∀ {s5 : Shared}, s5 = { s' with heap := h3 } →
          wpAny (model X.prog X.w) X.A (setFlight (.ref a) X.env.frame) (fun _ s4 => wpAny (model X.prog X.w) X.A (throw (.ref a) : Sem Flow) (SP X pins D) X.xe s4) X.xe s5 := by
        intro s5 e5
        rw [hf, e5]
        exact HandSPX.setFlight_upZ fl5 fun h4 hh4 up4 => wpAny_throw (tk _ _ ⟨a, B, sI, pins, σ', H', cls, d, rfl, J, nb, up5.trans up4, .inr (.inr (by rw [hs]; exact hh4)), na, os, ag, hno rfl⟩)
      first
        | exact wpAny_bind (wpAny_pure (wpAny_bind (fin rfl)))
        | exact wpAny_bind (fin rfl)
  · cases f with
    | next =>
      obtain ⟨σ', H', J', q⟩ := hsp
      exact wpAny_execs_nil ⟨σ', H', J'.ofTry ok, q⟩
    | brk =>
      obtain ⟨σ', H', J', q⟩ := hsp
      exact ⟨σ', H', J'.ofTry ok, q⟩
    | cont =>
      obtain ⟨σ', H', J', q⟩ := hsp
      exact ⟨σ', H', J'.ofTry ok, q⟩
    | ret u =>
      obtain ⟨v, σ', H', J', r, q⟩ := hsp
      exact ⟨v, σ', H', J'.ofTry ok, r, q⟩
end Mx

namespace Mx
open PySem PySem.Spec PyProof.Rows L2
/-! ### repr of a tuple of data, dicts among them -/
theorem repr_tuple {prog : Program} {w : World} {a : Addr} {xs : List PyData} {A : Around} {E : Value → Shared → Prop} {s : Shared} {Q : Value → Shared → Prop} (r : Rs s.heap (.ref a) (.tuple xs)) (hs : (PyData.tuple xs).showable = true) (hg : A.guards = some []) (hu : A.units + ((PyData.tuple xs).depth + 1) < cLine)
    (hQ : ∀ h' u tk, (∀ b o, s.heap.get? b = some o → h'.get? b = some o) → Q (.str (PyData.tuple xs).shown u) { s with heap := h', toks := tk })
    (hsz : (PyData.tuple xs).shown.length ≤ sizeLine) : wpAny (model prog w) A (call (.builtin "repr") [.ref a]) Q E s := by
  generalize hd : PyData.tuple xs = d at r hs hu hQ hsz
  cases r with
  | list => cases hd
  | dict => cases hd
  | tuple h1 h2 h3 h4 =>
    rename_i o vs n xs'
    cases hd
    have hz' : (tupleText (PyData.shownAll xs)).length ≤ sizeLine := by simpa only [PyData.shown] using hsz
    obtain ⟨bs, hb, hk⟩ := RsAll.shown (prog := prog) (w := w) h4 (by simpa [PyData.showable] using hs) (fun t ht => Nat.le_trans (tupleText_mem_le ht) hz')
    obtain ⟨as, r⟩ := Rs.reads (.tuple h1 h2 h3 h4)
    have hna : a ∉ bs := not_mem_of_deeper r (by simp only [PyData.depth]; omega) hb
    refine call_repr_slot (by omega) ⟨o, h1, h2⟩ F.slot_tuple_repr ?_
    have hu' : A.in1.units + (PyData.tuple xs).depth < cLine := by show A.units + 1 + _ < cLine; omega
    simp only [PyData.depth] at hu'
    have hQ' : ∀ h' u tk, (∀ b o, s.heap.get? b = some o → h'.get? b = some o) → ∃ x t, Value.str (PyData.tuple xs).shown u = .str x t ∧ Q (.str (PyData.tuple xs).shown u) { s with heap := h', toks := tk } := fun h' u tk k => ⟨_, _, rfl, hQ h' u tk k⟩
    simp only [PyData.shown] at hQ'
    exact call_tuple_reprK h1 h2 h3 hna hk hg (fun b _ => Clear.nil b) hu' (fun _ _ e => e) hQ' hz'
def rReprT (K : PySem.W.Frag) : List V → Hp → VK → Prop := fun xs H Q => ∃ (a : Addr) (ds : List PyData), xs = [.ref a] ∧ Dx K H (.ref a) (.tuple ds) ∧ (PyData.tuple ds).showable = true ∧ (PyData.tuple ds).depth ≤ 60 ∧ (PyData.tuple ds).shown.length ≤ sizeLine ∧ Q (.str (PyData.tuple ds).shown) H
theorem call_reprT {X : Cx} {k : Nat} (hr : RmG k X.A) : CallR X (.builtin "repr") (rReprT X.K) := by
  intro pins s σ H vs us Q I r h
  obtain ⟨a, ds, rfl, hd, h1, h3, h4, q⟩ := h
  cases r with
  | cons ra rn =>
    cases rn
    cases ra
    have hu := hr.r.un
    refine repr_tuple (Dx.rs I hd rfl) h1 hr.g (by omega) (fun h' u tk hk => ?_) h4
    exact ⟨.str (PyData.tuple ds).shown, H, I.kept hk, ⟨u, rfl⟩, q⟩
/-! ### one positional argument, one keyword -/
def kg : List Value → List Value → List Value | [u], [w] => [u, w] | _, _ => []
def kgV : List V → List V → List V | [u], [w] => [u, w] | _, _ => []
theorem kg_rel {vs zs : List V} {us ws : List Value} (a : Vals vs us) (b : Vals zs ws) : Vals (kgV vs zs) (kg us ws) := by
  match vs, us, zs, ws, a, b with
  | [], [], _, _, _, _ => exact .nil
  | [_], [_], [], [], _, _ => exact .nil
  | [_], [_], [_], [_], .cons r1 _, .cons r2 _ => exact .cons r1 (.cons r2 .nil)
  | [_], [_], _ :: _ :: _, _ :: _ :: _, _, _ => exact .nil
  | _ :: _ :: _, _ :: _ :: _, _, _, _, _ => exact .nil
theorem kb_of1 {K : PySem.W.Frag} {x qual : Str} {st : Stmt} {f : Addr} {fd : FuncData} {ps ks : List Str} {dv : V} (F : FunD K x qual (defArgs st) (defBody st) (defScope st) [dv] [] f fd) (hp : ps.length = 2)
    (h : ∀ (T : Addr) (kV doc pm : Value) (an : Option Addr) (cdv ct : Value) (u w i : Value),
      ∃ k, bindArgs (PySem.W.fnOf x qual (defArgs st) (defBody st) (defScope st) (.ref T) kV doc pm an cdv ct) ⟨[u], ks.zip [w]⟩ = seqItems? (.ref T) >>= k ∧ k (some #[i]) = pure (ps.zip [u, w])) :
    KBinds K fd ps ks kg kgV := by
  obtain ⟨oc, od, dV, kV, doc, pm, an, cdv, ct, osl, rfl, lk, hcd, hD, hK⟩ := F.ex
  rcases hD with ⟨e, _⟩ | ⟨_, T, o, its, m, rfl, lT, oT, rT⟩
  · exact absurd e (by simp)
  · refine ⟨fun s us ws X hl => ?_, kg_rel⟩
    rw [hp] at hl
    match us, ws, hl with
    | [u], [w], _ =>
      match its, rT with
      | [i], _ =>
        obtain ⟨k, e1, e2⟩ := h T kV doc pm an cdv ct u w i
        refine BindsTo.of_looks fun M => ?_
        rw [e1]
        exact looks_items X lT oT (.of_pure e2)
end Mx

/-! names: plain lists of codes -/
namespace Nam
def lets : List Nat := ("abcdefghijklmnopqrstuvwxyzABCDEFGHIJKLMNOPQRSTUVWXYZ_" : String).toList.map Char.toNat
def inns : List Nat := ("abcdefghijklmnopqrstuvwxyzABCDEFGHIJKLMNOPQRSTUVWXYZ_0123456789-." : String).toList.map Char.toNat
def isL (c : Nat) : Bool := decide (c ∈ lets)
def isI (c : Nat) : Bool := decide (c ∈ inns)
theorem colonL : isL 58 = false := by decide +kernel
theorem colonI : isI 58 = false := by decide +kernel
theorem L_I {c : Nat} (h : isL c = true) : isI c = true := by
  have k : ∀ c ∈ lets, isI c = true := by decide +kernel
  exact k c (of_decide_eq_true h)
theorem L_ne {c : Nat} (h : isL c = true) : c ≠ 58 := fun e => by rw [e, colonL] at h; cases h
theorem I_ne {c : Nat} (h : isI c = true) : c ≠ 58 := fun e => by rw [e, colonI] at h; cases h

/-! what the law says -/
def cut : List Nat → List Nat → List (List Nat)
  | acc, [] => [acc]
  | acc, x :: r => if x = 58 then acc :: cut [] r else cut (acc ++ [x]) r
def part : List Nat → Bool
  | [] => false
  | c :: r => isL c && r.all isI
def name (l : List Nat) : Bool := decide ((cut [] l).length < 3) && (cut [] l).all part
def begun (l : List Nat) : Bool := decide (l = []) || name l || (decide ((cut [] l).length = 2) && decide ((cut [] l)[1]? = some []) && part ((cut [] l).getD 0 []))

/-! a machine: 0 nothing, 1 a part, 2 a part and a colon, 3 two parts -/
def step (s c : Nat) : Option Nat :=
  if s = 0 then (if isL c then some 1 else none)
  else if s = 1 then (if c = 58 then some 2 else if isI c then some 1 else none)
  else if s = 2 then (if isL c then some 3 else none)
  else (if isI c then some 3 else none)
def runO : Option Nat → List Nat → Option Nat
  | o, [] => o
  | none, _ :: _ => none
  | some s, c :: r => runO (step s c) r
def run (l : List Nat) : Option Nat := runO (some 0) l
theorem runO_none : ∀ l, runO none l = none
  | [] => rfl
  | _ :: _ => rfl
theorem runO_app : ∀ (l m : List Nat) (o : Option Nat), runO o (l ++ m) = runO (runO o l) m
  | [], m, o => by cases o <;> rfl
  | c :: r, m, none => by
    show none = runO none m
    rw [runO_none]
  | c :: r, m, some s => runO_app r m (step s c)
theorem run_snoc (l : List Nat) (c : Nat) : run (l ++ [c]) = (run l).bind fun s => step s c := by
  unfold run
  rw [runO_app]
  cases runO (some 0) l with
  | none => rfl
  | some s =>
    show runO (step s c) [] = step s c
    cases step s c <;> rfl
theorem run3 : ∀ l, runO (some 3) l = if l.all isI then some 3 else none
  | [] => rfl
  | c :: r => by
    show runO (step 3 c) r = _
    have e : step 3 c = if isI c then some 3 else none := rfl
    rw [e]
    cases h : isI c with
    | true => simp [h, run3 r]
    | false => simp [h, runO_none]
theorem run2 (l : List Nat) : runO (some 2) l = if l = [] then some 2 else if part l then some 3 else none := by
  cases l with
  | nil => rfl
  | cons c r =>
    show runO (step 2 c) r = _
    have e : step 2 c = if isL c then some 3 else none := rfl
    rw [e]
    cases h : isL c with
    | true => simp [h, run3 r, part]
    | false => simp [h, runO_none, part]
theorem run1 : ∀ l : List Nat, 58 ∉ l → runO (some 1) l = if l.all isI then some 1 else none
  | [], _ => rfl
  | c :: r, h => by
    have hc : c ≠ 58 := fun e => h (e ▸ List.mem_cons_self)
    have hr : 58 ∉ r := fun e => h (List.mem_cons_of_mem _ e)
    show runO (step 1 c) r = _
    have e : step 1 c = if isI c then some 1 else none := if_neg hc
    rw [e]
    cases h : isI c with
    | true => simp [h, run1 r hr]
    | false => simp [h, runO_none]
theorem run0 (l : List Nat) (h : 58 ∉ l) : run l = if l = [] then some 0 else if part l then some 1 else none := by
  cases l with
  | nil => rfl
  | cons c r =>
    have hr : 58 ∉ r := fun e => h (List.mem_cons_of_mem _ e)
    show runO (step 0 c) r = _
    have e : step 0 c = if isL c then some 1 else none := rfl
    rw [e]
    cases h : isL c with
    | true => simp [h, run1 r hr, part]
    | false => simp [h, runO_none, part]
theorem cut_no : ∀ (l acc : List Nat), 58 ∉ l → cut acc l = [acc ++ l]
  | [], acc, _ => by simp [cut]
  | c :: r, acc, h => by
    have hc : c ≠ 58 := fun e => h (e ▸ List.mem_cons_self)
    have hr : 58 ∉ r := fun e => h (List.mem_cons_of_mem _ e)
    simp [cut, hc, cut_no r (acc ++ [c]) hr]
theorem cut_at : ∀ (p acc r : List Nat), 58 ∉ p → cut acc (p ++ 58 :: r) = (acc ++ p) :: cut [] r
  | [], acc, r, _ => by simp [cut]
  | c :: p, acc, r, h => by
    have hc : c ≠ 58 := fun e => h (e ▸ List.mem_cons_self)
    have hr : 58 ∉ p := fun e => h (List.mem_cons_of_mem _ e)
    simp [cut, hc, cut_at p (acc ++ [c]) r hr]
theorem first_colon : ∀ l : List Nat, 58 ∈ l → ∃ p r, l = p ++ 58 :: r ∧ 58 ∉ p
  | [], h => by cases h
  | c :: l, h => by
    by_cases hc : c = 58
    · exact ⟨[], l, by rw [hc]; rfl, by simp⟩
    · obtain ⟨p, r, e, hp⟩ := first_colon l ((List.mem_cons.mp h).resolve_left (fun e => hc e.symm))
      exact ⟨c :: p, r, by rw [e]; rfl, fun z => (List.mem_cons.mp z).elim (fun e => hc e.symm) hp⟩
theorem cut_ne (l : List Nat) : cut [] l ≠ [] := by
  by_cases h : 58 ∈ l
  · obtain ⟨p, r, e, hp⟩ := first_colon l h
    rw [e, cut_at p [] r hp]
    simp
  · rw [cut_no l [] h]
    simp
/-- the three kinds of texts -/
theorem kinds (l : List Nat) : (58 ∉ l) ∨ (∃ p q, l = p ++ 58 :: q ∧ 58 ∉ p ∧ 58 ∉ q) ∨ ∃ p q r, l = p ++ 58 :: (q ++ 58 :: r) ∧ 58 ∉ p ∧ 58 ∉ q := by
  by_cases h : 58 ∈ l
  · obtain ⟨p, r, e, hp⟩ := first_colon l h
    by_cases h2 : 58 ∈ r
    · obtain ⟨q, r2, e2, hq⟩ := first_colon r h2
      exact .inr (.inr ⟨p, q, r2, by rw [e, e2], hp, hq⟩)
    · exact .inr (.inl ⟨p, r, e, hp, h2⟩)
  · exact .inl h
theorem run_at (p r : List Nat) (hp : 58 ∉ p) : run (p ++ 58 :: r) = if part p then runO (some 2) r else none := by
  unfold run
  rw [runO_app, show runO (some 0) p = run p from rfl, run0 p hp]
  by_cases h0 : p = []
  · subst h0
    show runO (step 0 58) r = _
    have e : step 0 58 = none := by decide +kernel
    rw [e, runO_none]
    rfl
  · rw [if_neg h0]
    cases h : part p with
    | true => rfl
    | false =>
      show runO none (58 :: r) = _
      rfl
theorem run_at2 (p q r : List Nat) (hp : 58 ∉ p) : run (p ++ 58 :: (q ++ 58 :: r)) = none := by
  rw [run_at p _ hp]
  split
  · rw [runO_app, run2]
    split
    · show runO (step 2 58) r = none
      have e : step 2 58 = none := by decide +kernel
      rw [e, runO_none]
    · split
      · show runO (step 3 58) r = none
        have e : step 3 58 = none := by decide +kernel
        rw [e, runO_none]
      · rfl
  · rfl
theorem name_run (l : List Nat) : name l = decide (run l = some 1 ∨ run l = some 3) := by
  rcases kinds l with h | ⟨p, q, e, hp, hq⟩ | ⟨p, q, r, e, hp, hq⟩
  · unfold name
    rw [cut_no l [] h, run0 l h]
    cases l with
    | nil => simp [part]
    | cons c r => cases hh : part (c :: r) <;> simp [hh]
  · unfold name
    rw [e, cut_at p [] _ hp, cut_no q [] hq, run_at p q hp, run2]
    cases hh : part p
    · simp [hh]
    · by_cases hq0 : q = []
      · simp [hq0, part]
      · cases h2 : part q <;> simp [hh, h2, hq0]
  · unfold name
    rw [e, cut_at p [] _ hp, cut_at q [] _ hq, run_at2 p q r hp]
    have n : 1 ≤ (cut [] r).length := List.length_pos_iff.mpr (cut_ne r)
    have e1 : decide ((([] ++ p) :: ([] ++ q) :: cut [] r).length < 3) = false := decide_eq_false (by simp only [List.length_cons]; omega)
    rw [e1]
    simp
theorem begun_run (l : List Nat) : begun l = (run l).isSome := by
  unfold begun
  rw [name_run]
  rcases kinds l with h | ⟨p, q, e, hp, hq⟩ | ⟨p, q, r, e, hp, hq⟩
  · rw [cut_no l [] h, run0 l h]
    cases l with
    | nil => simp
    | cons c r => cases hh : part (c :: r) <;> simp [hh]
  · rw [e, cut_at p [] _ hp, cut_no q [] hq, run_at p q hp, run2]
    cases hh : part p
    · simp [hh]
    · by_cases hq0 : q = []
      · simp [hq0, hh]
      · cases h2 : part q <;> simp [hh, h2, hq0]
  · rw [e, cut_at p [] _ hp, cut_at q [] _ hq, run_at2 p q r hp]
    have n : 1 ≤ (cut [] r).length := List.length_pos_iff.mpr (cut_ne r)
    have e1 : decide ((([] ++ p) :: ([] ++ q) :: cut [] r).length = 2) = false := decide_eq_false (by simp only [List.length_cons]; omega)
    rw [e1]
    simp
/-! what the program does -/
def pend : List Nat → Nat
  | [] => 0
  | c :: r => if isL c then 1 + (r.takeWhile isI).length else 0
def nend (l : List Nat) : Nat :=
  if pend l = 0 ∨ pend l = l.length ∨ l[pend l]? ≠ some 58 then pend l
  else if pend (l.drop (pend l + 1)) > 0 then pend l + 1 + pend (l.drop (pend l + 1)) else pend l
theorem takeWhile_le (r : List Nat) : (r.takeWhile isI).length ≤ r.length := (List.takeWhile_prefix isI).length_le
theorem pend_yes {c : Nat} (r : List Nat) (h : isL c = true) : pend (c :: r) = 1 + (r.takeWhile isI).length := if_pos h
theorem pend_not {c : Nat} (r : List Nat) (h : ¬ isL c = true) : pend (c :: r) = 0 := if_neg h
theorem pend_le (l : List Nat) : pend l ≤ l.length := by
  cases l with
  | nil => exact Nat.le_refl _
  | cons c r =>
    have := takeWhile_le r
    by_cases h : isL c = true
    · rw [pend_yes r h, List.length_cons]; omega
    · rw [pend_not r h]; exact Nat.zero_le _
theorem nend_le (l : List Nat) : nend l ≤ l.length := by
  have h1 := pend_le l
  have h2 := pend_le (l.drop (pend l + 1))
  rw [List.length_drop] at h2
  unfold nend
  split
  · exact h1
  · rename_i h
    split
    · by_cases h3 : pend l = l.length
      · exact absurd (.inr (.inl h3)) h
      · omega
    · exact h1
theorem tw_all : ∀ r : List Nat, ((r.takeWhile isI).length = r.length) = (r.all isI = true)
  | [] => by simp
  | c :: r => by
    cases h : isI c with
    | true =>
      have ih := tw_all r
      simp only [List.takeWhile_cons, h, if_true, List.length_cons, List.all_cons, Bool.true_and]
      rw [← ih]
      simp
    | false => simp [List.takeWhile_cons, h]
theorem pend_all (l : List Nat) (h0 : l ≠ []) : pend l = l.length ↔ part l = true := by
  cases l with
  | nil => exact absurd rfl h0
  | cons c r =>
    have e := tw_all r
    by_cases h : isL c = true
    · rw [pend_yes r h, List.length_cons, show part (c :: r) = (isL c && r.all isI) from rfl, h, Bool.true_and, ← e]
      omega
    · rw [pend_not r h, List.length_cons, show part (c :: r) = (isL c && r.all isI) from rfl]
      simp [h]
theorem tw_app : ∀ (p r : List Nat) (d : Nat), isI d = false → ((p ++ d :: r).takeWhile isI).length = (p.takeWhile isI).length
  | [], r, d, h => by simp [List.takeWhile_cons, h]
  | c :: p, r, d, h => by
    by_cases hc : isI c = true
    · simp [List.takeWhile_cons, hc, tw_app p r d h]
    · simp [List.takeWhile_cons, hc]
theorem pend_app (p r : List Nat) : pend (p ++ 58 :: r) = pend p := by
  cases p with
  | nil => exact pend_not r (by rw [colonL]; decide)
  | cons c p =>
    show pend (c :: (p ++ 58 :: r)) = pend (c :: p)
    by_cases h : isL c = true
    · rw [pend_yes _ h, pend_yes _ h, tw_app p r 58 colonI]
    · rw [pend_not _ h, pend_not _ h]
theorem part_ne {p : List Nat} (h : part p = true) : p ≠ [] := fun e => by rw [e] at h; cases h
theorem nend_at (p r : List Nat) (hp : part p = true) : nend (p ++ 58 :: r) = if pend r > 0 then p.length + 1 + pend r else p.length := by
  have e1 : pend (p ++ 58 :: r) = p.length := (pend_app p r).trans ((pend_all p (part_ne hp)).mpr hp)
  have h0 : p.length ≠ 0 := fun e => part_ne hp (List.length_eq_zero_iff.mp e)
  have e2 : (p ++ 58 :: r)[p.length]? = some 58 := by simp
  have e3 : (p ++ 58 :: r).drop (p.length + 1) = r := by
    rw [← List.drop_drop, List.drop_left]
    rfl
  have hl : (p ++ 58 :: r).length = p.length + 1 + r.length := by simp; omega
  unfold nend
  rw [e1, e2, e3, hl, if_neg]
  rintro (h | h | h)
  · exact h0 h
  · omega
  · exact h rfl
/-- is_name of the program, of the law -/
theorem name_end (l : List Nat) : (decide (l ≠ []) && decide (nend l = l.length)) = name l := by
  rw [name_run]
  by_cases h0 : l = []
  · subst h0
    decide +kernel
  have d0 : decide (l ≠ []) = true := decide_eq_true h0
  rw [d0, Bool.true_and]
  rcases kinds l with h | ⟨p, q, e, hp, hq⟩ | ⟨p, q, r, e, hp, hq⟩
  · have en : nend l = pend l := by
      unfold nend
      rw [if_pos]
      by_cases hz : pend l = l.length
      · exact .inr (.inl hz)
      · refine .inr (.inr fun z => h (List.mem_of_getElem? z))
    rw [en, run0 l h, if_neg h0]
    by_cases hh : part l = true
    · simp [hh, (pend_all l h0).mpr hh]
    · have : ¬ pend l = l.length := fun z => hh ((pend_all l h0).mp z)
      simp [hh, this]
  · subst e
    have hl : (p ++ 58 :: q).length = p.length + 1 + q.length := by simp; omega
    rw [run_at p q hp, run2]
    by_cases hh : part p = true
    · rw [nend_at p q hh, if_pos hh, hl]
      by_cases hq0 : q = []
      · subst hq0
        simp [pend]
      · have k := pend_all q hq0
        rw [if_neg hq0]
        by_cases h2 : part q = true
        · have e2 := k.mpr h2
          have : 0 < q.length := List.length_pos_iff.mpr hq0
          simp [h2, e2, this]
        · have e2 : ¬ pend q = q.length := fun z => h2 (k.mp z)
          have := pend_le q
          have e3 : ¬ (if pend q > 0 then p.length + 1 + pend q else p.length) = p.length + 1 + q.length := by split <;> omega
          simp only [decide_eq_false e3]
          simp [h2]
    · have e1 : ¬ nend (p ++ 58 :: q) = p.length + 1 + q.length := by
        intro z
        have a1 := pend_app p q
        have a2 := pend_le p
        have a3 : p ≠ [] → ¬ pend p = p.length := fun n z => hh ((pend_all p n).mp z)
        unfold nend at z
        rw [a1] at z
        split at z
        · omega
        · rename_i hn
          have h1 : pend p ≠ 0 := fun y => hn (.inl y)
          have h2 : p ≠ [] := fun y => h1 (by rw [y]; rfl)
          have h3 := a3 h2
          have h4 : (p ++ 58 :: q)[pend p]? = some 58 := Classical.byContradiction fun y => hn (.inr (.inr y))
          rw [List.getElem?_append_left (by omega)] at h4
          exact hp (List.mem_of_getElem? h4)
      rw [hl]
      simp [hh, decide_eq_false e1]
  · have e1 : ¬ nend l = l.length := by
      intro z
      have hl : l.length = p.length + 1 + (q ++ 58 :: r).length := by rw [e]; simp; omega
      by_cases hh : part p = true
      · rw [e, nend_at p _ hh, pend_app] at z
        have := pend_le q
        rw [← e, hl, List.length_append, List.length_cons] at z
        split at z <;> omega
      · have a1 : pend l = pend p := by rw [e, pend_app]
        have a2 := pend_le p
        have a3 : p ≠ [] → ¬ pend p = p.length := fun n z => hh ((pend_all p n).mp z)
        unfold nend at z
        rw [a1] at z
        split at z
        · omega
        · rename_i hn
          have h1 : pend p ≠ 0 := fun y => hn (.inl y)
          have h2 : p ≠ [] := fun y => h1 (by rw [y]; rfl)
          have h3 := a3 h2
          have h4 : l[pend p]? = some 58 := Classical.byContradiction fun y => hn (.inr (.inr y))
          rw [e, List.getElem?_append_left (by omega)] at h4
          exact hp (List.mem_of_getElem? h4)
    rw [decide_eq_false e1, e, run_at2 p q r hp]
    rfl
/-- continues_name of the program -/
def goesOn (l : List Nat) (c : Nat) : Bool :=
  if c = 58 then decide (l ≠ []) && !decide (58 ∈ l) else (if l = [] ∨ l.getLast? = some 58 then isL c else isI c)
theorem snocInd {P : List Nat → Prop} (h0 : P []) (h1 : ∀ l c, P l → P (l ++ [c])) (l : List Nat) : P l := by
  have k : ∀ r : List Nat, P r.reverse := fun r => by
    induction r with
    | nil => exact h0
    | cons c r ih => rw [List.reverse_cons]; exact h1 _ _ ih
  have := k l.reverse
  rwa [List.reverse_reverse] at this
theorem colon_state : ∀ (l : List Nat) (s : Nat), run l = some s → (58 ∈ l ↔ (s = 2 ∨ s = 3)) ∧ (l = [] ↔ s = 0) ∧ (l.getLast? = some 58 ↔ s = 2) ∧ s ≤ 3 := by
  refine snocInd ?_ ?_
  · intro s h
    have : s = 0 := (Option.some.inj h).symm
    subst this
    simp
  · intro l c ih s h
    rw [run_snoc] at h
    cases hr : run l with
    | none => rw [hr] at h; cases h
    | some u =>
      rw [hr] at h
      obtain ⟨i1, i2, i3, i4⟩ := ih u hr
      have h' : step u c = some s := h
      have hcases : u = 0 ∨ u = 1 ∨ u = 2 ∨ u = 3 := by omega
      have mem : 58 ∈ l ++ [c] ↔ (58 ∈ l ∨ c = 58) := by simp [eq_comm]
      have ne : ¬ (l ++ [c] = []) := by simp
      have lst : (l ++ [c]).getLast? = some 58 ↔ c = 58 := by simp
      rw [mem, lst]
      rcases hcases with e | e | e | e <;> subst e
      · have e : step 0 c = if isL c then some 1 else none := rfl
        rw [e] at h'
        split at h'
        · rename_i hl
          have := L_ne hl
          cases h'
          simp [i1, this]
        · cases h'
      · have e : step 1 c = if c = 58 then some 2 else if isI c then some 1 else none := rfl
        rw [e] at h'
        split at h'
        · rename_i hc
          cases h'
          simp [i1, hc]
        · split at h'
          · rename_i hc _
            cases h'
            simp [i1, hc]
          · cases h'
      · have e : step 2 c = if isL c then some 3 else none := rfl
        rw [e] at h'
        split at h'
        · rename_i hl
          have := L_ne hl
          cases h'
          simp [i1, this]
        · cases h'
      · have e : step 3 c = if isI c then some 3 else none := rfl
        rw [e] at h'
        split at h'
        · rename_i hl
          have := I_ne hl
          cases h'
          simp [i1, this]
        · cases h'
theorem goes_step (l : List Nat) (s c : Nat) (h : run l = some s) : goesOn l c = (step s c).isSome := by
  obtain ⟨i1, i2, i3, i4⟩ := colon_state l s h
  have hcases : s = 0 ∨ s = 1 ∨ s = 2 ∨ s = 3 := by omega
  unfold goesOn
  by_cases hc : c = 58
  · rw [if_pos hc]
    subst hc
    rcases hcases with e | e | e | e <;> subst e
    · simp [i2, step, colonL]
    · have : 58 ∉ l := fun z => by have := i1.mp z; omega
      have n : l ≠ [] := fun z => by have := i2.mp z; omega
      simp [this, n, step]
    · have : 58 ∈ l := i1.mpr (.inl rfl)
      simp [this, step, colonL]
    · have : 58 ∈ l := i1.mpr (.inr rfl)
      simp [this, step, colonI]
  · rw [if_neg hc]
    rcases hcases with e | e | e | e <;> subst e
    · have : l = [] := i2.mpr rfl
      rw [if_pos (.inl this)]
      show isL c = (if isL c then some 1 else none).isSome
      cases isL c <;> rfl
    · have n : ¬ (l = [] ∨ l.getLast? = some 58) := fun z => z.elim (fun y => by have := i2.mp y; omega) fun y => by have := i3.mp y; omega
      rw [if_neg n]
      have e : step 1 c = if c = 58 then some 2 else if isI c then some 1 else none := rfl
      rw [e, if_neg hc]
      cases isI c <;> rfl
    · rw [if_pos (.inr (i3.mpr rfl))]
      show isL c = (if isL c then some 3 else none).isSome
      cases isL c <;> rfl
    · have n : ¬ (l = [] ∨ l.getLast? = some 58) := fun z => z.elim (fun y => by have := i2.mp y; omega) fun y => by have := i3.mp y; omega
      rw [if_neg n]
      show isI c = (if isI c then some 3 else none).isSome
      cases isI c <;> rfl
theorem run_take (l : List Nat) {i c : Nat} (h : l[i]? = some c) : run (l.take (i + 1)) = (run (l.take i)).bind fun s => step s c := by
  rw [List.take_add_one, h]
  exact run_snoc _ _
theorem run_pre (l : List Nat) {i j : Nat} (h : run (l.take i) = none) (hij : i ≤ j) : run (l.take j) = none := by
  have e : l.take j = l.take i ++ (l.take j).drop i := by
    have := List.take_append_drop i (l.take j)
    rw [List.take_take, Nat.min_eq_left hij] at this
    exact this.symm
  unfold run at h ⊢
  rw [e, runO_app, h, runO_none]
/-- so far nothing was wrong -/
def Fine (l : List Nat) (i : Nat) : Prop := (run (l.take i)).isSome = true
theorem fine_next {l : List Nat} {i c : Nat} (h : l[i]? = some c) (f : Fine l i) : goesOn (l.take i) c = true ↔ Fine l (i + 1) := by
  obtain ⟨s, hs⟩ := Option.isSome_iff_exists.mp f
  rw [goes_step _ s c hs]
  unfold Fine
  rw [run_take l h, hs]
  rfl
/-- the greatest front part that is begun -/
def IsFar (l : List Nat) (m : Nat) : Prop := m ≤ l.length ∧ begun (l.take m) = true ∧ ∀ j, j ≤ l.length → begun (l.take j) = true → j ≤ m
theorem far_stop {l : List Nat} {i c : Nat} (h : l[i]? = some c) (f : Fine l i) (g : goesOn (l.take i) c = false) : IsFar l i ∧ name l = false := by
  have hi : i < l.length := (List.getElem?_eq_some_iff.mp h).1
  have n : ¬ Fine l (i + 1) := fun z => by rw [(fine_next h f).mpr z] at g; cases g
  have n2 : run (l.take (i + 1)) = none := by
    unfold Fine at n
    cases e : run (l.take (i + 1)) with
    | none => rfl
    | some s => rw [e] at n; exact absurd rfl n
  refine ⟨⟨Nat.le_of_lt hi, by rw [begun_run]; exact f, fun j hj hb => ?_⟩, ?_⟩
  · rw [begun_run] at hb
    refine Nat.le_of_lt_succ (Nat.lt_of_not_le fun z => ?_)
    rw [run_pre l n2 z] at hb
    cases hb
  · have e : run l = none := by
      have := run_pre l n2 (j := l.length) hi
      rwa [List.take_length] at this
    rw [name_run, e]
    rfl
theorem far_end {l : List Nat} (f : Fine l l.length) : IsFar l l.length := ⟨Nat.le_refl _, by rw [begun_run]; exact f, fun j hj _ => hj⟩
theorem far_one {l : List Nat} {m n : Nat} (a : IsFar l m) (b : IsFar l n) : m = n := Nat.le_antisymm (b.2.2 m a.1 a.2.1) (a.2.2 n b.1 b.2.1)
theorem part_end (l : List Nat) : (decide (l ≠ []) && decide (pend l = l.length)) = part l := by
  by_cases h0 : l = []
  · subst h0
    rfl
  · rw [decide_eq_true h0, Bool.true_and]
    by_cases hh : part l = true
    · rw [hh]; exact decide_eq_true ((pend_all l h0).mpr hh)
    · rw [decide_eq_false fun z => hh ((pend_all l h0).mp z)]
      simpa using hh
end Nam

/-! numerals: plain lists of codes -/
namespace Num
def low (c : Nat) : Nat := if 65 ≤ c ∧ c ≤ 90 then c + 32 else c
def zer (l : List Nat) : List Nat := l.dropWhile fun c => decide (c = 48)
def short (l : List Nat) : List Nat := zer (l.map low)
theorem low48 (c : Nat) : low c = 48 ↔ c = 48 := by
  unfold low
  by_cases h : 65 ≤ c ∧ c ≤ 90
  · rw [if_pos h]; omega
  · rw [if_neg h]
theorem zer_low : ∀ l : List Nat, (zer l).map low = zer (l.map low)
  | [] => rfl
  | c :: r => by
    unfold zer
    rw [List.map_cons, List.dropWhile_cons, List.dropWhile_cons]
    by_cases h : c = 48
    · rw [if_pos (decide_eq_true h), if_pos (decide_eq_true ((low48 c).mpr h))]
      exact zer_low r
    · rw [if_neg (fun z => h (of_decide_eq_true z)), if_neg (fun z => h ((low48 c).mp (of_decide_eq_true z)))]
      rfl
def dv (c : Nat) : Nat := if c ≤ 57 then c - 48 else c - 87
def val (b : Nat) (l : List Nat) : Nat := l.foldl (fun a c => a * b + dv c) 0
def code (c : Nat) : Bool := decide (c = 9) || decide (c = 10) || (decide (32 ≤ c) && decide (c ≤ 126) && !decide (c = 37))
def anyIn (lo hi : Nat) : Bool := (List.range (hi - lo)).any fun i => code (lo + i)
def npart (b : Nat) (l : List Nat) : Bool :=
  if l = [] then true else if 3 < l.length then false else
    anyIn (val b l) (min 127 (val b l + 1)) || anyIn (val b l * b) (min 127 ((val b l + 1) * b)) || anyIn (val b l * (b * b)) (min 127 ((val b l + 1) * (b * b)))
def chr (b : Nat) (l : List Nat) : Option Nat := if 3 < l.length then none else if code (val b l) then some (val b l) else none
/-! the law's table -/
def hexc (d : Nat) : Nat := if d < 10 then 48 + d else 87 + d
def dgo (b : Nat) : Nat → Nat → List Nat
  | 0, n => [hexc (n % b)]
  | k + 1, n => if b ≤ n then dgo b k (n / b) ++ [hexc (n % b)] else [hexc (n % b)]
def dg (b n : Nat) : List Nat := dgo b 8 n
abbrev Tab := List (List Nat × List Nat)
def has (t : Tab) (k : List Nat) : Bool := t.any fun p => decide (p.1 = k)
def setd (t : Tab) (k v : List Nat) : Tab := if has t k then t else t ++ [(k, v)]
def put (t : Tab) (k v : List Nat) : Tab := if has t k then t.map (fun p => if p.1 = k then (p.1, v) else p) else t ++ [(k, v)]
def get (t : Tab) (k : List Nat) : Option (List Nat) := (t.find? fun p => decide (p.1 = k)).map (·.2)
def codes : List Nat := (List.range 127).filter code
def add (b : Nat) (t : Tab) (c : Nat) : Tab := put ((List.range (dg b c).length).foldl (fun t k => setd t ((dg b c).take k) []) t) (dg b c) [c]
def tab (b : Nat) : Tab := codes.foldl (add b) []
def digs (b : Nat) : List Nat := (List.range b).map hexc
def goodB (b : Nat) (l : List Nat) : Bool := (decide (l.length ≤ 3) && l.all (fun c => decide (c ∈ digs b)) && !decide (l.head? = some 48) && npart b l)
def tab10 : Tab := tab 10
def tab16 : Tab := tab 16
theorem t10 : (tab 10).all (fun p => goodB 10 p.1 && decide (p.2 = (chr 10 p.1).toList)) = true := by decide +kernel
theorem t16 : (tab 16).all (fun p => goodB 16 p.1 && decide (p.2 = (chr 16 p.1).toList)) = true := by decide +kernel
def lists (b : Nat) : List (List Nat) := [] :: ((digs b).map fun x => [x]) ++ ((digs b).flatMap fun x => (digs b).map fun y => [x, y]) ++ ((digs b).flatMap fun x => (digs b).flatMap fun y => (digs b).map fun z => [x, y, z])
theorem u10 : (lists 10).all (fun l => !goodB 10 l || has (tab 10) l) = true := by decide +kernel
theorem u16 : (lists 16).all (fun l => !goodB 16 l || has (tab 16) l) = true := by decide +kernel
theorem p10 : (tab 10).all (fun p => (List.range 4).all fun k => has (tab 10) (p.1.take k)) = true := by decide +kernel
theorem p16 : (tab 16).all (fun p => (List.range 4).all fun k => has (tab 16) (p.1.take k)) = true := by decide +kernel
end Num

namespace Num
def Base (b : Nat) : Prop := b = 10 ∨ b = 16
theorem mem_lists {b : Nat} {l : List Nat} (h : l.length ≤ 3) (hd : ∀ c ∈ l, c ∈ digs b) : l ∈ lists b := by
  unfold lists
  match l, h, hd with
  | [], _, _ => simp
  | [x], _, hd =>
    refine List.mem_append_left _ (List.mem_append_left _ (List.mem_cons_of_mem _ ?_))
    exact List.mem_map.mpr ⟨x, hd x (by simp), rfl⟩
  | [x, y], _, hd =>
    refine List.mem_append_left _ (List.mem_append_right _ ?_)
    exact List.mem_flatMap.mpr ⟨x, hd x (by simp), List.mem_map.mpr ⟨y, hd y (by simp), rfl⟩⟩
  | [x, y, z], _, hd =>
    refine List.mem_append_right _ ?_
    exact List.mem_flatMap.mpr ⟨x, hd x (by simp), List.mem_flatMap.mpr ⟨y, hd y (by simp), List.mem_map.mpr ⟨z, hd z (by simp), rfl⟩⟩⟩
  | _ :: _ :: _ :: _ :: _, h, _ => simp at h
theorem has_ex {t : Tab} {k : List Nat} (h : has t k = true) : ∃ p ∈ t, p.1 = k := by
  obtain ⟨p, hp, e⟩ := List.any_eq_true.mp h
  exact ⟨p, hp, of_decide_eq_true e⟩
theorem tab_good {b : Nat} (hb : Base b) : ∀ p ∈ tab b, goodB b p.1 = true ∧ p.2 = (chr b p.1).toList := by
  intro p hp
  rcases hb with rfl | rfl
  · have := (List.all_eq_true.mp t10) p hp
    rw [Bool.and_eq_true] at this
    exact ⟨this.1, of_decide_eq_true this.2⟩
  · have := (List.all_eq_true.mp t16) p hp
    rw [Bool.and_eq_true] at this
    exact ⟨this.1, of_decide_eq_true this.2⟩
theorem goodB_iff {b : Nat} {l : List Nat} : goodB b l = true ↔ (l.length ≤ 3 ∧ (∀ c ∈ l, c ∈ digs b) ∧ l.head? ≠ some 48 ∧ npart b l = true) := by
  unfold goodB
  simp only [Bool.and_eq_true, decide_eq_true_eq, List.all_eq_true, Bool.not_eq_true', decide_eq_false_iff_not, and_assoc]
theorem has_iff {b : Nat} (hb : Base b) (l : List Nat) : has (tab b) l = goodB b l := by
  rw [Bool.eq_iff_iff]
  constructor
  · intro h
    obtain ⟨p, hp, rfl⟩ := has_ex h
    exact (tab_good hb p hp).1
  · intro h
    have g := goodB_iff.mp h
    have m := mem_lists g.1 g.2.1
    rcases hb with rfl | rfl
    · have := (List.all_eq_true.mp u10) l m
      rw [h] at this
      simpa using this
    · have := (List.all_eq_true.mp u16) l m
      rw [h] at this
      simpa using this
theorem has_take {b : Nat} (hb : Base b) {l : List Nat} (h : has (tab b) l = true) (k : Nat) : has (tab b) (l.take k) = true := by
  obtain ⟨p, hp, rfl⟩ := has_ex h
  by_cases hk : k < 4
  · rcases hb with rfl | rfl
    · exact (List.all_eq_true.mp ((List.all_eq_true.mp p10) p hp)) k (List.mem_range.mpr hk)
    · exact (List.all_eq_true.mp ((List.all_eq_true.mp p16) p hp)) k (List.mem_range.mpr hk)
  · have := (goodB_iff.mp (tab_good hb p hp).1).1
    rw [List.take_of_length_le (by omega)]
    exact h
theorem get_yes {b : Nat} (hb : Base b) {l : List Nat} (h : has (tab b) l = true) : get (tab b) l = some (chr b l).toList := by
  unfold get
  cases e : (tab b).find? fun p => decide (p.1 = l) with
  | none =>
    obtain ⟨p, hp, q⟩ := has_ex h
    have := List.find?_eq_none.mp e p hp
    exact absurd (decide_eq_true q) this
  | some p =>
    have h1 := List.find?_some e
    have h2 := List.mem_of_find?_eq_some e
    have h1 : p.1 = l := of_decide_eq_true h1
    rw [Option.map_some, (tab_good hb p h2).2, h1]
theorem get_no {b : Nat} {l : List Nat} (h : has (tab b) l = false) : get (tab b) l = none := by
  unfold get
  cases e : (tab b).find? fun p => decide (p.1 = l) with
  | none => rfl
  | some p =>
    have h1 := List.find?_some e
    have h2 := List.mem_of_find?_eq_some e
    have z : has (tab b) l = true := List.any_eq_true.mpr ⟨p, h2, h1⟩
    rw [h] at z
    cases z
/-! what begins a numeral -/
def begun (b : Nat) (w : List Nat) : Bool := has (tab b) (short w)
def allow (b : Nat) (c : Nat) : Bool := decide (low c ∈ digs b)
theorem zer_app_nz : ∀ (z r : List Nat), (∀ c ∈ z, c = 48) → zer (z ++ r) = zer r
  | [], r, _ => rfl
  | c :: z, r, h => by
    have : c = 48 := h c List.mem_cons_self
    subst this
    show zer (48 :: (z ++ r)) = _
    unfold zer
    rw [List.dropWhile_cons, if_pos (by decide)]
    exact zer_app_nz z r fun c hc => h c (List.mem_cons_of_mem _ hc)
theorem zer_nz {c : Nat} (r : List Nat) (h : c ≠ 48) : zer (c :: r) = c :: r := by
  unfold zer
  rw [List.dropWhile_cons, if_neg (by simpa using h)]
theorem zer_split : ∀ l : List Nat, ∃ z, l = z ++ zer l ∧ (∀ c ∈ z, c = 48) ∧ (zer l = [] ∨ ∃ c r, zer l = c :: r ∧ c ≠ 48)
  | [] => ⟨[], rfl, by simp, .inl rfl⟩
  | c :: r => by
    by_cases h : c = 48
    · subst h
      obtain ⟨z, h1, h2, h3⟩ := zer_split r
      have e : zer (48 :: r) = zer r := by unfold zer; rw [List.dropWhile_cons, if_pos (by decide)]
      rw [e]
      exact ⟨48 :: z, by rw [List.cons_append, ← h1], fun c hc => by rcases List.mem_cons.mp hc with rfl | hc; rfl; exact h2 c hc, h3⟩
    · rw [zer_nz r h]
      exact ⟨[], rfl, by simp, .inr ⟨c, r, rfl, h⟩⟩
/-- one sign more, behind what begins a numeral: r stands behind the zeros -/
theorem begun_next {b : Nat} (hb : Base b) (z r : List Nat) (c : Nat) (hz : ∀ c ∈ z, c = 48) (hr : (r ++ [c]).head? ≠ some 48) (hp : begun b (z ++ r) = true) :
    begun b (z ++ (r ++ [c])) = (allow b c && npart b ((r ++ [c]).map low)) := by
  have nz : ∀ (r : List Nat), r.head? ≠ some 48 → (∀ z : List Nat, (∀ c ∈ z, c = 48) → short (z ++ r) = r.map low) := by
    intro r hr z hz
    unfold short
    rw [← zer_low, zer_app_nz z r hz]
    cases r with
    | nil => rfl
    | cons d r => rw [zer_nz r (fun e => hr (by rw [e]; rfl))]
  have hr0 : r.head? ≠ some 48 := by
    cases r with
    | nil => intro e; cases e
    | cons d r => exact hr
  have e1 := nz r hr0 z hz
  have e2 := nz (r ++ [c]) hr z hz
  unfold begun at hp ⊢
  rw [has_iff hb] at hp ⊢
  rw [e1] at hp
  rw [e2]
  have g := goodB_iff.mp hp
  rw [Bool.eq_iff_iff, goodB_iff]
  simp only [Bool.and_eq_true]
  unfold allow
  rw [decide_eq_true_eq]
  constructor
  · rintro ⟨h1, h2, h3, h4⟩
    exact ⟨h2 (low c) (by simp), h4⟩
  · rintro ⟨h1, h2⟩
    refine ⟨?_, ?_, ?_, h2⟩
    · unfold npart at h2
      rw [if_neg (by simp)] at h2
      by_cases h3 : 3 < ((r ++ [c]).map low).length
      · rw [if_pos h3] at h2; cases h2
      · omega
    · intro d hd
      rw [List.map_append, List.mem_append] at hd
      rcases hd with hd | hd
      · exact g.2.1 d hd
      · simp at hd; rw [hd]; exact h1
    · cases r with
      | nil =>
        intro e
        simp at e
        exact hr (by simp; exact (low48 c).mp e)
      | cons d r =>
        intro e
        simp at e
        exact hr0 (by simp; exact (low48 d).mp e)
theorem begun_zeros {b : Nat} (hb : Base b) {z : List Nat} (hz : ∀ c ∈ z, c = 48) : begun b z = true := by
  unfold begun short
  have := zer_app_nz z [] hz
  rw [List.append_nil] at this
  rw [← zer_low, this, has_iff hb]
  rcases hb with rfl | rfl <;> decide +kernel
theorem short_nz {z r : List Nat} (hz : ∀ c ∈ z, c = 48) (hr : r.head? ≠ some 48) : short (z ++ r) = r.map low := by
  unfold short
  rw [← zer_low, zer_app_nz z r hz]
  cases r with
  | nil => rfl
  | cons d r => rw [zer_nz r (fun e => hr (by rw [e]; rfl))]
theorem begun_digs {b : Nat} (hb : Base b) {w : List Nat} (h : begun b w = true) : ∀ c ∈ short w, c ∈ digs b := by
  unfold begun at h
  rw [has_iff hb] at h
  exact (goodB_iff.mp h).2.1
theorem begun_take {b : Nat} (hb : Base b) {w : List Nat} (h : begun b w = true) (k : Nat) : begun b (w.take k) = true := by
  obtain ⟨z, h1, h2, h3⟩ := zer_split w
  have key : ∃ j, short (w.take k) = (short w).take j := by
    unfold short
    rw [← zer_low, ← zer_low]
    generalize zer w = r at *
    rw [h1]
    by_cases hk : k ≤ z.length
    · refine ⟨0, ?_⟩
      rw [List.take_append_of_le_length hk]
      have : zer (z.take k) = [] := by
        have := zer_app_nz (z.take k) [] fun c hc => h2 c (List.mem_of_mem_take hc)
        rw [List.append_nil] at this
        rw [this]; rfl
      rw [this]; rfl
    · refine ⟨k - z.length, ?_⟩
      rw [List.take_append, List.take_of_length_le (by omega), zer_app_nz _ _ h2]
      rcases h3 with rfl | ⟨c, r', rfl, hc⟩
      · simp [zer]
      · have : 0 < k - z.length := by omega
        obtain ⟨m, e⟩ : ∃ m, k - z.length = m + 1 := ⟨k - z.length - 1, by omega⟩
        rw [e, List.take_succ_cons, zer_nz _ hc, List.map_cons, List.map_cons, List.take_succ_cons, List.map_take]
  obtain ⟨j, e⟩ := key
  unfold begun at h ⊢
  rw [e]
  exact has_take hb h j
def IsFront (b : Nat) (w : List Nat) (m : Nat) : Prop := m ≤ w.length ∧ begun b (w.take m) = true ∧ ∀ j, j ≤ w.length → begun b (w.take j) = true → j ≤ m
theorem front_stop {b : Nat} (hb : Base b) {w : List Nat} {i : Nat} (hi : i < w.length) (h : begun b (w.take i) = true) (n : begun b (w.take (i + 1)) = false) : IsFront b w i := by
  refine ⟨Nat.le_of_lt hi, h, fun j hj hbj => ?_⟩
  by_cases hji : j ≤ i
  · exact hji
  · have := begun_take hb hbj (i + 1)
    rw [List.take_take, Nat.min_eq_left (by omega), n] at this
    cases this
theorem front_end {b : Nat} {w : List Nat} (h : begun b w = true) : IsFront b w w.length := ⟨Nat.le_refl _, by rw [List.take_length]; exact h, fun j hj _ => hj⟩
theorem front_one {b : Nat} {w : List Nat} {m n : Nat} (x : IsFront b w m) (y : IsFront b w n) : m = n := Nat.le_antisymm (y.2.2 m x.1 x.2.1) (x.2.2 n y.1 y.2.1)
/-! the digits of a code -/
theorem dg_eq10 : ∀ n, n < 131 → dg 10 n = (if 10 ≤ n then dg 10 (n / 10) else []) ++ [hexc (n % 10)] := by decide +kernel
theorem dg_eq16 : ∀ n, n < 131 → dg 16 n = (if 16 ≤ n then dg 16 (n / 16) else []) ++ [hexc (n % 16)] := by decide +kernel
def pre_ (b n : Nat) : List Nat := if b ≤ n then dg b (n / b) else []
theorem dg_eq {b n : Nat} (hb : Base b) (h : n < 131) : dg b n = pre_ b n ++ [hexc (n % b)] := by
  rcases hb with rfl | rfl
  · exact dg_eq10 n h
  · exact dg_eq16 n h
end Num

/-! texts and the plain names -/
namespace Nam
open PySem PySem.Spec PyProof.Rows L2 TL
theorem str_codes (x : Str) (l : List Nat) (h : tl x = l) : x = ⟨l.toArray⟩ := by
  rw [← h]
theorem one_eq (c d : Nat) : decide (V.str ⟨#[c]⟩ = V.str ⟨#[d]⟩) = decide (c = d) := by
  by_cases h : c = d
  · subst h; simp
  · have : ¬ (V.str ⟨#[c]⟩ = V.str ⟨#[d]⟩) := fun e => by
      injection e with e
      have := congrArg tl e
      simp [tl] at this
      exact h this
    simp [this, h]
theorem empty_eq (x : Str) : decide (V.str x = V.str "") = decide (tl x = []) := by
  have e0 : tl ("" : Str) = [] := rfl
  by_cases h : tl x = []
  · have : x = "" := ext_tl (h.trans e0.symm)
    subst this
    rfl
  · have n : ¬ (V.str x = V.str "") := fun e => by
      injection e with e
      rw [e] at h
      exact h e0
    simp [n, h]
theorem tl_lets : tl ("abcdefghijklmnopqrstuvwxyzABCDEFGHIJKLMNOPQRSTUVWXYZ_" : Str) = lets := tl_ofString _
theorem tl_inns : tl ("abcdefghijklmnopqrstuvwxyzABCDEFGHIJKLMNOPQRSTUVWXYZ_0123456789-." : Str) = inns := tl_ofString _
theorem colon_codes : (":" : Str) = ⟨#[58]⟩ := rfl
theorem tl_colon : tl (":" : Str) = [58] := rfl
theorem ends_colon (x : Str) : Txt.endswith x ":" = decide ((tl x).getLast? = some 58) := by
  unfold Txt.endswith
  rw [PySem.StrLaws.subAt_eq]
  show (decide (0 + 1 ≤ x.length) && (((tl x).drop (x.length - 1)).take 1 == [58])) = _
  rw [len_tl x]
  cases h : (tl x) using snocInd with
  | h0 => rfl
  | h1 l c _ => 
    have e1 : (l ++ [c]).length - 1 = l.length := by simp
    rw [e1, List.drop_left, List.getLast?_append]
    simp
    by_cases h : c = 58 <;> simp [h]
theorem spl_cut : ∀ (l acc : List Nat), spl [58] 0 acc l = cut acc l
  | [], acc => rfl
  | c :: r, acc => by
    by_cases h : c = 58
    · subst h
      rw [spl_hit (by rfl)]
      show acc :: spl [58] 0 [] r = (if (58 : Nat) = 58 then _ else _)
      rw [if_pos rfl, spl_cut r []]
    · rw [spl_miss (pre_of_head _ _ h)]
      show _ = (if c = 58 then _ else _)
      rw [if_neg h, spl_cut r]
theorem split_colon (x : Str) : (Txt.split x ":").map tl = cut [] (tl x) := by
  rw [split_spl x ":" (by decide) (kind_ok (by decide +kernel)), tl_colon, spl_cut]
theorem cutS_take (z : Str) (i : Nat) (h : i ≤ (tl z).length) : tl (cutS z none (some (i : Int))) = (tl z).take i := by
  show (((z.cps.toList.drop (HT.sIx z.length 0 none)).take (HT.sIx z.length z.length (some (i : Int)) - HT.sIx z.length 0 none)).toArray).toList = _
  have e0 : HT.sIx z.length 0 none = 0 := rfl
  have e1 : HT.sIx z.length z.length (some (i : Int)) = i := by
    have := len_tl z
    rw [HT.sIx_nat]
    omega
  rw [e0, e1]
  rfl
/-! walking along a text -/
theorem inL (c : Nat) : decide (c ∈ ("abcdefghijklmnopqrstuvwxyzABCDEFGHIJKLMNOPQRSTUVWXYZ_" : Str).cps.toList) = isL c := by
  show decide (c ∈ tl ("abcdefghijklmnopqrstuvwxyzABCDEFGHIJKLMNOPQRSTUVWXYZ_" : Str)) = decide (c ∈ lets)
  rw [tl_lets]
theorem inI (c : Nat) : decide (c ∈ ("abcdefghijklmnopqrstuvwxyzABCDEFGHIJKLMNOPQRSTUVWXYZ_0123456789-." : Str).cps.toList) = isI c := by
  show decide (c ∈ tl ("abcdefghijklmnopqrstuvwxyzABCDEFGHIJKLMNOPQRSTUVWXYZ_0123456789-." : Str)) = decide (c ∈ inns)
  rw [tl_inns]
theorem inLI (c : Nat) : decide (c ∈ (("abcdefghijklmnopqrstuvwxyzABCDEFGHIJKLMNOPQRSTUVWXYZ_" : Str) ++ ("0123456789-." : Str)).cps.toList) = isI c := by
  rw [show (("abcdefghijklmnopqrstuvwxyzABCDEFGHIJKLMNOPQRSTUVWXYZ_" : Str) ++ ("0123456789-." : Str)) = ("abcdefghijklmnopqrstuvwxyzABCDEFGHIJKLMNOPQRSTUVWXYZ_0123456789-." : Str) from by decide +kernel]
  exact inI c
theorem range_all (l : List Nat) (p : Nat → Bool) : (!(List.range l.length).any fun i => !p (l.getD i 0)) = l.all p := by
  rw [Bool.eq_iff_iff]
  simp only [Bool.not_eq_true', List.any_eq_false, List.mem_range, List.all_eq_true, Bool.not_eq_true, Bool.not_eq_false']
  constructor
  · intro h x hx
    obtain ⟨i, hi, e⟩ := List.mem_iff_getElem.mp hx
    have := h i hi
    rw [List.getD_eq_getElem?_getD, List.getElem?_eq_getElem hi] at this
    simpa [e] using this
  · intro h i hi
    have := h (l[i]) (List.getElem_mem hi)
    rw [List.getD_eq_getElem?_getD, List.getElem?_eq_getElem hi]
    simpa using this
theorem cut_mem : ∀ (l acc : List Nat), (∀ p ∈ cut acc l, (∀ c ∈ p, c ∈ acc ∨ c ∈ l) ∧ p.length ≤ acc.length + l.length) ∧ (cut acc l).length ≤ l.length + 1
  | [], acc => by
    refine ⟨fun p hp => ?_, Nat.le_refl _⟩
    rw [List.mem_singleton.mp hp]
    exact ⟨fun c hc => .inl hc, Nat.le_add_right _ _⟩
  | x :: r, acc => by
    unfold cut
    by_cases h : x = 58
    · rw [if_pos h]
      obtain ⟨h1, h2⟩ := cut_mem r []
      refine ⟨fun p hp => ?_, ?_⟩
      · rcases List.mem_cons.mp hp with rfl | hp
        · exact ⟨fun c hc => .inl hc, Nat.le_add_right _ _⟩
        · obtain ⟨a, b⟩ := h1 p hp
          refine ⟨fun c hc => ?_, ?_⟩
          · rcases a c hc with z | z
            · cases z
            · exact .inr (List.mem_cons_of_mem _ z)
          · simp only [List.length_nil, List.length_cons] at b ⊢; omega
      · simp only [List.length_cons] at h2 ⊢; omega
    · rw [if_neg h]
      obtain ⟨h1, h2⟩ := cut_mem r (acc ++ [x])
      refine ⟨fun p hp => ?_, ?_⟩
      · obtain ⟨a, b⟩ := h1 p hp
        refine ⟨fun c hc => ?_, ?_⟩
        · rcases a c hc with z | z
          · rcases List.mem_append.mp z with z | z
            · exact .inl z
            · rw [List.mem_singleton.mp z]; exact .inr List.mem_cons_self
          · exact .inr (List.mem_cons_of_mem _ z)
        · simp only [List.length_append, List.length_cons, List.length_nil] at b ⊢; omega
      · simp only [List.length_cons] at h2 ⊢; omega
def Wd (z : Str) : Prop := (tl z).length ≤ 1000 ∧ ∀ c ∈ tl z, c < 0x110000
theorem cut_wd {z : Str} {i : Nat} (h : Wd z) (hi : i ≤ (tl z).length) : Wd (cutS z none (some (i : Int))) := by
  unfold Wd
  rw [cutS_take z i hi]
  refine ⟨?_, fun c hc => h.2 c (List.mem_of_mem_take hc)⟩
  have := h.1
  rw [List.length_take]
  omega
theorem split_wd {z : Str} (h : Wd z) : (∀ y ∈ Txt.split z ":", Wd y) ∧ (Txt.split z ":").length ≤ 1001 := by
  have e := split_colon z
  obtain ⟨h1, h2⟩ := cut_mem (tl z) []
  rw [← e] at h1 h2
  refine ⟨fun y hy => ?_, ?_⟩
  · obtain ⟨a, b⟩ := h1 (tl y) (List.mem_map_of_mem hy)
    refine ⟨?_, fun c hc => ?_⟩
    · simp only [List.length_nil] at b
      have := h.1
      omega
    · rcases a c hc with z | z
      · cases z
      · exact h.2 c z
  · rw [List.length_map] at h2
    have := h.1
    omega
theorem split_n (z : Str) : (Txt.split z ":").length = (cut [] (tl z)).length := by rw [← split_colon, List.length_map]
theorem range_allA {α : Type} (l : List α) (d : α) (p : α → Bool) : (!(List.range l.length).any fun i => !p (l.getD i d)) = l.all p := by
  rw [Bool.eq_iff_iff]
  simp only [Bool.not_eq_true', List.any_eq_false, List.mem_range, List.all_eq_true, Bool.not_eq_true, Bool.not_eq_false']
  constructor
  · intro h x hx
    obtain ⟨i, hi, e⟩ := List.mem_iff_getElem.mp hx
    have := h i hi
    rw [List.getD_eq_getElem?_getD, List.getElem?_eq_getElem hi] at this
    simpa [e] using this
  · intro h i hi
    have := h (l[i]) (List.getElem_mem hi)
    rw [List.getD_eq_getElem?_getD, List.getElem?_eq_getElem hi]
    simpa using this
theorem split_all (z : Str) : (Txt.split z ":").all (fun y => part (tl y)) = (cut [] (tl z)).all part := by
  rw [← split_colon, List.all_map]
  rfl
theorem split_at (z : Str) (i : Nat) : ((Txt.split z ":")[i]?).map tl = (cut [] (tl z))[i]? := by rw [← split_colon, List.getElem?_map]
def tw (l : List Nat) (j : Nat) : Nat := j + ((l.drop j).takeWhile isI).length
theorem drop_at {l : List Nat} {j c : Nat} (h : l[j]? = some c) : l.drop j = c :: l.drop (j + 1) := by
  obtain ⟨hj, e⟩ := List.getElem?_eq_some_iff.mp h
  rw [List.drop_eq_getElem_cons hj, e]
theorem tw_step {l : List Nat} {j c : Nat} (h : l[j]? = some c) (hc : isI c = true) : tw l j = tw l (j + 1) := by
  unfold tw
  rw [drop_at h, List.takeWhile_cons, if_pos hc, List.length_cons]
  omega
theorem tw_stop {l : List Nat} {j c : Nat} (h : l[j]? = some c) (hc : isI c = false) : tw l j = j := by
  unfold tw
  rw [drop_at h, List.takeWhile_cons, if_neg (by rw [hc]; decide)]
  rfl
theorem tw_end {l : List Nat} {j : Nat} (h : j = l.length) : tw l j = j := by
  subst h
  unfold tw
  rw [List.drop_length]
  rfl
theorem pend_step {l : List Nat} {j c : Nat} (h : l[j]? = some c) (hc : isL c = true) : j + pend (l.drop j) = tw l (j + 1) := by
  unfold tw
  rw [drop_at h, pend_yes _ hc]
  omega
theorem pend_stop {l : List Nat} {j c : Nat} (h : l[j]? = some c) (hc : isL c = false) : j + pend (l.drop j) = j := by
  rw [drop_at h, pend_not _ (by rw [hc]; decide)]
  rfl
theorem pend_end {l : List Nat} {j : Nat} (h : j = l.length) : j + pend (l.drop j) = j := by
  subst h
  rw [List.drop_length]
  rfl
theorem int_eq (i j : Nat) : decide (V.int (i : Int) = V.int (j : Int)) = decide (i = j) := by
  by_cases h : i = j
  · subst h; simp
  · have n : ¬ (V.int (i : Int) = V.int (j : Int)) := fun e => by
      injection e with e
      exact h (by omega)
    simp [n, h]
end Nam

/-! texts and the plain numerals -/
namespace Num
open PySem PySem.Spec PyProof.Rows L2 TL
/-- the signs of the program, in its order -/
def signsP : Str := ⟨#[32, 9, 10, 97, 98, 99, 100, 101, 102, 103, 104, 105, 106, 107, 108, 109, 110, 111, 112, 113, 114, 115, 116, 117, 118, 119, 120, 121, 122, 65, 66, 67, 68, 69, 70, 71, 72, 73, 74, 75, 76, 77, 78, 79, 80, 81, 82, 83, 84, 85, 86, 87, 88, 89, 90, 95, 48, 49, 50, 51, 52, 53, 54, 55, 56, 57, 33, 34, 35, 36, 38, 39, 40, 41, 42, 43, 44, 45, 46, 47, 58, 59, 60, 61, 62, 63, 64, 91, 92, 93, 94, 96, 123, 124, 125, 126]⟩
theorem signsP_code : ∀ c, c < 128 → (decide (c ∈ tl signsP) = code c) := by decide +kernel
theorem signsP_asc : ∀ c ∈ tl signsP, c < 128 := by decide +kernel
def Asc (z : Str) : Prop := ∀ c ∈ tl z, c < 128
theorem tl_low {z : Str} (h : Asc z) : tl (Txt.lower z) = (tl z).map low := by
  rw [lower_ascii h]
  show (z.cps.map lo1).toList = _
  rw [Array.toList_map]
  rfl
theorem low_asc : ∀ c, c < 128 → low c < 128 := by decide +kernel
theorem asc_low {z : Str} (h : Asc z) : Asc (Txt.lower z) := by
  intro c hc
  rw [tl_low h] at hc
  obtain ⟨d, hd, rfl⟩ := List.mem_map.mp hc
  exact low_asc d (h d hd)
theorem tw_zer : ∀ l : List Nat, l.drop ((l.takeWhile (fun c => decide (c = 48))).length) = zer l
  | [] => rfl
  | c :: r => by
    unfold zer
    rw [List.takeWhile_cons, List.dropWhile_cons]
    by_cases h : c = 48
    · rw [if_pos (decide_eq_true h), if_pos (decide_eq_true h), List.length_cons, List.drop_succ_cons]
      exact tw_zer r
    · rw [if_neg (fun z => h (of_decide_eq_true z)), if_neg (fun z => h (of_decide_eq_true z))]
      rfl
theorem tl_lz (z : Str) : tl (Txt.lstripChars z "0") = zer (tl z) := by
  have goes : (("0" : Str).cps.contains : Nat → Bool) = fun c => decide (c = 48) := by
    funext c
    show (#[48] : Array Nat).contains c = _
    rw [Bool.eq_iff_iff]
    simp
  unfold Txt.lstripChars Txt.stripBy
  rw [goes]
  by_cases h : stripSame (fun c => decide (c = 48)) true false z = true
  · rw [if_pos h]
    unfold stripSame stripLo at h
    have h1 : ((tl z).takeWhile (fun c => decide (c = 48))).length = 0 := by
      have := (Bool.and_eq_true_iff.mp h).1
      simpa using this
    have h2 := tw_zer (tl z)
    rw [h1] at h2
    exact h2
  · rw [if_neg h]
    unfold stripped
    rw [show stripHi (fun c => decide (c = 48)) false z (stripLo (fun c => decide (c = 48)) true z) = z.length from rfl]
    show tl (Builtin.Str.strSub z ((tl z).takeWhile (fun c => decide (c = 48))).length z.length) = _
    rw [tl_strSub_end]
    exact tw_zer _
theorem tl_short {z : Str} (h : Asc z) : tl (Txt.lstripChars (Txt.lower z) "0") = short (tl z) := by
  rw [tl_lz, tl_low h]
  rfl
/-- the place of a sign among the hexadecimal ones -/
def hexs : List Nat := ("0123456789abcdefABCDEF" : String).toList.map Char.toNat
theorem zer_len (l : List Nat) : (zer l).length ≤ l.length := (List.dropWhile_suffix _).length_le
theorem empty_eq (x : Str) : decide (V.str x = V.str "") = decide (tl x = []) := by
  have e0 : tl ("" : Str) = [] := rfl
  by_cases h : tl x = []
  · have : x = "" := ext_tl (h.trans e0.symm)
    rw [this]
    rfl
  · rw [decide_eq_false h]
    refine decide_eq_false fun e => h ?_
    injection e with e
    rw [e]
    rfl
theorem dv_le : ∀ c ∈ digs 16, dv c ≤ 15 := by decide +kernel
theorem val_le {b : Nat} (hb : b ≤ 16) {l : List Nat} (h : l.length ≤ 3) (hd : ∀ c ∈ l, c ∈ digs 16) : val b l ≤ 4095 := by
  match l, h, hd with
  | [], _, _ => exact Nat.zero_le _
  | [x], _, hd =>
    have h1 := dv_le x (hd x (by simp))
    show 0 * b + dv x ≤ 4095
    omega
  | [x, y], _, hd =>
    have h1 := dv_le x (hd x (by simp))
    have h2 := dv_le y (hd y (by simp))
    show (0 * b + dv x) * b + dv y ≤ 4095
    have : (0 * b + dv x) * b ≤ 15 * 16 := Nat.mul_le_mul (by omega) hb
    omega
  | [x, y, z], _, hd =>
    have h1 := dv_le x (hd x (by simp))
    have h2 := dv_le y (hd y (by simp))
    have h3 := dv_le z (hd z (by simp))
    show ((0 * b + dv x) * b + dv y) * b + dv z ≤ 4095
    have a : (0 * b + dv x) * b ≤ 15 * 16 := Nat.mul_le_mul (by omega) hb
    have c : ((0 * b + dv x) * b + dv y) * b ≤ 255 * 16 := Nat.mul_le_mul (by omega) hb
    omega
  | _ :: _ :: _ :: _ :: _, h, _ => simp at h
theorem short_le (l : List Nat) : (short l).length ≤ l.length := by
  have := zer_len (l.map low)
  rw [List.length_map] at this
  exact this
def inR (b : Nat) (l : List Nat) (s : Nat) : Bool := anyIn (val b l * s) (min 127 ((val b l + 1) * s))
theorem npart_in {b : Nat} {l : List Nat} (h0 : l ≠ []) (h1 : ¬ 3 < l.length) : npart b l = ([1, b, b * b].any (inR b l)) := by
  unfold npart
  rw [if_neg h0, if_neg h1]
  simp [inR, Bool.or_assoc]
theorem anyIn_list (lo hi : Nat) : ((List.range (hi - lo)).map fun i => code (lo + i)).any id = anyIn lo hi := by
  unfold anyIn
  rw [List.any_map]
  rfl
theorem cutS_mid (z : Str) (i j : Nat) (hi : i ≤ (tl z).length) (hj : j ≤ (tl z).length) : tl (cutS z (some (i : Int)) (some (j : Int))) = ((tl z).drop i).take (j - i) := by
  show (((z.cps.toList.drop (HT.sIx z.length 0 (some (i : Int)))).take (HT.sIx z.length z.length (some (j : Int)) - HT.sIx z.length 0 (some (i : Int)))).toArray).toList = _
  have l := len_tl z
  rw [HT.sIx_nat, HT.sIx_nat, Nat.min_eq_left (by omega), Nat.min_eq_left (by omega)]
theorem cutS_tail (z : Str) (i : Nat) (h : i ≤ (tl z).length) : tl (cutS z (some (i : Int)) none) = (tl z).drop i := by
  show (((z.cps.toList.drop (HT.sIx z.length 0 (some (i : Int)))).take (HT.sIx z.length z.length none - HT.sIx z.length 0 (some (i : Int)))).toArray).toList = _
  have l := len_tl z
  rw [HT.sIx_nat, Nat.min_eq_left (by omega)]
  have e : HT.sIx z.length z.length none = z.length := rfl
  rw [e]
  exact List.take_of_length_le (Nat.le_of_eq (by rw [List.length_drop, l]))
theorem cutS_over (z : Str) (i j : Nat) (hi : i ≤ (tl z).length) : tl (cutS z (some (i : Int)) (some (j : Int))) = ((tl z).drop i).take (j - i) := by
  by_cases hj : j ≤ (tl z).length
  · exact cutS_mid z i j hi hj
  · show (((z.cps.toList.drop (HT.sIx z.length 0 (some (i : Int)))).take (HT.sIx z.length z.length (some (j : Int)) - HT.sIx z.length 0 (some (i : Int)))).toArray).toList = _
    have l := len_tl z
    rw [HT.sIx_nat, HT.sIx_nat, Nat.min_eq_left (by omega : i ≤ z.length), Nat.min_eq_right (by omega)]
    show ((tl z).drop i).take (z.length - i) = _
    rw [List.take_of_length_le (Nat.le_of_eq (by rw [List.length_drop, l])), List.take_of_length_le (by rw [List.length_drop]; omega)]
theorem zero_eq (x : Str) : decide (V.str x = V.str "0") = decide (tl x = [48]) := by
  have e0 : tl ("0" : Str) = [48] := rfl
  by_cases h : tl x = [48]
  · have : x = "0" := ext_tl (h.trans e0.symm)
    rw [this]
    rfl
  · rw [decide_eq_false h]
    refine decide_eq_false fun e => h ?_
    injection e with e
    rw [e]
    rfl
theorem cutS_take (z : Str) (i : Nat) (h : i ≤ (tl z).length) : tl (cutS z none (some (i : Int))) = (tl z).take i := by
  show (((z.cps.toList.drop (HT.sIx z.length 0 none)).take (HT.sIx z.length z.length (some (i : Int)) - HT.sIx z.length 0 none)).toArray).toList = _
  have l := len_tl z
  rw [HT.sIx_nat, Nat.min_eq_left (by omega)]
  rfl
theorem allow16 : ∀ c, c < 128 → decide (c ∈ ("0123456789ABCDEFabcdef" : Str).cps.toList) = decide (low c ∈ digs 16) := by decide +kernel
theorem allow10 : ∀ c, c < 128 → decide (c ∈ ("0123456789" : Str).cps.toList) = decide (low c ∈ digs 10) := by decide +kernel
/-- the digits of a base, in the program's order -/
def ordered (b : Nat) : List Nat := if b = 16 then tl ("0123456789ABCDEFabcdef" : Str) else tl ("0123456789" : Str)
theorem join_ones : ∀ l : List Nat, tl (Str.join "" (l.map fun c => (⟨#[c]⟩ : Str))) = l
  | [] => rfl
  | [c] => rfl
  | c :: d :: r => by
    show tl (((⟨#[c]⟩ : Str) ++ ("" : Str)) ++ Str.join "" ((d :: r).map fun c => (⟨#[c]⟩ : Str))) = _
    rw [tl_append, tl_append, join_ones (d :: r)]
    rfl
theorem join_ones' (l : List Nat) : tl (Txt.join "" (l.map fun c => (⟨#[c]⟩ : Str))) = l := by rw [join_eq, join_ones]
theorem ones_sum (l : List Nat) : ((l.map fun c => (⟨#[c]⟩ : Str)).map (·.length)).sum = l.length := by
  induction l with
  | nil => rfl
  | cons c l ih =>
    show 1 + ((l.map fun c => (⟨#[c]⟩ : Str)).map (·.length)).sum = l.length + 1
    rw [ih]
    omega
theorem hex_at : ∀ d : Nat, d < 16 → atI ("0123456789abcdef" : Str).cps.toList (d : Int) = some (hexc d) := by
  have k : ∀ d : Nat, d < 16 → ("0123456789abcdef" : Str).cps.toList[d]? = some (hexc d) := by decide +kernel
  exact fun d h => atI_nat (k d h)
theorem digs_sub : ∀ c ∈ digs 10, c ∈ digs 16 := by decide +kernel
theorem val_snoc (b : Nat) (l : List Nat) (c : Nat) : val b (l ++ [c]) = val b l * b + dv c := by
  unfold val
  rw [List.foldl_append]
  rfl
theorem take_snoc {l : List Nat} {i c : Nat} (h : l[i]? = some c) : l.take (i + 1) = l.take i ++ [c] := by
  rw [List.take_add_one, h]
  rfl
theorem index_hex : ∀ c ∈ digs 16, Txt.index0 ("0123456789abcdefABCDEF" : Str) ⟨#[c]⟩ = some (dv c) := by decide +kernel
/-! the law's table as a dict's content -/
def key (l : List Nat) : Key := .inr ⟨l.toArray⟩
def kvOf (t : Tab) : List (Key × V) := t.map fun p => (key p.1, .str ⟨p.2.toArray⟩)
theorem key_inj {k l : List Nat} : key k = key l ↔ k = l := by
  constructor
  · intro h
    have h1 : (⟨k.toArray⟩ : Str) = ⟨l.toArray⟩ := Sum.inr.inj h
    have := congrArg tl h1
    simpa [tl] using this
  · rintro rfl
    rfl
theorem kv_any (k : List Nat) : ∀ t : Tab, ((kvOf t).any fun kv => decide (kv.1 = key k)) = has t k
  | [] => rfl
  | p :: t => by
    show (decide (key p.1 = key k) || (kvOf t).any _) = (decide (p.1 = k) || has t k)
    rw [kv_any k t]
    congr 1
    rw [Bool.eq_iff_iff, decide_eq_true_eq, decide_eq_true_eq]
    exact key_inj
theorem kv_put (t : Tab) (k v : List Nat) : putK (kvOf t) (key k) (.str ⟨v.toArray⟩) = kvOf (put t k v) := by
  unfold putK put
  rw [kv_any]
  by_cases h : has t k = true
  · rw [if_pos h, if_pos h]
    unfold kvOf
    rw [List.map_map, List.map_map]
    refine List.map_congr_left fun p _ => ?_
    show (if key p.1 = key k then _ else _) = _
    by_cases e : p.1 = k
    · rw [if_pos (key_inj.mpr e)]
      show _ = (key (if p.1 = k then (p.1, v) else p).1, V.str ⟨(if p.1 = k then (p.1, v) else p).2.toArray⟩)
      rw [if_pos e]
    · rw [if_neg (fun z => e (key_inj.mp z))]
      show _ = (key (if p.1 = k then (p.1, v) else p).1, V.str ⟨(if p.1 = k then (p.1, v) else p).2.toArray⟩)
      rw [if_neg e]
  · rw [if_neg h, if_neg h]
    unfold kvOf
    rw [List.map_append]
    rfl
theorem kv_val (k : List Nat) : ∀ t : Tab, valV (kvOf t) (key k) = (get t k).map fun v => V.str ⟨v.toArray⟩
  | [] => rfl
  | p :: t => by
    by_cases e : p.1 = k
    · rw [show kvOf (p :: t) = (key p.1, V.str ⟨p.2.toArray⟩) :: kvOf t from rfl, valV_pos (key_inj.mpr e)]
      unfold get
      rw [List.find?_cons, decide_eq_true e]
      rfl
    · rw [show kvOf (p :: t) = (key p.1, V.str ⟨p.2.toArray⟩) :: kvOf t from rfl, valV_neg (fun z => e (key_inj.mp z)), kv_val k t]
      unfold get
      rw [List.find?_cons, decide_eq_false e]
theorem chr_lt {b : Nat} {l : List Nat} {c : Nat} (h : chr b l = some c) : c < 128 := by
  unfold chr at h
  split at h
  · cases h
  · split at h
    · rename_i hc
      obtain rfl := Option.some.inj h
      unfold Num.code at hc
      simp at hc
      omega
    · cases h
theorem has_val (t : Tab) (k : List Nat) : (valV (kvOf t) (key k)).isSome = has t k := by rw [← valV_any, kv_any]
theorem setd_yes {t : Tab} {k : List Nat} {u : L2.V} (h : valV (kvOf t) (key k) = some u) : setd t k [] = t := by
  have e : has t k = true := by rw [← has_val t k, h]; rfl
  unfold setd
  rw [if_pos e]
theorem setd_no {t : Tab} {k : List Nat} (h : valV (kvOf t) (key k) = none) : putK (kvOf t) (key k) (.str "") = kvOf (setd t k []) := by
  have e : has t k = false := by rw [← has_val t k, h]; rfl
  have p := kv_put t k []
  unfold put at p
  unfold setd
  rw [if_neg (by rw [e]; decide)] at p ⊢
  exact p
theorem setd_len (t : Tab) (k v : List Nat) : (setd t k v).length ≤ t.length + 1 := by
  unfold setd
  split
  · omega
  · rw [List.length_append]; exact Nat.le_refl _
theorem put_len (t : Tab) (k v : List Nat) : (put t k v).length ≤ t.length + 1 := by
  unfold put
  split
  · rw [List.length_map]; omega
  · rw [List.length_append]; exact Nat.le_refl _
theorem dg_len {b n : Nat} (hb : Base b) (h : n < 131) : (dg b n).length ≤ 4 := by
  rcases hb with rfl | rfl
  · have k : ∀ n, n < 131 → (dg 10 n).length ≤ 4 := by decide +kernel
    exact k n h
  · have k : ∀ n, n < 131 → (dg 16 n).length ≤ 4 := by decide +kernel
    exact k n h
theorem key_of (x : Str) : V.str x = kV (key (tl x)) := by
  show V.str x = V.str ⟨(tl x).toArray⟩
  rw [mk_tl]
end Num

/-! references: plain lists of codes -/
namespace Num
/-- what a reading of a reference gives: its end and character, or the wrong index -/
inductive Res where
  | ok (e c : Nat)
  | ill (p : Nat)
  deriving DecidableEq
def Res.up (k : Nat) : Res → Res
  | .ok e c => .ok (e + k) c
  | .ill p => .ill (p + k)
/-- w: the digits behind the zeros so far; then what is left, then the index -/
def numGo (b : Nat) : List Nat → List Nat → Nat → Res
  | _, [], i => .ill i
  | w, c :: l, i => if c = 59 then (match chr b (short w) with
      | some x => .ok (i + 1) x
      | none => .ill i)
    else if low c ∈ digs b ∧ npart b (short (w ++ [c])) = true then numGo b (w ++ [c]) l (i + 1) else .ill i
def baseOf (r : List Nat) : Nat := if r.head? = some 120 then 16 else 10
def restOf (r : List Nat) : List Nat := if r.head? = some 120 then r.tail else r
def numAt (l : List Nat) (bg : Nat) : Res := numGo (baseOf (l.drop bg)) [] (zer (restOf (l.drop bg))) (l.length - (zer (restOf (l.drop bg))).length)
def fiveN : List (List Nat × Nat) := [([108, 116], 60), ([103, 116], 62), ([97, 109, 112], 38), ([97, 112, 111, 115], 39), ([113, 117, 111, 116], 34)]
def five (w : List Nat) : Option Nat := (fiveN.find? fun p => decide (p.1 = w)).map (·.2)
def begins (w : List Nat) : Bool := fiveN.any fun p => w.isPrefixOf p.1
def refGo : List Nat → List Nat → Nat → Res
  | _, [], i => .ill i
  | w, c :: l, i => match (if c = 59 then five w else none) with
    | some x => .ok (i + 1) x
    | none => if begins (w ++ [c]) = true then refGo (w ++ [c]) l (i + 1) else .ill i
def refAt (l : List Nat) (bg : Nat) : Res := if (l.drop (bg + 1)).head? = some 35 then numAt l (bg + 2) else refGo [] (l.drop (bg + 1)) (bg + 1)
/-! ends lie behind -/
theorem numGo_end {b : Nat} : ∀ (l w : List Nat) (i e c : Nat), numGo b w l i = .ok e c → i < e ∧ e ≤ i + l.length
  | [], w, i, e, c, h => by unfold numGo at h; cases h
  | x :: l, w, i, e, c, h => by
    unfold numGo at h
    rw [List.length_cons]
    split at h
    · split at h
      · cases h; omega
      · cases h
    · split at h
      · have q := numGo_end l _ _ _ _ h
        omega
      · cases h
theorem refGo_end : ∀ (l w : List Nat) (i e c : Nat), refGo w l i = .ok e c → i < e ∧ e ≤ i + l.length
  | [], w, i, e, c, h => by unfold refGo at h; cases h
  | x :: l, w, i, e, c, h => by
    unfold refGo at h
    rw [List.length_cons]
    split at h
    · cases h; omega
    · split at h
      · have q := refGo_end l _ _ _ _ h
        omega
      · cases h
theorem zer_le (l : List Nat) : (zer l).length ≤ l.length := (List.dropWhile_suffix _).length_le
theorem restOf_le (r : List Nat) : (restOf r).length ≤ r.length := by
  unfold restOf
  split
  · rw [List.length_tail]; omega
  · exact Nat.le_refl _
theorem refAt_end {l : List Nat} {bg e c : Nat} (hb : bg < l.length) (h : refAt l bg = .ok e c) : bg < e ∧ e ≤ l.length := by
  unfold refAt at h
  split at h
  · rename_i h1
    have h2 : bg + 1 < l.length := by
      cases q : l.drop (bg + 1) with
      | nil => rw [q] at h1; cases h1
      | cons a r =>
        have z := congrArg List.length q
        rw [List.length_drop, List.length_cons] at z
        omega
    have q := numGo_end _ _ _ _ _ h
    have q1 := zer_le (restOf (l.drop (bg + 2)))
    have q2 := restOf_le (l.drop (bg + 2))
    have q3 : (l.drop (bg + 2)).length = l.length - (bg + 2) := List.length_drop
    omega
  · have q := refGo_end _ _ _ _ _ h
    have q3 : (l.drop (bg + 1)).length = l.length - (bg + 1) := List.length_drop
    omega
/-! the index runs beside -/
theorem numGo_up {b k : Nat} : ∀ (l w : List Nat) (i : Nat), numGo b w l (i + k) = (numGo b w l i).up k
  | [], w, i => rfl
  | x :: l, w, i => by
    unfold numGo
    split
    · split
      · show Res.ok _ _ = Res.ok _ _
        rw [show i + k + 1 = i + 1 + k by omega]
      · rfl
    · split
      · rw [show i + k + 1 = i + 1 + k by omega]
        exact numGo_up l _ _
      · rfl
/-! the references of a character -/
def hxC (d : Nat) : Nat := if d < 10 then 48 + d else 55 + d
def hexU (n : Nat) : List Nat := if n < 16 then [hxC (n % 16)] else [hxC (n / 16), hxC (n % 16)]
/-- digits that stand for a character -/
def NumOk (b : Nat) (d : List Nat) (c : Nat) : Prop := d.head? ≠ some 120 ∧ numGo b [] (zer (d ++ [59])) 0 = .ok (zer (d ++ [59])).length c
instance (b : Nat) (d : List Nat) (c : Nat) : Decidable (NumOk b d c) := by unfold NumOk; infer_instance
def IsRef (l : List Nat) (c : Nat) : Prop := (∃ d, l = [38, 35] ++ d ++ [59] ∧ NumOk 10 d c) ∨ (∃ d, l = [38, 35, 120] ++ d ++ [59] ∧ NumOk 16 d c) ∨ ∃ n, l = [38] ++ n ++ [59] ∧ five n = some c
theorem zer_zeros (k : Nat) (l : List Nat) : zer (List.replicate k 48 ++ l) = zer l := by
  induction k with
  | zero => rfl
  | succ k ih =>
    rw [List.replicate_succ, List.cons_append]
    unfold zer at ih ⊢
    rw [List.dropWhile_cons, if_pos (by decide)]
    exact ih
theorem numOk_zeros {b : Nat} {d : List Nat} {c : Nat} (k : Nat) (h : NumOk b d c) : NumOk b (List.replicate k 48 ++ d) c := by
  refine ⟨?_, ?_⟩
  · cases k with
    | zero => exact h.1
    | succ k => rw [List.replicate_succ]; intro z; cases z
  · rw [List.append_assoc, zer_zeros]
    exact h.2
theorem num_at {b : Nat} {p d : List Nat} {c : Nat} (h : NumOk b d c) : numGo b [] (zer (d ++ [59])) ((p ++ d ++ [59]).length - (zer (d ++ [59])).length) = .ok (p ++ d ++ [59]).length c := by
  have q := zer_le (d ++ [59])
  have e : (p ++ d ++ [59]).length = p.length + (d ++ [59]).length := by rw [List.append_assoc, List.length_append]
  obtain ⟨k, hk⟩ : ∃ k, (p ++ d ++ [59]).length - (zer (d ++ [59])).length = 0 + k := ⟨_, (Nat.zero_add _).symm⟩
  rw [hk, numGo_up, h.2]
  show Res.ok _ _ = Res.ok _ _
  rw [show (zer (d ++ [59])).length + k = (p ++ d ++ [59]).length by omega]
theorem five_ok : ∀ p ∈ fiveN, refGo [] (p.1 ++ [59]) 1 = .ok (p.1.length + 2) p.2 ∧ (p.1 ++ [59]).head? ≠ some 35 := by decide +kernel
theorem five_mem {n : List Nat} {c : Nat} (h : five n = some c) : (n, c) ∈ fiveN := by
  unfold five at h
  cases q : fiveN.find? fun p => decide (p.1 = n) with
  | none => rw [q] at h; cases h
  | some p =>
    rw [q] at h
    have h1 := List.find?_some q
    have h2 := List.mem_of_find?_eq_some q
    have h3 : p.1 = n := of_decide_eq_true h1
    have h4 : p.2 = c := Option.some.inj h
    rw [← h3, ← h4]
    exact h2
theorem isRef_at {l : List Nat} {c : Nat} (h : IsRef l c) : refAt l 0 = .ok l.length c := by
  rcases h with ⟨d, rfl, h⟩ | ⟨d, rfl, h⟩ | ⟨n, rfl, h⟩
  · have e : ([38, 35] ++ d ++ [59] : List Nat).drop 2 = d ++ [59] := rfl
    have eh : (d ++ [59]).head? ≠ some 120 := by
      cases d with
      | nil => intro z; cases z
      | cons a r => exact h.1
    have q := num_at (p := [38, 35]) h
    unfold refAt
    rw [if_pos (by rfl)]
    unfold numAt baseOf restOf
    rw [e, if_neg eh, if_neg eh]
    exact q
  · have e : ([38, 35, 120] ++ d ++ [59] : List Nat).drop 2 = 120 :: (d ++ [59]) := rfl
    have q := num_at (p := [38, 35, 120]) h
    unfold refAt
    rw [if_pos (by rfl)]
    unfold numAt baseOf restOf
    have eh : (120 :: (d ++ [59]) : List Nat).head? = some 120 := rfl
    rw [e, if_pos eh, if_pos eh]
    exact q
  · have q := five_ok _ (five_mem h)
    have e : ([38] ++ n ++ [59] : List Nat).drop 1 = n ++ [59] := rfl
    have el : ([38] ++ n ++ [59] : List Nat).length = n.length + 2 := by simp
    unfold refAt
    rw [show (0 : Nat) + 1 = 1 from rfl, e, if_neg q.2, el]
    exact q.1
/-! all of them -/
def refs (c : Nat) : List (List Nat) := [[38, 35] ++ dg 10 c ++ [59], [38, 35, 120] ++ hexU c ++ [59], [38, 35, 120] ++ (hexU c).map low ++ [59]] ++ (fiveN.filter fun p => decide (p.2 = c)).map fun p => [38] ++ p.1 ++ [59]
/-- the law's own list -/
def fiveL : List (List Nat × Nat) := [([97, 109, 112], 38), ([97, 112, 111, 115], 39), ([103, 116], 62), ([108, 116], 60), ([113, 117, 111, 116], 34)]
def up (c : Nat) : Nat := if 97 ≤ c ∧ c ≤ 122 then c - 32 else c
def refsL (c : Nat) : List (List Nat) := [[38, 35] ++ dg 10 c ++ [59], [38, 35, 120] ++ dg 16 c ++ [59]] ++ (if (dg 16 c).map up = dg 16 c then [] else [[38, 35, 120] ++ (dg 16 c).map up ++ [59]]) ++ (fiveL.filter fun p => decide (p.2 = c)).map fun p => [38] ++ p.1 ++ [59]
def insL (M : List (List Nat)) (x : List Nat) : List (List Nat) := if x ∈ M then M else x :: M
theorem refs_same : ∀ c ∈ codes, ((refs c).foldl insL []).isPerm (refsL c) = true := by decide +kernel
theorem nums_ok : ∀ c ∈ codes, NumOk 10 (dg 10 c) c ∧ NumOk 16 (hexU c) c ∧ NumOk 16 ((hexU c).map low) c := by decide +kernel
theorem five_all : ∀ p ∈ fiveN, five p.1 = some p.2 := by decide +kernel
theorem refs_is {c : Nat} (hc : c ∈ codes) : ∀ l ∈ refs c, IsRef l c := by
  intro l hl
  obtain ⟨h1, h2, h3⟩ := nums_ok c hc
  unfold refs at hl
  rcases List.mem_append.mp hl with h | h
  · simp only [List.mem_cons, List.not_mem_nil, or_false] at h
    rcases h with rfl | rfl | rfl
    · exact .inl ⟨_, rfl, h1⟩
    · exact .inr (.inl ⟨_, rfl, h2⟩)
    · exact .inr (.inl ⟨_, rfl, h3⟩)
  · obtain ⟨p, hp, rfl⟩ := List.mem_map.mp h
    obtain ⟨hp1, hp2⟩ := List.mem_filter.mp hp
    have e : p.2 = c := of_decide_eq_true hp2
    exact .inr (.inr ⟨p.1, rfl, by rw [five_all p hp1, e]⟩)
theorem fold_mem : ∀ (xs M : List (List Nat)) (l : List Nat), l ∈ xs.foldl insL M → l ∈ M ∨ l ∈ xs
  | [], M, l, h => .inl h
  | x :: xs, M, l, h => by
    rcases fold_mem xs _ l h with h | h
    · unfold insL at h
      split at h
      · exact .inl h
      · rcases List.mem_cons.mp h with h | h
        · exact .inr (by rw [h]; exact List.mem_cons_self)
        · exact .inl h
    · exact .inr (List.mem_cons_of_mem _ h)
/-- how long they are -/
theorem refs_len : ∀ c ∈ codes, ∀ l ∈ refs c, l.length ≤ 8 ∧ ∀ x ∈ l, x < 128 := by decide +kernel
end Num

/-! raw texts: one unit after the other -/
namespace Num
def spC (c : Nat) : Nat := if c = 9 ∨ c = 10 then 32 else c
/-- what stands at a place of a raw text -/
inductive Stp where
  | done
  | unit (e c br : Nat)
  | ill (p : Nat)
  deriving DecidableEq
def stepAt (l m : List Nat) (i br : Nat) : Stp := match l[i]? with
  | none => .done
  | some c => if c = 38 then (match refAt l i with | .ok e x => .unit e x 0 | .ill k => .ill k)
    else if c = 60 ∨ m = [c] ∨ (m = [] ∧ c = 62 ∧ br = 2) then .ill i
    else .unit (i + 1) (if m = [] then c else spC c) (if c = 93 then min 2 (br + 1) else 0)
theorem step_end {l m : List Nat} {i br : Nat} (h : ¬ i < l.length) : stepAt l m i br = .done := by
  unfold stepAt
  rw [List.getElem?_eq_none (by omega)]
theorem step_amp {l m : List Nat} {i br : Nat} (h : l[i]? = some 38) : stepAt l m i br = (match refAt l i with | .ok e x => .unit e x 0 | .ill k => .ill k) := by
  unfold stepAt
  rw [h]
  exact if_pos rfl
theorem step_ill {l m : List Nat} {i br c : Nat} (h : l[i]? = some c) (h1 : c ≠ 38) (h2 : c = 60 ∨ m = [c] ∨ (m = [] ∧ c = 62 ∧ br = 2)) : stepAt l m i br = .ill i := by
  unfold stepAt
  rw [h]
  show (if c = 38 then _ else _) = _
  rw [if_neg h1, if_pos h2]
theorem step_one {l m : List Nat} {i br c : Nat} (h : l[i]? = some c) (h1 : c ≠ 38) (h2 : ¬ (c = 60 ∨ m = [c] ∨ (m = [] ∧ c = 62 ∧ br = 2))) :
    stepAt l m i br = .unit (i + 1) (if m = [] then c else spC c) (if c = 93 then min 2 (br + 1) else 0) := by
  unfold stepAt
  rw [h]
  show (if c = 38 then _ else _) = _
  rw [if_neg h1, if_neg h2]
theorem step_lt {l m : List Nat} {i br e c b : Nat} (h : stepAt l m i br = .unit e c b) : i < e ∧ e ≤ l.length ∧ b ≤ 2 := by
  have hi : i < l.length := by
    by_cases hi : i < l.length
    · exact hi
    · rw [step_end hi] at h
      cases h
  have hg : l[i]? = some l[i] := List.getElem?_eq_getElem hi
  by_cases h1 : l[i] = 38
  · rw [h1] at hg
    rw [step_amp hg] at h
    cases hr : refAt l i with
    | ok e2 x =>
      rw [hr] at h
      cases h
      have q := refAt_end hi hr
      exact ⟨q.1, q.2, by omega⟩
    | ill k =>
      rw [hr] at h
      cases h
  · by_cases h2 : l[i] = 60 ∨ m = [l[i]] ∨ (m = [] ∧ l[i] = 62 ∧ br = 2)
    · rw [step_ill hg h1 h2] at h
      cases h
    · rw [step_one hg h1 h2] at h
      cases h
      refine ⟨by omega, by omega, ?_⟩
      split <;> omega
end Num

/-! raw texts: the law's own reader -/
namespace Num
/-! all units from a place on, and the wrong index behind them -/
def unGo (l m : List Nat) : Nat → Nat → Nat → List (Nat × Nat × Nat) × Option Nat
  | 0, _, _ => ([], none)
  | f + 1, i, br => match stepAt l m i br with
    | .done => ([], none)
    | .unit e c b => ((i, e, c) :: (unGo l m f e b).1, (unGo l m f e b).2)
    | .ill k => ([], some k)
theorem unGo_out (l m : List Nat) (f i br : Nat) (h : l.length ≤ i) : unGo l m f i br = ([], none) := by
  cases f with
  | zero => rfl
  | succ f =>
    unfold unGo
    rw [step_end (by omega)]
theorem unGo_f (l m : List Nat) : ∀ f g i br, l.length < f + i → l.length < g + i → unGo l m f i br = unGo l m g i br := by
  intro f
  induction f with
  | zero => intro g i br h1 h2; rw [unGo_out l m 0 i br (by omega), unGo_out l m g i br (by omega)]
  | succ f ih =>
    intro g i br h1 h2
    cases g with
    | zero => rw [unGo_out l m 0 i br (by omega), unGo_out l m (f + 1) i br (by omega)]
    | succ g =>
      unfold unGo
      cases hs : stepAt l m i br with
      | done => rfl
      | ill k => rfl
      | unit e c b =>
        have q := step_lt hs
        show ((i, e, c) :: _, _) = ((i, e, c) :: _, _)
        rw [ih g e b (by omega) (by omega)]
def uns (l m : List Nat) (i br : Nat) : List (Nat × Nat × Nat) × Option Nat := unGo l m (l.length + 1) i br
theorem uns_done {l m : List Nat} {i br : Nat} (h : stepAt l m i br = .done) : uns l m i br = ([], none) := by
  unfold uns unGo
  rw [h]
theorem uns_ill {l m : List Nat} {i br k : Nat} (h : stepAt l m i br = .ill k) : uns l m i br = ([], some k) := by
  unfold uns unGo
  rw [h]
theorem uns_unit {l m : List Nat} {i br e c b : Nat} (h : stepAt l m i br = .unit e c b) : uns l m i br = ((i, e, c) :: (uns l m e b).1, (uns l m e b).2) := by
  have q := step_lt h
  have z : unGo l m l.length e b = unGo l m (l.length + 1) e b := unGo_f l m _ _ e b (by omega) (by omega)
  show unGo l m (l.length + 1) i br = _
  unfold uns
  rw [← z]
  conv => lhs; unfold unGo
  rw [h]
theorem refAt_two {l : List Nat} {i e c : Nat} (hb : i < l.length) (h : refAt l i = .ok e c) : i + 1 < e := by
  unfold refAt at h
  split at h
  · rename_i h35
    have hl : i + 2 ≤ l.length := by
      cases hd : l.drop (i + 1) with
      | nil => rw [hd] at h35; cases h35
      | cons a r =>
        have := congrArg List.length hd
        rw [List.length_drop, List.length_cons] at this
        omega
    have z1 := zer_le (restOf (l.drop (i + 2)))
    have z2 := restOf_le (l.drop (i + 2))
    rw [List.length_drop] at z2
    have q := numGo_end _ _ _ _ _ h
    omega
  · have q := refGo_end _ _ _ _ _ h
    omega
theorem five_lt : ∀ p ∈ fiveN, p.2 < 128 := by decide +kernel
theorem numGo_lt {b : Nat} : ∀ (l w : List Nat) (i e c : Nat), numGo b w l i = .ok e c → c < 128
  | [], w, i, e, c, h => by unfold numGo at h; cases h
  | x :: l, w, i, e, c, h => by
    unfold numGo at h
    split at h
    · split at h
      · rename_i y hy
        cases h
        exact chr_lt hy
      · cases h
    · split at h
      · exact numGo_lt l _ _ _ _ h
      · cases h
theorem refGo_lt : ∀ (l w : List Nat) (i e c : Nat), refGo w l i = .ok e c → c < 128
  | [], w, i, e, c, h => by unfold refGo at h; cases h
  | x :: l, w, i, e, c, h => by
    unfold refGo at h
    split at h
    · rename_i y hy
      cases h
      split at hy
      · exact five_lt _ (five_mem hy)
      · cases hy
    · split at h
      · exact refGo_lt l _ _ _ _ h
      · cases h
theorem refAt_lt {l : List Nat} {i e c : Nat} (h : refAt l i = .ok e c) : c < 128 := by
  unfold refAt at h
  split at h
  · exact numGo_lt _ _ _ _ _ h
  · exact refGo_lt _ _ _ _ _ h
theorem spC_lt {c : Nat} (h : c < 128) : spC c < 128 := by unfold spC; split <;> omega
theorem step_asc {l m : List Nat} {i br e c b : Nat} (hl : ∀ x ∈ l, x < 128) (h : stepAt l m i br = .unit e c b) : c < 128 := by
  have hi : i < l.length := by
    by_cases hi : i < l.length
    · exact hi
    · rw [step_end hi] at h
      cases h
  have hg : l[i]? = some l[i] := List.getElem?_eq_getElem hi
  by_cases h1 : l[i] = 38
  · rw [h1] at hg
    rw [step_amp hg] at h
    cases hr : refAt l i with
    | ok e2 x => rw [hr] at h; cases h; exact refAt_lt hr
    | ill k => rw [hr] at h; cases h
  · by_cases h2 : l[i] = 60 ∨ m = [l[i]] ∨ (m = [] ∧ l[i] = 62 ∧ br = 2)
    · rw [step_ill hg h1 h2] at h; cases h
    · rw [step_one hg h1 h2] at h
      cases h
      have := hl _ (List.getElem_mem hi)
      split
      · exact this
      · exact spC_lt this
/-- what is told of all units -/
theorem unGo_all {l m : List Nat} (hl : ∀ x ∈ l, x < 128) : ∀ f i br, (∀ u ∈ (unGo l m f i br).1, u.2.2 < 128 ∧ u.1 < l.length ∧ u.2.1 ≤ l.length) ∧ (unGo l m f i br).1.length ≤ l.length - i := by
  intro f
  induction f with
  | zero => intro i br; exact ⟨(fun u hu => nomatch hu), Nat.zero_le _⟩
  | succ f ih =>
    intro i br
    unfold unGo
    cases hs : stepAt l m i br with
    | done => exact ⟨(fun u hu => nomatch hu), Nat.zero_le _⟩
    | ill k => exact ⟨(fun u hu => nomatch hu), Nat.zero_le _⟩
    | unit e c b =>
      have q := step_lt hs
      obtain ⟨h1, h2⟩ := ih e b
      refine ⟨fun u hu => ?_, ?_⟩
      · rcases List.mem_cons.mp hu with rfl | hu
        · exact ⟨step_asc hl hs, by show i < _; omega, q.2.1⟩
        · exact h1 u hu
      · show (_ :: _).length ≤ _
        rw [List.length_cons]
        omega
theorem uns_all {l m : List Nat} (hl : ∀ x ∈ l, x < 128) (i br : Nat) : (∀ u ∈ (uns l m i br).1, u.2.2 < 128 ∧ u.1 < l.length ∧ u.2.1 ≤ l.length) ∧ (uns l m i br).1.length ≤ l.length - i := unGo_all hl _ i br
/-! brackets -/
def dirU (u : Nat × Nat × Nat) : Bool := decide (u.2.2 = 93) && decide (u.2.1 = u.1 + 1)
def brs (us : List (Nat × Nat × Nat)) : Nat := min 2 (us.reverse.takeWhile dirU).length
theorem brs_dir {us : List (Nat × Nat × Nat)} {u : Nat × Nat × Nat} (h : dirU u = true) : brs (us ++ [u]) = min 2 (brs us + 1) := by
  unfold brs
  rw [List.reverse_append, List.reverse_singleton, List.singleton_append, List.takeWhile_cons, if_pos h, List.length_cons]
  omega
theorem brs_not {us : List (Nat × Nat × Nat)} {u : Nat × Nat × Nat} (h : dirU u = false) : brs (us ++ [u]) = 0 := by
  unfold brs
  rw [List.reverse_append, List.reverse_singleton, List.singleton_append, List.takeWhile_cons, if_neg (by rw [h]; decide)]
  rfl
theorem brs_two (us : List (Nat × Nat × Nat)) : ((us.drop (us.length - 2)).filter dirU).length = 2 ↔ brs us = 2 := by
  obtain ⟨r, rfl⟩ : ∃ r, us = List.reverse r := ⟨us.reverse, by rw [List.reverse_reverse]⟩
  unfold brs
  rw [List.reverse_reverse]
  match r with
  | [] => simp
  | [a] =>
    cases h : dirU a <;> simp [h]
  | a :: b :: r =>
    have e : (a :: b :: r).reverse.drop ((a :: b :: r).reverse.length - 2) = [b, a] := by
      rw [List.length_reverse, List.reverse_cons, List.reverse_cons, List.append_assoc]
      show List.drop (r.length + 1 + 1 - 2) (r.reverse ++ [b, a]) = _
      rw [show r.length + 1 + 1 - 2 = r.reverse.length by rw [List.length_reverse]; omega, List.drop_left]
    rw [e]
    cases ha : dirU a <;> cases hb : dirU b <;> simp [ha, hb, List.takeWhile_cons] <;> omega
/-! the law's numbers -/
def lnum (b : Nat) : List Nat → List Nat → Nat → Res
  | _, [], i => .ill i
  | w, c :: l, i => if c = 59 then (match chr b w with
      | some x => .ok (i + 1) x
      | none => .ill i)
    else if low c = 48 ∧ w = [] then lnum b w l (i + 1) else if has (tab b) (w ++ [low c]) = true then lnum b (w ++ [low c]) l (i + 1) else .ill i
theorem short_self {w : List Nat} (h : w.head? ≠ some 48) : short w = w.map low := by
  have q := short_nz (z := []) (r := w) (by simp) h
  simpa using q
theorem head_map {w : List Nat} (h : w.head? ≠ some 48) : (w.map low).head? ≠ some 48 := by
  cases w with
  | nil => simp
  | cons a r =>
    intro e
    simp only [List.map_cons, List.head?_cons] at e h
    exact h (by rw [(low48 a).mp (Option.some.inj e)])
theorem npart_len {b : Nat} {l : List Nat} (h : npart b l = true) : l.length ≤ 3 := by
  unfold npart at h
  split at h
  · rename_i h0; rw [h0]; exact Nat.zero_le _
  · split at h
    · cases h
    · omega
theorem lnum_eq {b : Nat} (hb : Base b) : ∀ (l w : List Nat) (i : Nat), w.head? ≠ some 48 → has (tab b) (w.map low) = true → (w ≠ [] ∨ l.head? ≠ some 48) → lnum b (w.map low) l i = numGo b w l i := by
  intro l
  induction l with
  | nil => intro w i _ _ _; rfl
  | cons c l ih =>
    intro w i h0 hh hz
    unfold lnum numGo
    rw [short_self h0]
    by_cases h59 : c = 59
    · rw [if_pos h59, if_pos h59]
      all_goals (cases chr b (w.map low) <;> rfl)
    · rw [if_neg h59, if_neg h59]
      have hn : ¬ (low c = 48 ∧ w.map low = []) := by
        rintro ⟨h1, h2⟩
        rcases hz with hz | hz
        · exact hz (List.map_eq_nil_iff.mp h2)
        · exact hz (by rw [List.head?_cons, (low48 c).mp h1])
      rw [if_neg hn]
      have h0' : (w ++ [c]).head? ≠ some 48 := by
        cases w with
        | nil =>
          rcases hz with hz | hz
          · exact absurd rfl hz
          · simpa using hz
        | cons a r => simpa using h0
      have es : short (w ++ [c]) = w.map low ++ [low c] := by rw [short_self h0', List.map_append]; rfl
      rw [es]
      have iff : has (tab b) (w.map low ++ [low c]) = true ↔ (low c ∈ digs b ∧ npart b (w.map low ++ [low c]) = true) := by
        rw [has_iff hb, goodB_iff]
        rw [has_iff hb, goodB_iff] at hh
        constructor
        · rintro ⟨_, h2, _, h4⟩
          exact ⟨h2 _ (by simp), h4⟩
        · rintro ⟨h1, h2⟩
          refine ⟨npart_len h2, fun x hx => ?_, ?_, h2⟩
          · rcases List.mem_append.mp hx with hx | hx
            · exact hh.2.1 x hx
            · rw [List.mem_singleton.mp hx]; exact h1
          · have := head_map h0'
            rw [List.map_append] at this
            exact this
      by_cases hk : has (tab b) (w.map low ++ [low c]) = true
      · rw [if_pos hk, if_pos (iff.mp hk)]
        have q := ih (w ++ [c]) (i + 1) h0' (by rw [List.map_append]; exact hk) (.inl (by simp))
        rw [List.map_append] at q
        exact q
      · rw [if_neg hk, if_neg (fun z => hk (iff.mpr z))]
theorem has_nil {b : Nat} (hb : Base b) : has (tab b) [] = true := by
  have q := begun_zeros hb (z := []) (by simp)
  exact q
theorem lnum_zer {b : Nat} (hb : Base b) : ∀ (l : List Nat) (i : Nat), lnum b [] l i = numGo b [] (zer l) (i + (l.length - (zer l).length))
  | [], i => rfl
  | c :: l, i => by
    have zl := zer_le l
    by_cases h : c = 48
    · subst h
      have e : zer (48 :: l) = zer l := rfl
      rw [e]
      unfold lnum
      rw [if_neg (by decide), if_pos ⟨rfl, rfl⟩, lnum_zer hb l (i + 1), List.length_cons]
      congr 1
      omega
    · rw [zer_nz l h, Nat.sub_self, Nat.add_zero]
      exact lnum_eq hb (c :: l) [] i (by simp) (has_nil hb) (.inr (by simpa using h))
theorem base_of (r : List Nat) : Base (baseOf r) := by
  unfold baseOf
  split
  · exact .inr rfl
  · exact .inl rfl
theorem numAt_law {l : List Nat} {bg s : Nat} (hs : s ≤ l.length) (h : restOf (l.drop bg) = l.drop s) : numAt l bg = lnum (baseOf (l.drop bg)) [] (l.drop s) s := by
  unfold numAt
  rw [lnum_zer (base_of _), h]
  have := zer_le (l.drop s)
  rw [List.length_drop] at this ⊢
  congr 1
  omega
theorem short_snoc (l : List Nat) (c : Nat) : short (l ++ [c]) = if low c = 48 ∧ short l = [] then [] else short l ++ [low c] := by
  unfold short zer
  rw [List.map_append, List.dropWhile_append]
  cases hd : List.dropWhile (fun c => decide (c = 48)) (l.map low) with
  | nil =>
    by_cases h : low c = 48
    · simp [h]
    · simp [h]
  | cons a r => simp
/-! the law's names -/
def lhit (x : List Nat) : List (List Nat × Nat) := fiveL.filter fun p => x.isPrefixOf (p.1 ++ [59])
def lref : List Nat → List Nat → Nat → Res
  | _, [], i => .ill i
  | w, c :: l, i => match lhit (w ++ [c]) with
    | [] => .ill i
    | p :: _ => if c = 59 then .ok (i + 1) p.2 else lref (w ++ [c]) l (i + 1)
theorem pre_end : ∀ (w n : List Nat), (∀ x ∈ w, x ≠ 59) → (∀ x ∈ n, x ≠ 59) → (w ++ [59]).isPrefixOf (n ++ [59]) = decide (n = w)
  | [], [], _, _ => rfl
  | [], a :: n, _, hn => by
    have := hn a List.mem_cons_self
    simp [List.isPrefixOf]
    omega
  | a :: w, [], hw, _ => by
    have := hw a List.mem_cons_self
    simp [List.isPrefixOf, this]
  | a :: w, b :: n, hw, hn => by
    have ih := pre_end w n (fun x hx => hw x (List.mem_cons_of_mem _ hx)) (fun x hx => hn x (List.mem_cons_of_mem _ hx))
    show ((a == b) && (w ++ [59]).isPrefixOf (n ++ [59])) = _
    rw [ih]
    by_cases hab : a = b
    · subst hab
      simp
    · have : ¬ b = a := fun z => hab z.symm
      simp [hab, this]
theorem pre_no : ∀ (w n : List Nat), (∀ x ∈ w, x ≠ 59) → w.isPrefixOf (n ++ [59]) = w.isPrefixOf n
  | [], n, _ => by cases n <;> rfl
  | a :: w, [], hw => by
    have := hw a List.mem_cons_self
    simp [List.isPrefixOf, this]
  | a :: w, b :: n, hw => by
    have ih := pre_no w n (fun x hx => hw x (List.mem_cons_of_mem _ hx))
    show ((a == b) && w.isPrefixOf (n ++ [59])) = ((a == b) && w.isPrefixOf n)
    rw [ih]
theorem pre_not : ∀ (w n : List Nat), (∀ x ∈ n, x ≠ 59) → (w ++ [59]).isPrefixOf n = false
  | [], [], _ => rfl
  | [], a :: n, hn => by
    have := hn a List.mem_cons_self
    show ((59 == a) && true) = false
    simp
    omega
  | a :: w, [], _ => rfl
  | a :: w, b :: n, hn => by
    have ih := pre_not w n (fun x hx => hn x (List.mem_cons_of_mem _ hx))
    show ((a == b) && (w ++ [59]).isPrefixOf n) = false
    rw [ih, Bool.and_false]
theorem fiveN_no : ∀ p ∈ fiveN, ∀ x ∈ p.1, x ≠ 59 := by decide +kernel
theorem fiveL_no : ∀ p ∈ fiveL, ∀ x ∈ p.1, x ≠ 59 := by decide +kernel
theorem lhit_end {w : List Nat} (hw : ∀ x ∈ w, x ≠ 59) : lhit (w ++ [59]) = fiveL.filter fun p => decide (p.1 = w) := by
  unfold lhit
  refine List.filter_congr fun p hp => ?_
  exact pre_end w p.1 hw (fiveL_no p hp)
theorem five_hit (w : List Nat) : (match (fiveL.filter fun p => decide (p.1 = w)) with | [] => none | p :: _ => some p.2) = five w := by
  by_cases h1 : w = [97, 109, 112]
  · subst h1; rfl
  by_cases h2 : w = [97, 112, 111, 115]
  · subst h2; rfl
  by_cases h3 : w = [103, 116]
  · subst h3; rfl
  by_cases h4 : w = [108, 116]
  · subst h4; rfl
  by_cases h5 : w = [113, 117, 111, 116]
  · subst h5; rfl
  have g1 : ¬ [97, 109, 112] = w := fun z => h1 z.symm
  have g2 : ¬ [97, 112, 111, 115] = w := fun z => h2 z.symm
  have g3 : ¬ [103, 116] = w := fun z => h3 z.symm
  have g4 : ¬ [108, 116] = w := fun z => h4 z.symm
  have g5 : ¬ [113, 117, 111, 116] = w := fun z => h5 z.symm
  unfold five fiveN fiveL
  simp [g1, g2, g3, g4, g5, List.find?, List.filter]
theorem lhit_no {x : List Nat} (hx : ∀ c ∈ x, c ≠ 59) : lhit x = [] ↔ begins x = false := by
  have e : lhit x = fiveL.filter fun p => x.isPrefixOf p.1 := by
    unfold lhit
    exact List.filter_congr fun p _ => pre_no x p.1 hx
  rw [e, List.filter_eq_nil_iff]
  unfold begins
  rw [List.any_eq_false]
  constructor
  · intro h p hp
    have : p ∈ fiveL := (by decide +kernel : ∀ p ∈ fiveN, p ∈ fiveL) p hp
    exact h p this
  · intro h p hp
    have : p ∈ fiveN := (by decide +kernel : ∀ p ∈ fiveL, p ∈ fiveN) p hp
    exact h p this
theorem lref_eq : ∀ (l w : List Nat) (i : Nat), (∀ x ∈ w, x ≠ 59) → lref w l i = refGo w l i
  | [], w, i, _ => rfl
  | c :: l, w, i, hw => by
    unfold lref refGo
    by_cases h59 : c = 59
    · subst h59
      have q := five_hit w
      rw [lhit_end hw]
      rw [if_pos rfl]
      cases hf : (fiveL.filter fun p => decide (p.1 = w)) with
      | nil =>
        rw [hf] at q
        rw [← q]
        show Res.ill i = if begins (w ++ [59]) = true then _ else _
        have hb : begins (w ++ [59]) = false := by
          unfold begins
          rw [List.any_eq_false]
          intro p hp
          rw [pre_not w p.1 (fiveN_no p hp)]
          decide
        rw [if_neg (by rw [hb]; decide)]
      | cons p r =>
        rw [hf] at q
        rw [← q]
        show (if 59 = 59 then _ else _) = _
        rw [if_pos rfl]
    · rw [if_neg h59]
      have hw' : ∀ x ∈ w ++ [c], x ≠ 59 := fun x hx => by
        rcases List.mem_append.mp hx with hx | hx
        · exact hw x hx
        · rw [List.mem_singleton.mp hx]; exact h59
      have q := lhit_no hw'
      cases hf : lhit (w ++ [c]) with
      | nil =>
        show Res.ill i = if begins (w ++ [c]) = true then _ else _
        rw [if_neg (by rw [q.mp hf]; decide)]
      | cons p r =>
        have hb : begins (w ++ [c]) = true := by
          cases hb : begins (w ++ [c]) with
          | true => rfl
          | false => rw [q.mpr hb] at hf; cases hf
        show (if c = 59 then _ else _) = if begins (w ++ [c]) = true then _ else _
        rw [if_neg h59, if_pos hb]
        exact lref_eq l (w ++ [c]) (i + 1) hw'
end Num

namespace Mx
open PySem PySem.Spec PyProof.Rows L2 TL Num
open PySem.Builtin.Str (subAt)
theorem starts_tl (x y : Str) : Txt.startswith x y = (tl y).isPrefixOf (tl x) := by
  have lx : x.length = (tl x).length := len_tl x
  have ly : y.length = (tl y).length := len_tl y
  have e : Txt.startswith x y = (decide (0 + y.length ≤ x.length) && subAt x y 0) := rfl
  have e2 : subAt x y 0 = ((tl x).take (tl y).length == tl y) := by
    rw [StrLaws.subAt_eq]
    show ((tl x).take y.length == tl y) = _
    rw [ly]
  rw [e, e2, lx, ly, Bool.eq_iff_iff, Bool.and_eq_true, decide_eq_true_eq, beq_iff_eq, List.isPrefixOf_iff_prefix, List.prefix_iff_eq_take]
  constructor
  · rintro ⟨_, h⟩
    exact h.symm
  · intro h
    refine ⟨?_, h.symm⟩
    have z := congrArg List.length h
    rw [List.length_take] at z
    omega
theorem ends_tl {x : Str} {w : List Nat} {c : Nat} (h : tl x = w ++ [c]) : Txt.endswith x ";" = decide (c = 59) := by
  have lx : x.length = w.length + 1 := by rw [len_tl, h, List.length_append]; rfl
  have e : Txt.endswith x ";" = (decide (0 + (";" : Str).length ≤ x.length) && subAt x ";" (x.length - (";" : Str).length)) := rfl
  have ly : (";" : Str).length = 1 := rfl
  have e2 : subAt x ";" w.length = ((tl x).drop w.length == [59]) := by
    rw [StrLaws.subAt_eq]
    show (((tl x).drop w.length).take (";" : Str).length == [59]) = _
    rw [ly, List.take_of_length_le (by rw [h, List.length_drop, List.length_append]; show w.length + 1 - w.length ≤ 1; omega)]
  rw [e, ly, lx, show w.length + 1 - 1 = w.length by omega, e2, h, List.drop_append_of_le_length (Nat.le_refl _), List.drop_length, List.nil_append, decide_eq_true (by omega : 0 + 1 ≤ w.length + 1), Bool.true_and]
  by_cases hc : c = 59
  · rw [hc]; rfl
  · rw [decide_eq_false hc]
    exact beq_eq_false_iff_ne.mpr fun z => hc (List.cons.inj z).1
theorem cutS_init {x : Str} {w : List Nat} {c : Nat} (h : tl x = w ++ [c]) : tl (cutS x none (some (-1))) = w := by
  have lx : x.length = w.length + 1 := by rw [len_tl, h, List.length_append]; rfl
  show (((x.cps.toList.drop (HT.sIx x.length 0 none)).take (HT.sIx x.length x.length (some (-1)) - HT.sIx x.length 0 none)).toArray).toList = _
  have e1 : HT.sIx x.length 0 none = 0 := rfl
  have e2 : HT.sIx x.length x.length (some (-1)) = w.length := by
    show (if (-1 : Int) < 0 then ((-1 : Int) + (x.length : Int)).toNat else min (-1 : Int).toNat x.length) = _
    rw [if_pos (by decide), lx]
    omega
  rw [e1, e2]
  show ((tl x).drop 0).take (w.length - 0) = w
  rw [h, List.drop_zero, Nat.sub_zero, List.take_append_of_le_length (Nat.le_refl _), List.take_length]
abbrev fiveKV : List (Str × Str) := [("lt", "<"), ("gt", ">"), ("amp", "&"), ("apos", "'"), ("quot", "\"")]
theorem str_beq (x y : Str) : (x == y) = decide (tl x = tl y) := by
  by_cases h : tl x = tl y
  · rw [decide_eq_true h, ext_tl h]
    exact beq_self_eq_true y
  · rw [decide_eq_false h]
    refine beq_eq_false_iff_ne.mpr fun e => h ?_
    rw [e]
theorem atK_five (z : Str) : atK fiveKV z = (five (tl z)).map fun c => (⟨#[c]⟩ : Str) := by
  have a1 : (("lt" : Str) == z) = decide ([108, 116] = tl z) := str_beq _ _
  have a2 : (("gt" : Str) == z) = decide ([103, 116] = tl z) := str_beq _ _
  have a3 : (("amp" : Str) == z) = decide ([97, 109, 112] = tl z) := str_beq _ _
  have a4 : (("apos" : Str) == z) = decide ([97, 112, 111, 115] = tl z) := str_beq _ _
  have a5 : (("quot" : Str) == z) = decide ([113, 117, 111, 116] = tl z) := str_beq _ _
  unfold atK five fiveKV fiveN
  simp only [List.find?_cons, a1, a2, a3, a4, a5]
  generalize tl z = l
  by_cases h1 : [108, 116] = l
  · rw [decide_eq_true h1]; rfl
  rw [decide_eq_false h1]
  by_cases h2 : [103, 116] = l
  · rw [decide_eq_true h2]; rfl
  rw [decide_eq_false h2]
  by_cases h3 : [97, 109, 112] = l
  · rw [decide_eq_true h3]; rfl
  rw [decide_eq_false h3]
  by_cases h4 : [97, 112, 111, 115] = l
  · rw [decide_eq_true h4]; rfl
  rw [decide_eq_false h4]
  by_cases h5 : [113, 117, 111, 116] = l
  · rw [decide_eq_true h5]; rfl
  rw [decide_eq_false h5]
  rfl
/-- the names that begin so -/
theorem five_begins (w : List Nat) : ((List.range 5).map fun i => w.isPrefixOf (tl (fiveKV.getD i ("", "")).1)).any id = begins w := by
  show [w.isPrefixOf [108, 116], w.isPrefixOf [103, 116], w.isPrefixOf [97, 109, 112], w.isPrefixOf [97, 112, 111, 115], w.isPrefixOf [113, 117, 111, 116]].any id = _
  unfold begins fiveN
  simp only [List.any_cons, List.any_nil, id]
theorem five_at : ∀ (i : Nat) (p : Str × Str), fiveKV[i]? = some p → p = fiveKV.getD i ("", "") := by
  intro i p h
  rw [List.getD_eq_getElem?_getD, h]
  rfl
end Mx

namespace Mx
open PySem PySem.Spec PyProof.Rows L2 TL Num
/-! references as texts; a sorted list is one -/
def toS (l : List Nat) : Str := ⟨l.toArray⟩
theorem tl_toS (l : List Nat) : tl (toS l) = l := by show l.toArray.toList = l; simp
theorem toS_tl (z : Str) : toS (tl z) = z := Mx.str_ext (tl_toS _)
theorem toS_mem {M : List (List Nat)} {x : List Nat} : toS x ∈ M.map toS ↔ x ∈ M := by
  constructor
  · intro h
    obtain ⟨y, hy, e⟩ := List.mem_map.mp h
    rw [← tl_toS x, ← e, tl_toS]
    exact hy
  · exact fun h => List.mem_map_of_mem h
theorem ins_toS (M : List (List Nat)) (x : List Nat) : ins (M.map toS) (toS x) = (insL M x).map toS := by
  unfold ins insL
  by_cases h : x ∈ M
  · rw [if_pos (toS_mem.mpr h), if_pos h]
  · rw [if_neg (fun z => h (toS_mem.mp z)), if_neg h]
    rfl
theorem fold_toS : ∀ (xs M : List (List Nat)), (xs.map toS).foldl ins (M.map toS) = (xs.foldl insL M).map toS
  | [], M => rfl
  | x :: xs, M => by
    rw [List.map_cons, List.foldl_cons, List.foldl_cons, ins_toS, fold_toS xs]
/-- texts in order -/
def LeS (a b : Str) : Prop := tl a ≤ tl b
theorem leS_of {a b : Str} (h : ltCps b.cps.toList a.cps.toList = false) : LeS a b := by
  rw [ltCps_eq] at h
  exact of_decide_eq_false h
theorem leS_trans {a b c : Str} (h : LeS a b) (k : LeS b c) : LeS a c := List.le_trans h k
theorem leS_anti {a b : Str} (h : LeS a b) (k : LeS b a) : a = b := Mx.str_ext (List.le_antisymm h k)
theorem rising_pw : ∀ (l : List Str) (p : Str), risingS p l = true → (p :: l).Pairwise LeS
  | [], p, _ => List.pairwise_singleton _ _
  | x :: r, p, h => by
    have h' : (!ltCps x.cps.toList p.cps.toList && risingS x r) = true := h
    rw [Bool.and_eq_true, Bool.not_eq_true'] at h'
    have q := rising_pw r x h'.2
    have hp := leS_of h'.1
    refine List.pairwise_cons.mpr ⟨fun y hy => ?_, q⟩
    rcases List.mem_cons.mp hy with rfl | hy
    · exact hp
    · exact leS_trans hp ((List.pairwise_cons.mp q).1 y hy)
theorem sorted_pw {l : List Str} (h : sortedS l = true) : l.Pairwise LeS := by
  cases l with
  | nil => exact .nil
  | cons x r => exact rising_pw r x h
theorem sorted_one : ∀ {l k : List Str}, l.Pairwise LeS → k.Pairwise LeS → l.Perm k → l = k
  | [], k, _, _, h => h.symm.eq_nil.symm
  | x :: l, [], _, _, h => absurd h.eq_nil (by simp)
  | x :: l, y :: k, hl, hk, h => by
    obtain ⟨a1, a2⟩ := List.pairwise_cons.mp hl
    obtain ⟨b1, b2⟩ := List.pairwise_cons.mp hk
    have e : x = y := by
      have hx : x ∈ y :: k := h.mem_iff.mp List.mem_cons_self
      have hy : y ∈ x :: l := h.mem_iff.mpr List.mem_cons_self
      rcases List.mem_cons.mp hx with hx | hx
      · exact hx
      · rcases List.mem_cons.mp hy with hy | hy
        · exact hy.symm
        · exact leS_anti (a1 y hy) (b1 x hx)
    subst e
    rw [sorted_one a2 b2 (List.perm_cons x |>.mp h)]
/-- what references gives -/
structure RefsOf (c : Nat) (ys : List Str) : Prop where
  perm : ys.Perm ((refsL c).map toS)
  srt : sortedS ys = true
theorem RefsOf.one {c : Nat} {ys zs : List Str} (h : RefsOf c ys) (k : RefsOf c zs) : ys = zs := sorted_one (sorted_pw h.srt) (sorted_pw k.srt) (h.perm.trans k.perm.symm)
theorem refsOf_set {c : Nat} {ys : List Str} (hc : c ∈ codes) (h : ys.Perm (((refs c).map toS).foldl ins [])) (s : sortedS ys = true) : RefsOf c ys := by
  refine ⟨h.trans ?_, s⟩
  have e := fold_toS (refs c) []
  rw [List.map_nil] at e
  rw [e]
  exact (List.isPerm_iff.mp (refs_same c hc)).map toS
theorem refsL_len : ∀ c ∈ codes, (refsL c).length ≤ 4 ∧ (refs c).length ≤ 4 := by decide +kernel
theorem RefsOf.len {c : Nat} {ys : List Str} (h : RefsOf c ys) (hc : c ∈ codes) : ys.length ≤ 4 := by
  rw [h.perm.length_eq, List.length_map]
  exact (refsL_len c hc).1
theorem RefsOf.is {c : Nat} {ys : List Str} (h : RefsOf c ys) (hc : c ∈ codes) : ∀ y ∈ ys, IsRef (tl y) c ∧ (tl y).length ≤ 8 ∧ ∀ x ∈ tl y, x < 128 := by
  intro y hy
  obtain ⟨l, hl, rfl⟩ := List.mem_map.mp (h.perm.mem_iff.mp hy)
  rw [tl_toS]
  have q := (List.isPerm_iff.mp (refs_same c hc)).mem_iff.mpr hl
  rcases fold_mem _ _ _ q with q | q
  · cases q
  · exact ⟨refs_is hc l q, refs_len c hc l q⟩
theorem five_kv : fiveKV = fiveN.map fun p => (toS p.1, (⟨#[p.2]⟩ : Str)) := rfl
theorem five_kv_at {i : Nat} {p : Str × Str} (h : fiveKV[i]? = some p) : p = (toS (fiveN.getD i ([], 0)).1, ⟨#[(fiveN.getD i ([], 0)).2]⟩) := by
  rw [five_kv, List.getElem?_map] at h
  rw [List.getD_eq_getElem?_getD]
  cases q : fiveN[i]? with
  | none => rw [q] at h; cases h
  | some x =>
    rw [q] at h
    exact (Option.some.inj h).symm
theorem tl_up {z : Str} (h : ∀ c ∈ tl z, c < 128) : tl (Txt.upper z) = (tl z).map up := by
  rw [upper_ascii h]
  show (z.cps.map up1).toList = _
  rw [Array.toList_map]
  rfl
theorem int_text : ∀ n < 128, tl (toString ((n : Nat) : Int)) = dg 10 n := by decide +kernel
theorem hex_len : ∀ n < 128, (hexU n).length ≤ 2 ∧ (dg 10 n).length ≤ 3 ∧ (dg 16 n).length ≤ 2 := by decide +kernel
end Mx

set_option maxHeartbeats 1000000
set_option pp.maxSteps 700
set_option pp.deepTerms false
set_option pp.deepTerms.threshold 14
namespace K7
open PySem PySem.Spec PyProof.Rows L2 Mx
/-! ### the text by places -/
def topS (i : Nat) : Stmt := PySem.Challenge.pw_markstream_k07_whole_raw_texts_refused.main.body.getD i (.Pass ⟨0, 0, 0, 0⟩)
abbrev s_IllFormed___init__ : Stmt := inClass (topS 5) 0
abbrev s_InvalidText___init__ : Stmt := inClass (topS 6) 0
abbrev s_InvalidKind___init__ : Stmt := inClass (topS 7) 0
abbrev s_InvalidNumber___init__ : Stmt := inClass (topS 8) 0
abbrev s_shortened : Stmt := topS 16
abbrev s_value_of : Stmt := topS 17
abbrev s_is_code : Stmt := topS 18
abbrev s_is_number_part : Stmt := topS 19
abbrev s_character_of : Stmt := topS 20
abbrev s_spaced : Stmt := topS 21
abbrev s_check_text : Stmt := topS 24
abbrev s_check_raw : Stmt := topS 25
abbrev s_number_at : Stmt := topS 26
abbrev s_reference_at : Stmt := topS 27
abbrev s_units : Stmt := topS 28
abbrev s_unescaped : Stmt := topS 29
abbrev s_first_wrong_raw : Stmt := topS 30
abbrev s_is_between : Stmt := topS 32
abbrev s_check_number : Stmt := topS 33
abbrev s_Lines___init__ : Stmt := inClass (topS 36) 0
abbrev s_Cursor_offset : Stmt := inClass (topS 37) 1
abbrev s_Cursor_go_to : Stmt := inClass (topS 37) 3
abbrev s_Cursor_take_text : Stmt := inClass (topS 37) 7
abbrev s__law_mixed : Stmt := topS 39
abbrev s__law_stream : Stmt := topS 40
abbrev s__law_draw : Stmt := topS 41
abbrev s__law_signs : Stmt := topS 42
abbrev s__law_pick : Stmt := topS 43
abbrev s__law_told : Stmt := topS 44
abbrev s__law_five : Stmt := topS 45
abbrev s__law_digits : Stmt := topS 46
abbrev s__law_table : Stmt := topS 47
abbrev s__law_number_end : Stmt := topS 48
abbrev s__law_reference_end : Stmt := topS 49
abbrev s__law_read : Stmt := topS 50
abbrev s__law_piece : Stmt := topS 51
abbrev s__law_collected : Stmt := topS 52
abbrev s__law_right : Stmt := topS 53
abbrev s__law_taken_right : Stmt := topS 54
abbrev s__law_refused_right : Stmt := topS 55
abbrev s_law : Stmt := topS 56
theorem sc_IllFormed___init__ : FnScope ["self", "position"] ["self", "position"] (defScope s_IllFormed___init__) := ⟨rfl, rfl, rfl, by decide +kernel, rfl, by decide +kernel, by decide +kernel⟩
theorem sc_InvalidText___init__ : FnScope ["self", "index"] ["self", "index"] (defScope s_InvalidText___init__) := ⟨rfl, rfl, rfl, by decide +kernel, rfl, by decide +kernel, by decide +kernel⟩
theorem sc_InvalidKind___init__ : FnScope ["self", "kind"] ["self", "kind"] (defScope s_InvalidKind___init__) := ⟨rfl, rfl, rfl, by decide +kernel, rfl, by decide +kernel, by decide +kernel⟩
theorem sc_InvalidNumber___init__ : FnScope ["self", "number"] ["self", "number"] (defScope s_InvalidNumber___init__) := ⟨rfl, rfl, rfl, by decide +kernel, rfl, by decide +kernel, by decide +kernel⟩
theorem sc_shortened : FnScope ["digits"] ["digits"] (defScope s_shortened) := ⟨rfl, rfl, rfl, by decide +kernel, rfl, by decide +kernel, by decide +kernel⟩
theorem sc_value_of : FnScope ["digits", "base", "found", "sign"] ["digits", "base"] (defScope s_value_of) := ⟨rfl, rfl, rfl, by decide +kernel, rfl, by decide +kernel, by decide +kernel⟩
theorem sc_is_code : FnScope ["code"] ["code"] (defScope s_is_code) := ⟨rfl, rfl, rfl, by decide +kernel, rfl, by decide +kernel, by decide +kernel⟩
theorem sc_is_number_part : FnScope ["digits", "base", "short", "value", "size", "code"] ["digits", "base"] (defScope s_is_number_part) := ⟨rfl, rfl, rfl, by decide +kernel, rfl, by decide +kernel, by decide +kernel⟩
theorem sc_character_of : FnScope ["digits", "base", "short", "value", "sign"] ["digits", "base"] (defScope s_character_of) := ⟨rfl, rfl, rfl, by decide +kernel, rfl, by decide +kernel, by decide +kernel⟩
theorem sc_spaced : FnScope ["text"] ["text"] (defScope s_spaced) := ⟨rfl, rfl, rfl, by decide +kernel, rfl, by decide +kernel, by decide +kernel⟩
theorem sc_check_text : FnScope ["text"] ["text"] (defScope s_check_text) := ⟨rfl, rfl, rfl, by decide +kernel, rfl, by decide +kernel, by decide +kernel⟩
theorem sc_check_raw : FnScope ["raw", "mark"] ["raw", "mark"] (defScope s_check_raw) := ⟨rfl, rfl, rfl, by decide +kernel, rfl, by decide +kernel, by decide +kernel⟩
theorem sc_number_at : FnScope ["raw", "begin", "base", "first", "at", "found", "allowed"] ["raw", "begin"] (defScope s_number_at) := ⟨rfl, rfl, rfl, by decide +kernel, rfl, by decide +kernel, by decide +kernel⟩
theorem sc_reference_at : FnScope ["raw", "begin", "at", "word", "name"] ["raw", "begin"] (defScope s_reference_at) := ⟨rfl, rfl, rfl, by decide +kernel, rfl, by decide +kernel, by decide +kernel⟩
theorem sc_units : GScope ["raw", "mark", "at", "brackets", "sign", "end", "found"] ["raw", "mark"] (defScope s_units) := ⟨rfl, rfl, rfl, by decide +kernel, rfl, by decide +kernel, by decide +kernel⟩
theorem nc_units : ∀ n, cellsFrom n (defScope s_units).names [] = [] := fun n => rfl
theorem sc_unescaped : FnScope ["raw", "mark", "begin", "end", "sign"] ["raw", "mark"] (defScope s_unescaped) := ⟨rfl, rfl, rfl, by decide +kernel, rfl, by decide +kernel, by decide +kernel⟩
theorem sc_first_wrong_raw : FnScope ["raw", "mark", "begin", "end", "sign", "e"] ["raw", "mark"] (defScope s_first_wrong_raw) := ⟨rfl, rfl, rfl, by decide +kernel, rfl, by decide +kernel, by decide +kernel⟩
theorem sc_is_between : FnScope ["value", "least", "most"] ["value", "least", "most"] (defScope s_is_between) := ⟨rfl, rfl, rfl, by decide +kernel, rfl, by decide +kernel, by decide +kernel⟩
theorem sc_check_number : FnScope ["value", "least", "most"] ["value", "least", "most"] (defScope s_check_number) := ⟨rfl, rfl, rfl, by decide +kernel, rfl, by decide +kernel, by decide +kernel⟩
theorem sc_Lines___init__ : FnScope ["self", "text", "at", "sign"] ["self", "text"] (defScope s_Lines___init__) := ⟨rfl, rfl, rfl, by decide +kernel, rfl, by decide +kernel, by decide +kernel⟩
theorem sc_Cursor_offset : FnScope ["self"] ["self"] (defScope s_Cursor_offset) := ⟨rfl, rfl, rfl, by decide +kernel, rfl, by decide +kernel, by decide +kernel⟩
theorem sc_Cursor_go_to : FnScope ["self", "position"] ["self", "position"] (defScope s_Cursor_go_to) := ⟨rfl, rfl, rfl, by decide +kernel, rfl, by decide +kernel, by decide +kernel⟩
theorem sc_Cursor_take_text : FnScope ["self", "mark", "found", "reached", "rest", "begin", "end", "sign"] ["self", "mark"] (defScope s_Cursor_take_text) := ⟨rfl, rfl, rfl, by decide +kernel, rfl, by decide +kernel, by decide +kernel⟩
theorem sc__law_mixed : FnScope ["number", "k"] ["number", "k"] (defScope s__law_mixed) := ⟨rfl, rfl, rfl, by decide +kernel, rfl, by decide +kernel, by decide +kernel⟩
theorem sc__law_stream : FnScope ["item", "k"] ["item", "k"] (defScope s__law_stream) := ⟨rfl, rfl, rfl, by decide +kernel, rfl, by decide +kernel, by decide +kernel⟩
theorem sc__law_draw : FnScope ["stream", "top", "number"] ["stream", "top"] (defScope s__law_draw) := ⟨rfl, rfl, rfl, by decide +kernel, rfl, by decide +kernel, by decide +kernel⟩
theorem sc__law_signs : FnScope [] [] (defScope s__law_signs) := ⟨rfl, rfl, rfl, by decide +kernel, rfl, by decide +kernel, by decide +kernel⟩
theorem sc__law_pick : FnScope ["stream", "some"] ["stream", "some"] (defScope s__law_pick) := ⟨rfl, rfl, rfl, by decide +kernel, rfl, by decide +kernel, by decide +kernel⟩
theorem sc__law_told : FnScope ["call", "caught", "found", "error"] ["call"] (defScope s__law_told) := ⟨rfl, rfl, rfl, by decide +kernel, rfl, by decide +kernel, by decide +kernel⟩
theorem sc__law_five : FnScope [] [] (defScope s__law_five) := ⟨rfl, rfl, rfl, by decide +kernel, rfl, by decide +kernel, by decide +kernel⟩
theorem sc__law_digits : FnScope ["code", "radix", "found"] ["code", "radix"] (defScope s__law_digits) := ⟨rfl, rfl, rfl, by decide +kernel, rfl, by decide +kernel, by decide +kernel⟩
theorem sc__law_table : FnScope ["radix", "found", "one", "word", "k"] ["radix"] (defScope s__law_table) := ⟨rfl, rfl, rfl, by decide +kernel, rfl, by decide +kernel, by decide +kernel⟩
theorem sc__law_number_end : FnScope ["raw_so", "at", "tables", "is_hex", "table", "spot", "word", "one", "short"] ["raw_so", "at", "tables"] (defScope s__law_number_end) := ⟨rfl, rfl, rfl, by decide +kernel, rfl, by decide +kernel, by decide +kernel⟩
theorem sc__law_reference_end : FnScope ["raw_so", "at", "tables", "spot", "word", "some", "pair"] ["raw_so", "at", "tables"] (defScope s__law_reference_end) := ⟨rfl, rfl, rfl, by decide +kernel, rfl, by decide +kernel, by decide +kernel⟩
theorem sc__law_read : FnScope ["raw_so", "edge", "tables", "found", "at", "one", "told", "end", "meant", "direct", "unit"] ["raw_so", "edge", "tables"] (defScope s__law_read) := ⟨rfl, rfl, rfl, by decide +kernel, rfl, by decide +kernel, by decide +kernel⟩
theorem sc__law_piece : FnScope ["stream", "n", "one", "written", "found", "at", "more", "name", "meant"] ["stream"] (defScope s__law_piece) := ⟨rfl, rfl, rfl, by decide +kernel, rfl, by decide +kernel, by decide +kernel⟩
theorem sc__law_collected : FnScope ["raw_so", "edge", "found", "caught", "triple", "error"] ["raw_so", "edge"] (defScope s__law_collected) := ⟨rfl, rfl, rfl, by decide +kernel, rfl, by decide +kernel, by decide +kernel⟩
theorem sc__law_right : FnScope ["raw_so", "edge", "tables", "due", "whole", "begin", "end", "meant"] ["raw_so", "edge", "tables"] (defScope s__law_right) := ⟨rfl, rfl, rfl, by decide +kernel, rfl, by decide +kernel, by decide +kernel⟩
theorem sc__law_taken_right : FnScope ["raw_so", "edge", "tables", "cursor", "spot", "turn", "found", "told", "triple"] ["raw_so", "edge", "tables"] (defScope s__law_taken_right) := ⟨rfl, rfl, rfl, by decide +kernel, rfl, by decide +kernel, by decide +kernel⟩
theorem sc__law_refused_right : FnScope ["raw_so", "odd", "cursor"] ["raw_so", "odd"] (defScope s__law_refused_right) := ⟨rfl, rfl, rfl, by decide +kernel, rfl, by decide +kernel, by decide +kernel⟩
theorem sc_law : FnScope ["script", "tables", "k", "item", "stream", "turn", "raw_so", "edge", "odd", "some", "part", "one"] ["script"] (defScope s_law) := ⟨rfl, rfl, rfl, by decide +kernel, rfl, by decide +kernel, by decide +kernel⟩
abbrev s_Cursor___init__ : Stmt := inClass (topS 37) 0
theorem sc_Cursor___init__ : Mx.SupScope ["self", "text"] ["self", "text"] (defScope s_Cursor___init__) := ⟨rfl, rfl, rfl, by decide +kernel, rfl, by decide +kernel, by decide +kernel, by decide +kernel, rfl, rfl⟩
/-! ### what the walk asks of the top -/
structure Tx (P : Program) (w : World) (K : PySem.W.Frag) (mg : Str → Option Value) (base : Heap) : Type where
  d_shortened : Mx.DefT K mg "shortened" s_shortened ["digits"]
  d_value_of : Mx.DefT K mg "value_of" s_value_of ["digits", "base"]
  d_is_code : Mx.DefT K mg "is_code" s_is_code ["code"]
  d_is_number_part : Mx.DefT K mg "is_number_part" s_is_number_part ["digits", "base"]
  d_character_of : Mx.DefT K mg "character_of" s_character_of ["digits", "base"]
  d_spaced : Mx.DefT K mg "spaced" s_spaced ["text"]
  d_check_text : Mx.DefT K mg "check_text" s_check_text ["text"]
  d_check_raw : Mx.DefT K mg "check_raw" s_check_raw ["raw", "mark"]
  d_number_at : Mx.DefT K mg "number_at" s_number_at ["raw", "begin"]
  d_reference_at : Mx.DefT K mg "reference_at" s_reference_at ["raw", "begin"]
  d_units : Mx.DefD K mg "units" s_units ["raw", "mark"] (.str "")
  d_unescaped : Mx.DefD K mg "unescaped" s_unescaped ["raw", "mark"] (.str "")
  d_first_wrong_raw : Mx.DefD K mg "first_wrong_raw" s_first_wrong_raw ["raw", "mark"] (.str "")
  d_is_between : Mx.DefD K mg "is_between" s_is_between ["value", "least", "most"] .non
  d_check_number : Mx.DefD K mg "check_number" s_check_number ["value", "least", "most"] .non
  d__law_mixed : Mx.DefT K mg "_law_mixed" s__law_mixed ["number", "k"]
  d__law_stream : Mx.DefT K mg "_law_stream" s__law_stream ["item", "k"]
  d__law_draw : Mx.DefT K mg "_law_draw" s__law_draw ["stream", "top"]
  d__law_signs : Mx.DefT K mg "_law_signs" s__law_signs []
  d__law_pick : Mx.DefT K mg "_law_pick" s__law_pick ["stream", "some"]
  d__law_told : Mx.DefT K mg "_law_told" s__law_told ["call"]
  d__law_five : Mx.DefT K mg "_law_five" s__law_five []
  d__law_digits : Mx.DefT K mg "_law_digits" s__law_digits ["code", "radix"]
  d__law_table : Mx.DefT K mg "_law_table" s__law_table ["radix"]
  d__law_number_end : Mx.DefT K mg "_law_number_end" s__law_number_end ["raw_so", "at", "tables"]
  d__law_reference_end : Mx.DefT K mg "_law_reference_end" s__law_reference_end ["raw_so", "at", "tables"]
  d__law_read : Mx.DefT K mg "_law_read" s__law_read ["raw_so", "edge", "tables"]
  d__law_piece : Mx.DefT K mg "_law_piece" s__law_piece ["stream"]
  d__law_collected : Mx.DefT K mg "_law_collected" s__law_collected ["raw_so", "edge"]
  d__law_right : Mx.DefT K mg "_law_right" s__law_right ["raw_so", "edge", "tables"]
  d__law_taken_right : Mx.DefT K mg "_law_taken_right" s__law_taken_right ["raw_so", "edge", "tables"]
  d__law_refused_right : Mx.DefT K mg "_law_refused_right" s__law_refused_right ["raw_so", "odd"]
  n_isinstance : mg "isinstance" = none
  n_str : mg "str" = none
  n_int : mg "int" = none
  n_bool : mg "bool" = none
  n_len : mg "len" = none
  n_range : mg "range" = none
  n_any : mg "any" = none
  n_min : mg "min" = none
  n_ord : mg "ord" = none
  n_enumerate : mg "enumerate" = none
  n_list : mg "list" = none
  n_super : mg "super" = none
  n_repr : mg "repr" = none
  g_DIGITS : ∃ u, mg "DIGITS" = some u ∧ RelV (.str "0123456789") u
  g_HEXADECIMAL : ∃ u, mg "HEXADECIMAL" = some u ∧ RelV (.str "0123456789abcdefABCDEF") u
  g_ORDERED : ∃ u, mg "ORDERED" = some u ∧ RelV (.str "0123456789ABCDEFabcdef") u
  g_SIGNS : ∃ u, mg "SIGNS" = some u ∧ RelV (.str Num.signsP) u
  a_IllFormed : Addr
  i_IllFormed : Addr
  fd_IllFormed : FuncData
  x_IllFormed : Mx.ExT P w K mg base "IllFormed" "position" a_IllFormed i_IllFormed fd_IllFormed ["self", "position"]
  a_InvalidText : Addr
  i_InvalidText : Addr
  fd_InvalidText : FuncData
  x_InvalidText : Mx.ExT P w K mg base "InvalidText" "index" a_InvalidText i_InvalidText fd_InvalidText ["self", "index"]
  a_InvalidKind : Addr
  i_InvalidKind : Addr
  fd_InvalidKind : FuncData
  x_InvalidKind : Mx.ExT P w K mg base "InvalidKind" "kind" a_InvalidKind i_InvalidKind fd_InvalidKind ["self", "kind"]
  a_InvalidNumber : Addr
  i_InvalidNumber : Addr
  fd_InvalidNumber : FuncData
  x_InvalidNumber : Mx.ExT P w K mg base "InvalidNumber" "number" a_InvalidNumber i_InvalidNumber fd_InvalidNumber ["self", "number"]
  C_Cursor : Addr
  cl_Cursor : Cls K C_Cursor
  mg_Cursor : mg "Cursor" = some (.ref C_Cursor)
  na_own_text : NoAttr K C_Cursor "own_text"
  na_begins : NoAttr K C_Cursor "begins"
  na_spot : NoAttr K C_Cursor "spot"
  f_Lines___init__ : Addr
  fd_Lines___init__ : FuncData
  F_Lines___init__ : Fun K "__init__" "Lines.__init__" s_Lines___init__ f_Lines___init__ fd_Lines___init__
  b_Lines___init__ : Binds K fd_Lines___init__ ["self", "text"] []
  f_Cursor_offset : Addr
  fd_Cursor_offset : FuncData
  F_Cursor_offset : Fun K "offset" "Cursor.offset" s_Cursor_offset f_Cursor_offset fd_Cursor_offset
  b_Cursor_offset : Binds K fd_Cursor_offset ["self"] []
  p_Cursor_offset : Addr
  pr_Cursor_offset : PropOf K C_Cursor "offset" p_Cursor_offset f_Cursor_offset
  f_Cursor_go_to : Addr
  fd_Cursor_go_to : FuncData
  F_Cursor_go_to : Fun K "go_to" "Cursor.go_to" s_Cursor_go_to f_Cursor_go_to fd_Cursor_go_to
  b_Cursor_go_to : Binds K fd_Cursor_go_to ["self", "position"] []
  me_Cursor_go_to : Meth K C_Cursor "go_to" f_Cursor_go_to
  f_Cursor_take_text : Addr
  fd_Cursor_take_text : FuncData
  F_Cursor_take_text : FunD K "take_text" "Cursor.take_text" (defArgs s_Cursor_take_text) (defBody s_Cursor_take_text) (defScope s_Cursor_take_text) [.str ""] [] f_Cursor_take_text fd_Cursor_take_text
  b_Cursor_take_text : Binds K fd_Cursor_take_text ["self", "mark"] []
  ds_Cursor_take_text : List Value
  hd_Cursor_take_text : Vals [.str ""] ds_Cursor_take_text
  b1_Cursor_take_text : Binds K fd_Cursor_take_text ["self", "mark"] ds_Cursor_take_text
  kb_Cursor_take_text : KBinds K fd_Cursor_take_text ["self", "mark"] ["mark"] Mx.kg Mx.kgV
  me_Cursor_take_text : Meth K C_Cursor "take_text" f_Cursor_take_text
  f_Cursor___init__ : Addr
  fd_Cursor___init__ : FuncData
  ci_Cursor___init__ : ∃ (oc kV doc pm ct : Value) (an od : Option Addr) (osl : Array (Option Value)) (cda cc : Addr), fd_Cursor___init__ = PySem.W.ksFn "__init__" "Cursor.__init__" (defArgs s_Cursor___init__) (defBody s_Cursor___init__) (defScope s_Cursor___init__) .none kV doc pm an (.ref cda) ct cc ∧ K.lookup f_Cursor___init__ = some ⟨oc, od, .func (PySem.W.ksFn "__init__" "Cursor.__init__" (defArgs s_Cursor___init__) (defBody s_Cursor___init__) (defScope s_Cursor___init__) .none kV doc pm an (.ref cda) ct cc), osl⟩ ∧ PySem.W.codeIn K (.ref cda) "Cursor.__init__" = true ∧ Mx.SupF P K mg C_Cursor f_Cursor___init__ (PySem.W.ksFn "__init__" "Cursor.__init__" (defArgs s_Cursor___init__) (defBody s_Cursor___init__) (defScope s_Cursor___init__) .none kV doc pm an (.ref cda) ct cc) cda cc
  b_Cursor___init__ : Binds K fd_Cursor___init__ ["self", "text"] []
  mk_Cursor : Mk K C_Cursor f_Cursor___init__
  mro_Cursor : PySem.W.mroIn K C_Cursor (.ref C_Cursor) = some true
  sup_Cursor : PySem.W.ks_superIn K C_Cursor C_Cursor "__init__" = some (some (.ref f_Lines___init__))
  tI_Lines : PySem.W.typeIn K (.ref f_Lines___init__) = some (.type "function")
  fI_Lines : PySem.W.fnIn K f_Lines___init__ = true
  a_MarkupError : Addr
  m_MarkupError : mg "MarkupError" = some (.ref a_MarkupError)
  a_MarkupStateError : Addr
  m_MarkupStateError : mg "MarkupStateError" = some (.ref a_MarkupStateError)
  a_LimitError : Addr
  m_LimitError : mg "LimitError" = some (.ref a_LimitError)
  a_FIVE : Addr
  m_FIVE : mg "FIVE" = some (.ref a_FIVE)
  kd_FIVE : Mx.KD K w a_FIVE [("lt", "<"), ("gt", ">"), ("amp", "&"), ("apos", "'"), ("quot", "\"")]
  xc_IllFormed : Mx.XcC K a_IllFormed
  ex_IllFormed : PySem.W.exmAny K (.ref a_IllFormed) [.ref a_MarkupError, .ref a_MarkupStateError, .ref a_LimitError] = some true
  fn_IllFormed : PySem.W.findIn K (.ref a_IllFormed) "position" = some none
  si_IllFormed : PySem.W.subIn K (.ref a_IllFormed) (.type "StopIteration") = some false
  k1_IllFormed : PySem.W.kitOne K (.ref a_IllFormed) (.ref a_IllFormed) = some true
  xc_InvalidKind : Mx.XcC K a_InvalidKind
  ex_InvalidKind : PySem.W.exmAny K (.ref a_InvalidKind) [.ref a_MarkupError, .ref a_MarkupStateError, .ref a_LimitError] = some true
  fn_InvalidKind : PySem.W.findIn K (.ref a_InvalidKind) "kind" = some none
  si_InvalidKind : PySem.W.subIn K (.ref a_InvalidKind) (.type "StopIteration") = some false
  k1_InvalidKind : PySem.W.kitOne K (.ref a_InvalidKind) (.ref a_IllFormed) = some false
  k2_InvalidKind : PySem.W.kitOne K (.ref a_InvalidKind) (.ref a_InvalidText) = some false
  k3_InvalidKind : PySem.W.kitOne K (.ref a_InvalidKind) (.ref a_InvalidNumber) = some false
  k4_InvalidKind : PySem.W.kitOne K (.ref a_InvalidKind) (.ref a_InvalidKind) = some true
  eo_IllFormed : PySem.W.exmOne K (.ref a_IllFormed) (.ref a_IllFormed) = some true
end K7

set_option maxHeartbeats 1000000
set_option pp.maxSteps 700
set_option pp.deepTerms false
set_option pp.deepTerms.threshold 14
namespace K7
open PySem PySem.Spec PyProof.Rows L2 Mx
/-! ### the law's draws -/
def sp__law_mixed : Sp := fun vs H Q _ => ∃ n k : Int, vs = [.int n, .int k] ∧ 0 ≤ k ∧ k ≤ 1000000000000 ∧ ∀ r : Int, 0 ≤ r → r < 2147483629 → Q (.int r) H
def sp__law_stream : Sp := fun vs H Q _ => ∃ n k : Int, vs = [.int n, .int k] ∧ 0 ≤ k ∧ k ≤ 1000000 ∧ ∀ (p : Addr) (H' : Hp), H p = none → Same H H' → StAt p 0 H' → Q (.ref p) H'
def sp__law_draw : Sp := fun vs H Q _ => ∃ (a : Addr) (c top : Int), vs = [.ref a, .int top] ∧ StAt a c H ∧ c ≤ 100000000 ∧ 0 < top ∧ top < 1000000 ∧
  ∀ (r : Int) (H' : Hp), 0 ≤ r → r < top → Kp a H H' → StAt a (c + 1) H' → Q (.int r) H'

local macro_rules | `(tactic| walk_at "sz") => `(tactic| first | assumption | decide | omega | (unfold sizeLine; omega) | exact Nat.le_of_ble_eq_true rfl)
local macro_rules | `(tactic| walk_at "hp") => `(tactic| (first | assumption | exact upd_same | (rw [upd_ne (by assumption)]; assumption)))
local macro_rules | `(tactic| walk_at "rd") => `(tactic| (first
  | refine ⟨_, rfl, ?_⟩
  | (refine ⟨_, _, rfl, rfl, ?rdc, ?_⟩; (case rdc => first | (show (0 : Int) < _; omega) | (exact ⟨by omega, by omega⟩) | (exact .inl ⟨by omega, by omega⟩) | (exact .inr ⟨by omega, by omega⟩) | exact ⟨by decide, by decide, by decide⟩))
  | refine ⟨_, _, rfl, rfl, ?_⟩
  | refine .inl ⟨_, rfl, ?_⟩
  | refine ⟨rfl, ?_⟩
  | refine ⟨⟨_, rfl⟩, ?_⟩
  | refine ⟨⟨_, SqL.of (by walk_at "hp")⟩, ?_⟩
  | refine ⟨_, _, _, _, rfl, rfl, SqL.of (by walk_at "hp"), (by rfl), ?_⟩
  | refine ⟨_, _, _, _, rfl, rfl, (by walk_at "hp"), (by rfl), ?_⟩
  | refine ⟨_, _, rfl, ⟨by walk_at "sz", rfl⟩, ?_⟩
  | refine ⟨_, _, _, rfl, rfl, by walk_at "sz", by assumption, ?_⟩
  | refine And.intro (by walk_at "sz") ?_
  | refine itT rfl ?_
  | refine itF rfl ?_
  | refine itT (by assumption) ?_
  | refine itF (by assumption) ?_
  | refine itT (decide_eq_true (by omega)) ?_
  | refine itF (decide_eq_false (by omega)) ?_
  | refine itT (dVi (by omega)) ?_
  | refine itF (dViN (by omega)) ?_
  | refine itT (notT (by assumption)) ?_
  | refine itF (notF (by assumption)) ?_
  | refine itT (notT (dViN (by omega))) ?_
  | refine itF (notF (dVi (by omega))) ?_
  | refine itT (decide_eq_true rfl) ?_
  | refine itF (notF (decide_eq_true rfl)) ?_
  | refine ite2 (fun _ => ?_) (fun _ => ?_)
  | with_reducible refine tC_ ?_
  | with_reducible refine tNext_ ?_
  | with_reducible refine tNil_ ?_
  | with_reducible refine tYes_ ?_))
local macro_rules | `(tactic| walk_at "rds") => `(tactic| repeat' (walk_at "rd"))
section
variable {P : Program} {w : World} {K : PySem.W.Frag} {mg : Str → Option Value} {base : Heap}

theorem ok__law_mixed (T : Tx P w K mg base) : FnOk P w K mg base CX0 1 T.d__law_mixed.f T.d__law_mixed.fd ["number", "k"] sp__law_mixed := by
  have sc := sc__law_mixed
  refine T.d__law_mixed.F.ok sc (fun vs H Q E h => ?_) (fun cdv A outer s H vs Q E hr h => ?_)
  · obtain ⟨n, k, rfl, h1, h2, q⟩ := h
    rfl
  · obtain ⟨n, k, rfl, h1, h2, q⟩ := h
    refine ⟨_, (pss_cons (ps_set (i := 0) sc.nd rfl (Or.inl rfl) (pe_op op_mod (pe_callTy call_int1 (by rfl) T.n_int (by decide +kernel) (pa_cons (pe_op op_mul (pe_op op_add (pe_op op_add (pe_op op_mod (pe_callTy call_int1 (by rfl) T.n_int (by decide +kernel) (pa_cons (pv 0) pa_nil)) pe_int) (pe_op op_mul (pe_op op_mul pe_int (pv 1)) (pv 1))) (pe_op op_mul pe_int (pv 1))) pe_int) pa_nil)) pe_int))
      (pss_one (ps_ret (pe_op op_mod (pe_callTy call_int1 (by rfl) T.n_int (by decide +kernel) (pa_cons (pe_op op_mul (pv 0) (pe_op op_add pe_int (pe_op op_mul pe_int (pv 1)))) pa_nil)) pe_int)))), ?_⟩
    have e2 : ∀ x : Int, 0 ≤ x % 2147483629 ∧ x % 2147483629 < 2147483629 := fun x => ⟨Int.emod_nonneg _ (by decide), Int.emod_lt_of_pos _ (by decide)⟩
    repeat (walk_at "rd")
    exact q _ (e2 _).1 (e2 _).2

theorem ok__law_stream (T : Tx P w K mg base) (G__law_mixed : FnOk P w K mg base CX0 1 T.d__law_mixed.f T.d__law_mixed.fd ["number", "k"] sp__law_mixed) : FnOk P w K mg base CX0 2 T.d__law_stream.f T.d__law_stream.fd ["item", "k"] sp__law_stream := by
  have sc := sc__law_stream
  refine T.d__law_stream.F.ok sc (fun vs H Q E h => ?_) (fun cdv A outer s H vs Q E hr h => ?_)
  · obtain ⟨n, k, rfl, h1, h2, q⟩ := h
    rfl
  · obtain ⟨n, k, rfl, h1, h2, q⟩ := h
    refine ⟨_, (pss_one (ps_ret (pe_lst (pa_cons (pe_ifExp (pt_cmpR op_ge (pv 0) (pe_op op_pow pe_int pe_int) (nomark _)) (pv 0) pe_int) (pa_cons pe_int (pa_cons (pe_call G__law_mixed (hr.mono (by decide)) rfl T.d__law_mixed.m T.d__law_mixed.F.kp T.d__law_mixed.b .nil pass0 (pa_cons (pv 0) (pa_cons (pv 1) pa_nil))) pa_nil)))))), ?_⟩
    walk_at "rds"
    all_goals
      refine ⟨_, _, rfl, h1, by omega, fun r r0 r1 => ?_⟩
      walk_at "rds"
      intro p hp
      exact q p _ hp (Same.new (Same.refl _) hp) ⟨_, _, 0, upd_same, by decide, by decide⟩

theorem ok__law_draw (T : Tx P w K mg base) (G__law_mixed : FnOk P w K mg base CX0 1 T.d__law_mixed.f T.d__law_mixed.fd ["number", "k"] sp__law_mixed) : FnOk P w K mg base CX0 2 T.d__law_draw.f T.d__law_draw.fd ["stream", "top"] sp__law_draw := by
  have sc := sc__law_draw
  refine T.d__law_draw.F.ok sc (fun vs H Q E h => ?_) (fun cdv A outer s H vs Q E hr h => ?_)
  · obtain ⟨a, c, top, rfl, hs, hc, t0, t1, q⟩ := h
    rfl
  · obtain ⟨a, c, top, rfl, hs, hc, t0, t1, q⟩ := h
    refine ⟨_, (pss_cons (ps_asg (pe_op op_add (pe_ix ix_list (pv 0) pe_int (fun _ _ => rfl)) pe_int) (pg_sub (pv 0) pe_int set_list))
      (pss_cons (ps_if (pt_cmpR op_eq (pe_ix ix_list (pv 0) pe_int (fun _ _ => rfl)) pe_int (nomark _)) (pss_one (ps_ret (pe_op op_mod (pe_callTy call_int1 (by rfl) T.n_int (by decide +kernel) (pa_cons (pe_call G__law_mixed (hr.mono (by decide)) rfl T.d__law_mixed.m T.d__law_mixed.F.kp T.d__law_mixed.b .nil pass0 (pa_cons (pe_call G__law_mixed (hr.mono (by decide)) rfl T.d__law_mixed.m T.d__law_mixed.F.kp T.d__law_mixed.b .nil pass0 (pa_cons (pe_ix ix_list (pv 0) pe_int (fun _ _ => rfl)) (pa_cons (pe_ix ix_list (pv 0) pe_int (fun _ _ => rfl)) pa_nil))) (pa_cons pe_int pa_nil))) pa_nil)) (pv 1)))) pss_nil)
      (pss_cons (ps_set (i := 2) sc.nd rfl (Or.inl rfl) (pe_op op_mod (pe_callTy call_int1 (by rfl) T.n_int (by decide +kernel) (pa_cons (pe_ix ix_list (pv 0) pe_int (fun _ _ => rfl)) pa_nil)) (pv 1)))
      (pss_cons (ps_asg (pe_op op_fdiv (pe_ix ix_list (pv 0) pe_int (fun _ _ => rfl)) (pv 1)) (pg_sub (pv 0) pe_int set_list))
      (pss_one (ps_ret (pv 2))))))), ?_⟩
    obtain ⟨x, y, n, ha, n0, n1⟩ := hs
    have em : ∀ x : Int, 0 ≤ x % top ∧ x % top < top := fun x => ⟨Int.emod_nonneg _ (by omega), Int.emod_lt_of_pos _ t0⟩
    walk_at "rds"
    · refine ⟨_, _, rfl, by omega, by omega, fun r r0 r1 => ?_⟩
      walk_at "rds"
      refine ⟨_, _, rfl, by decide, by decide, fun r2 r20 r21 => ?_⟩
      walk_at "rds"
      exact q _ _ (em _).1 (em _).2 ((Kp.refl _ _).upd) ⟨_, _, _, upd_same, by omega, by omega⟩
    · walk_at "rds"
      exact q _ _ (em _).1 (em _).2 ((Kp.refl _ _).upd.upd) ⟨_, _, _, upd_same, by omega, by omega⟩

abbrev signs : Str := Str.ofString ("\t\n !\"#$&'()*+,-./0123456789:;<=>?@" ++ "ABCDEFGHIJKLMNOPQRSTUVWXYZ[\\]^_`abcdefghijklmnopqrstuvwxyz{|}~")
def sp__law_signs : Sp := fun vs H Q _ => vs = [] ∧ Q (.str signs) H
theorem ok__law_signs (T : Tx P w K mg base) : FnOk P w K mg base CX0 1 T.d__law_signs.f T.d__law_signs.fd [] sp__law_signs := by
  have sc := sc__law_signs
  refine T.d__law_signs.F.ok sc (fun vs H Q E h => ?_) (fun cdv A outer s H vs Q E hr h => ?_)
  · obtain ⟨rfl, q⟩ := h
    rfl
  · obtain ⟨rfl, q⟩ := h
    refine ⟨_, (pss_one (ps_ret pe_str)), ?_⟩
    exact cast (congrArg (fun z => Q (.str z) H) (show signs = _ from by decide +kernel)) q

def sp__law_pick : Sp := fun vs H Q _ => ∃ (a : Addr) (c : Int) (v : V), vs = [.ref a, v] ∧ StAt a c H ∧ c ≤ 100000000 ∧
  ((∃ (b : Addr) (xs : List V), v = .ref b ∧ b ≠ a ∧ H b = some (.lst xs) ∧ 0 < xs.length ∧ xs.length < 1000000 ∧ ∀ (i : Nat) (x : V) (H' : Hp), xs[i]? = some x → Kp a H H' → StAt a (c + 1) H' → Q x H') ∨
   (∃ z : Str, v = .str z ∧ 0 < z.cps.size ∧ z.cps.size < 1000000 ∧ ∀ (cp : Nat) (H' : Hp), cp ∈ z.cps.toList → Kp a H H' → StAt a (c + 1) H' → Q (.str ⟨#[cp]⟩) H'))
theorem ok__law_pick (T : Tx P w K mg base) (G__law_draw : FnOk P w K mg base CX0 2 T.d__law_draw.f T.d__law_draw.fd ["stream", "top"] sp__law_draw) : FnOk P w K mg base CX0 3 T.d__law_pick.f T.d__law_pick.fd ["stream", "some"] sp__law_pick := by
  have sc := sc__law_pick
  refine T.d__law_pick.F.ok sc (fun vs H Q E h => ?_) (fun cdv A outer s H vs Q E hr h => ?_)
  · obtain ⟨a, c, v, rfl, hs, hc, hv⟩ := h
    rfl
  · obtain ⟨a, c, v, rfl, hs, hc, hv⟩ := h
    refine ⟨_, (pss_one (ps_ret (pe_ix ix_seq (pv 1) (pe_call G__law_draw (hr.mono (by decide)) rfl T.d__law_draw.m T.d__law_draw.F.kp T.d__law_draw.b .nil pass0 (pa_cons (pv 0) (pa_cons (pe_callB call_len (by rfl) T.n_len PySem.boot_len (pa_cons (pv 1) pa_nil)) pa_nil))) (fun _ _ => rfl)))), ?_⟩
    rcases hv with ⟨b, xs, rfl, hb, hx, z0, z1, q⟩ | ⟨z, rfl, z0, z1, q⟩
    · walk_at "rds"
      refine ⟨_, _, rfl, .inl ⟨_, SqL.of hx, rfl⟩, ?_⟩
      walk_at "rds"
      refine ⟨a, c, _, rfl, hs, hc, by omega, by omega, fun r H' r0 r1 kp st => ?_⟩
      obtain ⟨i, x, hi, e, _⟩ := at_int r0 r1
      exact .inl ⟨_, _, _, _, rfl, rfl, SqL.of (kp _ _ hb hx), e, q i x H' hi kp st⟩
    · have zl : z.length = z.cps.size := rfl
      walk_at "rds"
      refine ⟨a, c, _, rfl, hs, hc, by omega, by omega, fun r H' r0 r1 kp st => ?_⟩
      obtain ⟨cp, hm, e⟩ := at_text r0 r1
      exact .inr (.inr ⟨_, _, _, rfl, rfl, by unfold sizeLine; omega, e, q cp H' hm kp st⟩)

end
end K7

set_option maxHeartbeats 1000000
set_option pp.maxSteps 700
set_option pp.deepTerms false
set_option pp.deepTerms.threshold 14
namespace K7
open PySem PySem.Spec PyProof.Rows L2 Mx
/-! ### the program -/
open TL Num
def W4 (z : Str) : Prop := Asc z ∧ (tl z).length ≤ 1000
def sp_shortened : Sp := fun vs H Q _ => ∃ z : Str, vs = [.str z] ∧ W4 z ∧ ∀ y : Str, tl y = short (tl z) → Q (.str y) H
def sp_value_of : Sp := fun vs H Q _ => ∃ (z : Str) (b : Nat), vs = [.str z, .int (b : Int)] ∧ Base b ∧ (∀ c ∈ tl z, c ∈ digs 16) ∧ Q (.int (val b (tl z) : Nat)) H
def sp_is_code : Sp := fun vs H Q _ => ∃ c : Nat, vs = [.int (c : Int)] ∧ ∀ H', Same H H' → Q (.bl (code c)) H'
theorem inV2 (a b c : Int) : inV (.int a) [.int b, .int c] = (decide (a = b) || decide (a = c)) := by
  show ((b == a) || ((c == a) || false)) = _
  rw [Bool.or_false]
  have k : ∀ x y : Int, (x == y) = decide (y = x) := fun x y => by
    rw [Bool.eq_iff_iff, beq_iff_eq, decide_eq_true_eq]
    exact ⟨Eq.symm, Eq.symm⟩
  rw [k, k]

local macro_rules | `(tactic| walk_at "sz") => `(tactic| first | assumption | decide | omega | (unfold sizeLine; omega) | exact Nat.le_of_ble_eq_true rfl)
local macro_rules | `(tactic| walk_at "hp") => `(tactic| (first | assumption | exact upd_same | (rw [upd_ne (by assumption)]; assumption)))
local macro_rules | `(tactic| walk_at "rd") => `(tactic| (first
  | refine ⟨_, rfl, ?_⟩
  | (refine ⟨_, _, rfl, rfl, ?rdc, ?_⟩; (case rdc => first | (show (0 : Int) < _; omega) | (exact ⟨by omega, by omega⟩) | (exact .inl ⟨by omega, by omega⟩) | (exact .inr ⟨by omega, by omega⟩) | exact ⟨by decide, by decide, by decide⟩))
  | refine ⟨_, _, rfl, rfl, ?_⟩
  | refine .inl ⟨_, rfl, ?_⟩
  | refine ⟨rfl, ?_⟩
  | refine ⟨⟨_, rfl⟩, ?_⟩
  | refine ⟨⟨_, SqL.of (by walk_at "hp")⟩, ?_⟩
  | refine ⟨_, _, _, _, rfl, rfl, SqL.of (by walk_at "hp"), (by rfl), ?_⟩
  | refine ⟨_, _, _, _, rfl, rfl, (by walk_at "hp"), (by rfl), ?_⟩
  | refine ⟨_, _, rfl, ⟨by walk_at "sz", rfl⟩, ?_⟩
  | refine ⟨_, _, _, rfl, rfl, by walk_at "sz", by assumption, ?_⟩
  | refine And.intro (by walk_at "sz") ?_
  | refine itT rfl ?_
  | refine itF rfl ?_
  | refine itT (by assumption) ?_
  | refine itF (by assumption) ?_
  | refine itT (decide_eq_true (by omega)) ?_
  | refine itF (decide_eq_false (by omega)) ?_
  | refine itT (dVi (by omega)) ?_
  | refine itF (dViN (by omega)) ?_
  | refine itT (notT (by assumption)) ?_
  | refine itF (notF (by assumption)) ?_
  | refine itT (notT (dViN (by omega))) ?_
  | refine itF (notF (dVi (by omega))) ?_
  | refine itT (decide_eq_true rfl) ?_
  | refine itF (notF (decide_eq_true rfl)) ?_
  | refine ite2 (fun _ => ?_) (fun _ => ?_)
  | with_reducible refine tC_ ?_
  | with_reducible refine tNext_ ?_
  | with_reducible refine tNil_ ?_
  | with_reducible refine tYes_ ?_))
local macro_rules | `(tactic| walk_at "rds") => `(tactic| repeat' (walk_at "rd"))
section
variable {P : Program} {w : World} {K : PySem.W.Frag} {mg : Str → Option Value} {base : Heap}

theorem ok_shortened (T : Tx P w K mg base) : FnOk P w K mg base CX0 1 T.d_shortened.f T.d_shortened.fd ["digits"] sp_shortened := by
  have sc := sc_shortened
  refine T.d_shortened.F.ok sc (fun vs H Q E h => ?_) (fun cdv A outer s H vs Q E hr h => ?_)
  · obtain ⟨z, rfl, hz, q⟩ := h
    rfl
  · obtain ⟨z, rfl, hz, q⟩ := h
    refine ⟨_, (pss_one (ps_ret (pe_m1 PySem.F.slot_str_lstrip PySem.F.type_str_lstrip mt_lstripChars (pe_lower (pv 0)) pe_str))), ?_⟩
    have zl : z.length = (tl z).length := len_tl z
    obtain ⟨h1, h2⟩ := hz
    have l1 : (Txt.lower z).length ≤ sizeLine := by
      rw [len_tl, tl_low h1, List.length_map]
      unfold sizeLine
      omega
    walk_at "rds"
    exact q _ (tl_short h1)

theorem ok_value_of (T : Tx P w K mg base) : FnOk P w K mg base CX0 1 T.d_value_of.f T.d_value_of.fd ["digits", "base"] sp_value_of := by
  have sc := sc_value_of
  refine T.d_value_of.F.ok sc (fun vs H Q E h => ?_) (fun cdv A outer s H vs Q E hr h => ?_)
  · obtain ⟨z, b, rfl, hb, hd, q⟩ := h
    rfl
  · obtain ⟨z, b, rfl, hb, hd, q⟩ := h
    refine ⟨_, (pss_cons (ps_set (i := 2) sc.nd rfl (Or.inl rfl) pe_int)
      (pss_cons (ps_for PassesOwn.never rfl (pi_str (pv 0)) (pg_name (i := 3) sc.nd rfl (Or.inl rfl)) (pss_one (ps_set (i := 2) sc.nd rfl (Or.inl rfl) (pe_op op_add (pe_op op_mul (pv 2) (pv 1)) ((pe_bmS PySem.F.plainAttrs_str PySem.F.slot_str_index PySem.F.type_str_index (mt_indexX rfl LamX.takes0) (pe_gc rfl T.g_HEXADECIMAL) (pa_cons (pv 3) pa_nil)))))))
      (pss_one (ps_ret (pv 2))))), ?_⟩
    have zs : z.cps.size = (tl z).length := len_tl z
    have hb2 : b ≤ 16 := by rcases hb with rfl | rfl <;> decide
    walk_at "rds"
    refine for_it walk_str (fun i σ H' => H' = H ∧ ∃ v, σ = [some (.str z), some (.int (b : Int)), some (.int (val b ((tl z).take i) : Nat)), v]) ⟨rfl, _, rfl⟩ (fun _ _ _ _ _ => trivial) ?_ ?_
    · rintro i x σ H1 H2 hi ⟨rfl, v, rfl⟩ ⟨rfl, c, hc, rfl⟩
      have hg : (tl z)[i]? = some c := by rw [Array.getElem?_toList]; exact hc
      have hx := index_hex c (hd c (List.mem_of_getElem? hg))
      walk_at "rds"
      refine ⟨fun k hk => ?_, fun hn => by rw [hx] at hn; cases hn⟩
      obtain rfl := Option.some.inj (hx.symm.trans hk)
      walk_at "rds"
      exact ⟨_, by rw [take_snoc hg, val_snoc, Int.natCast_add, Int.natCast_mul]; rfl⟩
    · rintro σ H1 ⟨rfl, v, rfl⟩
      walk_at "rds"
      rw [zs, List.take_length]
      exact q

theorem ok_is_code (T : Tx P w K mg base) : FnOk P w K mg base CX0 1 T.d_is_code.f T.d_is_code.fd ["code"] sp_is_code := by
  have sc := sc_is_code
  refine T.d_is_code.F.ok sc (fun vs H Q E h => ?_) (fun cdv A outer s H vs Q E hr h => ?_)
  · obtain ⟨c, rfl, q⟩ := h
    rfl
  · obtain ⟨c, rfl, q⟩ := h
    refine ⟨_, (pss_one (ps_ret ((pe_or (pe_cmpR op_in_seq (pv 0) (pe_tup (pa_cons pe_int (pa_cons pe_int pa_nil))) (by rfl)) (pe_one ((pe_and (pe_chain op_le op_le pe_int (pv 0) pe_int) (pe_one (pe_cmpR op_ne (pv 0) pe_int (nomark _)))))))))), ?_⟩
    walk_at "rds"
    intro p hp
    walk_at "rds"
    refine ⟨p, _, rfl, .inr (SqT.of upd_same), rfl, rfl, ?_⟩
    show ∃ c_1, V.bl (inV (.int (c : Int)) [.int 9, .int 10]) = V.bl c_1 ∧ _
    rw [inV2]
    have s1 := Same.new (o := .tup [.int 9, .int 10]) (Same.refl _) hp
    have fin : ∀ r, code c = r → Q (.bl r) (upd H p (.tup [.int 9, .int 10])) := fun r e => e ▸ q _ s1
    refine ⟨_, rfl, ?_⟩
    by_cases h1 : c = 9 ∨ c = 10
    · refine itT (by rcases h1 with rfl | rfl <;> rfl) ?_
      exact fin _ (by rcases h1 with rfl | rfl <;> rfl)
    · refine itF (by simp; omega) ?_
      by_cases h2 : 32 ≤ c
      · by_cases h3 : c ≤ 126
        · walk_at "rds"
          refine fin _ ?_
          by_cases h4 : c = 37
          · rw [dVi (by omega)]
            unfold Num.code
            simp
            omega
          · rw [dViN (by omega)]
            unfold Num.code
            simp
            omega
        · walk_at "rds"
          refine fin _ (by unfold Num.code; simp; omega)
      · walk_at "rds"
        refine fin _ (by unfold Num.code; simp; omega)

def sp_is_number_part : Sp := fun vs H Q _ => ∃ (z : Str) (b : Nat), vs = [.str z, .int (b : Int)] ∧ Base b ∧ W4 z ∧ (∀ c ∈ short (tl z), c ∈ digs 16) ∧ ∀ H', Same H H' → Q (.bl (npart b (short (tl z)))) H'
theorem anyIn_min (v b : Nat) : True := trivial

theorem ok_is_number_part (T : Tx P w K mg base) (G_shortened : FnOk P w K mg base CX0 1 T.d_shortened.f T.d_shortened.fd ["digits"] sp_shortened) (G_value_of : FnOk P w K mg base CX0 1 T.d_value_of.f T.d_value_of.fd ["digits", "base"] sp_value_of) (G_is_code : FnOk P w K mg base CX0 1 T.d_is_code.f T.d_is_code.fd ["code"] sp_is_code) : FnOk P w K mg base CX0 3 T.d_is_number_part.f T.d_is_number_part.fd ["digits", "base"] sp_is_number_part := by
  have sc := sc_is_number_part
  refine T.d_is_number_part.F.ok sc (fun vs H Q E h => ?_) (fun cdv A outer s H vs Q E hr h => ?_)
  · obtain ⟨z, b, rfl, hb, hz, hd, q⟩ := h
    rfl
  · obtain ⟨z, b, rfl, hb, hz, hd, q⟩ := h
    refine ⟨_, (pss_cons (ps_set (i := 2) sc.nd rfl (Or.inl rfl) (pe_call G_shortened (hr.mono (by decide)) rfl T.d_shortened.m T.d_shortened.F.kp T.d_shortened.b .nil pass0 (pa_cons (pv 0) pa_nil)))
      (pss_cons (ps_if (PW.pt (pw_or (pt_cmpR op_eq (pv 2) pe_str (nomark _)) (pw_or1 (pt_cmpR op_gt (pe_callB call_len (by rfl) T.n_len PySem.boot_len (pa_cons (pv 2) pa_nil)) pe_int (nomark _))))) (pss_one (ps_ret (pe_cmpR op_eq (pv 2) pe_str (nomark _)))) pss_nil)
      (pss_cons (ps_set (i := 3) sc.nd rfl (Or.inl rfl) (pe_call G_value_of (hr.mono (by decide)) rfl T.d_value_of.m T.d_value_of.F.kp T.d_value_of.b .nil pass0 (pa_cons (pv 2) (pa_cons (pv 1) pa_nil))))
      (pss_cons (ps_for PassesOwn.never rfl (pi_tup (pe_tup (pa_cons pe_int (pa_cons (pv 1) (pa_cons (pe_op op_mul (pv 1) (pv 1)) pa_nil))))) (pg_name (i := 4) sc.nd rfl (Or.inl rfl)) (pss_one (ps_if (pt_val (pe_callB (cr_any rfl) (by rfl) T.n_any (by decide +kernel) (pa_cons (pe_lc (own := [("code", 5)]) (g := gName 5) (tt := tYes) rfl sc.nd (pi_range2 rfl T.n_range (pa_cons (pe_op op_mul (pv 3) (pv 4)) (pa_cons (pe_callB (call_min2 rfl) (by rfl) T.n_min (by decide +kernel) (pa_cons pe_int (pa_cons (pe_op op_mul (pe_op op_add (pv 3) pe_int) (pv 4)) pa_nil))) pa_nil))) (blkOk_by (own := [("code", 5)]) (N := ["digits", "base", "short", "value", "size", "code"]) (sc := defScope s_is_number_part) (by decide +kernel)) (fun _ _ _ _ _ => pg_name (i := 5) sc.nd rfl (Or.inl rfl)) (fun _ _ _ _ _ => pts_nil) (fun _ _ _ _ _ => pe_call G_is_code (hr.mono (by decide)) rfl T.d_is_code.m T.d_is_code.F.kp T.d_is_code.b .nil pass0 (pa_cons (pv 5) pa_nil))) pa_nil))) (pss_one (ps_ret pe_bl)) pss_nil)))
      (pss_one (ps_ret pe_bl)))))), ?_⟩
    have hb2 : b ≤ 16 := by rcases hb with rfl | rfl <;> decide
    walk_at "rds"
    intro y hy
    have yl : y.length = (tl y).length := len_tl y
    have fin : ∀ H' r, Same H H' → npart b (short (tl z)) = r → Q (.bl r) H' := fun H' r sm e => e ▸ q H' sm
    have hl0 : (short (tl z)).length ≤ 1000 := Nat.le_trans (short_le _) hz.2
    rw [← hy] at fin hd hl0
    obtain ⟨l, hl⟩ : ∃ l, tl y = l := ⟨_, rfl⟩
    rw [hl] at fin hd hl0 yl
    by_cases h0 : l = []
    · have e0 : decide (V.str y = V.str "") = true := by rw [empty_eq, hl]; exact decide_eq_true h0
      walk_at "rds"
      rw [e0]
      exact fin _ _ (Same.refl _) (by rw [h0]; rfl)
    have e0 : decide (V.str y = V.str "") = false := by rw [empty_eq, hl]; exact decide_eq_false h0
    by_cases h1 : 3 < l.length
    · walk_at "rds"
      rw [e0]
      exact fin _ _ (Same.refl _) (by unfold npart; rw [if_neg h0, if_pos h1])
    walk_at "rds"
    refine ⟨y, b, rfl, hb, by rw [hl]; exact hd, ?_⟩
    rw [hl]
    have hv := val_le hb2 (Nat.not_lt.mp h1) hd
    rw [npart_in h0 h1] at fin
    have fin2 : ∀ H' r, Same H H' → ([1, b, b * b].any (inR b l)) = r → Q (.bl r) H' := fun H' r sm e => fin H' r sm e
    obtain ⟨v0, hval⟩ : ∃ v0, val b l = v0 := ⟨_, rfl⟩
    rw [hval] at hv ⊢
    walk_at "rds"
    intro p hp
    have sp_ := Same.new (o := .tup [.int 1, .int (b : Int), .int ((b : Int) * (b : Int))]) (Same.refl _) hp
    have fp : upd H p (.tup [.int 1, .int (b : Int), .int ((b : Int) * (b : Int))]) p = some (.tup [.int 1, .int (b : Int), .int ((b : Int) * (b : Int))]) := upd_same
    generalize upd H p (.tup [.int 1, .int (b : Int), .int ((b : Int) * (b : Int))]) = Hp1 at *
    refine ⟨p, rfl, ⟨_, SqT.of fp⟩, ?_⟩
    have hss : ∀ (i : Nat) (x : L2.V), ([.int 1, .int (b : Int), .int ((b : Int) * (b : Int))] : List L2.V)[i]? = some x → ∃ s : Nat, [1, b, b * b][i]? = some s ∧ x = .int (s : Int) ∧ s ≤ 256 := by
      intro i x hx
      have hbb : b * b ≤ 16 * 16 := Nat.mul_le_mul hb2 hb2
      match i, hx with
      | 0, hx => exact ⟨1, rfl, (Option.some.inj hx).symm, by decide⟩
      | 1, hx => exact ⟨b, rfl, (Option.some.inj hx).symm, by omega⟩
      | 2, hx => exact ⟨b * b, rfl, by rw [Int.natCast_mul]; exact (Option.some.inj hx).symm, by omega⟩
      | n + 3, hx => cases hx
    refine for_it (walk_tup (xs := [.int 1, .int (b : Int), .int ((b : Int) * (b : Int))])) (fun i σ H' => Same Hp1 H' ∧ (∃ v4 v5, σ = [some (.str z), some (.int (b : Int)), some (.str y), some (.int (v0 : Int)), v4, v5]) ∧ ∀ j s, j < i → [1, b, b * b][j]? = some s → inR b l s = false) ⟨Same.refl _, ⟨_, _, rfl⟩, fun j s h => absurd h (Nat.not_lt_zero _)⟩ (fun i σ H' _ hh => SqT.of (hh.1 _ _ fp)) ?_ ?_
    · rintro i x σ H1 H2 hi ⟨sm, ⟨v4, v5, rfl⟩, hf⟩ ⟨rfl, hx⟩
      obtain ⟨s, hs1, rfl, hs2⟩ := hss i x hx
      have m1 : v0 * s ≤ 4095 * 256 := Nat.mul_le_mul hv hs2
      have m2 : (v0 + 1) * s ≤ 4096 * 256 := Nat.mul_le_mul (by omega) hs2
      have em : (if ((v0 : Int) + 1) * (s : Int) < 127 then ((v0 : Int) + 1) * (s : Int) else 127) = ((min 127 ((v0 + 1) * s) : Nat) : Int) := by
        have e1 : ((v0 : Int) + 1) * (s : Int) = (((v0 + 1) * s : Nat) : Int) := by rw [Int.natCast_mul]; rfl
        rw [e1]
        split <;> omega
      have el : (v0 : Int) * (s : Int) = ((v0 * s : Nat) : Int) := (Int.natCast_mul _ _).symm
      have m3 : min 127 ((v0 + 1) * s) ≤ 127 := Nat.min_le_left _ _
      walk_at "rds"
      refine ⟨_, _, rfl, ?_⟩
      walk_at "rds"
      refine ⟨((v0 * s : Nat) : Int), ((min 127 ((v0 + 1) * s) : Nat) : Int), (by show [V.int _, V.int _] = _; rw [← em, ← el]), ⟨by omega, by omega, by omega, by omega⟩, ?_⟩
      intro D hD
      have en : (((min 127 ((v0 + 1) * s) : Nat) : Int) - ((v0 * s : Nat) : Int)).toNat = min 127 ((v0 + 1) * s) - v0 * s := by omega
      have fany : ((List.range (min 127 ((v0 + 1) * s) - v0 * s)).map fun k => Num.code (v0 * s + k)).any id = inR b l s := by unfold Num.inR; rw [hval]; exact anyIn_list _ _
      refine lc_flt (walk_range (lo := ((v0 * s : Nat) : Int)) (n := (((min 127 ((v0 + 1) * s) : Nat) : Int) - ((v0 * s : Nat) : Int)).toNat)) (fun _ => true) (fun k => .bl (Num.code (v0 * s + k))) hD (by omega) (fun _ _ => trivial) (fun i H1 x H2 y => y.1 ▸ Same.refl _) ?_ ?_
      · rintro k x H3 H4 Nx Mx hk sm3 ⟨rfl, rfl⟩ k1 k2
        have ek : ((v0 * s : Nat) : Int) + (k : Int) = ((v0 * s + k : Nat) : Int) := (Int.natCast_add _ _).symm
        simp only [ek]
        refine ⟨rfl, ?_⟩
        walk_at "rds"
        intro H5 s5
        exact k1 rfl _ s5
      · intro H3 sm3 hl3
        rw [picked_all, en] at hl3
        walk_at "rds"
        refine ⟨D, (List.range (min 127 ((v0 + 1) * s) - v0 * s)).map (fun k => Num.code (v0 * s + k)), rfl, SqL.of (by rw [List.map_map]; exact hl3), ?_⟩
        rw [fany]
        cases hin : inR b l s with
        | true =>
          walk_at "rds"
          exact fin2 _ _ ((sp_.trans sm).trans sm3) (List.any_eq_true.mpr ⟨s, List.mem_of_getElem? hs1, hin⟩)
        | false =>
          walk_at "rds"
          refine ⟨sm.trans sm3, ⟨_, _, rfl⟩, fun j s' hj hj2 => ?_⟩
          by_cases e : j = i
          · subst e
            obtain rfl := Option.some.inj (hs1.symm.trans hj2)
            exact hin
          · exact hf j s' (by omega) hj2
    · rintro σ H1 ⟨sm, ⟨v4, v5, rfl⟩, hf⟩
      walk_at "rds"
      refine fin2 _ _ (sp_.trans sm) ?_
      rw [List.any_eq_false]
      intro s hs
      obtain ⟨j, hj⟩ := List.mem_iff_getElem?.mp hs
      have hj3 : j < 3 := (List.getElem?_eq_some_iff.mp hj).1
      rw [hf j s hj3 hj]
      decide

def chrV (b : Nat) (l : List Nat) : L2.V := match chr b l with | some c => .str ⟨#[c]⟩ | none => .non
def sp_character_of : Sp := fun vs H Q _ => ∃ (z : Str) (b : Nat), vs = [.str z, .int (b : Int)] ∧ Base b ∧ W4 z ∧ (∀ c ∈ short (tl z), c ∈ digs 16) ∧ Q (chrV b (short (tl z))) H

theorem ok_character_of (T : Tx P w K mg base) (G_shortened : FnOk P w K mg base CX0 1 T.d_shortened.f T.d_shortened.fd ["digits"] sp_shortened) (G_value_of : FnOk P w K mg base CX0 1 T.d_value_of.f T.d_value_of.fd ["digits", "base"] sp_value_of) : FnOk P w K mg base CX0 3 T.d_character_of.f T.d_character_of.fd ["digits", "base"] sp_character_of := by
  have sc := sc_character_of
  refine T.d_character_of.F.ok sc (fun vs H Q E h => ?_) (fun cdv A outer s H vs Q E hr h => ?_)
  · obtain ⟨z, b, rfl, hb, hz, hd, q⟩ := h
    rfl
  · obtain ⟨z, b, rfl, hb, hz, hd, q⟩ := h
    refine ⟨_, (pss_cons (ps_set (i := 2) sc.nd rfl (Or.inl rfl) (pe_call G_shortened (hr.mono (by decide)) rfl T.d_shortened.m T.d_shortened.F.kp T.d_shortened.b .nil pass0 (pa_cons (pv 0) pa_nil)))
      (pss_cons (ps_if (pt_cmpR op_gt (pe_callB call_len (by rfl) T.n_len PySem.boot_len (pa_cons (pv 2) pa_nil)) pe_int (nomark _)) (pss_one (ps_ret pe_non)) pss_nil)
      (pss_cons (ps_set (i := 3) sc.nd rfl (Or.inl rfl) (pe_call G_value_of (hr.mono (by decide)) rfl T.d_value_of.m T.d_value_of.F.kp T.d_value_of.b .nil pass0 (pa_cons (pv 2) (pa_cons (pv 1) pa_nil))))
      (pss_cons (ps_for PassesOwn.never rfl (pi_str (pe_gc rfl T.g_SIGNS)) (pg_name (i := 4) sc.nd rfl (Or.inl rfl)) (pss_one (ps_if (pt_cmpR op_eq (pe_callB call_ord (by rfl) T.n_ord (by decide +kernel) (pa_cons (pv 4) pa_nil)) (pv 3) (nomark _)) (pss_one (ps_ret (pv 4))) pss_nil)))
      (pss_one (ps_ret pe_non)))))), ?_⟩
    have hb2 : b ≤ 16 := by rcases hb with rfl | rfl <;> decide
    walk_at "rds"
    intro y hy
    have yl : y.length = (tl y).length := len_tl y
    have fin : ∀ u, chrV b (short (tl z)) = u → Q u H := fun u e => e ▸ q
    have hl0 : (short (tl z)).length ≤ 1000 := Nat.le_trans (short_le _) hz.2
    rw [← hy] at fin hd hl0
    obtain ⟨l, hl⟩ : ∃ l, tl y = l := ⟨_, rfl⟩
    rw [hl] at fin hd hl0 yl
    by_cases h1 : 3 < l.length
    · walk_at "rds"
      exact fin _ (by unfold chrV chr; rw [if_pos h1])
    walk_at "rds"
    refine ⟨y, b, rfl, hb, by rw [hl]; exact hd, ?_⟩
    rw [hl]
    obtain ⟨v0, hval⟩ : ∃ v0, val b l = v0 := ⟨_, rfl⟩
    have fc : chrV b l = if Num.code v0 then .str ⟨#[v0]⟩ else .non := by
      unfold chrV chr
      rw [if_neg h1, hval]
      cases Num.code v0 <;> rfl
    rw [hval]
    walk_at "rds"
    refine for_it walk_str (fun i σ H' => H' = H ∧ (∃ v4, σ = [some (.str z), some (.int (b : Int)), some (.str y), some (.int (v0 : Int)), v4]) ∧ ∀ j c, j < i → (tl signsP)[j]? = some c → c ≠ v0) ⟨rfl, ⟨_, rfl⟩, fun j c h => absurd h (Nat.not_lt_zero _)⟩ (fun _ _ _ _ _ => trivial) ?_ ?_
    · rintro i x σ H1 H2 hi ⟨rfl, ⟨v4, rfl⟩, hf⟩ ⟨rfl, c, hc, rfl⟩
      have hg : (tl signsP)[i]? = some c := by rw [Array.getElem?_toList]; exact hc
      have c8 := signsP_asc c (List.mem_of_getElem? hg)
      walk_at "rds"
      · rename_i h
        have e : c = v0 := by
          have h2 : V.int ((c : Nat) : Int) = V.int (v0 : Int) := of_decide_eq_true h
          injection h2 with h2
          omega
        subst e
        refine fin _ ?_
        rw [fc, ← signsP_code c c8, decide_eq_true (List.mem_of_getElem? hg)]
        rfl
      · rename_i h
        have e : c ≠ v0 := fun e => h (decide_eq_true (show V.int ((c : Nat) : Int) = V.int (v0 : Int) by rw [e]))
        intro j d hj hj2
        by_cases ej : j = i
        · subst ej
          rw [Option.some.inj (hj2.symm.trans hg)]
          exact e
        · exact hf j d (by omega) hj2
    · rintro σ H1 ⟨rfl, ⟨v4, rfl⟩, hf⟩
      walk_at "rds"
      refine fin _ ?_
      rw [fc]
      have : Num.code v0 = false := by
        by_cases h8 : v0 < 128
        · rw [← signsP_code v0 h8]
          refine decide_eq_false fun hm => ?_
          obtain ⟨j, hj⟩ := List.mem_iff_getElem?.mp hm
          exact hf j v0 (by have := (List.getElem?_eq_some_iff.mp hj).1; exact this) hj rfl
        · unfold Num.code
          simp
          omega
      rw [this]
      rfl

end
end K7

set_option maxHeartbeats 1000000
set_option pp.maxSteps 700
set_option pp.deepTerms false
set_option pp.deepTerms.threshold 14
namespace K7
open PySem PySem.Spec PyProof.Rows L2 Mx
/-! ### references in raw texts -/
open TL Num CwR
theorem strEq (x y : Str) : decide (V.str x = V.str y) = decide (tl x = tl y) := by
  by_cases h : tl x = tl y
  · rw [decide_eq_true h, Mx.str_ext h]
    exact decide_eq_true rfl
  · rw [decide_eq_false h]
    refine decide_eq_false fun e => h ?_
    cases e
    rfl
theorem take1 (l : List Nat) (c : Nat) : decide (l.take 1 = [c]) = decide (l.head? = some c) := by
  cases l with
  | nil => simp
  | cons a r => simp
def MarkOk (m : Str) : Prop := tl m = [] ∨ tl m = [39] ∨ tl m = [34]
/-- the answer to a reading of a reference -/
def Told (C : Addr) (r : Res) (H : Hp) (Q : VK) (E : XK) : Prop := match r with
  | .ok e c => ∀ H' p, Same H H' → H' p = none → Q (.ref p) (upd H' p (.tup [.int (e : Int), .str ⟨#[c]⟩]))
  | .ill i => ∀ H' d, Same H H' → H' d = none → E (.ref C) (some d) (upd H' d (.xd [("position", .int (i : Int))]))
def sp_spaced : Sp := fun vs H Q _ => ∃ c : Nat, vs = [.str ⟨#[c]⟩] ∧ c < 128 ∧ Q (.str ⟨#[spC c]⟩) H
def sp_check_text : Sp := fun vs H Q _ => ∃ z : Str, vs = [.str z] ∧ Q .non H
def NoStr (K : PySem.W.Frag) (H : Hp) (v : L2.V) : Prop := ∃ t, TyX K H v (.type t) ∧ kitB t "str" = some false
def BadMark (K : PySem.W.Frag) (H : Hp) (v : L2.V) : Prop := NoStr K H v ∨ ∃ z : Str, v = .str z ∧ ¬ MarkOk z
def sp_check_raw (K : PySem.W.Frag) (C : Addr) : Sp := fun vs H Q E => ∃ (z : Str) (v : L2.V), vs = [.str z, v] ∧ ((∃ m : Str, v = .str m ∧ MarkOk m ∧ ∀ H', Same H H' → Q .non H') ∨
  (BadMark K H v ∧ ∀ H' d, Same H H' → H' d = none → E (.ref C) (some d) (upd H' d (.xd [("kind", v)]))))
theorem mark_out {m : Str} (h : ¬ MarkOk m) : inV (.str m) [.str "", .str "'", .str "\""] = false := by
  have h1 : eqV (.str "") (.str m) = false := beq_false_of_ne fun z : ("" : Str) = m => h (.inl (by rw [← z]; rfl))
  have h2 : eqV (.str "'") (.str m) = false := beq_false_of_ne fun z : ("'" : Str) = m => h (.inr (.inl (by rw [← z]; rfl)))
  have h3 : eqV (.str "\"") (.str m) = false := beq_false_of_ne fun z : ("\"" : Str) = m => h (.inr (.inr (by rw [← z]; rfl)))
  show (eqV _ _ || (eqV _ _ || (eqV _ _ || false))) = false
  rw [h1, h2, h3]
  rfl
theorem mark_in {m : Str} (h : MarkOk m) : inV (.str m) [.str "", .str "'", .str "\""] = true := by
  rcases h with h | h | h
  · rw [show m = ("" : Str) from Mx.str_ext (h.trans (rfl : [] = tl ("" : Str)))]; rfl
  · rw [show m = ("'" : Str) from Mx.str_ext (h.trans (rfl : [39] = tl ("'" : Str)))]; rfl
  · rw [show m = ("\"" : Str) from Mx.str_ext (h.trans (rfl : [34] = tl ("\"" : Str)))]; rfl

local macro_rules | `(tactic| walk_at "sz") => `(tactic| first | assumption | decide | omega | (unfold sizeLine; omega) | exact Nat.le_of_ble_eq_true rfl)
local macro_rules | `(tactic| walk_at "hp") => `(tactic| (first | assumption | exact upd_same | (rw [upd_ne (by assumption)]; assumption)))
local macro_rules | `(tactic| walk_at "rd") => `(tactic| (first
  | refine ⟨_, rfl, ?_⟩
  | (refine ⟨_, _, rfl, rfl, ?rdc, ?_⟩; (case rdc => first | (show (0 : Int) < _; omega) | (exact ⟨by omega, by omega⟩) | (exact .inl ⟨by omega, by omega⟩) | (exact .inr ⟨by omega, by omega⟩) | exact ⟨by decide, by decide, by decide⟩))
  | refine ⟨_, _, rfl, rfl, ?_⟩
  | refine .inl ⟨_, rfl, ?_⟩
  | refine ⟨rfl, ?_⟩
  | refine ⟨⟨_, rfl⟩, ?_⟩
  | refine ⟨⟨_, SqL.of (by walk_at "hp")⟩, ?_⟩
  | refine ⟨_, _, _, _, rfl, rfl, SqL.of (by walk_at "hp"), (by rfl), ?_⟩
  | refine ⟨_, _, _, _, rfl, rfl, (by walk_at "hp"), (by rfl), ?_⟩
  | refine ⟨_, _, rfl, ⟨by walk_at "sz", rfl⟩, ?_⟩
  | refine ⟨_, _, _, rfl, rfl, by walk_at "sz", by assumption, ?_⟩
  | refine And.intro (by walk_at "sz") ?_
  | refine itT rfl ?_
  | refine itF rfl ?_
  | refine itT (by assumption) ?_
  | refine itF (by assumption) ?_
  | refine itT (decide_eq_true (by omega)) ?_
  | refine itF (decide_eq_false (by omega)) ?_
  | refine itT (dVi (by omega)) ?_
  | refine itF (dViN (by omega)) ?_
  | refine itT (notT (by assumption)) ?_
  | refine itF (notF (by assumption)) ?_
  | refine itT (notT (dViN (by omega))) ?_
  | refine itF (notF (dVi (by omega))) ?_
  | refine itT (decide_eq_true rfl) ?_
  | refine itF (notF (decide_eq_true rfl)) ?_
  | refine ite2 (fun _ => ?_) (fun _ => ?_)
  | with_reducible refine tC_ ?_
  | with_reducible refine tNext_ ?_
  | with_reducible refine tNil_ ?_
  | with_reducible refine tYes_ ?_))
local macro_rules | `(tactic| walk_at "rds") => `(tactic| repeat' (walk_at "rd"))
section
variable {P : Program} {w : World} {K : PySem.W.Frag} {mg : Str → Option Value} {base : Heap}

theorem ok_check_text (T : Tx P w K mg base) : FnOk P w K mg base (L2.CX P w) 3 T.d_check_text.f T.d_check_text.fd ["text"] sp_check_text := by
  have sc := sc_check_text
  refine T.d_check_text.F.okX sc (fun vs H Q E h => ?_) (fun cdv A outer s H vs Q E hr h => ?_)
  · obtain ⟨z, rfl, q⟩ := h
    rfl
  · obtain ⟨z, rfl, q⟩ := h
    refine ⟨_, (pss_one (ps_if (pt_not (pt_val (pe_callB call_isi (by rfl) T.n_isinstance (by decide +kernel) (pa_cons (pv 0) (pa_cons ((pe_bltn (by rfl) T.n_str (by decide +kernel) (v := .ty "str") rfl)) pa_nil))))) (pss_one (ps_raise rfl (takes_of rfl rfl rfl rfl) (pmk_x T.x_InvalidText (hr.mono (by decide)) rfl (pa_cons pe_non pa_nil)))) pss_nil)), ?_⟩
    walk_at "rds"
    refine ⟨_, _, _, _, true, rfl, .ty _, .base (.str z), kit_ty (by decide +kernel), ?_⟩
    walk_at "rds"
    exact q

theorem ok_check_raw (T : Tx P w K mg base) (G_check_text : FnOk P w K mg base (L2.CX P w) 3 T.d_check_text.f T.d_check_text.fd ["text"] sp_check_text) : FnOk P w K mg base (L2.CX P w) 4 T.d_check_raw.f T.d_check_raw.fd ["raw", "mark"] (sp_check_raw K T.a_InvalidKind) := by
  have sc := sc_check_raw
  refine T.d_check_raw.F.okX sc (fun vs H Q E h => ?_) (fun cdv A outer s H vs Q E hr h => ?_)
  · obtain ⟨z, v, rfl, hv⟩ := h
    rfl
  · obtain ⟨z, v, rfl, hv⟩ := h
    refine ⟨_, (pss_cons (ps_expr (pe_call G_check_text (hr.mono (by decide)) rfl T.d_check_text.m T.d_check_text.F.kp T.d_check_text.b .nil (passes_call (takes_of rfl rfl rfl rfl) fun _ _ _ _ z => z) (pa_cons (pv 0) pa_nil)))
      (pss_one (ps_if (PW.pt (pw_or (pt_not (pt_val (pe_callB call_isi (by rfl) T.n_isinstance (by decide +kernel) (pa_cons (pv 1) (pa_cons ((pe_bltn (by rfl) T.n_str (by decide +kernel) (v := .ty "str") rfl)) pa_nil))))) (pw_or1 (pt_cmpR op_notIn_seq (pv 1) (pe_tup (pa_cons pe_str (pa_cons pe_str (pa_cons pe_str pa_nil)))) (by rfl))))) (pss_one (ps_raise rfl (takes_of rfl rfl rfl rfl) (pmk_x T.x_InvalidKind (hr.mono (by decide)) rfl (pa_cons (pv 1) pa_nil)))) pss_nil))), ?_⟩
    rcases hv with ⟨mk, rfl, hm, q⟩ | ⟨⟨t, ht, kt⟩ | ⟨z2, rfl, hn⟩, q⟩
    · walk_at "rds"
      refine ⟨_, _, _, _, true, rfl, .ty _, .base (.str mk), kit_ty (by decide +kernel), ?_⟩
      walk_at "rds"
      intro p hp
      walk_at "rds"
      refine ⟨p, _, rfl, .inr (SqT.of upd_same), rfl, rfl, ?_⟩
      show ∃ c, V.bl (!inV (.str mk) [.str "", .str "'", .str "\""]) = V.bl c ∧ _
      rw [mark_in hm]
      refine ⟨_, rfl, itF rfl ?_⟩
      walk_at "rds"
      exact q _ (Same.new (Same.refl _) hp)
    · walk_at "rds"
      refine ⟨_, _, _, _, false, rfl, .ty _, ht, kit_ty kt, ?_⟩
      walk_at "rds"
      intro d hd
      exact q _ d (Same.refl _) hd
    · walk_at "rds"
      refine ⟨_, _, _, _, true, rfl, .ty _, .base (.str z2), kit_ty (by decide +kernel), ?_⟩
      walk_at "rds"
      intro p hp
      walk_at "rds"
      refine ⟨p, _, rfl, .inr (SqT.of upd_same), rfl, rfl, ?_⟩
      show ∃ c, V.bl (!inV (.str z2) [.str "", .str "'", .str "\""]) = V.bl c ∧ _
      rw [mark_out hn]
      refine ⟨_, rfl, ?_⟩
      walk_at "rds"
      intro d hd
      exact q _ d (Same.new (Same.refl _) hp) hd

def sp_number_at (C : Addr) : Sp := fun vs H Q E => ∃ (z : Str) (bg : Nat), vs = [.str z, .int (bg : Int)] ∧ W4 z ∧ bg ≤ (tl z).length ∧ Told C (Num.numAt (tl z) bg) H Q E
theorem head_lt {l : List Nat} {i c : Nat} (h : (l.drop i).head? = some c) : i < l.length := by
  cases q : l.drop i with
  | nil => rw [q] at h; cases h
  | cons a r =>
    have z := congrArg List.length q
    rw [List.length_drop, List.length_cons] at z
    omega
theorem zer_step {l : List Nat} {i : Nat} (h : (l.drop i).head? = some 48) : zer (l.drop (i + 1)) = zer (l.drop i) := by
  cases q : l.drop i with
  | nil => rw [q] at h; cases h
  | cons a r =>
    rw [q] at h
    obtain rfl := Option.some.inj h
    have e : l.drop (i + 1) = r := by rw [← List.tail_drop, q]; rfl
    rw [e]
    unfold zer
    rw [List.dropWhile_cons, if_pos (by decide)]
theorem zer_stop {l : List Nat} {i : Nat} (h : ¬ (l.drop i).head? = some 48) : zer (l.drop i) = l.drop i := by
  cases q : l.drop i with
  | nil => rfl
  | cons a r =>
    rw [q] at h
    unfold zer
    rw [List.dropWhile_cons, if_neg (fun z => h (by rw [of_decide_eq_true z]; rfl))]
theorem short_digs {b : Nat} {w : List Nat} (hb : Base b) (h : ∀ c ∈ w, low c ∈ digs b) : ∀ d ∈ short w, d ∈ digs 16 := by
  intro d hd
  have h2 : d ∈ w.map low := (List.dropWhile_sublist _).subset hd
  obtain ⟨c, hc, rfl⟩ := List.mem_map.mp h2
  rcases hb with rfl | rfl
  · exact digs_sub _ (h c hc)
  · exact h c hc

theorem ok_number_at (T : Tx P w K mg base) (G_character_of : FnOk P w K mg base CX0 3 T.d_character_of.f T.d_character_of.fd ["digits", "base"] sp_character_of) (G_is_number_part : FnOk P w K mg base CX0 3 T.d_is_number_part.f T.d_is_number_part.fd ["digits", "base"] sp_is_number_part) : FnOk P w K mg base (L2.CX P w) 4 T.d_number_at.f T.d_number_at.fd ["raw", "begin"] (sp_number_at T.a_IllFormed) := by
  have sc := sc_number_at
  refine T.d_number_at.F.okX sc (fun vs H Q E h => ?_) (fun cdv A outer s H vs Q E hr h => ?_)
  · obtain ⟨z, bg, rfl, hz, hbg, q⟩ := h
    rfl
  · obtain ⟨z, bg, rfl, hz, hbg, q⟩ := h
    refine ⟨_, (pss_cons (ps_set (i := 2) sc.nd rfl (Or.inl rfl) (pe_ifExp (pt_cmpR op_eq (pe_slice sl_str (pv 0) (po_some (pv 1)) (po_some (pe_op op_add (pv 1) pe_int))) pe_str (nomark _)) pe_int pe_int))
      (pss_cons (ps_set (i := 3) sc.nd rfl (Or.inl rfl) (pe_ifExp (pt_cmpR op_eq (pv 2) pe_int (nomark _)) (pe_op op_add (pv 1) pe_int) (pv 1)))
      (pss_cons (ps_while (passes_of rfl) (pt_cmpR op_eq (pe_slice sl_str (pv 0) (po_some (pv 3)) (po_some (pe_op op_add (pv 3) pe_int))) pe_str (nomark _)) (pss_one (ps_aug (i := 3) sc.nd rfl (Or.inl rfl) pe_int ip_add)))
      (pss_cons (ps_for (passes_of rfl) rfl (pi_range2 rfl T.n_range (pa_cons (pv 3) (pa_cons (pe_callB call_len (by rfl) T.n_len PySem.boot_len (pa_cons (pv 0) pa_nil)) pa_nil))) (pg_name (i := 4) sc.nd rfl (Or.inl rfl)) (pss_cons (ps_if (pt_cmpR op_eq (pe_ix ix_str (pv 0) (pv 4) (fun _ _ => rfl)) pe_str (nomark _)) (pss_cons (ps_set (i := 5) sc.nd rfl (Or.inl rfl) (pe_call G_character_of (hr.mono (by decide)) rfl T.d_character_of.m T.d_character_of.F.kp T.d_character_of.b .nil pass0 (pa_cons (pe_slice sl_str (pv 0) (po_some (pv 3)) (po_some (pv 4))) (pa_cons (pv 2) pa_nil))))
      (pss_cons (ps_if (pt_cmpR op_isN (pv 5) pe_non (nomark _)) (pss_one (ps_raise rfl (takes_of rfl rfl rfl rfl) (pmk_x T.x_IllFormed (hr.mono (by decide)) rfl (pa_cons (pv 4) pa_nil)))) pss_nil)
      (pss_one (ps_ret (pe_tup (pa_cons (pe_op op_add (pv 4) pe_int) (pa_cons (pv 5) pa_nil))))))) pss_nil)
      (pss_cons (ps_set (i := 6) sc.nd rfl (Or.inl rfl) (pe_ifExp (pt_cmpR op_eq (pv 2) pe_int (nomark _)) (pe_gc rfl T.g_ORDERED) (pe_gc rfl T.g_DIGITS)))
      (pss_one (ps_if (PW.pt (pw_or (pt_cmpR op_notIn_sign (pe_ix ix_str (pv 0) (pv 4) (fun _ _ => rfl)) (pv 6) (by rfl)) (pw_or1 (pt_not (pt_val (pe_call G_is_number_part (hr.mono (by decide)) rfl T.d_is_number_part.m T.d_is_number_part.F.kp T.d_is_number_part.b .nil pass0 (pa_cons (pe_slice sl_str (pv 0) (po_some (pv 3)) (po_some (pe_op op_add (pv 4) pe_int))) (pa_cons (pv 2) pa_nil)))))))) (pss_one (ps_raise rfl (takes_of rfl rfl rfl rfl) (pmk_x T.x_IllFormed (hr.mono (by decide)) rfl (pa_cons (pv 4) pa_nil)))) pss_nil)))))
      (pss_one (ps_raise rfl (takes_of rfl rfl rfl rfl) (pmk_x T.x_IllFormed (hr.mono (by decide)) rfl (pa_cons (pe_callB call_len (by rfl) T.n_len PySem.boot_len (pa_cons (pv 0) pa_nil)) pa_nil)))))))), ?_⟩
    have zl : z.length = (tl z).length := len_tl z
    obtain ⟨hz1, hz2⟩ := hz
    have z16 : z.length ≤ sizeLine := by rw [zl]; unfold sizeLine; omega
    have ex : tl ("x" : Str) = [120] := rfl
    have e0 : tl ("0" : Str) = [48] := rfl
    have c1 : ∀ i : Nat, i ≤ (tl z).length → tl (cutS z (some (i : Int)) (some ((i : Int) + 1))) = ((tl z).drop i).take 1 := fun i hi => by
      have q := cutS_over z i (i + 1) hi
      rw [show i + 1 - i = 1 by omega] at q
      exact q
    have hx0 : decide (V.str (cutS z (some (bg : Int)) (some ((bg : Int) + 1))) = V.str "x") = decide (((tl z).drop bg).head? = some 120) := by rw [strEq, c1 bg hbg, ex, take1]
    have hb : Told T.a_IllFormed (numGo (baseOf ((tl z).drop bg)) [] (zer (restOf ((tl z).drop bg))) ((tl z).length - (zer (restOf ((tl z).drop bg))).length)) H Q E := q
    clear q
    by_cases hx : ((tl z).drop bg).head? = some 120
    · rw [decide_eq_true hx] at hx0
      have hb0 : baseOf ((tl z).drop bg) = 16 := by unfold baseOf; rw [if_pos hx]
      have hr1 : restOf ((tl z).drop bg) = (tl z).drop (bg + 1) := by unfold restOf; rw [if_pos hx, List.tail_drop]
      have hf1 : bg + 1 ≤ (tl z).length := head_lt hx
      rw [hb0, hr1] at hb
      walk_at "rds"
      refine ⟨fun m σ H' => ∃ f : Nat, m = (tl z).length - f ∧ H' = H ∧ σ = [some (.str z), some (.int (bg : Int)), some (.int 16), some (.int (f : Int)), none, none, none] ∧ f ≤ (tl z).length ∧ zer ((tl z).drop f) = zer ((tl z).drop (bg + 1)), ⟨_, bg + 1, rfl, rfl, rfl, hf1, rfl⟩, ?_⟩
      rintro m σ H' ⟨f, rfl, rfl, rfl, hf2, hzf⟩
      have hc0 : decide (V.str (cutS z (some (f : Int)) (some ((f : Int) + 1))) = V.str "0") = decide (((tl z).drop f).head? = some 48) := by rw [strEq, c1 f hf2, e0, take1]
      by_cases h48 : ((tl z).drop f).head? = some 48
      · rw [decide_eq_true h48] at hc0
        have hlt : f < (tl z).length := head_lt h48
        walk_at "rds"
        refine ⟨fun σ' H2 => H2 = H' ∧ σ' = [some (.str z), some (.int (bg : Int)), some (.int 16), some (.int ((f + 1 : Nat) : Int)), none, none, none], ?_, ?_⟩
        · rintro σ' H2 ⟨rfl, rfl⟩
          refine ⟨_, by omega, f + 1, rfl, rfl, rfl, by omega, ?_⟩
          rw [← hzf, zer_step h48]
        · walk_at "rds"
          first
            | exact rfl
            | exact ⟨rfl, rfl⟩
      · rw [decide_eq_false h48] at hc0
        obtain ⟨r, hr⟩ : ∃ r, (tl z).drop f = r := ⟨_, rfl⟩
        have hrl : r.length = (tl z).length - f := by rw [← hr, List.length_drop]
        rw [← hzf, zer_stop h48, hr, show (tl z).length - r.length = f by omega] at hb
        walk_at "rds"
        simp only [zl]
        refine ⟨((f : Nat) : Int), ((tl z).length : Int), rfl, ⟨by omega, by omega, by omega, by omega⟩, ?_⟩
        have en : (((tl z).length : Int) - ((f : Nat) : Int)).toNat = r.length := by omega
        rw [en]
        refine for_it (D := ⟨_, _, fun _ _ => False, fun _ _ => False⟩) (walk_range (lo := ((f : Nat) : Int)) (n := r.length)) (fun i σ H1 => Same H' H1 ∧ (∃ v4 v5 v6, σ = [some (.str z), some (.int (bg : Int)), some (.int 16), some (.int (f : Int)), v4, v5, v6]) ∧ (∀ c ∈ r.take i, low c ∈ digs 16) ∧ Told T.a_IllFormed (numGo 16 (r.take i) (r.drop i) (f + i)) H' Q E) ⟨Same.refl _, ⟨_, _, _, rfl⟩, (by simp), by simpa using hb⟩ (fun _ _ _ _ _ => trivial) ?_ ?_
        · rintro i x σ H1 H2 hi ⟨sm, ⟨v4, v5, v6, rfl⟩, hdg, ht⟩ ⟨rfl, rfl⟩
          have ek : ((f : Nat) : Int) + (i : Int) = ((f + i : Nat) : Int) := (Int.natCast_add _ _).symm
          have hgr : r[i]? = some (r[i]) := List.getElem?_eq_getElem hi
          have hdr : r.drop i = r[i] :: r.drop (i + 1) := List.drop_eq_getElem_cons hi
          have hg : (tl z)[f + i]? = some (r[i]) := by rw [← List.getElem?_drop, hr]; exact hgr
          rw [hdr] at ht
          generalize r[i] = c at hgr hg ht
          have hc : atI z.cps.toList ((f + i : Nat) : Int) = some c := atI_nat hg
          have c8 : c < 128 := hz1 c (List.mem_of_getElem? hg)
          have etake : r.take (i + 1) = r.take i ++ [c] := take_snoc hgr
          have hcut : tl (cutS z (some (f : Int)) (some ((f + i : Nat) : Int))) = r.take i := by
            rw [cutS_mid z _ _ (by omega) (by omega), hr, show f + i - f = i by omega]
          have hcut1 : tl (cutS z (some (f : Int)) (some ((f + i + 1 : Nat) : Int))) = r.take i ++ [c] := by
            rw [cutS_mid z _ _ (by omega) (by omega), hr, show f + i + 1 - f = i + 1 by omega, etake]
          have hrz : ∀ d ∈ r, d < 128 := fun d hd => hz1 d (by rw [← hr] at hd; exact List.mem_of_mem_drop hd)
          have ek1 : ((f + i : Nat) : Int) + 1 = ((f + i + 1 : Nat) : Int) := rfl
          have ek2 : ((f : Nat) : Int) + (i : Int) + 1 = ((f + i + 1 : Nat) : Int) := by omega
          have hs : decide (V.str ⟨#[c]⟩ = V.str ";") = decide (c = 59) := by
            rw [strEq]
            show decide ([c] = [59]) = _
            simp
          simp only [ek]
          by_cases h59 : c = 59
          · rw [decide_eq_true h59] at hs
            have hW : W4 (cutS z (some (f : Int)) (some ((f + i : Nat) : Int))) := by
              refine ⟨fun d hd => ?_, ?_⟩
              · rw [hcut] at hd
                exact hrz d (List.mem_of_mem_take hd)
              · rw [hcut, List.length_take]
                omega
            have hD : ∀ d ∈ short (tl (cutS z (some (f : Int)) (some ((f + i : Nat) : Int)))), d ∈ digs 16 := by
              rw [hcut]
              exact short_digs (.inr rfl) hdg
            walk_at "rds"
            refine ⟨_, _, rfl, (.inr rfl), hW, hD, ?_⟩
            rw [hcut]
            cases hch : chr 16 (short (r.take i)) with
            | some x =>
              have hq : Told T.a_IllFormed (.ok (f + i + 1) x) H' Q E := by
                have e : numGo 16 (r.take i) (c :: r.drop (i + 1)) (f + i) = .ok (f + i + 1) x := by
                  unfold numGo
                  rw [if_pos h59, hch]
                rw [e] at ht
                exact ht
              have ev : chrV 16 (short (r.take i)) = .str ⟨#[x]⟩ := by unfold chrV; rw [hch]
              rw [ev]
              walk_at "rds"
              intro p hp
              exact hq _ p sm hp
            | none =>
              have hq : Told T.a_IllFormed (.ill (f + i)) H' Q E := by
                have e : numGo 16 (r.take i) (c :: r.drop (i + 1)) (f + i) = .ill (f + i) := by
                  unfold numGo
                  rw [if_pos h59, hch]
                rw [e] at ht
                exact ht
              have ev : chrV 16 (short (r.take i)) = .non := by unfold chrV; rw [hch]
              rw [ev]
              walk_at "rds"
              intro d hd
              exact hq _ d sm hd
          · rw [decide_eq_false h59] at hs
            have hal : decide (c ∈ ("0123456789ABCDEFabcdef" : Str).cps.toList) = decide (low c ∈ digs 16) := allow16 c c8
            by_cases hd1 : low c ∈ digs 16
            · rw [decide_eq_true hd1] at hal
              have hdg2 : ∀ d ∈ r.take i ++ [c], low d ∈ digs 16 := fun d hd => by
                rcases List.mem_append.mp hd with hd | hd
                · exact hdg d hd
                · rw [List.mem_singleton.mp hd]; exact hd1
              have hW : W4 (cutS z (some (f : Int)) (some ((f + i + 1 : Nat) : Int))) := by
                refine ⟨fun d hd => ?_, ?_⟩
                · rw [hcut1, ← etake] at hd
                  exact hrz d (List.mem_of_mem_take hd)
                · rw [hcut1, ← etake, List.length_take]
                  omega
              have hD : ∀ d ∈ short (tl (cutS z (some (f : Int)) (some ((f + i + 1 : Nat) : Int)))), d ∈ digs 16 := by
                rw [hcut1]
                exact short_digs (.inr rfl) hdg2
              walk_at "rds"
              all_goals (try (rename_i hno; rw [hal] at hno; exact absurd rfl hno))
              refine ⟨cutS z (some ((f : Nat) : Int)) (some ((f + i + 1 : Nat) : Int)), 16, rfl, (.inr rfl), hW, hD, fun H3 s3 => ?_⟩
              rw [hcut1]
              cases hnp : npart 16 (short (r.take i ++ [c])) with
              | true =>
                walk_at "rds"
                refine ⟨sm.trans s3, ⟨_, _, _, rfl⟩, by rw [etake]; exact hdg2, ?_⟩
                have e : numGo 16 (r.take i) (c :: r.drop (i + 1)) (f + i) = numGo 16 (r.take i ++ [c]) (r.drop (i + 1)) (f + i + 1) := by
                  rw [numGo]
                  rw [if_neg h59, if_pos ⟨hd1, hnp⟩]
                rw [e] at ht
                rw [etake]
                exact ht
              | false =>
                have hq : Told T.a_IllFormed (.ill (f + i)) H' Q E := by
                  have e : numGo 16 (r.take i) (c :: r.drop (i + 1)) (f + i) = .ill (f + i) := by
                    unfold numGo
                    rw [if_neg h59, if_neg (fun z => by rw [hnp] at z; cases z.2)]
                  rw [e] at ht
                  exact ht
                walk_at "rds"
                intro d hd
                exact hq _ d (sm.trans s3) hd
            · rw [decide_eq_false hd1] at hal
              have hq : Told T.a_IllFormed (.ill (f + i)) H' Q E := by
                have e : numGo 16 (r.take i) (c :: r.drop (i + 1)) (f + i) = .ill (f + i) := by
                  unfold numGo
                  rw [if_neg h59, if_neg (fun z => hd1 z.1)]
                rw [e] at ht
                exact ht
              walk_at "rds"
              all_goals (try (rename_i hno; rw [hal] at hno; exact absurd rfl hno))
              intro d hd
              exact hq _ d sm hd
        · rintro σ H1 ⟨sm, ⟨v4, v5, v6, rfl⟩, _, ht⟩
          rw [List.drop_length, hrl, show f + ((tl z).length - f) = (tl z).length by omega] at ht
          have hq : Told T.a_IllFormed (.ill (tl z).length) H' Q E := ht
          walk_at "rds"
          intro d hd
          rw [← zl] at hq
          exact hq _ d sm hd
    · rw [decide_eq_false hx] at hx0
      have hb0 : baseOf ((tl z).drop bg) = 10 := by unfold baseOf; rw [if_neg hx]
      have hr1 : restOf ((tl z).drop bg) = (tl z).drop bg := by unfold restOf; rw [if_neg hx]
      have hf1 : bg ≤ (tl z).length := hbg
      rw [hb0, hr1] at hb
      walk_at "rds"
      refine ⟨fun m σ H' => ∃ f : Nat, m = (tl z).length - f ∧ H' = H ∧ σ = [some (.str z), some (.int (bg : Int)), some (.int 10), some (.int (f : Int)), none, none, none] ∧ f ≤ (tl z).length ∧ zer ((tl z).drop f) = zer ((tl z).drop (bg)), ⟨_, bg, rfl, rfl, rfl, hf1, rfl⟩, ?_⟩
      rintro m σ H' ⟨f, rfl, rfl, rfl, hf2, hzf⟩
      have hc0 : decide (V.str (cutS z (some (f : Int)) (some ((f : Int) + 1))) = V.str "0") = decide (((tl z).drop f).head? = some 48) := by rw [strEq, c1 f hf2, e0, take1]
      by_cases h48 : ((tl z).drop f).head? = some 48
      · rw [decide_eq_true h48] at hc0
        have hlt : f < (tl z).length := head_lt h48
        walk_at "rds"
        refine ⟨fun σ' H2 => H2 = H' ∧ σ' = [some (.str z), some (.int (bg : Int)), some (.int 10), some (.int ((f + 1 : Nat) : Int)), none, none, none], ?_, ?_⟩
        · rintro σ' H2 ⟨rfl, rfl⟩
          refine ⟨_, by omega, f + 1, rfl, rfl, rfl, by omega, ?_⟩
          rw [← hzf, zer_step h48]
        · walk_at "rds"
          first
            | exact rfl
            | exact ⟨rfl, rfl⟩
      · rw [decide_eq_false h48] at hc0
        obtain ⟨r, hr⟩ : ∃ r, (tl z).drop f = r := ⟨_, rfl⟩
        have hrl : r.length = (tl z).length - f := by rw [← hr, List.length_drop]
        rw [← hzf, zer_stop h48, hr, show (tl z).length - r.length = f by omega] at hb
        walk_at "rds"
        simp only [zl]
        refine ⟨((f : Nat) : Int), ((tl z).length : Int), rfl, ⟨by omega, by omega, by omega, by omega⟩, ?_⟩
        have en : (((tl z).length : Int) - ((f : Nat) : Int)).toNat = r.length := by omega
        rw [en]
        refine for_it (D := ⟨_, _, fun _ _ => False, fun _ _ => False⟩) (walk_range (lo := ((f : Nat) : Int)) (n := r.length)) (fun i σ H1 => Same H' H1 ∧ (∃ v4 v5 v6, σ = [some (.str z), some (.int (bg : Int)), some (.int 10), some (.int (f : Int)), v4, v5, v6]) ∧ (∀ c ∈ r.take i, low c ∈ digs 10) ∧ Told T.a_IllFormed (numGo 10 (r.take i) (r.drop i) (f + i)) H' Q E) ⟨Same.refl _, ⟨_, _, _, rfl⟩, (by simp), by simpa using hb⟩ (fun _ _ _ _ _ => trivial) ?_ ?_
        · rintro i x σ H1 H2 hi ⟨sm, ⟨v4, v5, v6, rfl⟩, hdg, ht⟩ ⟨rfl, rfl⟩
          have ek : ((f : Nat) : Int) + (i : Int) = ((f + i : Nat) : Int) := (Int.natCast_add _ _).symm
          have hgr : r[i]? = some (r[i]) := List.getElem?_eq_getElem hi
          have hdr : r.drop i = r[i] :: r.drop (i + 1) := List.drop_eq_getElem_cons hi
          have hg : (tl z)[f + i]? = some (r[i]) := by rw [← List.getElem?_drop, hr]; exact hgr
          rw [hdr] at ht
          generalize r[i] = c at hgr hg ht
          have hc : atI z.cps.toList ((f + i : Nat) : Int) = some c := atI_nat hg
          have c8 : c < 128 := hz1 c (List.mem_of_getElem? hg)
          have etake : r.take (i + 1) = r.take i ++ [c] := take_snoc hgr
          have hcut : tl (cutS z (some (f : Int)) (some ((f + i : Nat) : Int))) = r.take i := by
            rw [cutS_mid z _ _ (by omega) (by omega), hr, show f + i - f = i by omega]
          have hcut1 : tl (cutS z (some (f : Int)) (some ((f + i + 1 : Nat) : Int))) = r.take i ++ [c] := by
            rw [cutS_mid z _ _ (by omega) (by omega), hr, show f + i + 1 - f = i + 1 by omega, etake]
          have hrz : ∀ d ∈ r, d < 128 := fun d hd => hz1 d (by rw [← hr] at hd; exact List.mem_of_mem_drop hd)
          have ek1 : ((f + i : Nat) : Int) + 1 = ((f + i + 1 : Nat) : Int) := rfl
          have ek2 : ((f : Nat) : Int) + (i : Int) + 1 = ((f + i + 1 : Nat) : Int) := by omega
          have hs : decide (V.str ⟨#[c]⟩ = V.str ";") = decide (c = 59) := by
            rw [strEq]
            show decide ([c] = [59]) = _
            simp
          simp only [ek]
          by_cases h59 : c = 59
          · rw [decide_eq_true h59] at hs
            have hW : W4 (cutS z (some (f : Int)) (some ((f + i : Nat) : Int))) := by
              refine ⟨fun d hd => ?_, ?_⟩
              · rw [hcut] at hd
                exact hrz d (List.mem_of_mem_take hd)
              · rw [hcut, List.length_take]
                omega
            have hD : ∀ d ∈ short (tl (cutS z (some (f : Int)) (some ((f + i : Nat) : Int)))), d ∈ digs 16 := by
              rw [hcut]
              exact short_digs (.inl rfl) hdg
            walk_at "rds"
            refine ⟨_, _, rfl, (.inl rfl), hW, hD, ?_⟩
            rw [hcut]
            cases hch : chr 10 (short (r.take i)) with
            | some x =>
              have hq : Told T.a_IllFormed (.ok (f + i + 1) x) H' Q E := by
                have e : numGo 10 (r.take i) (c :: r.drop (i + 1)) (f + i) = .ok (f + i + 1) x := by
                  unfold numGo
                  rw [if_pos h59, hch]
                rw [e] at ht
                exact ht
              have ev : chrV 10 (short (r.take i)) = .str ⟨#[x]⟩ := by unfold chrV; rw [hch]
              rw [ev]
              walk_at "rds"
              intro p hp
              exact hq _ p sm hp
            | none =>
              have hq : Told T.a_IllFormed (.ill (f + i)) H' Q E := by
                have e : numGo 10 (r.take i) (c :: r.drop (i + 1)) (f + i) = .ill (f + i) := by
                  unfold numGo
                  rw [if_pos h59, hch]
                rw [e] at ht
                exact ht
              have ev : chrV 10 (short (r.take i)) = .non := by unfold chrV; rw [hch]
              rw [ev]
              walk_at "rds"
              intro d hd
              exact hq _ d sm hd
          · rw [decide_eq_false h59] at hs
            have hal : decide (c ∈ ("0123456789" : Str).cps.toList) = decide (low c ∈ digs 10) := allow10 c c8
            by_cases hd1 : low c ∈ digs 10
            · rw [decide_eq_true hd1] at hal
              have hdg2 : ∀ d ∈ r.take i ++ [c], low d ∈ digs 10 := fun d hd => by
                rcases List.mem_append.mp hd with hd | hd
                · exact hdg d hd
                · rw [List.mem_singleton.mp hd]; exact hd1
              have hW : W4 (cutS z (some (f : Int)) (some ((f + i + 1 : Nat) : Int))) := by
                refine ⟨fun d hd => ?_, ?_⟩
                · rw [hcut1, ← etake] at hd
                  exact hrz d (List.mem_of_mem_take hd)
                · rw [hcut1, ← etake, List.length_take]
                  omega
              have hD : ∀ d ∈ short (tl (cutS z (some (f : Int)) (some ((f + i + 1 : Nat) : Int)))), d ∈ digs 16 := by
                rw [hcut1]
                exact short_digs (.inl rfl) hdg2
              walk_at "rds"
              all_goals (try (rename_i hno; rw [hal] at hno; exact absurd rfl hno))
              refine ⟨cutS z (some ((f : Nat) : Int)) (some ((f + i + 1 : Nat) : Int)), 10, rfl, (.inl rfl), hW, hD, fun H3 s3 => ?_⟩
              rw [hcut1]
              cases hnp : npart 10 (short (r.take i ++ [c])) with
              | true =>
                walk_at "rds"
                refine ⟨sm.trans s3, ⟨_, _, _, rfl⟩, by rw [etake]; exact hdg2, ?_⟩
                have e : numGo 10 (r.take i) (c :: r.drop (i + 1)) (f + i) = numGo 10 (r.take i ++ [c]) (r.drop (i + 1)) (f + i + 1) := by
                  rw [numGo]
                  rw [if_neg h59, if_pos ⟨hd1, hnp⟩]
                rw [e] at ht
                rw [etake]
                exact ht
              | false =>
                have hq : Told T.a_IllFormed (.ill (f + i)) H' Q E := by
                  have e : numGo 10 (r.take i) (c :: r.drop (i + 1)) (f + i) = .ill (f + i) := by
                    unfold numGo
                    rw [if_neg h59, if_neg (fun z => by rw [hnp] at z; cases z.2)]
                  rw [e] at ht
                  exact ht
                walk_at "rds"
                intro d hd
                exact hq _ d (sm.trans s3) hd
            · rw [decide_eq_false hd1] at hal
              have hq : Told T.a_IllFormed (.ill (f + i)) H' Q E := by
                have e : numGo 10 (r.take i) (c :: r.drop (i + 1)) (f + i) = .ill (f + i) := by
                  unfold numGo
                  rw [if_neg h59, if_neg (fun z => hd1 z.1)]
                rw [e] at ht
                exact ht
              walk_at "rds"
              all_goals (try (rename_i hno; rw [hal] at hno; exact absurd rfl hno))
              intro d hd
              exact hq _ d sm hd
        · rintro σ H1 ⟨sm, ⟨v4, v5, v6, rfl⟩, _, ht⟩
          rw [List.drop_length, hrl, show f + ((tl z).length - f) = (tl z).length by omega] at ht
          have hq : Told T.a_IllFormed (.ill (tl z).length) H' Q E := ht
          walk_at "rds"
          intro d hd
          rw [← zl] at hq
          exact hq _ d sm hd
end
end K7

set_option maxHeartbeats 1000000
set_option pp.maxSteps 700
set_option pp.deepTerms false
set_option pp.deepTerms.threshold 14
namespace K7
open PySem PySem.Spec PyProof.Rows L2 Mx
open TL Num
def sp_reference_at (C : Addr) : Sp := fun vs H Q E => ∃ (z : Str) (bg : Nat), vs = [.str z, .int (bg : Int)] ∧ W4 z ∧ bg < (tl z).length ∧ Told C (refAt (tl z) bg) H Q E
local macro_rules | `(tactic| walk_at "sz") => `(tactic| first | assumption | decide | omega | (unfold sizeLine; omega) | exact Nat.le_of_ble_eq_true rfl)
local macro_rules | `(tactic| walk_at "hp") => `(tactic| (first | assumption | exact upd_same | (rw [upd_ne (by assumption)]; assumption)))
local macro_rules | `(tactic| walk_at "rd") => `(tactic| (first
  | refine ⟨_, rfl, ?_⟩
  | (refine ⟨_, _, rfl, rfl, ?rdc, ?_⟩; (case rdc => first | (show (0 : Int) < _; omega) | (exact ⟨by omega, by omega⟩) | (exact .inl ⟨by omega, by omega⟩) | (exact .inr ⟨by omega, by omega⟩) | exact ⟨by decide, by decide, by decide⟩))
  | refine ⟨_, _, rfl, rfl, ?_⟩
  | refine .inl ⟨_, rfl, ?_⟩
  | refine ⟨rfl, ?_⟩
  | refine ⟨⟨_, rfl⟩, ?_⟩
  | refine ⟨⟨_, SqL.of (by walk_at "hp")⟩, ?_⟩
  | refine ⟨_, _, _, _, rfl, rfl, SqL.of (by walk_at "hp"), (by rfl), ?_⟩
  | refine ⟨_, _, _, _, rfl, rfl, (by walk_at "hp"), (by rfl), ?_⟩
  | refine ⟨_, _, rfl, ⟨by walk_at "sz", rfl⟩, ?_⟩
  | refine ⟨_, _, _, rfl, rfl, by walk_at "sz", by assumption, ?_⟩
  | refine And.intro (by walk_at "sz") ?_
  | refine itT rfl ?_
  | refine itF rfl ?_
  | refine itT (by assumption) ?_
  | refine itF (by assumption) ?_
  | refine itT (decide_eq_true (by omega)) ?_
  | refine itF (decide_eq_false (by omega)) ?_
  | refine itT (dVi (by omega)) ?_
  | refine itF (dViN (by omega)) ?_
  | refine itT (notT (by assumption)) ?_
  | refine itF (notF (by assumption)) ?_
  | refine itT (notT (dViN (by omega))) ?_
  | refine itF (notF (dVi (by omega))) ?_
  | refine itT (decide_eq_true rfl) ?_
  | refine itF (notF (decide_eq_true rfl)) ?_
  | refine ite2 (fun _ => ?_) (fun _ => ?_)
  | with_reducible refine tC_ ?_
  | with_reducible refine tNext_ ?_
  | with_reducible refine tNil_ ?_
  | with_reducible refine tYes_ ?_))
local macro_rules | `(tactic| walk_at "rds") => `(tactic| repeat' (walk_at "rd"))
section
variable {P : Program} {w : World} {K : PySem.W.Frag} {mg : Str → Option Value} {base : Heap}

theorem ok_reference_at (T : Tx P w K mg base) (G_number_at : FnOk P w K mg base (L2.CX P w) 4 T.d_number_at.f T.d_number_at.fd ["raw", "begin"] (sp_number_at T.a_IllFormed)) : FnOk P w K mg base (L2.CX P w) 5 T.d_reference_at.f T.d_reference_at.fd ["raw", "begin"] (sp_reference_at T.a_IllFormed) := by
  have sc := sc_reference_at
  refine T.d_reference_at.F.okX sc (fun vs H Q E h => ?_) (fun cdv A outer s H vs Q E hr h => ?_)
  · obtain ⟨z, bg, rfl, hz, hbg, q⟩ := h
    rfl
  · obtain ⟨z, bg, rfl, hz, hbg, q⟩ := h
    refine ⟨_, (pss_cons (ps_if (pt_cmpR op_eq (pe_slice sl_str (pv 0) (po_some (pe_op op_add (pv 1) pe_int)) (po_some (pe_op op_add (pv 1) pe_int))) pe_str (nomark _)) (pss_one (ps_ret (pe_call G_number_at (hr.mono (by decide)) rfl T.d_number_at.m T.d_number_at.F.kp T.d_number_at.b .nil (passes_call (takes_of rfl rfl rfl rfl) fun _ _ _ _ z => z) (pa_cons (pv 0) (pa_cons (pe_op op_add (pv 1) pe_int) pa_nil))))) pss_nil)
      (pss_cons (ps_for (passes_of rfl) rfl (pi_range2 rfl T.n_range (pa_cons (pe_op op_add (pv 1) pe_int) (pa_cons (pe_callB call_len (by rfl) T.n_len PySem.boot_len (pa_cons (pv 0) pa_nil)) pa_nil))) (pg_name (i := 2) sc.nd rfl (Or.inl rfl)) (pss_cons (ps_set (i := 3) sc.nd rfl (Or.inr rfl) (pe_slice sl_str (pv 0) (po_some (pe_op op_add (pv 1) pe_int)) (po_some (pe_op op_add (pv 2) pe_int))))
      (pss_cons (ps_if (PW.pt (pw_and (pt_val (pe_m1 PySem.F.slot_str_endswith PySem.F.type_str_endswith mt_endswith (pv 3) pe_str)) (pw_and1 (pt_cmpR Mx.op_kin (pe_slice sl_str (pv 3) po_none (po_some (pe_un un_neg pe_int))) (pe_glob (v := .ref T.a_FIVE) rfl T.m_FIVE rfl) (by rfl))))) (pss_one (ps_ret (pe_tup (pa_cons (pe_op op_add (pv 2) pe_int) (pa_cons (pe_ix Mx.ix_kd (pe_glob (v := .ref T.a_FIVE) rfl T.m_FIVE rfl) (pe_slice sl_str (pv 3) po_none (po_some (pe_un un_neg pe_int))) (fun _ _ => rfl)) pa_nil))))) pss_nil)
      (pss_one (ps_if (pt_not (pt_val (pe_callB (cr_any rfl) (by rfl) T.n_any (by decide +kernel) (pa_cons (pe_lc (own := [("name", 4)]) (g := gName 4) (tt := tYes) rfl sc.nd (Mx.pi_kd (pe_glob (v := .ref T.a_FIVE) rfl T.m_FIVE rfl)) (blkOk_by (own := [("name", 4)]) (N := ["raw", "begin", "at", "word", "name"]) (sc := defScope s_reference_at) (by decide +kernel)) (fun _ _ _ _ _ => pg_name (i := 4) sc.nd rfl (Or.inl rfl)) (fun _ _ _ _ _ => pts_nil) (fun _ _ _ _ _ => pe_m1 PySem.F.slot_str_startswith PySem.F.type_str_startswith mt_startswith (pv 4) (pv 3))) pa_nil)))) (pss_one (ps_raise rfl (takes_of rfl rfl rfl rfl) (pmk_x T.x_IllFormed (hr.mono (by decide)) rfl (pa_cons (pv 2) pa_nil)))) pss_nil)))))
      (pss_one (ps_raise rfl (takes_of rfl rfl rfl rfl) (pmk_x T.x_IllFormed (hr.mono (by decide)) rfl (pa_cons (pe_callB call_len (by rfl) T.n_len PySem.boot_len (pa_cons (pv 0) pa_nil)) pa_nil)))))), ?_⟩
    have zl : z.length = (tl z).length := len_tl z
    obtain ⟨hz1, hz2⟩ := hz
    have hzz : W4 z := ⟨hz1, hz2⟩
    have z16 : z.length ≤ sizeLine := by rw [zl]; unfold sizeLine; omega
    have ex : tl ("#" : Str) = [35] := rfl
    have c1 : tl (cutS z (some ((bg : Int) + 1)) (some ((bg : Int) + 2))) = ((tl z).drop (bg + 1)).take 1 := by
      have q := cutS_over z (bg + 1) (bg + 2) (by omega)
      rw [show bg + 2 - (bg + 1) = 1 by omega] at q
      exact q
    have hx0 : decide (V.str (cutS z (some ((bg : Int) + 1)) (some ((bg : Int) + 2))) = V.str "#") = decide (((tl z).drop (bg + 1)).head? = some 35) := by rw [strEq, c1, ex, take1]
    by_cases hx : ((tl z).drop (bg + 1)).head? = some 35
    · rw [decide_eq_true hx] at hx0
      have hlt := head_lt hx
      have q0 : Told T.a_IllFormed (Num.numAt (tl z) (bg + 2)) H Q E := by
        unfold refAt at q
        rw [if_pos hx] at q
        exact q
      walk_at "rds"
      refine ⟨z, bg + 2, rfl, hzz, by omega, ?_⟩
      cases hr : Num.numAt (tl z) (bg + 2) with
      | ok e c =>
        rw [hr] at q0
        intro H' p sm hp
        walk_at "rds"
        exact q0 H' p sm hp
      | ill i =>
        rw [hr] at q0
        intro H' d sm hd
        exact q0 H' d sm hd
    · rw [decide_eq_false hx] at hx0
      obtain ⟨r, hr⟩ : ∃ r, (tl z).drop (bg + 1) = r := ⟨_, rfl⟩
      have hrl : r.length = (tl z).length - (bg + 1) := by rw [← hr, List.length_drop]
      have q0 : Told T.a_IllFormed (refGo [] r (bg + 1)) H Q E := by
        unfold refAt at q
        rw [if_neg hx, hr] at q
        exact q
      clear q
      walk_at "rds"
      simp only [zl]
      refine ⟨((bg + 1 : Nat) : Int), ((tl z).length : Int), rfl, ⟨by omega, by omega, by omega, by omega⟩, ?_⟩
      have en : (((tl z).length : Int) - ((bg + 1 : Nat) : Int)).toNat = r.length := by omega
      rw [en]
      refine for_it (D := ⟨_, _, fun _ _ => False, fun _ _ => False⟩) (walk_range (lo := ((bg + 1 : Nat) : Int)) (n := r.length)) (fun i σ H1 => Same H H1 ∧ (∃ v2 v3 v4, σ = [some (.str z), some (.int (bg : Int)), v2, v3, v4]) ∧ Told T.a_IllFormed (refGo (r.take i) (r.drop i) (bg + 1 + i)) H Q E) ⟨Same.refl _, ⟨_, _, _, rfl⟩, by simpa using q0⟩ (fun _ _ _ _ _ => trivial) ?_ ?_
      · rintro i x σ H1 H2 hi ⟨sm, ⟨v2, v3, v4, rfl⟩, ht⟩ ⟨rfl, rfl⟩
        have ek : ((bg + 1 : Nat) : Int) + (i : Int) = ((bg + 1 + i : Nat) : Int) := (Int.natCast_add _ _).symm
        have hgr : r[i]? = some (r[i]) := List.getElem?_eq_getElem hi
        have hdr : r.drop i = r[i] :: r.drop (i + 1) := List.drop_eq_getElem_cons hi
        rw [hdr] at ht
        generalize r[i] = c at hgr ht
        have etake : r.take (i + 1) = r.take i ++ [c] := take_snoc hgr
        have hcut1 : tl (cutS z (some ((bg : Int) + 1)) (some (((bg + 1 + i : Nat) : Int) + 1))) = r.take i ++ [c] := by
          have q := cutS_mid z (bg + 1) (bg + 1 + i + 1) (by omega) (by omega)
          rw [hr, show bg + 1 + i + 1 - (bg + 1) = i + 1 by omega, etake] at q
          exact q
        have wl : (cutS z (some ((bg : Int) + 1)) (some (((bg + 1 + i : Nat) : Int) + 1))).length ≤ sizeLine := by
          rw [len_tl, hcut1, ← etake, List.length_take]
          unfold sizeLine
          omega
        have hends := ends_tl hcut1
        have hinit := cutS_init hcut1
        have hat := atK_five (cutS (cutS z (some ((bg : Int) + 1)) (some (((bg + 1 + i : Nat) : Int) + 1))) none (some (-1)))
        rw [hinit] at hat
        simp only [ek]
        by_cases h59 : c = 59
        · rw [decide_eq_true h59] at hends
          cases hf : five (r.take i) with
          | some y =>
            rw [hf] at hat
            have hat1 : atK fiveKV (cutS (cutS z (some ((bg : Int) + 1)) (some (((bg + 1 + i : Nat) : Int) + 1))) none (some (-1))) = some ⟨#[y]⟩ := hat
            have hq : Told T.a_IllFormed (.ok (bg + 1 + i + 1) y) H Q E := by
              have e : refGo (r.take i) (c :: r.drop (i + 1)) (bg + 1 + i) = .ok (bg + 1 + i + 1) y := by
                rw [refGo]
                simp only [h59, hf, if_true]
              rw [e] at ht
              exact ht
            walk_at "rds"
            refine ⟨_, _, _, rfl, rfl, T.kd_FIVE, ?_⟩
            show ∃ c, V.bl (atK fiveKV _).isSome = V.bl c ∧ _
            rw [hat1]
            refine ⟨_, rfl, ?_⟩
            walk_at "rds"
            refine ⟨_, _, _, _, rfl, rfl, T.kd_FIVE, hat1, ?_⟩
            walk_at "rds"
            intro p hp
            exact hq _ p sm hp
          | none =>
            rw [hf] at hat
            have hat1 : atK fiveKV (cutS (cutS z (some ((bg : Int) + 1)) (some (((bg + 1 + i : Nat) : Int) + 1))) none (some (-1))) = none := hat
            have hno : (if c = 59 then five (r.take i) else none) = none := by rw [if_pos h59]; exact hf
            walk_at "rds"
            refine ⟨_, _, _, rfl, rfl, T.kd_FIVE, ?_⟩
            show ∃ c, V.bl (atK fiveKV _).isSome = V.bl c ∧ _
            rw [hat1]
            refine ⟨_, rfl, ?_⟩
            walk_at "rds"
            refine ⟨_, _, rfl, T.kd_FIVE, ?_⟩
            intro D hD
            refine lc_flt walk_kd (fun _ => true) (fun k => .bl ((r.take i ++ [c]).isPrefixOf (tl (fiveKV.getD k ("", "")).1))) hD (by decide) (fun _ _ => trivial) (fun i H1 x H2 y => y.1 ▸ Same.refl _) ?_ ?_
            · rintro k x H3 H4 Nx Mx hk sm3 ⟨rfl, p, hp, rfl⟩ k1 k2
              refine ⟨rfl, ?_⟩
              walk_at "rds"
              rw [starts_tl, hcut1, five_at k p hp]
              exact k1 rfl _ (Same.refl _)
            · intro H3 sm3 hl3
              rw [picked_all] at hl3
              walk_at "rds"
              refine ⟨D, (List.range 5).map (fun k => (r.take i ++ [c]).isPrefixOf (tl (fiveKV.getD k ("", "")).1)), rfl, SqL.of (by rw [List.map_map]; exact hl3), ?_⟩
              rw [five_begins]
              cases hbg2 : begins (r.take i ++ [c]) with
              | true =>
                walk_at "rds"
                refine ⟨sm.trans sm3, ⟨_, _, _, rfl⟩, ?_⟩
                have e : refGo (r.take i) (c :: r.drop (i + 1)) (bg + 1 + i) = refGo (r.take i ++ [c]) (r.drop (i + 1)) (bg + 1 + i + 1) := by
                  rw [refGo]
                  simp only [hno, hbg2, if_true]
                rw [e] at ht
                rw [etake]
                exact ht
              | false =>
                have hq : Told T.a_IllFormed (.ill (bg + 1 + i)) H Q E := by
                  have e : refGo (r.take i) (c :: r.drop (i + 1)) (bg + 1 + i) = .ill (bg + 1 + i) := by
                    rw [refGo]
                    simp only [hno, hbg2, Bool.false_eq_true, if_false]
                  rw [e] at ht
                  exact ht
                walk_at "rds"
                intro d hd
                exact hq _ d (sm.trans sm3) hd
        · rw [decide_eq_false h59] at hends
          have hno : (if c = 59 then five (r.take i) else none) = none := by rw [if_neg h59]
          walk_at "rds"
          refine ⟨_, _, rfl, T.kd_FIVE, ?_⟩
          intro D hD
          refine lc_flt walk_kd (fun _ => true) (fun k => .bl ((r.take i ++ [c]).isPrefixOf (tl (fiveKV.getD k ("", "")).1))) hD (by decide) (fun _ _ => trivial) (fun i H1 x H2 y => y.1 ▸ Same.refl _) ?_ ?_
          · rintro k x H3 H4 Nx Mx hk sm3 ⟨rfl, p, hp, rfl⟩ k1 k2
            refine ⟨rfl, ?_⟩
            walk_at "rds"
            rw [starts_tl, hcut1, five_at k p hp]
            exact k1 rfl _ (Same.refl _)
          · intro H3 sm3 hl3
            rw [picked_all] at hl3
            walk_at "rds"
            refine ⟨D, (List.range 5).map (fun k => (r.take i ++ [c]).isPrefixOf (tl (fiveKV.getD k ("", "")).1)), rfl, SqL.of (by rw [List.map_map]; exact hl3), ?_⟩
            rw [five_begins]
            cases hbg2 : begins (r.take i ++ [c]) with
            | true =>
              walk_at "rds"
              refine ⟨sm.trans sm3, ⟨_, _, _, rfl⟩, ?_⟩
              have e : refGo (r.take i) (c :: r.drop (i + 1)) (bg + 1 + i) = refGo (r.take i ++ [c]) (r.drop (i + 1)) (bg + 1 + i + 1) := by
                rw [refGo]
                simp only [hno, hbg2, if_true]
              rw [e] at ht
              rw [etake]
              exact ht
            | false =>
              have hq : Told T.a_IllFormed (.ill (bg + 1 + i)) H Q E := by
                have e : refGo (r.take i) (c :: r.drop (i + 1)) (bg + 1 + i) = .ill (bg + 1 + i) := by
                  rw [refGo]
                  simp only [hno, hbg2, Bool.false_eq_true, if_false]
                rw [e] at ht
                exact ht
              walk_at "rds"
              intro d hd
              exact hq _ d (sm.trans sm3) hd
      · rintro σ H1 ⟨sm, ⟨v2, v3, v4, rfl⟩, ht⟩
        rw [List.drop_length, hrl, show bg + 1 + ((tl z).length - (bg + 1)) = (tl z).length by omega] at ht
        have hq : Told T.a_IllFormed (.ill (tl z).length) H Q E := ht
        walk_at "rds"
        intro d hd
        rw [← zl] at hq
        exact hq _ d sm hd
end
end K7

set_option maxHeartbeats 1000000
set_option pp.maxSteps 700
set_option pp.deepTerms false
set_option pp.deepTerms.threshold 14
namespace K7
open PySem PySem.Spec PyProof.Rows L2 Mx
open TL Num CwR
theorem sp_text : ∀ c < 128, Txt.replace (Txt.replace (⟨#[c]⟩ : Str) "\t" " ") "\n" " " = ⟨#[spC c]⟩ := by decide +kernel
theorem sp_len : ∀ c < 128, (Txt.replace (⟨#[c]⟩ : Str) "\t" " ").length ≤ 3 := by decide +kernel
local macro_rules | `(tactic| walk_at "sz") => `(tactic| first | assumption | decide | omega | (unfold sizeLine; omega) | exact Nat.le_of_ble_eq_true rfl)
local macro_rules | `(tactic| walk_at "hp") => `(tactic| (first | assumption | exact upd_same | (rw [upd_ne (by assumption)]; assumption)))
local macro_rules | `(tactic| walk_at "rd") => `(tactic| (first
  | refine ⟨_, rfl, ?_⟩
  | (refine ⟨_, _, rfl, rfl, ?rdc, ?_⟩; (case rdc => first | (show (0 : Int) < _; omega) | (exact ⟨by omega, by omega⟩) | (exact .inl ⟨by omega, by omega⟩) | (exact .inr ⟨by omega, by omega⟩) | exact ⟨by decide, by decide, by decide⟩))
  | refine ⟨_, _, rfl, rfl, ?_⟩
  | refine .inl ⟨_, rfl, ?_⟩
  | refine ⟨rfl, ?_⟩
  | refine ⟨⟨_, rfl⟩, ?_⟩
  | refine ⟨⟨_, SqL.of (by walk_at "hp")⟩, ?_⟩
  | refine ⟨_, _, _, _, rfl, rfl, SqL.of (by walk_at "hp"), (by rfl), ?_⟩
  | refine ⟨_, _, _, _, rfl, rfl, (by walk_at "hp"), (by rfl), ?_⟩
  | refine ⟨_, _, rfl, ⟨by walk_at "sz", rfl⟩, ?_⟩
  | refine ⟨_, _, _, rfl, rfl, by walk_at "sz", by assumption, ?_⟩
  | refine And.intro (by walk_at "sz") ?_
  | refine itT rfl ?_
  | refine itF rfl ?_
  | refine itT (by assumption) ?_
  | refine itF (by assumption) ?_
  | refine itT (decide_eq_true (by omega)) ?_
  | refine itF (decide_eq_false (by omega)) ?_
  | refine itT (dVi (by omega)) ?_
  | refine itF (dViN (by omega)) ?_
  | refine itT (notT (by assumption)) ?_
  | refine itF (notF (by assumption)) ?_
  | refine itT (notT (dViN (by omega))) ?_
  | refine itF (notF (dVi (by omega))) ?_
  | refine itT (decide_eq_true rfl) ?_
  | refine itF (notF (decide_eq_true rfl)) ?_
  | refine ite2 (fun _ => ?_) (fun _ => ?_)
  | with_reducible refine tC_ ?_
  | with_reducible refine tNext_ ?_
  | with_reducible refine tNil_ ?_
  | with_reducible refine tYes_ ?_))
local macro_rules | `(tactic| walk_at "rds") => `(tactic| repeat' (walk_at "rd"))
section
variable {P : Program} {w : World} {K : PySem.W.Frag} {mg : Str → Option Value} {base : Heap}
theorem ok_spaced (T : Tx P w K mg base) : FnOk P w K mg base CX0 1 T.d_spaced.f T.d_spaced.fd ["text"] sp_spaced := by
  have sc := sc_spaced
  obtain ⟨oc, od, kV, doc, pm, an, cdv, ct, osl, e0, lk, hcd⟩ := T.d_spaced.F.ex
  rw [e0] at lk ⊢
  refine fn_ofT lk hcd sc (by decide +kernel) (by decide) (fun vs H Q E h => ?_) (fun A outer s H vs Q E hr h => ?_)
  · obtain ⟨c, rfl, hc, q⟩ := h
    rfl
  · obtain ⟨c, rfl, hc, q⟩ := h
    refine ⟨_, psst_one (pst_ret (pet_replT (pet_replC (pv 0)))), ?_⟩
    have h3 := sp_len c hc
    refine ⟨_, rfl, _, rfl, Nat.le_of_ble_eq_true rfl, _, rfl, ?_, ?_⟩
    · have e : (" " : Str).length = 1 := rfl
      rw [e]
      omega
    · rw [sp_text c hc]
      exact q
end
end K7

set_option maxHeartbeats 1000000
set_option pp.maxSteps 700
set_option pp.deepTerms false
set_option pp.deepTerms.threshold 14
namespace K7
open PySem PySem.Spec PyProof.Rows L2 Mx
open TL Num
/-- where units stands -/
inductive Ut where
  | new (vs : List L2.V)
  | at (z m : Str) (i br : Nat)
def Wu (C : Addr) (z m : Str) (i br : Nat) (H : Hp) (Q : Gx.Wish Ut) : Prop := match stepAt (tl z) (tl m) i br with
  | .done => ∀ H', Same H H' → Q.dn H'
  | .unit e c b => ∀ H' p, Same H H' → H' p = none → Q.yd (.ref p) (.at z m e b) (upd H' p (.tup [.int (i : Int), .int (e : Int), .str ⟨#[c]⟩]))
  | .ill k => ∀ H' d, Same H H' → H' d = none → Q.ex (.ref C) (some d) (upd H' d (.xd [("position", .int (k : Int))]))
theorem Wu.same {C : Addr} {z m : Str} {i br : Nat} {H H1 : Hp} {Q : Gx.Wish Ut} (h : Wu C z m i br H Q) (sm : Same H H1) : Wu C z m i br H1 Q := by
  unfold Wu at h ⊢
  cases hs : stepAt (tl z) (tl m) i br with
  | done => rw [hs] at h; exact fun H' s' => h H' (sm.trans s')
  | unit e c b => rw [hs] at h; exact fun H' p s' hp => h H' p (sm.trans s') hp
  | ill k => rw [hs] at h; exact fun H' d s' hd => h H' d (sm.trans s') hd
def SU (C : Addr) : Gx.GSpec where
  τ := Ut
  W := fun t H Q => match t with
    | .new vs => ∃ z m, vs = [.str z, .str m] ∧ W4 z ∧ MarkOk m ∧ Wu C z m 0 0 H Q
    | .at z m i br => W4 z ∧ MarkOk m ∧ br ≤ 2 ∧ Wu C z m i br H Q
  Fr := fun _ _ _ => True
theorem in_mark {m : Str} (h : MarkOk m) {c : Nat} (hc : c < 128) : inV (.str ⟨#[c]⟩) [.str "<", .str m] = decide (c = 60 ∨ tl m = [c]) := by
  rcases h with h | h | h
  · rw [show m = ("" : Str) from Mx.str_ext (h.trans (rfl : [] = tl ("" : Str)))]
    exact (by decide +kernel : ∀ c < 128, inV (.str ⟨#[c]⟩) [.str "<", .str ""] = decide (c = 60 ∨ tl ("" : Str) = [c])) c hc
  · rw [show m = ("'" : Str) from Mx.str_ext (h.trans (rfl : [39] = tl ("'" : Str)))]
    exact (by decide +kernel : ∀ c < 128, inV (.str ⟨#[c]⟩) [.str "<", .str "'"] = decide (c = 60 ∨ tl ("'" : Str) = [c])) c hc
  · rw [show m = ("\"" : Str) from Mx.str_ext (h.trans (rfl : [34] = tl ("\"" : Str)))]
    exact (by decide +kernel : ∀ c < 128, inV (.str ⟨#[c]⟩) [.str "<", .str "\""] = decide (c = 60 ∨ tl ("\"" : Str) = [c])) c hc

local macro_rules | `(tactic| walk_at "sz") => `(tactic| first | assumption | decide | omega | (unfold sizeLine; omega) | exact Nat.le_of_ble_eq_true rfl)
local macro_rules | `(tactic| walk_at "hp") => `(tactic| (first | assumption | exact upd_same | (rw [upd_ne (by assumption)]; assumption)))
local macro_rules | `(tactic| walk_at "rd") => `(tactic| (first
  | refine ⟨_, rfl, ?_⟩
  | (refine ⟨_, _, rfl, rfl, ?rdc, ?_⟩; (case rdc => first | (show (0 : Int) < _; omega) | (exact ⟨by omega, by omega⟩) | (exact .inl ⟨by omega, by omega⟩) | (exact .inr ⟨by omega, by omega⟩) | exact ⟨by decide, by decide, by decide⟩))
  | refine ⟨_, _, rfl, rfl, ?_⟩
  | refine .inl ⟨_, rfl, ?_⟩
  | refine ⟨rfl, ?_⟩
  | refine ⟨⟨_, rfl⟩, ?_⟩
  | refine ⟨⟨_, SqL.of (by walk_at "hp")⟩, ?_⟩
  | refine ⟨_, _, _, _, rfl, rfl, SqL.of (by walk_at "hp"), (by rfl), ?_⟩
  | refine ⟨_, _, _, _, rfl, rfl, (by walk_at "hp"), (by rfl), ?_⟩
  | refine ⟨_, _, rfl, ⟨by walk_at "sz", rfl⟩, ?_⟩
  | refine ⟨_, _, _, rfl, rfl, by walk_at "sz", by assumption, ?_⟩
  | refine And.intro (by walk_at "sz") ?_
  | refine itT rfl ?_
  | refine itF rfl ?_
  | refine itT (by assumption) ?_
  | refine itF (by assumption) ?_
  | refine itT (decide_eq_true (by omega)) ?_
  | refine itF (decide_eq_false (by omega)) ?_
  | refine itT (dVi (by omega)) ?_
  | refine itF (dViN (by omega)) ?_
  | refine itT (notT (by assumption)) ?_
  | refine itF (notF (by assumption)) ?_
  | refine itT (notT (dViN (by omega))) ?_
  | refine itF (notF (dVi (by omega))) ?_
  | refine itT (decide_eq_true rfl) ?_
  | refine itF (notF (decide_eq_true rfl)) ?_
  | refine ite2 (fun _ => ?_) (fun _ => ?_)
  | with_reducible refine tC_ ?_
  | with_reducible refine tNext_ ?_
  | with_reducible refine tNil_ ?_
  | with_reducible refine tYes_ ?_))
local macro_rules | `(tactic| walk_at "rds") => `(tactic| repeat' (walk_at "rd"))
section
variable {P : Program} {w : World} {K : PySem.W.Frag} {mg : Str → Option Value} {base : Heap}

theorem ok_units (T : Tx P w K mg base) (G_check_raw : FnOk P w K mg base (L2.CX P w) 4 T.d_check_raw.f T.d_check_raw.fd ["raw", "mark"] (sp_check_raw K T.a_InvalidKind)) (G_reference_at : FnOk P w K mg base (L2.CX P w) 5 T.d_reference_at.f T.d_reference_at.fd ["raw", "begin"] (sp_reference_at T.a_IllFormed)) (G_spaced : FnOk P w K mg base CX0 1 T.d_spaced.f T.d_spaced.fd ["text"] sp_spaced) : Gx.GFn2 P w K mg base 6 T.d_units.f T.d_units.fd ["raw", "mark"] (SU T.a_IllFormed) Ut.new := by
  have sc := sc_units
  have NC := nc_units
  obtain ⟨oc, od, dV, kV, doc, pm, an, cdv, ct, osl, e0, lk, hcd, _⟩ := T.d_units.F.ex
  rw [e0] at lk ⊢
  refine Gx.gfn2_of lk hcd sc NC (fun A outer L pn hr => ?_)
  replace NC := NC (L + 1)
  refine ⟨_, (Gx.g_cons (Gx.g_psX fun _ _ _ _ => ps_expr (pe_call G_check_raw (hr.mono (by decide)) rfl T.d_check_raw.m T.d_check_raw.F.kp T.d_check_raw.b .nil (passes_call Gx.takes_g fun _ _ _ _ z => z) (pa_cons (pv 0) (pa_cons (pv 1) pa_nil))))
      (Gx.g_cons (Gx.g_psX fun _ _ _ _ => ps_asg (pe_tup (pa_cons pe_int (pa_cons pe_int pa_nil))) (pg_tup (by rfl) (pgs_cons (pg_name (i := 2) sc.nd rfl (Or.inl rfl)) (pgs_cons (pg_name (i := 3) sc.nd rfl (Or.inl rfl)) pgs_nil))))
      (Gx.g_cons (Gx.g_whileX (fun _ _ _ _ => pt_cmpR op_lt (pv 2) (pe_callB call_len (by rfl) T.n_len PySem.boot_len (pa_cons (pv 0) pa_nil)) (nomark _)) (Gx.g_cons (Gx.g_psX fun _ _ _ _ => ps_set (i := 4) sc.nd rfl (Or.inl rfl) (pe_ix ix_str (pv 0) (pv 2) (fun _ _ => rfl)))
      (Gx.g_cons (Gx.g_psX fun _ _ _ _ => ps_if (pt_cmpR op_eq (pv 4) pe_str (nomark _)) (pss_cons (ps_asg (pe_call G_reference_at (hr.mono (by decide)) rfl T.d_reference_at.m T.d_reference_at.F.kp T.d_reference_at.b .nil (passes_call Gx.takes_g fun _ _ _ _ z => z) (pa_cons (pv 0) (pa_cons (pv 2) pa_nil))) (pg_tup (by rfl) (pgs_cons (pg_name (i := 5) sc.nd rfl (Or.inl rfl)) (pgs_cons (pg_name (i := 6) sc.nd rfl (Or.inl rfl)) pgs_nil))))
      (pss_one (ps_set (i := 3) sc.nd rfl (Or.inl rfl) pe_int))) (pss_cons (ps_if (PW.pt (pw_or (pt_cmpR op_in_seq (pv 4) (pe_tup (pa_cons pe_str (pa_cons (pv 1) pa_nil))) (by rfl)) (pw_or1 (PW.pt (pw_and (pt_cmpR op_eq (pv 1) pe_str (nomark _)) (pw_and (pt_cmpR op_eq (pv 4) pe_str (nomark _)) (pw_and1 (pt_cmpR op_eq (pv 3) pe_int (nomark _))))))))) (pss_one (ps_raise rfl Gx.takes_g (pmk_x T.x_IllFormed (hr.mono (by decide)) rfl (pa_cons (pv 2) pa_nil)))) pss_nil)
      (pss_cons (ps_par (i := 5) (j := 6) (by rfl) sc.nd rfl rfl (by decide) rfl rfl (pa_cons (pe_op op_add (pv 2) pe_int) (pa_cons (pe_ifExp (pt_cmpR op_eq (pv 1) pe_str (nomark _)) (pv 4) (pe_call G_spaced (hr.mono (by decide)) rfl T.d_spaced.m T.d_spaced.F.kp T.d_spaced.b .nil pass0 (pa_cons (pv 4) pa_nil))) pa_nil)) (by rfl))
      (pss_one (ps_set (i := 3) sc.nd rfl (Or.inl rfl) (pe_ifExp (pt_cmpR op_eq (pv 4) pe_str (nomark _)) (pe_callB (call_min2 rfl) (by rfl) T.n_min (by decide +kernel) (pa_cons pe_int (pa_cons (pe_op op_add (pv 3) pe_int) pa_nil))) pe_int))))))
      (Gx.g_cons (Gx.g_yieldX NC (fun _ _ _ _ => pe_tup (pa_cons (pv 2) (pa_cons (pv 5) (pa_cons (pv 6) pa_nil)))) rfl)
      (Gx.g_cons (Gx.g_psX fun _ _ _ _ => ps_set (i := 2) sc.nd rfl (Or.inl rfl) (pv 5))
      Gx.g_nil)))))
      Gx.g_nil))), fun vs H Q hl h => ?_⟩
  obtain ⟨z, mk, rfl, hz, hm, hw⟩ := h
  have zl : z.length = (tl z).length := len_tl z
  have z16 : z.length ≤ sizeLine := by rw [zl]; have := hz.2; unfold sizeLine; omega
  walk_at "rds"
  refine ⟨z, .str mk, rfl, .inl ⟨mk, rfl, hm, fun H1 s1 => ?_⟩⟩
  have hw := hw.same s1
  walk_at "rds"
  intro p0 hp0
  have hw := hw.same (Same.new (o := .tup [.int 0, .int 0]) (Same.refl _) hp0)
  have f0 : upd H1 p0 (.tup [.int 0, .int 0]) p0 = some (.tup [.int 0, .int 0]) := upd_same
  generalize upd H1 p0 (.tup [.int 0, .int 0]) = H1b at hw f0 ⊢
  refine ⟨_, _, rfl, SqT.of f0, rfl, _, _, rfl, _, _, rfl, rfl, ?_⟩
  walk_at "rds"
  refine ⟨fun m σ H2 Q2 => ∃ i br : Nat, m = (tl z).length - i ∧ i ≤ (tl z).length ∧ br ≤ 2 ∧ (∃ v4 v5 v6, σ = [some (.str z), some (.str mk), some (.int (i : Int)), some (.int (br : Int)), v4, v5, v6]) ∧ Wu T.a_IllFormed z mk i br H2 Q2, ⟨_, 0, 0, rfl, Nat.zero_le _, Nat.zero_le _, ⟨_, _, _, rfl⟩, hw⟩, ?_⟩
  clear hw s1
  rintro m σ H2 Q2 ⟨i, br, rfl, hi, hbr, ⟨v4, v5, v6, rfl⟩, hw⟩
  unfold Wu at hw
  by_cases hlt : i < (tl z).length
  · have hg : (tl z)[i]? = some (tl z)[i] := List.getElem?_eq_getElem hlt
    have c8 : (tl z)[i] < 128 := hz.1 _ (List.getElem_mem hlt)
    generalize (tl z)[i] = c at hg c8
    have hc2 : atI z.cps.toList ((i : Nat) : Int) = some c := atI_nat hg
    have hs : decide (V.str ⟨#[c]⟩ = V.str "&") = decide (c = 38) := by
      rw [strEq]
      show decide ([c] = [38]) = _
      simp
    by_cases h38 : c = 38
    · rw [decide_eq_true h38] at hs
      subst h38
      rw [step_amp hg] at hw
      walk_at "rds"
      refine ⟨fun σ' H' Q' => ∃ e b : Nat, i < e ∧ e ≤ (tl z).length ∧ b ≤ 2 ∧ (∃ v4 v5 v6, σ' = [some (.str z), some (.str mk), some (.int (e : Int)), some (.int (b : Int)), v4, v5, v6]) ∧ Wu T.a_IllFormed z mk e b H' Q', ?_, ?_⟩
      · rintro σ' H' Q' ⟨e, b, h1, h2, h3, h4, h5⟩
        exact ⟨_, by omega, e, b, rfl, h2, h3, h4, h5⟩
      walk_at "rds"
      refine ⟨z, i, rfl, hz, hlt, ?_⟩
      cases hr : refAt (tl z) i with
      | ok e c =>
        rw [hr] at hw
        obtain ⟨e1, e2⟩ := refAt_end hlt hr
        intro H3 p s3 hp
        refine ⟨_, _, rfl, SqT.of upd_same, rfl, _, _, rfl, _, _, rfl, rfl, ?_⟩
        walk_at "rds"
        intro p2 hp2
        have hw3 := hw _ p2 (s3.trans (Same.new (Same.refl _) hp)) hp2
        refine ⟨.at z mk e 0, hw3, fun H4 Q4 _ h4 => ?_⟩
        obtain ⟨_, _, _, hw4⟩ := h4
        walk_at "rds"
        exact ⟨e, 0, e1, e2, Nat.zero_le _, ⟨_, _, _, rfl⟩, hw4⟩
      | ill k =>
        rw [hr] at hw
        exact fun H3 d s3 hd => hw H3 d s3 hd
    · rw [decide_eq_false h38] at hs
      walk_at "rds"
      refine ⟨fun σ' H' Q' => ∃ e b : Nat, i < e ∧ e ≤ (tl z).length ∧ b ≤ 2 ∧ (∃ v4 v5 v6, σ' = [some (.str z), some (.str mk), some (.int (e : Int)), some (.int (b : Int)), v4, v5, v6]) ∧ Wu T.a_IllFormed z mk e b H' Q', ?_, ?_⟩
      · rintro σ' H' Q' ⟨e, b, h1, h2, h3, h4, h5⟩
        exact ⟨_, by omega, e, b, rfl, h2, h3, h4, h5⟩
      walk_at "rds"
      intro pt hpt
      walk_at "rds"
      refine ⟨pt, _, rfl, .inr (SqT.of upd_same), rfl, rfl, ?_⟩
      show ∃ c', V.bl (inV (.str ⟨#[c]⟩) [.str "<", .str mk]) = V.bl c' ∧ _
      rw [in_mark hm c8]
      refine ⟨_, rfl, ?_⟩
      have st2 : Same H2 (upd H2 pt (.tup [.str "<", .str mk])) := Same.new (Same.refl _) hpt
      generalize upd H2 pt (.tup [.str "<", .str mk]) = H3 at st2 ⊢
      have hm0 : decide (V.str mk = V.str "") = decide (tl mk = []) := by rw [strEq]; rfl
      have hgt : decide (V.str ⟨#[c]⟩ = V.str ">") = decide (c = 62) := by
        rw [strEq]
        show decide ([c] = [62]) = _
        simp
      have h93 : decide (V.str ⟨#[c]⟩ = V.str "]") = decide (c = 93) := by
        rw [strEq]
        show decide ([c] = [93]) = _
        simp
      have emin : (if (br : Int) + 1 < 2 then (br : Int) + 1 else 2) = ((min 2 (br + 1) : Nat) : Int) := by split <;> omega
      have hb2 : decide (V.int (br : Int) = V.int 2) = decide (br = 2) := by
        by_cases h : br = 2
        · rw [h]; rfl
        · rw [decide_eq_false h]
          exact decide_eq_false fun e => h (by injection e with e; omega)
      by_cases hill : c = 60 ∨ tl mk = [c] ∨ (tl mk = [] ∧ c = 62 ∧ br = 2)
      · rw [step_ill hg h38 hill] at hw
        by_cases h1 : c = 60 ∨ tl mk = [c]
        · rw [decide_eq_true h1]
          walk_at "rds"
          intro d hd
          exact hw _ d st2 hd
        · obtain ⟨e1, e2, e3⟩ : tl mk = [] ∧ c = 62 ∧ br = 2 := by
            rcases hill with h | h | h
            · exact absurd (.inl h) h1
            · exact absurd (.inr h) h1
            · exact h
          rw [decide_eq_false h1]
          rw [decide_eq_true e1] at hm0
          rw [decide_eq_true e2] at hgt
          rw [decide_eq_true e3] at hb2
          walk_at "rds"
          intro d hd
          exact hw _ d st2 hd
      · rw [step_one hg h38 hill] at hw
        have h1 : ¬ (c = 60 ∨ tl mk = [c]) := fun h => hill (h.elim .inl fun h => .inr (.inl h))
        rw [decide_eq_false h1]
        by_cases hm1 : tl mk = []
        · rw [decide_eq_true hm1] at hm0
          rw [if_pos hm1] at hw
          by_cases c62 : c = 62
          · have hb3 : br ≠ 2 := fun h => hill (.inr (.inr ⟨hm1, c62, h⟩))
            rw [decide_eq_true c62] at hgt
            rw [decide_eq_false hb3] at hb2
            walk_at "rds"
            refine ⟨_, _, rfl, ?_⟩
            by_cases c93 : c = 93
            · rw [decide_eq_true c93] at h93
              rw [if_pos c93] at hw
              walk_at "rds"
              refine ⟨_, _, rfl, ?_⟩
              simp only [emin]
              walk_at "rds"
              intro p2 hp2
              have hw3 := hw _ p2 st2 hp2
              refine ⟨.at z mk (i + 1) (min 2 (br + 1)), hw3, fun H4 Q4 _ h4 => ?_⟩
              obtain ⟨_, _, _, hw4⟩ := h4
              walk_at "rds"
              exact ⟨i + 1, min 2 (br + 1), by omega, hlt, by omega, ⟨_, _, _, rfl⟩, hw4⟩
            · rw [decide_eq_false c93] at h93
              rw [if_neg c93] at hw
              walk_at "rds"
              intro p2 hp2
              have hw3 := hw _ p2 st2 hp2
              refine ⟨.at z mk (i + 1) 0, hw3, fun H4 Q4 _ h4 => ?_⟩
              obtain ⟨_, _, _, hw4⟩ := h4
              walk_at "rds"
              exact ⟨i + 1, 0, by omega, hlt, Nat.zero_le _, ⟨_, _, _, rfl⟩, hw4⟩
          · rw [decide_eq_false c62] at hgt
            walk_at "rds"
            refine ⟨_, _, rfl, ?_⟩
            by_cases c93 : c = 93
            · rw [decide_eq_true c93] at h93
              rw [if_pos c93] at hw
              walk_at "rds"
              refine ⟨_, _, rfl, ?_⟩
              simp only [emin]
              walk_at "rds"
              intro p2 hp2
              have hw3 := hw _ p2 st2 hp2
              refine ⟨.at z mk (i + 1) (min 2 (br + 1)), hw3, fun H4 Q4 _ h4 => ?_⟩
              obtain ⟨_, _, _, hw4⟩ := h4
              walk_at "rds"
              exact ⟨i + 1, min 2 (br + 1), by omega, hlt, by omega, ⟨_, _, _, rfl⟩, hw4⟩
            · rw [decide_eq_false c93] at h93
              rw [if_neg c93] at hw
              walk_at "rds"
              intro p2 hp2
              have hw3 := hw _ p2 st2 hp2
              refine ⟨.at z mk (i + 1) 0, hw3, fun H4 Q4 _ h4 => ?_⟩
              obtain ⟨_, _, _, hw4⟩ := h4
              walk_at "rds"
              exact ⟨i + 1, 0, by omega, hlt, Nat.zero_le _, ⟨_, _, _, rfl⟩, hw4⟩
        · rw [decide_eq_false hm1] at hm0
          rw [if_neg hm1] at hw
          walk_at "rds"
          refine ⟨_, _, rfl, ?_⟩
          by_cases c93 : c = 93
          · rw [decide_eq_true c93] at h93
            rw [if_pos c93] at hw
            walk_at "rds"
            refine ⟨_, _, rfl, ?_⟩
            simp only [emin]
            walk_at "rds"
            intro p2 hp2
            have hw3 := hw _ p2 st2 hp2
            refine ⟨.at z mk (i + 1) (min 2 (br + 1)), hw3, fun H4 Q4 _ h4 => ?_⟩
            obtain ⟨_, _, _, hw4⟩ := h4
            walk_at "rds"
            exact ⟨i + 1, min 2 (br + 1), by omega, hlt, by omega, ⟨_, _, _, rfl⟩, hw4⟩
          · rw [decide_eq_false c93] at h93
            rw [if_neg c93] at hw
            walk_at "rds"
            intro p2 hp2
            have hw3 := hw _ p2 st2 hp2
            refine ⟨.at z mk (i + 1) 0, hw3, fun H4 Q4 _ h4 => ?_⟩
            obtain ⟨_, _, _, hw4⟩ := h4
            walk_at "rds"
            exact ⟨i + 1, 0, by omega, hlt, Nat.zero_le _, ⟨_, _, _, rfl⟩, hw4⟩
  · rw [step_end hlt] at hw
    walk_at "rds"
    exact hw _ (Same.refl _)
end
end K7

set_option maxHeartbeats 1000000
set_option pp.maxSteps 700
set_option pp.deepTerms false
set_option pp.deepTerms.threshold 14
namespace K7
open PySem PySem.Spec PyProof.Rows L2 Mx
open TL Num
theorem su_w {C : Addr} {z m : Str} {i br : Nat} {t : Ut} {H : Hp} {Q : Gx.Wish Ut} (hz : W4 z) (hm : MarkOk m) (hb : br ≤ 2) (ht : t = .new [.str z, .str m] ∧ i = 0 ∧ br = 0 ∨ t = .at z m i br) (h : Wu C z m i br H Q) : (SU C).W t H Q := by
  rcases ht with ⟨rfl, rfl, rfl⟩ | rfl
  · exact ⟨z, m, rfl, hz, hm, h⟩
  · exact ⟨hz, hm, hb, h⟩
def ones (l : List Nat) : List Str := l.map fun c => ⟨#[c]⟩
theorem ones_snoc (l : List Nat) (c : Nat) : ones (l ++ [c]) = ones l ++ [⟨#[c]⟩] := by unfold ones; rw [List.map_append]; rfl
theorem ones_len (l : List Nat) : (ones l).length = l.length := List.length_map _
theorem ones_sum (l : List Nat) : ((ones l).map (·.length)).sum = l.length := by
  induction l with
  | nil => rfl
  | cons c r ih =>
    show 1 + ((ones r).map (·.length)).sum = _
    rw [ih, List.length_cons]
    omega
theorem ones_join (l : List Nat) : Txt.join "" (ones l) = toS l := Mx.str_ext (join_ones' l)
theorem ones_ok {l : List Nat} {n : Nat} (h : l.length ≤ n) (hn : n ≤ 16777216) : ((ones l).map (·.length)).sum + (ones l).length * ("" : Str).length ≤ 16777216 := by
  rw [ones_sum, show ("" : Str).length = 0 from rfl]
  omega
def mns (us : List (Nat × Nat × Nat)) : List Nat := us.map fun u => u.2.2
def sp_unescaped (C : Addr) : Sp := fun vs H Q E => ∃ (z m : Str) (us : List (Nat × Nat × Nat)) (r : Option Nat), vs = [.str z, .str m] ∧ W4 z ∧ MarkOk m ∧ uns (tl z) (tl m) 0 0 = (us, r) ∧
  (r = none → ∀ H', Same H H' → Q (.str (toS (mns us))) H') ∧ ∀ k, r = some k → ∀ H' d, Same H H' → H' d = none → E (.ref C) (some d) (upd H' d (.xd [("position", .int (k : Int))]))
/-- an index, or None -/
def optV : Option Nat → L2.V | none => .non | some k => .int (k : Int)
def sp_first_wrong_raw : Sp := fun vs H Q _ => ∃ (z m : Str) (us : List (Nat × Nat × Nat)) (r : Option Nat), vs = [.str z, .str m] ∧ W4 z ∧ MarkOk m ∧ uns (tl z) (tl m) 0 0 = (us, r) ∧ ∀ H', Same H H' → Q (optV r) H'

local macro_rules | `(tactic| walk_at "sz") => `(tactic| first | assumption | decide | omega | (unfold sizeLine; omega) | exact Nat.le_of_ble_eq_true rfl)
local macro_rules | `(tactic| walk_at "hp") => `(tactic| (first | assumption | exact upd_same | (rw [upd_ne (by assumption)]; assumption)))
local macro_rules | `(tactic| walk_at "rd") => `(tactic| (first
  | refine ⟨_, rfl, ?_⟩
  | (refine ⟨_, _, rfl, rfl, ?rdc, ?_⟩; (case rdc => first | (show (0 : Int) < _; omega) | (exact ⟨by omega, by omega⟩) | (exact .inl ⟨by omega, by omega⟩) | (exact .inr ⟨by omega, by omega⟩) | exact ⟨by decide, by decide, by decide⟩))
  | refine ⟨_, _, rfl, rfl, ?_⟩
  | refine .inl ⟨_, rfl, ?_⟩
  | refine ⟨rfl, ?_⟩
  | refine ⟨⟨_, rfl⟩, ?_⟩
  | refine ⟨⟨_, SqL.of (by walk_at "hp")⟩, ?_⟩
  | refine ⟨_, _, _, _, rfl, rfl, SqL.of (by walk_at "hp"), (by rfl), ?_⟩
  | refine ⟨_, _, _, _, rfl, rfl, (by walk_at "hp"), (by rfl), ?_⟩
  | refine ⟨_, _, rfl, ⟨by walk_at "sz", rfl⟩, ?_⟩
  | refine ⟨_, _, _, rfl, rfl, by walk_at "sz", by assumption, ?_⟩
  | refine And.intro (by walk_at "sz") ?_
  | refine itT rfl ?_
  | refine itF rfl ?_
  | refine itT (by assumption) ?_
  | refine itF (by assumption) ?_
  | refine itT (decide_eq_true (by omega)) ?_
  | refine itF (decide_eq_false (by omega)) ?_
  | refine itT (dVi (by omega)) ?_
  | refine itF (dViN (by omega)) ?_
  | refine itT (notT (by assumption)) ?_
  | refine itF (notF (by assumption)) ?_
  | refine itT (notT (dViN (by omega))) ?_
  | refine itF (notF (dVi (by omega))) ?_
  | refine itT (decide_eq_true rfl) ?_
  | refine itF (notF (decide_eq_true rfl)) ?_
  | refine ite2 (fun _ => ?_) (fun _ => ?_)
  | with_reducible refine tC_ ?_
  | with_reducible refine tNext_ ?_
  | with_reducible refine tNil_ ?_
  | with_reducible refine tYes_ ?_))
local macro_rules | `(tactic| walk_at "rds") => `(tactic| repeat' (walk_at "rd"))
section
variable {P : Program} {w : World} {K : PySem.W.Frag} {mg : Str → Option Value} {base : Heap}

local macro_rules | `(tactic| walk_at "lk") => `(tactic| first
  | with_reducible assumption
  | with_reducible exact upd_same
  | (walk_at "lk1"; walk_at "lk")
  | fail "lk")
local macro_rules | `(tactic| walk_at "lk1") => `(tactic| first
  | ((with_reducible refine' lk_new ?a1 ?a2); (case a1 => with_reducible assumption); (case' a2 => skip))
  | ((with_reducible refine' lk_ne ?a1 ?a2); (case a1 => with_reducible assumption); (case' a2 => skip))
  | ((with_reducible refine' lk_neN ?a1 ?a2 ?a3); (case a1 => with_reducible assumption); (case a2 => walk_at "lk"); (case' a3 => skip))
  | ((with_reducible refine' lk_neN' ?a1 ?a2 ?a3); (case a1 => with_reducible assumption); (case a2 => walk_at "lk"); (case' a3 => skip))
  | ((with_reducible refine' lk_same ?a1 ?a2); (case a1 => with_reducible assumption); (case' a2 => skip))
  | ((with_reducible refine' lk_go ?a1 ?a2 ?a3); (case a1 => with_reducible assumption); (case a2 => walk_at "nt"); (case' a3 => skip))
  | ((with_reducible refine' lk_kp_nl ?a1 ?a2 ?a3 ?a4); (case a1 => with_reducible assumption); (case a2 => walk_at "st"); (case a3 => walk_at "nl"); (case' a4 => skip))
  | ((with_reducible refine' lk_kp ?a1 ?a2 ?a3); (case a1 => with_reducible assumption); (case a2 => walk_at "ne"); (case' a3 => skip))
  | fail "lk1")
local macro_rules | `(tactic| walk_at "nt") => `(tactic| first
  | (intro _ z; cases z)
  | fail "nt")
local macro_rules | `(tactic| walk_at "nl") => `(tactic| first
  | (intro _ z; cases z)
  | fail "nl")
local macro_rules | `(tactic| walk_at "ne") => `(tactic| first
  | with_reducible assumption
  | ((with_reducible refine' ne_st ?a1 ?a2); (case a1 => with_reducible assumption); (case a2 => walk_at "st"))
  | fail "ne")
local macro_rules | `(tactic| walk_at "st") => `(tactic| first
  | with_reducible assumption
  | with_reducible exact st_new (by with_reducible assumption) (by walk_at "st")
  | with_reducible exact st_same (by with_reducible assumption) (by walk_at "st")
  | with_reducible exact st_go (by with_reducible assumption) (by walk_at "st")
  | with_reducible exact st_ne (by walk_at "ns") (by walk_at "st")
  | fail "st")
local macro_rules | `(tactic| walk_at "ns") => `(tactic| first
  | with_reducible assumption
  | with_reducible exact Ne.symm (by with_reducible assumption)
  | with_reducible exact Ne.symm (ne_st (by with_reducible assumption) (by walk_at "st"))
  | fail "ns")
local macro_rules | `(tactic| walk_at "fr") => `(tactic| first
  | with_reducible assumption
  | with_reducible exact Same.refl _
  | with_reducible exact Go.refl _ _
  | with_reducible exact Kp.refl _ _
  | with_reducible exact LamX.ExtN.refl _
  | with_reducible exact nw_refl
  | (walk_at "fr1"; walk_at "fr")
  | fail "fr")
local macro_rules | `(tactic| walk_at "fr1") => `(tactic| first
  | ((with_reducible refine' fr_new ?a1 ?a2); (case a1 => with_reducible assumption); (case' a2 => skip))
  | ((with_reducible refine' go_new ?a1 ?a2); (case a1 => with_reducible assumption); (case' a2 => skip))
  | ((with_reducible refine' kp_new ?a1 ?a2); (case a1 => with_reducible assumption); (case' a2 => skip))
  | ((with_reducible refine' fr_same ?a1 ?a2); (case a1 => with_reducible assumption); (case' a2 => skip))
  | ((with_reducible refine' go_same ?a1 ?a2); (case a1 => with_reducible assumption); (case' a2 => skip))
  | ((with_reducible refine' kp_same ?a1 ?a2); (case a1 => with_reducible assumption); (case' a2 => skip))
  | ((with_reducible refine' go_go ?a1 ?a2); (case a1 => with_reducible assumption); (case' a2 => skip))
  | ((with_reducible refine' go_kp ?a1 ?a2 ?a3 ?a4); (case a1 => with_reducible assumption); (case a2 => with_reducible assumption); (case a3 => walk_at "st"); (case' a4 => skip))
  | ((with_reducible refine' kp_kp ?a1 ?a2); (case a1 => with_reducible assumption); (case' a2 => skip))
  | ((with_reducible refine' kp_upd ?a1); (case' a1 => skip))
  | ((with_reducible refine' go_set2 ?a1 ?a2 ?a3 ?a4); (case a1 => walk_at "lk"); (case a2 => with_reducible assumption); (case a3 => walk_at "fr"); (case' a4 => skip))
  | ((with_reducible refine' fr_set2 ?a1 ?a2 ?a3); (case a1 => with_reducible assumption); (case a2 => walk_at "fr"); (case' a3 => skip))
  | ((with_reducible refine' en_new ?a1 ?a2); (case a1 => with_reducible assumption); (case' a2 => skip))
  | ((with_reducible refine' en_same ?a1 ?a2); (case a1 => with_reducible assumption); (case' a2 => skip))
  | ((with_reducible refine' en_go ?a1 ?a2); (case a1 => with_reducible assumption); (case' a2 => skip))
  | ((with_reducible refine' en_set2 ?a1 ?a2 ?a3); (case a1 => with_reducible assumption); (case a2 => walk_at "fr"); (case' a3 => skip))
  | ((with_reducible refine' en_kp ?a1 ?a2 ?a3 ?a4); (case a1 => with_reducible assumption); (case a2 => with_reducible assumption); (case a3 => walk_at "fr"); (case' a4 => skip))
  | ((with_reducible refine' nw_new ?a1 ?a2); (case a1 => with_reducible assumption); (case' a2 => skip))
  | ((with_reducible refine' nw_same ?a1 ?a2); (case a1 => with_reducible assumption); (case' a2 => skip))
  | ((with_reducible refine' nw_go ?a1 ?a2); (case a1 => with_reducible assumption); (case' a2 => skip))
  | ((with_reducible refine' nw_kp ?a1 ?a2 ?a3); (case a1 => with_reducible assumption); (case a2 => walk_at "st"); (case' a3 => skip))
  | ((with_reducible refine' nw_set ?a1 ?a2); (case a1 => walk_at "lk"); (case' a2 => skip))
  | ((with_reducible refine' nw_set2 ?a1 ?a2 ?a3); (case a1 => with_reducible assumption); (case a2 => walk_at "fr"); (case' a3 => skip))
  | fail "fr1")
local macro_rules | `(tactic| walk_at "tb") => `(tactic| first
  | with_reducible assumption
  | (walk_at "tb1"; walk_at "tb")
  | fail "tb")
local macro_rules | `(tactic| walk_at "tb1") => `(tactic| first
  | ((with_reducible refine' tabs_new ?a1 ?a2); (case a1 => with_reducible assumption); (case' a2 => skip))
  | ((with_reducible refine' tabs_same ?a1 ?a2); (case a1 => with_reducible assumption); (case' a2 => skip))
  | ((with_reducible refine' tabs_go ?a1 ?a2); (case a1 => with_reducible assumption); (case' a2 => skip))
  | ((with_reducible refine' tabs_kp ?a1 ?a2 ?a3); (case a1 => with_reducible assumption); (case a2 => walk_at "st"); (case' a3 => skip))
  | ((with_reducible refine' tabs_set ?a1 ?a2); (case a1 => walk_at "lk"); (case' a2 => skip))
  | fail "tb1")
local macro_rules | `(tactic| walk_at "dg") => `(tactic| first
  | assumption
  | (refine' dp_ext ?a1 ?a2; (case a1 => assumption); (case a2 => walk_at "fr"))
  | (refine' dn_use ?a1 ?a2; (case a1 => assumption); (case a2 => walk_at "fr"))
  | fail "dg")
local macro_rules | `(tactic| walk_at "dp") => `(tactic| first
  | assumption
  | exact .str _
  | exact .int _
  | exact .bl _
  | exact .non
  | (refine' Dp.lst (SqL.of ?a1) ?a2; (case a1 => walk_at "lk"); (case a2 => walk_at "dpa"))
  | (refine' Dp.tup (SqT.of ?a1) ?a2; (case a1 => walk_at "lk"); (case a2 => walk_at "dpa"))
  | (walk_at "dg")
  | fail "dp")
local macro_rules | `(tactic| walk_at "dpa") => `(tactic| first
  | assumption
  | exact .nil
  | (refine' DpAll.cons ?a1 ?a2; (case a1 => walk_at "dp"); (case a2 => walk_at "dpa"))
  | fail "dpa")
local macro_rules | `(tactic| walk_at "dx") => `(tactic| first
  | assumption
  | exact .str _
  | exact .int _
  | exact .bl _
  | exact .non
  | (refine' Dx.lst (SqL.of ?a1) ?a2; (case a1 => walk_at "lk"); (case a2 => walk_at "dxa"))
  | (refine' Dx.tup (SqT.of ?a1) ?a2; (case a1 => walk_at "lk"); (case a2 => walk_at "dxa"))
  | (refine' Dx.dct (.inl ?a1) ?a2; (case a1 => walk_at "lk"); (case a2 => exact .nil))
  | (refine' dx_ext ?a1 ?a2; (case a1 => assumption); (case a2 => walk_at "fr"))
  | fail "dx")
local macro_rules | `(tactic| walk_at "dxa") => `(tactic| first
  | assumption
  | exact .nil
  | (refine' DxAll.cons ?a1 ?a2; (case a1 => walk_at "dx"); (case a2 => walk_at "dxa"))
  | fail "dxa")
local macro_rules | `(tactic| walk_at "ty") => `(tactic| first
  | assumption
  | (refine' ty_ext ?a1 ?a2; (case a1 => assumption); (case a2 => walk_at "fr"))
  | fail "ty")
local macro_rules | `(tactic| walk_at "shp") => `(tactic| first
  | assumption
  | (simp only [SeqAt.shaped, lay_l, lay_t, lay_i, lay_b, lay_n, lay_c, lay_e, PyData.depth, PyData.depthAll, Bool.and_true, Bool.true_and, Bool.and_eq_true, decide_eq_true_eq]
     repeat' (first | assumption | (refine And.intro ?_ ?_) | (exact rfl) | (decide +kernel) | omega))
  | decide +kernel)
local macro_rules | `(tactic| walk_at "side") => `(tactic| first
  | assumption
  | (intros; trivial)
  | omega
  | (walk_at "lk")
  | (walk_at "st")
  | (walk_at "sz")
  | (walk_at "tb")
  | (walk_at "fr"))
local macro_rules | `(tactic| walk_at "cl") => `(tactic| ((repeat' (apply Exists.intro)); refine And.intro rfl ?_; repeat (refine And.intro (by walk_at "side") ?_)))
local macro_rules | `(tactic| walk_at "eqd") => `(tactic| (refine ⟨_, _, by walk_at "dp", by walk_at "dp", by walk_at "shp", by walk_at "shp", ?_⟩; rw [eqv_same (by walk_at "shp")]))
local macro_rules | `(tactic| walk_at "new") => `(tactic| refine fun (p : Addr) (hp : (_ : Hp) p = none) => ?_)
local macro_rules | `(tactic| walk_at "rdn") => `(tactic| (repeat' (first | walk_at "rd" | walk_at "new")))

theorem ok_unescaped (T : Tx P w K mg base) (G_units : Gx.GFn2 P w K mg base 6 T.d_units.f T.d_units.fd ["raw", "mark"] (SU T.a_IllFormed) Ut.new) : FnOk P w K mg base (L2.CX P w) 8 T.d_unescaped.f T.d_unescaped.fd ["raw", "mark"] (sp_unescaped T.a_IllFormed) := by
  have sc := sc_unescaped
  refine FunD.ok (CX := (L2.CX P w)) T.d_unescaped.F sc (fun vs H Q E h => ?_) (fun cdv A outer s H vs Q E hr h => ?_)
  · obtain ⟨z, mk, us, r, rfl, hz, hm, hu, q1, q2⟩ := h
    rfl
  · obtain ⟨z, mk, us, r, rfl, hz, hm, hu, q1, q2⟩ := h
    refine ⟨_, (pss_one (ps_ret (pe_join pe_str (Gx.pe_lcGX (Wx := fun cls d _ H => E cls d H) (own := [("begin", 2), ("end", 3), ("sign", 4)]) (g := (gTup K 3 (gCons (gName 2) (gCons (gName 3) (gCons (gName 4) gNil))))) (takes_of rfl rfl rfl rfl) rfl rfl rfl sc.nd (hr.mono (by decide)) (Gx.pgen2_call (S := SU T.a_IllFormed) (start := Ut.new) G_units (hr.mono (by decide)) rfl T.d_units.m T.d_units.F.kp T.d_units.b .nil (pa_cons (pv 0) (pa_cons (pv 1) pa_nil))) (blkOk_by (own := [("begin", 2), ("end", 3), ("sign", 4)]) (N := ["raw", "mark", "begin", "end", "sign"]) (sc := defScope s_unescaped) (by decide +kernel)) (fun _ _ => rfl) (fun _ _ _ _ _ => pg_tup (by rfl) (pgs_cons (pg_name (i := 2) sc.nd rfl (Or.inl rfl)) (pgs_cons (pg_name (i := 3) sc.nd rfl (Or.inl rfl)) (pgs_cons (pg_name (i := 4) sc.nd rfl (Or.inl rfl)) pgs_nil)))) (fun _ _ _ _ _ => pts_nil) (fun _ _ _ _ _ => pv 4))))), ?_⟩
    have zl : z.length = (tl z).length := len_tl z
    have hw4 := hz.2
    walk_at "rds"
    intro D hD
    refine ⟨fun n t H' => ∃ (i br : Nat) (ds : List (Nat × Nat × Nat)), n = (tl z).length + 1 - i ∧ (t = .new [.str z, .str mk] ∧ i = 0 ∧ br = 0 ∨ t = .at z mk i br) ∧ i ≤ (tl z).length ∧ br ≤ 2 ∧ Same H H' ∧ H' D = some (.lst ((ones (mns ds)).map V.str)) ∧ us = ds ++ (uns (tl z) (tl mk) i br).1 ∧ r = (uns (tl z) (tl mk) i br).2 ∧ ds.length ≤ i, ⟨_, 0, 0, [], rfl, .inl ⟨rfl, rfl, rfl⟩, Nat.zero_le _, Nat.zero_le _, Same.new (Same.refl _) hD, upd_same, by rw [hu]; rfl, by rw [hu], Nat.zero_le _⟩, ?_⟩
    clear hu
    rintro n t H' ⟨i, br, ds, rfl, ht, hi, hbr, sm, hd, hu, hr2, hl⟩
    have hml : (mns ds).length = ds.length := List.length_map _
    refine su_w hz hm hbr ht ?_
    unfold Wu
    cases hs : stepAt (tl z) (tl mk) i br with
    | done =>
      rw [uns_done hs] at hu hr2
      rw [List.append_nil] at hu
      subst hu
      intro H2 s2
      refine ⟨"", D, ones (mns us), rfl, rfl, .inl (SqL.of (s2 _ _ hd)), ones_ok (n := (tl z).length) (by omega) (by omega), ?_⟩
      rw [ones_join]
      exact q1 hr2 _ (sm.trans s2)
    | unit e c b =>
      obtain ⟨e1, e2, e3⟩ := step_lt hs
      rw [uns_unit hs] at hu hr2
      intro H2 p s2 hp
      have f2 : upd H2 p (.tup [.int (i : Int), .int (e : Int), .str ⟨#[c]⟩]) p = some (.tup [.int (i : Int), .int (e : Int), .str ⟨#[c]⟩]) := upd_same
      have d2 : upd H2 p (.tup [.int (i : Int), .int (e : Int), .str ⟨#[c]⟩]) D = some (.lst ((ones (mns ds)).map V.str)) := lk_new hp (s2 _ _ hd)
      have sm2 : Same H (upd H2 p (.tup [.int (i : Int), .int (e : Int), .str ⟨#[c]⟩])) := (sm.trans s2).trans (Same.new (Same.refl _) hp)
      refine ⟨fun H3 => Same H H3 ∧ H3 D = some (.lst ((ones (mns (ds ++ [(i, e, c)]))).map V.str)), fun H3 h3 => ⟨trivial, _, by omega, e, b, ds ++ [(i, e, c)], rfl, .inr rfl, e2, e3, h3.1, h3.2, by rw [List.append_assoc]; exact hu, hr2, by rw [List.length_append]; show ds.length + 1 ≤ e; omega⟩, ?_⟩
      generalize upd H2 p (.tup [.int (i : Int), .int (e : Int), .str ⟨#[c]⟩]) = H4 at *
      refine ⟨_, _, rfl, SqT.of f2, rfl, _, _, rfl, _, _, rfl, _, _, rfl, rfl, ?_⟩
      refine ⟨rfl, ?_⟩
      walk_at "rds"
      refine ⟨_, d2, by rw [List.length_map, ones_len, hml]; unfold sizeLine; omega, fun b o e => by rw [upd_ne (ne_of_none e hD)]; exact sm2 b o e, ?_⟩
      rw [upd_same]
      unfold mns
      rw [List.map_append]
      show _ = some (HO.lst ((ones (_ ++ [c])).map V.str))
      rw [ones_snoc, List.map_append]
      rfl
    | ill k =>
      rw [uns_ill hs] at hr2
      intro H2 d s2 hd2
      exact ⟨T.si_IllFormed, q2 k hr2 _ d (sm.trans s2) hd2⟩

theorem ok_first_wrong_raw (T : Tx P w K mg base) (G_units : Gx.GFn2 P w K mg base 6 T.d_units.f T.d_units.fd ["raw", "mark"] (SU T.a_IllFormed) Ut.new) : FnOk P w K mg base CX0 8 T.d_first_wrong_raw.f T.d_first_wrong_raw.fd ["raw", "mark"] sp_first_wrong_raw := by
  have sc := sc_first_wrong_raw
  refine FunD.ok (CX := CX0) T.d_first_wrong_raw.F sc (fun vs H Q E h => ?_) (fun cdv A outer s H vs Q E hr h => ?_)
  · obtain ⟨z, mk, us, r, rfl, hz, hm, hu, q⟩ := h
    rfl
  · obtain ⟨z, mk, us, r, rfl, hz, hm, hu, q⟩ := h
    refine' ⟨_, (pss_cons ?tr
      (pss_one (ps_ret pe_non))), ?_⟩
    case tr =>
      refine' ps_try_as (tb := fun W => Gx.tForG (SU T.a_IllFormed) K (Gx.tCall2 (SU T.a_IllFormed) Ut.new (["raw", "mark"] : List Str).length [] (tCons (tVar 0) (tCons (tVar 1) tNil))) (gTup K 3 (gCons (gName 2) (gCons (gName 3) (gCons (gName 4) gNil)))) tNext W) (ts := fun a cls d => tRet (tXf a cls d T.a_IllFormed "position" (tVar 5))) (i := 5) rfl rfl sc.nd rfl rfl ⟨rfl, by decide, .inl T.x_IllFormed.mgC⟩ takes0 ?bd ?su
      case bd =>
        intro W pn xe tk po
        refine pss_one ?_
        refine Gx.ps_forG (S := SU T.a_IllFormed) (k := 6) (Wx := W) po rfl tk (hr.mono (by decide)) ?he ?hg ?hb
        case he => exact Gx.pgen2_call (S := SU T.a_IllFormed) (start := Ut.new) G_units (hr.mono (by decide)) rfl T.d_units.m T.d_units.F.kp T.d_units.b .nil (pa_cons (pv 0) (pa_cons (pv 1) pa_nil))
        case hg => exact pg_tup (by rfl) (pgs_cons (pg_name (i := 2) sc.nd rfl (Or.inl rfl)) (pgs_cons (pg_name (i := 3) sc.nd rfl (Or.inl rfl)) (pgs_cons (pg_name (i := 4) sc.nd rfl (Or.inl rfl)) pgs_nil)))
        case hb => exact pss_one ps_pass
      case su =>
        intro a oe cls d pn hz hf
        exact pss_one (ps_ret (pe_xf ⟨T.xc_IllFormed.ga, T.xc_IllFormed.gt, T.xc_IllFormed.sub, T.xc_IllFormed.hd⟩ T.fn_IllFormed hz hf (pv 5)))
    
    walk_at "rds"
    refine ⟨fun n t σ' H' => ∃ (i br : Nat), n = (tl z).length + 1 - i ∧ (t = .new [.str z, .str mk] ∧ i = 0 ∧ br = 0 ∨ t = .at z mk i br) ∧ i ≤ (tl z).length ∧ br ≤ 2 ∧ Same H H' ∧ (∃ v2 v3 v4, σ' = [some (.str z), some (.str mk), v2, v3, v4, none]) ∧ r = (uns (tl z) (tl mk) i br).2, ⟨_, 0, 0, rfl, .inl ⟨rfl, rfl, rfl⟩, Nat.zero_le _, Nat.zero_le _, Same.refl _, ⟨_, _, _, rfl⟩, by rw [hu]⟩, ?_⟩
    clear hu
    rintro n t σ' H' ⟨i, br, rfl, ht, hi, hbr, sm, ⟨v2, v3, v4, rfl⟩, hr2⟩
    refine su_w hz hm hbr ht ?_
    unfold Wu
    cases hs : stepAt (tl z) (tl mk) i br with
    | done =>
      rw [uns_done hs] at hr2
      subst hr2
      intro H2 s2
      exact q _ (sm.trans s2)
    | unit e c b =>
      obtain ⟨e1, e2, e3⟩ := step_lt hs
      rw [uns_unit hs] at hr2
      intro H2 p s2 hp
      have f2 : upd H2 p (.tup [.int (i : Int), .int (e : Int), .str ⟨#[c]⟩]) p = some (.tup [.int (i : Int), .int (e : Int), .str ⟨#[c]⟩]) := upd_same
      have sm2 : Same H (upd H2 p (.tup [.int (i : Int), .int (e : Int), .str ⟨#[c]⟩])) := (sm.trans s2).trans (Same.new (Same.refl _) hp)
      refine ⟨fun σ3 H3 => Same H H3 ∧ ∃ v2 v3 v4, σ3 = [some (.str z), some (.str mk), v2, v3, v4, none], fun σ3 H3 h3 => ⟨trivial, _, by omega, e, b, rfl, .inr rfl, e2, e3, h3.1, h3.2, hr2⟩, ?_⟩
      generalize upd H2 p (.tup [.int (i : Int), .int (e : Int), .str ⟨#[c]⟩]) = H4 at *
      refine ⟨_, _, rfl, SqT.of f2, rfl, _, _, rfl, _, _, rfl, _, _, rfl, rfl, ?_⟩
      exact ⟨sm2, _, _, _, rfl⟩
    | ill k =>
      rw [uns_ill hs] at hr2
      subst hr2
      intro H2 d s2 hd2
      refine ⟨T.si_IllFormed, true, T.eo_IllFormed, fun _ a ha => ?_, fun z => by cases z⟩
      refine ⟨.ref a, rfl, rfl, rfl, d, _, .int (k : Int), rfl, upd_same, rfl, ?_⟩
      exact q _ (Same.new (sm.trans s2) hd2)
end
end K7

set_option maxHeartbeats 1000000
set_option pp.maxSteps 700
set_option pp.deepTerms false
set_option pp.deepTerms.threshold 14
namespace K7
open PySem PySem.Spec PyProof.Rows L2 Mx StX
/-! ### the cursor -/
open TL Num
def sp_is_between : Sp := fun vs H Q _ => ∃ v l u : Int, vs = [.int v, .int l, .int u] ∧ l ≤ v ∧ v ≤ u ∧ Q (.bl true) H
def sp_check_number : Sp := fun vs H Q _ => ∃ v l u : Int, vs = [.int v, .int l, .int u] ∧ l ≤ v ∧ v ≤ u ∧ Q .non H
theorem tCut {t u : TS} {D : Ends} {σ : L2.St} {H : Hp} (R : L2.St → Hp → Prop) (key : ∀ σ' H', R σ' H' → u D σ' H') (go : (∀ σ' H', R σ' H' → u D σ' H') → t { D with nx := u D } σ H) : tSeq t u D σ H := go key
def lastE (us : List (Nat × Nat × Nat)) : Nat := (us.getLast?.map fun u => u.2.1).getD 0
theorem w4_tail {z : Str} {i : Nat} (h : W4 z) (hi : i ≤ (tl z).length) : W4 (cutS z (some (i : Int)) none) := by
  have e := cutS_tail z i hi
  refine ⟨fun c hc => h.1 c ?_, by rw [e, List.length_drop]; have := h.2; omega⟩
  have hc : c ∈ tl (cutS z (some (i : Int)) none) := hc
  rw [e] at hc
  exact List.mem_of_mem_drop hc
theorem none_same {H H' : Hp} {p : Addr} (s : Same H H') (h : H' p = none) : H p = none := by
  cases e : H p with
  | none => rfl
  | some o => rw [s _ _ e] at h; cases h
theorem lastE_snoc (us : List (Nat × Nat × Nat)) (u : Nat × Nat × Nat) : lastE (us ++ [u]) = u.2.1 := by unfold lastE; rw [List.getLast?_concat]; rfl
theorem walk_enumT {z : Str} : Walk (Itet z) z.cps.size (fun _ => True) (YPair (fun i => some (.int (i : Nat))) (fun i => z.cps[i]?.map fun c => V.str ⟨#[c]⟩)) := by
  refine ⟨fun _ _ hi _ => hi, fun _ _ => rfl, fun i H v H' _ _ y => ?_⟩
  obtain ⟨T, c, h1, h2, h3, h4⟩ := y
  exact ⟨T, .int (i : Nat), .str ⟨#[c]⟩, h1, h2, h4, rfl, by simp [h3]⟩
/-- a cursor over z at i -/
def CurAt (C : Addr) (H : Hp) (a : Addr) (z : Str) (i : Nat) : Prop := ∃ dx t, H a = some (.ins C dx [("own_text", .str z), ("begins", .ref t), ("spot", .int (i : Int))])
def sp_Lines___init__ (C : Addr) : Sp := fun vs H Q _ => ∃ (a dx : Addr) (z : Str), vs = [.ref a, .str z] ∧ (tl z).length ≤ 1000 ∧ H a = some (.ins C dx []) ∧ ∀ H' t, Kp a H H' → H' a = some (.ins C dx [("own_text", .str z), ("begins", .ref t)]) → Q .non H'
def sp_Cursor___init__ (C : Addr) : Sp := fun vs H Q _ => ∃ (a dx : Addr) (z : Str), vs = [.ref a, .str z] ∧ (tl z).length ≤ 1000 ∧ H a = some (.ins C dx []) ∧ ∀ H', Kp a H H' → CurAt C H' a z 0 → Q .non H'
def sp_Cursor_offset (C : Addr) : Sp := fun vs H Q _ => ∃ (a : Addr) (z : Str) (i : Nat), vs = [.ref a] ∧ CurAt C H a z i ∧ Q (.int (i : Int)) H
def sp_Cursor_go_to (C : Addr) : Sp := fun vs H Q _ => ∃ (a : Addr) (z : Str) (i j : Nat), vs = [.ref a, .int (j : Int)] ∧ (tl z).length ≤ 1000 ∧ CurAt C H a z i ∧ j ≤ (tl z).length ∧ ∀ H', Kp a H H' → CurAt C H' a z j → Q .non H'
def sp_Cursor_take_text (K : PySem.W.Frag) (C CK : Addr) : Sp := fun vs H Q E => ∃ (a : Addr) (z : Str) (i : Nat) (v : L2.V), vs = [.ref a, v] ∧ W4 z ∧ CurAt C H a z i ∧ i ≤ (tl z).length ∧
  ((∃ (m : Str) (us : List (Nat × Nat × Nat)) (r : Option Nat), v = .str m ∧ MarkOk m ∧ uns ((tl z).drop i) (tl m) 0 0 = (us, r) ∧ ∀ H', Kp a H H' → CurAt C H' a z (i + lastE us) → Q (.str (toS (mns us))) H') ∨
   (BadMark K H v ∧ ∀ H' d, Same H H' → H' d = none → E (.ref CK) (some d) (upd H' d (.xd [("kind", v)]))))

local macro_rules | `(tactic| walk_at "sz") => `(tactic| first | assumption | decide | omega | (unfold sizeLine; omega) | exact Nat.le_of_ble_eq_true rfl)
local macro_rules | `(tactic| walk_at "hp") => `(tactic| (first | assumption | exact upd_same | (rw [upd_ne (by assumption)]; assumption)))
local macro_rules | `(tactic| walk_at "rd") => `(tactic| (first
  | refine ⟨_, rfl, ?_⟩
  | (refine ⟨_, _, rfl, rfl, ?rdc, ?_⟩; (case rdc => first | (show (0 : Int) < _; omega) | (exact ⟨by omega, by omega⟩) | (exact .inl ⟨by omega, by omega⟩) | (exact .inr ⟨by omega, by omega⟩) | exact ⟨by decide, by decide, by decide⟩))
  | refine ⟨_, _, rfl, rfl, ?_⟩
  | refine .inl ⟨_, rfl, ?_⟩
  | refine ⟨rfl, ?_⟩
  | refine ⟨⟨_, rfl⟩, ?_⟩
  | refine ⟨⟨_, SqL.of (by walk_at "hp")⟩, ?_⟩
  | refine ⟨_, _, _, _, rfl, rfl, SqL.of (by walk_at "hp"), (by rfl), ?_⟩
  | refine ⟨_, _, _, _, rfl, rfl, (by walk_at "hp"), (by rfl), ?_⟩
  | refine ⟨_, _, rfl, ⟨by walk_at "sz", rfl⟩, ?_⟩
  | refine ⟨_, _, _, rfl, rfl, by walk_at "sz", by assumption, ?_⟩
  | refine And.intro (by walk_at "sz") ?_
  | refine itT rfl ?_
  | refine itF rfl ?_
  | refine itT (by assumption) ?_
  | refine itF (by assumption) ?_
  | refine itT (decide_eq_true (by omega)) ?_
  | refine itF (decide_eq_false (by omega)) ?_
  | refine itT (dVi (by omega)) ?_
  | refine itF (dViN (by omega)) ?_
  | refine itT (notT (by assumption)) ?_
  | refine itF (notF (by assumption)) ?_
  | refine itT (notT (dViN (by omega))) ?_
  | refine itF (notF (dVi (by omega))) ?_
  | refine itT (decide_eq_true rfl) ?_
  | refine itF (notF (decide_eq_true rfl)) ?_
  | refine ite2 (fun _ => ?_) (fun _ => ?_)
  | with_reducible refine tC_ ?_
  | with_reducible refine tNext_ ?_
  | with_reducible refine tNil_ ?_
  | with_reducible refine tYes_ ?_))
local macro_rules | `(tactic| walk_at "rds") => `(tactic| repeat' (walk_at "rd"))
section
variable {P : Program} {w : World} {K : PySem.W.Frag} {mg : Str → Option Value} {base : Heap}

local macro_rules | `(tactic| walk_at "lk") => `(tactic| first
  | with_reducible assumption
  | with_reducible exact upd_same
  | (walk_at "lk1"; walk_at "lk")
  | fail "lk")
local macro_rules | `(tactic| walk_at "lk1") => `(tactic| first
  | ((with_reducible refine' lk_new ?a1 ?a2); (case a1 => with_reducible assumption); (case' a2 => skip))
  | ((with_reducible refine' lk_ne ?a1 ?a2); (case a1 => with_reducible assumption); (case' a2 => skip))
  | ((with_reducible refine' lk_neN ?a1 ?a2 ?a3); (case a1 => with_reducible assumption); (case a2 => walk_at "lk"); (case' a3 => skip))
  | ((with_reducible refine' lk_neN' ?a1 ?a2 ?a3); (case a1 => with_reducible assumption); (case a2 => walk_at "lk"); (case' a3 => skip))
  | ((with_reducible refine' lk_same ?a1 ?a2); (case a1 => with_reducible assumption); (case' a2 => skip))
  | ((with_reducible refine' lk_go ?a1 ?a2 ?a3); (case a1 => with_reducible assumption); (case a2 => walk_at "nt"); (case' a3 => skip))
  | ((with_reducible refine' lk_kp_nl ?a1 ?a2 ?a3 ?a4); (case a1 => with_reducible assumption); (case a2 => walk_at "st"); (case a3 => walk_at "nl"); (case' a4 => skip))
  | ((with_reducible refine' lk_kp ?a1 ?a2 ?a3); (case a1 => with_reducible assumption); (case a2 => walk_at "ne"); (case' a3 => skip))
  | fail "lk1")
local macro_rules | `(tactic| walk_at "nt") => `(tactic| first
  | (intro _ z; cases z)
  | fail "nt")
local macro_rules | `(tactic| walk_at "nl") => `(tactic| first
  | (intro _ z; cases z)
  | fail "nl")
local macro_rules | `(tactic| walk_at "ne") => `(tactic| first
  | with_reducible assumption
  | ((with_reducible refine' ne_st ?a1 ?a2); (case a1 => with_reducible assumption); (case a2 => walk_at "st"))
  | fail "ne")
local macro_rules | `(tactic| walk_at "st") => `(tactic| first
  | with_reducible assumption
  | with_reducible exact st_new (by with_reducible assumption) (by walk_at "st")
  | with_reducible exact st_same (by with_reducible assumption) (by walk_at "st")
  | with_reducible exact st_go (by with_reducible assumption) (by walk_at "st")
  | with_reducible exact st_ne (by walk_at "ns") (by walk_at "st")
  | fail "st")
local macro_rules | `(tactic| walk_at "ns") => `(tactic| first
  | with_reducible assumption
  | with_reducible exact Ne.symm (by with_reducible assumption)
  | with_reducible exact Ne.symm (ne_st (by with_reducible assumption) (by walk_at "st"))
  | fail "ns")
local macro_rules | `(tactic| walk_at "fr") => `(tactic| first
  | with_reducible assumption
  | with_reducible exact Same.refl _
  | with_reducible exact Go.refl _ _
  | with_reducible exact Kp.refl _ _
  | with_reducible exact LamX.ExtN.refl _
  | with_reducible exact nw_refl
  | (walk_at "fr1"; walk_at "fr")
  | fail "fr")
local macro_rules | `(tactic| walk_at "fr1") => `(tactic| first
  | ((with_reducible refine' fr_new ?a1 ?a2); (case a1 => with_reducible assumption); (case' a2 => skip))
  | ((with_reducible refine' go_new ?a1 ?a2); (case a1 => with_reducible assumption); (case' a2 => skip))
  | ((with_reducible refine' kp_new ?a1 ?a2); (case a1 => with_reducible assumption); (case' a2 => skip))
  | ((with_reducible refine' fr_same ?a1 ?a2); (case a1 => with_reducible assumption); (case' a2 => skip))
  | ((with_reducible refine' go_same ?a1 ?a2); (case a1 => with_reducible assumption); (case' a2 => skip))
  | ((with_reducible refine' kp_same ?a1 ?a2); (case a1 => with_reducible assumption); (case' a2 => skip))
  | ((with_reducible refine' go_go ?a1 ?a2); (case a1 => with_reducible assumption); (case' a2 => skip))
  | ((with_reducible refine' go_kp ?a1 ?a2 ?a3 ?a4); (case a1 => with_reducible assumption); (case a2 => with_reducible assumption); (case a3 => walk_at "st"); (case' a4 => skip))
  | ((with_reducible refine' kp_kp ?a1 ?a2); (case a1 => with_reducible assumption); (case' a2 => skip))
  | ((with_reducible refine' kp_upd ?a1); (case' a1 => skip))
  | ((with_reducible refine' go_set2 ?a1 ?a2 ?a3 ?a4); (case a1 => walk_at "lk"); (case a2 => with_reducible assumption); (case a3 => walk_at "fr"); (case' a4 => skip))
  | ((with_reducible refine' fr_set2 ?a1 ?a2 ?a3); (case a1 => with_reducible assumption); (case a2 => walk_at "fr"); (case' a3 => skip))
  | ((with_reducible refine' en_new ?a1 ?a2); (case a1 => with_reducible assumption); (case' a2 => skip))
  | ((with_reducible refine' en_same ?a1 ?a2); (case a1 => with_reducible assumption); (case' a2 => skip))
  | ((with_reducible refine' en_go ?a1 ?a2); (case a1 => with_reducible assumption); (case' a2 => skip))
  | ((with_reducible refine' en_set2 ?a1 ?a2 ?a3); (case a1 => with_reducible assumption); (case a2 => walk_at "fr"); (case' a3 => skip))
  | ((with_reducible refine' en_kp ?a1 ?a2 ?a3 ?a4); (case a1 => with_reducible assumption); (case a2 => with_reducible assumption); (case a3 => walk_at "fr"); (case' a4 => skip))
  | ((with_reducible refine' nw_new ?a1 ?a2); (case a1 => with_reducible assumption); (case' a2 => skip))
  | ((with_reducible refine' nw_same ?a1 ?a2); (case a1 => with_reducible assumption); (case' a2 => skip))
  | ((with_reducible refine' nw_go ?a1 ?a2); (case a1 => with_reducible assumption); (case' a2 => skip))
  | ((with_reducible refine' nw_kp ?a1 ?a2 ?a3); (case a1 => with_reducible assumption); (case a2 => walk_at "st"); (case' a3 => skip))
  | ((with_reducible refine' nw_set ?a1 ?a2); (case a1 => walk_at "lk"); (case' a2 => skip))
  | ((with_reducible refine' nw_set2 ?a1 ?a2 ?a3); (case a1 => with_reducible assumption); (case a2 => walk_at "fr"); (case' a3 => skip))
  | fail "fr1")
local macro_rules | `(tactic| walk_at "tb") => `(tactic| first
  | with_reducible assumption
  | (walk_at "tb1"; walk_at "tb")
  | fail "tb")
local macro_rules | `(tactic| walk_at "tb1") => `(tactic| first
  | ((with_reducible refine' tabs_new ?a1 ?a2); (case a1 => with_reducible assumption); (case' a2 => skip))
  | ((with_reducible refine' tabs_same ?a1 ?a2); (case a1 => with_reducible assumption); (case' a2 => skip))
  | ((with_reducible refine' tabs_go ?a1 ?a2); (case a1 => with_reducible assumption); (case' a2 => skip))
  | ((with_reducible refine' tabs_kp ?a1 ?a2 ?a3); (case a1 => with_reducible assumption); (case a2 => walk_at "st"); (case' a3 => skip))
  | ((with_reducible refine' tabs_set ?a1 ?a2); (case a1 => walk_at "lk"); (case' a2 => skip))
  | fail "tb1")
local macro_rules | `(tactic| walk_at "dg") => `(tactic| first
  | assumption
  | (refine' dp_ext ?a1 ?a2; (case a1 => assumption); (case a2 => walk_at "fr"))
  | (refine' dn_use ?a1 ?a2; (case a1 => assumption); (case a2 => walk_at "fr"))
  | fail "dg")
local macro_rules | `(tactic| walk_at "dp") => `(tactic| first
  | assumption
  | exact .str _
  | exact .int _
  | exact .bl _
  | exact .non
  | (refine' Dp.lst (SqL.of ?a1) ?a2; (case a1 => walk_at "lk"); (case a2 => walk_at "dpa"))
  | (refine' Dp.tup (SqT.of ?a1) ?a2; (case a1 => walk_at "lk"); (case a2 => walk_at "dpa"))
  | (walk_at "dg")
  | fail "dp")
local macro_rules | `(tactic| walk_at "dpa") => `(tactic| first
  | assumption
  | exact .nil
  | (refine' DpAll.cons ?a1 ?a2; (case a1 => walk_at "dp"); (case a2 => walk_at "dpa"))
  | fail "dpa")
local macro_rules | `(tactic| walk_at "dx") => `(tactic| first
  | assumption
  | exact .str _
  | exact .int _
  | exact .bl _
  | exact .non
  | (refine' Dx.lst (SqL.of ?a1) ?a2; (case a1 => walk_at "lk"); (case a2 => walk_at "dxa"))
  | (refine' Dx.tup (SqT.of ?a1) ?a2; (case a1 => walk_at "lk"); (case a2 => walk_at "dxa"))
  | (refine' Dx.dct (.inl ?a1) ?a2; (case a1 => walk_at "lk"); (case a2 => exact .nil))
  | (refine' dx_ext ?a1 ?a2; (case a1 => assumption); (case a2 => walk_at "fr"))
  | fail "dx")
local macro_rules | `(tactic| walk_at "dxa") => `(tactic| first
  | assumption
  | exact .nil
  | (refine' DxAll.cons ?a1 ?a2; (case a1 => walk_at "dx"); (case a2 => walk_at "dxa"))
  | fail "dxa")
local macro_rules | `(tactic| walk_at "ty") => `(tactic| first
  | assumption
  | (refine' ty_ext ?a1 ?a2; (case a1 => assumption); (case a2 => walk_at "fr"))
  | fail "ty")
local macro_rules | `(tactic| walk_at "shp") => `(tactic| first
  | assumption
  | (simp only [SeqAt.shaped, lay_l, lay_t, lay_i, lay_b, lay_n, lay_c, lay_e, PyData.depth, PyData.depthAll, Bool.and_true, Bool.true_and, Bool.and_eq_true, decide_eq_true_eq]
     repeat' (first | assumption | (refine And.intro ?_ ?_) | (exact rfl) | (decide +kernel) | omega))
  | decide +kernel)
local macro_rules | `(tactic| walk_at "side") => `(tactic| first
  | assumption
  | (intros; trivial)
  | omega
  | (walk_at "lk")
  | (walk_at "st")
  | (walk_at "sz")
  | (walk_at "tb")
  | (walk_at "fr"))
local macro_rules | `(tactic| walk_at "cl") => `(tactic| ((repeat' (apply Exists.intro)); refine And.intro rfl ?_; repeat (refine And.intro (by walk_at "side") ?_)))
local macro_rules | `(tactic| walk_at "eqd") => `(tactic| (refine ⟨_, _, by walk_at "dp", by walk_at "dp", by walk_at "shp", by walk_at "shp", ?_⟩; rw [eqv_same (by walk_at "shp")]))
local macro_rules | `(tactic| walk_at "new") => `(tactic| refine fun (p : Addr) (hp : (_ : Hp) p = none) => ?_)
local macro_rules | `(tactic| walk_at "rdn") => `(tactic| (repeat' (first | walk_at "rd" | walk_at "new")))

theorem ok_is_between (T : Tx P w K mg base) : FnOk P w K mg base CX0 1 T.d_is_between.f T.d_is_between.fd ["value", "least", "most"] sp_is_between := by
  have sc := sc_is_between
  refine FunD.ok (CX := CX0) T.d_is_between.F sc (fun vs H Q E h => ?_) (fun cdv A outer s H vs Q E hr h => ?_)
  · obtain ⟨v, l, u, rfl, h1, h2, q⟩ := h
    rfl
  · obtain ⟨v, l, u, rfl, h1, h2, q⟩ := h
    refine ⟨_, (pss_cons (ps_if (PW.pt (pw_or (pt_not (pt_val (pe_callB call_isi (by rfl) T.n_isinstance (by decide +kernel) (pa_cons (pv 0) (pa_cons ((pe_bltn (by rfl) T.n_int (by decide +kernel) (v := .ty "int") rfl)) pa_nil))))) (pw_or1 (pt_val (pe_callB call_isi (by rfl) T.n_isinstance (by decide +kernel) (pa_cons (pv 0) (pa_cons ((pe_bltn (by rfl) T.n_bool (by decide +kernel) (v := .ty "bool") rfl)) pa_nil))))))) (pss_one (ps_ret pe_bl)) pss_nil)
      (pss_one (ps_ret ((pe_and (pe_cmpR op_ge (pv 0) (pv 1) (nomark _)) (pe_one ((pe_or (pe_cmpR op_isN (pv 2) pe_non (nomark _)) (pe_one (pe_cmpR op_le (pv 0) (pv 2) (nomark _))))))))))), ?_⟩
    walk_at "rds"
    refine ⟨_, _, _, _, true, rfl, .ty _, .base (.int _), kit_ty (by decide +kernel), ?_⟩
    walk_at "rds"
    refine ⟨_, _, _, _, false, rfl, .ty _, .base (.int _), kit_ty (by decide +kernel), ?_⟩
    walk_at "rds"
    show Q (.bl (decide (v ≤ u))) H
    rw [decide_eq_true h2]
    exact q

theorem ok_check_number (T : Tx P w K mg base) (G_is_between : FnOk P w K mg base CX0 1 T.d_is_between.f T.d_is_between.fd ["value", "least", "most"] sp_is_between) : FnOk P w K mg base (L2.CX P w) 3 T.d_check_number.f T.d_check_number.fd ["value", "least", "most"] sp_check_number := by
  have sc := sc_check_number
  refine FunD.ok (CX := (L2.CX P w)) T.d_check_number.F sc (fun vs H Q E h => ?_) (fun cdv A outer s H vs Q E hr h => ?_)
  · obtain ⟨v, l, u, rfl, h1, h2, q⟩ := h
    rfl
  · obtain ⟨v, l, u, rfl, h1, h2, q⟩ := h
    refine ⟨_, (pss_one (ps_if (pt_not (pt_val (pe_call G_is_between (hr.mono (by decide)) rfl T.d_is_between.m T.d_is_between.F.kp T.d_is_between.b .nil pass0 (pa_cons (pv 0) (pa_cons (pv 1) (pa_cons (pv 2) pa_nil)))))) (pss_one (ps_raise rfl (takes_of rfl rfl rfl rfl) (pmk_x T.x_InvalidNumber (hr.mono (by decide)) rfl (pa_cons (pv 0) pa_nil)))) pss_nil)), ?_⟩
    walk_at "rds"
    refine ⟨v, l, u, rfl, h1, h2, ?_⟩
    walk_at "rds"
    exact q

theorem ok_Lines___init__ (T : Tx P w K mg base) (G_check_text : FnOk P w K mg base (L2.CX P w) 3 T.d_check_text.f T.d_check_text.fd ["text"] sp_check_text) : FnOk P w K mg base CX0 4 T.f_Lines___init__ T.fd_Lines___init__ ["self", "text"] (sp_Lines___init__ T.C_Cursor) := by
  have sc := sc_Lines___init__
  refine T.F_Lines___init__.ok sc (fun vs H Q E h => ?_) (fun cdv A outer s H vs Q E hr h => ?_)
  · obtain ⟨a, dx, z, rfl, hz, ha, q⟩ := h
    rfl
  · obtain ⟨a, dx, z, rfl, hz, ha, q⟩ := h
    refine ⟨_, (pss_cons (ps_expr (pe_call G_check_text (hr.mono (by decide)) rfl T.d_check_text.m T.d_check_text.F.kp T.d_check_text.b .nil passL (pa_cons (pv 1) pa_nil)))
      (pss_cons (ps_fld (pv 0) (pv 1) rfl)
      (pss_one (ps_fld (pv 0) (pe_tup (pa_cons pe_int (pa_star (pe_lc (own := [("at", 2), ("sign", 3)]) (g := (gTup K 2 (gCons (gName 2) (gCons (gName 3) gNil)))) rfl sc.nd (pi_enumT (by rfl) T.n_enumerate (pa_cons (pv 1) pa_nil)) (blkOk_by (own := [("at", 2), ("sign", 3)]) (N := ["self", "text", "at", "sign"]) (sc := defScope s_Lines___init__) (by decide +kernel)) (fun _ _ _ _ _ => pg_tup (by rfl) (pgs_cons (pg_name (i := 2) sc.nd rfl (Or.inl rfl)) (pgs_cons (pg_name (i := 3) sc.nd rfl (Or.inl rfl)) pgs_nil))) (fun _ _ _ _ _ => (pts_one (pt_cmpR op_eq (pv 3) pe_str (nomark _)))) (fun _ _ _ _ _ => pe_op op_add (pv 2) pe_int)) pa_nil))) rfl)))), ?_⟩
    have zl : z.length = (tl z).length := len_tl z
    have zs : z.cps.size = (tl z).length := zl
    walk_at "rds"
    refine ⟨a, _, dx, _, rfl, ha, T.cl_Cursor, T.na_own_text, Nat.le_of_ble_eq_true rfl, ?_⟩
    have h1 : upd H a (.ins T.C_Cursor dx (putF "own_text" (.str z) [])) a = some (.ins T.C_Cursor dx [("own_text", .str z)]) := upd_same
    have kp1 : Kp a H (upd H a (.ins T.C_Cursor dx (putF "own_text" (.str z) []))) := (Kp.refl _ _).upd
    generalize upd H a (.ins T.C_Cursor dx (putF "own_text" (.str z) [])) = H1 at *
    walk_at "rds"
    intro D hD
    refine lc_flt (te := tOp (rI0 fun i j => .int (i + j)) (tVar 2) (tC (.int 1))) (g := gTup K 2 (gCons (gName 2) (gCons (gName 3) gNil))) walk_enumT (fun i => decide ((tl z)[i]? = some 10)) (fun i => .int ((i : Int) + 1)) hD (by omega) (fun _ _ => trivial) ?hY ?_ ?_
    case hY =>
      intro i H1 x H2 h
      obtain ⟨t, _, _, _, hn, e, _⟩ := h
      subst e
      exact Same.new (Same.refl _) hn
    · rintro i x H3 H4 Nx Mo hi sm ⟨t, v1, v2, rfl, ht, rfl, e1, e2⟩ k1 k2
      obtain rfl := Option.some.inj e1
      obtain ⟨c, hc, rfl⟩ := Option.map_eq_some_iff.mp e2
      have hg : (tl z)[i]? = some c := by rw [Array.getElem?_toList]; exact hc
      rw [hg] at k1 k2
      refine ⟨_, _, rfl, SqT.of upd_same, rfl, _, _, rfl, _, _, rfl, rfl, ?_⟩
      refine ⟨rfl, ?_⟩
      by_cases h10 : c = 10
      · have hd : decide (V.str ⟨#[c]⟩ = V.str "\n") = true := by rw [h10]; rfl
        walk_at "rds"
        exact k1 (by rw [h10]; rfl) _ (Same.refl _)
      · have hd : decide (V.str ⟨#[c]⟩ = V.str "\n") = false := decide_eq_false fun e => h10 (by cases e; rfl)
        walk_at "rds"
        exact k2 (decide_eq_false fun e => h10 (Option.some.inj e)) _ (Same.refl _)
    · intro H3 sm3 hl3
      have hlen := picked_len z.cps.size (fun i => decide ((tl z)[i]? = some 10)) (fun i => V.int ((i : Int) + 1))
      refine ⟨D, _, rfl, .inr (SqL.of hl3), ?_⟩
      refine ⟨by rw [List.length_cons, List.append_nil]; unfold sizeLine; omega, fun t ht => ?_⟩
      walk_at "rds"
      refine ⟨a, _, dx, _, rfl, lk_new ht (sm3 _ _ h1), T.cl_Cursor, T.na_begins, Nat.le_of_ble_eq_true rfl, ?_⟩
      exact q _ t (((kp1.trans (Kp.of sm3)).new ht).upd) upd_same

theorem ok_Cursor___init__ (T : Tx P w K mg base) (G_Lines___init__ : FnOk P w K mg base CX0 4 T.f_Lines___init__ T.fd_Lines___init__ ["self", "text"] (sp_Lines___init__ T.C_Cursor)) : FnOk P w K mg base CX0 5 T.f_Cursor___init__ T.fd_Cursor___init__ ["self", "text"] (sp_Cursor___init__ T.C_Cursor) := by
  obtain ⟨oc, kV, doc, pm, ct, an, od, osl, cda, cc, efd, lk, hcd, SF⟩ := T.ci_Cursor___init__
  rw [efd]
  refine fn_super (j := 1) lk hcd sc_Cursor___init__ SF rfl rfl rfl rfl rfl rfl rfl G_Lines___init__ T.b_Lines___init__ T.tI_Lines T.fI_Lines (fun vs H Q E h => ?_) (fun A outer s H vs Q E hr h => ?_)
  · obtain ⟨a, dx, z, rfl, hz, ha, q⟩ := h
    rfl
  · obtain ⟨a, dx, z, rfl, hz, ha, q⟩ := h
    refine ⟨_, a, T.C_Cursor, dx, [], .str z, pss_one (ps_fld (pv 0) pe_int rfl), rfl, rfl, ha, T.mro_Cursor, T.sup_Cursor, ?_⟩
    refine ⟨a, dx, z, rfl, hz, ha, fun H' t kp h => ?_⟩
    walk_at "rds"
    refine ⟨a, _, dx, _, rfl, h, T.cl_Cursor, T.na_spot, Nat.le_of_ble_eq_true rfl, ?_⟩
    exact q _ kp.upd ⟨dx, t, upd_same⟩

theorem ok_Cursor_offset (T : Tx P w K mg base) : FnOk P w K mg base CX0 1 T.f_Cursor_offset T.fd_Cursor_offset ["self"] (sp_Cursor_offset T.C_Cursor) := by
  have sc := sc_Cursor_offset
  refine T.F_Cursor_offset.ok sc (fun vs H Q E h => ?_) (fun cdv A outer s H vs Q E hr h => ?_)
  · obtain ⟨a, z, i, rfl, ⟨dx, t, ha⟩, q⟩ := h
    rfl
  · obtain ⟨a, z, i, rfl, ⟨dx, t, ha⟩, q⟩ := h
    refine ⟨_, (pss_one (ps_ret (pe_fld (pv 0) rfl))), ?_⟩
    walk_at "rds"
    refine ⟨a, _, dx, _, _, rfl, ha, T.cl_Cursor, T.na_spot, rfl, ?_⟩
    exact q

theorem ok_Cursor_go_to (T : Tx P w K mg base) (G_check_number : FnOk P w K mg base (L2.CX P w) 3 T.d_check_number.f T.d_check_number.fd ["value", "least", "most"] sp_check_number) : FnOk P w K mg base (L2.CX P w) 4 T.f_Cursor_go_to T.fd_Cursor_go_to ["self", "position"] (sp_Cursor_go_to T.C_Cursor) := by
  have sc := sc_Cursor_go_to
  refine T.F_Cursor_go_to.okX sc (fun vs H Q E h => ?_) (fun cdv A outer s H vs Q E hr h => ?_)
  · obtain ⟨a, z, i, j, rfl, hz, ⟨dx, t, ha⟩, hj, q⟩ := h
    rfl
  · obtain ⟨a, z, i, j, rfl, hz, ⟨dx, t, ha⟩, hj, q⟩ := h
    refine ⟨_, (pss_cons (ps_expr (pe_call G_check_number (hr.mono (by decide)) rfl T.d_check_number.m T.d_check_number.F.kp T.d_check_number.b .nil (passes_call (takes_of rfl rfl rfl rfl) fun _ _ _ _ z => z) (pa_cons (pv 1) (pa_cons pe_int (pa_cons (pe_callB call_len (by rfl) T.n_len PySem.boot_len (pa_cons (pe_fld (pv 0) rfl) pa_nil)) pa_nil)))))
      (pss_one (ps_fld (pv 0) (pv 1) rfl))), ?_⟩
    have zl : z.length = (tl z).length := len_tl z
    walk_at "rds"
    refine ⟨a, _, dx, _, _, rfl, ha, T.cl_Cursor, T.na_own_text, rfl, ?_⟩
    walk_at "rds"
    refine ⟨_, _, _, rfl, by omega, by omega, ?_⟩
    walk_at "rds"
    refine ⟨a, _, dx, _, rfl, ha, T.cl_Cursor, T.na_spot, Nat.le_of_ble_eq_true rfl, ?_⟩
    exact q _ ((Kp.refl _ _).upd) ⟨dx, t, upd_same⟩

theorem ok_Cursor_take_text (T : Tx P w K mg base) (G_check_raw : FnOk P w K mg base (L2.CX P w) 4 T.d_check_raw.f T.d_check_raw.fd ["raw", "mark"] (sp_check_raw K T.a_InvalidKind)) (G_units : Gx.GFn2 P w K mg base 6 T.d_units.f T.d_units.fd ["raw", "mark"] (SU T.a_IllFormed) Ut.new) : FnOk P w K mg base (L2.CX P w) 8 T.f_Cursor_take_text T.fd_Cursor_take_text ["self", "mark"] (sp_Cursor_take_text K T.C_Cursor T.a_InvalidKind) := by
  have sc := sc_Cursor_take_text
  refine FunD.ok (CX := (L2.CX P w)) T.F_Cursor_take_text sc (fun vs H Q E h => ?_) (fun cdv A outer s H vs Q E hr h => ?_)
  · obtain ⟨a, z, i, v, rfl, hz, ⟨dx, t, ha⟩, hi, hv⟩ := h
    rfl
  · obtain ⟨a, z, i, v, rfl, hz, ⟨dx, t, ha⟩, hi, hv⟩ := h
    refine' ⟨_, (pss_cons (ps_expr (pe_call G_check_raw (hr.mono (by decide)) rfl T.d_check_raw.m T.d_check_raw.F.kp T.d_check_raw.b .nil (passes_call (takes_of rfl rfl rfl rfl) fun _ _ _ _ z => z) (pa_cons pe_str (pa_cons (pv 1) pa_nil))))
      (pss_cons (ps_par3 (i := 2) (j := 3) (l := 4) (by rfl) sc.nd rfl rfl rfl (by decide) (by decide) (by decide) rfl rfl rfl (pa_cons (pe_lst pa_nil) (pa_cons pe_int (pa_cons (pe_slice sl_str (pe_fld (pv 0) rfl) (po_some (pe_fld (pv 0) rfl)) po_none) pa_nil))) (by rfl))
      (pss_cons ?tr
      (pss_cons (ps_fldaug (pv 0) (pv 3) in_add)
      (pss_one (ps_ret (pe_join pe_str (pv 2)))))))), ?_⟩
    case tr =>
      refine' ps_try_only (tb := fun W => Gx.tForG (SU T.a_IllFormed) K (Gx.tCall2 (SU T.a_IllFormed) Ut.new (["raw", "mark"] : List Str).length [] (tCons (tVar 4) (tCons (tVar 1) tNil))) (gTup K 3 (gCons (gName 5) (gCons (gName 6) (gCons (gName 7) gNil)))) (tSeq (tDrop (tBM K "list" rAppend (tVar 2) (tCons (tVar 7) tNil))) (tAsg (tVar 6) (gName 3))) W) (ts := fun _ _ _ => tNext) rfl rfl ⟨rfl, by decide, .inl T.x_IllFormed.mgC⟩ (takes_of rfl rfl rfl rfl) ?bd ?su
      case bd =>
        intro W pn xe tk po
        refine pss_one ?_
        refine' Gx.ps_forG (S := SU T.a_IllFormed) (k := 6) (Wx := W) po rfl tk (hr.mono (by decide)) ?he ?hg ?hb
        case he => exact Gx.pgen2_call (S := SU T.a_IllFormed) (start := Ut.new) G_units (hr.mono (by decide)) rfl T.d_units.m T.d_units.F.kp T.d_units.b .nil (pa_cons (pv 4) (pa_cons (pv 1) pa_nil))
        case hg => exact pg_tup (by rfl) (pgs_cons (pg_name (i := 5) sc.nd rfl (Or.inl rfl)) (pgs_cons (pg_name (i := 6) sc.nd rfl (Or.inl rfl)) (pgs_cons (pg_name (i := 7) sc.nd rfl (Or.inl rfl)) pgs_nil)))
        case hb => exact pss_cons (ps_expr (pe_bm PySem.F.plainAttrs_list PySem.F.slot_list_append PySem.F.type_list_append mt_append (pv 2) (pa_cons (pv 7) pa_nil))) (pss_one (ps_set (i := 3) sc.nd rfl (Or.inl rfl) (pv 6)))
      case su =>
        intro a oe cls d pn hz hf
        exact pss_one ps_pass
    
    have zl : z.length = (tl z).length := len_tl z
    have h4 := hz.2
    have z16 : z.length ≤ sizeLine := by rw [zl]; unfold sizeLine; omega
    walk_at "rds"
    rcases hv with ⟨mk, us, r, rfl, hm, hu, q⟩ | ⟨hb, q⟩
    · refine ⟨"", .str mk, rfl, .inl ⟨mk, rfl, hm, fun H1 s1 => ?_⟩⟩
      have ha1 := s1 _ _ ha
      walk_at "rds"
      intro p hp
      have ha2 : upd H1 p (.lst []) a = some (.ins T.C_Cursor dx [("own_text", .str z), ("begins", .ref t), ("spot", .int (i : Int))]) := lk_new hp ha1
      walk_at "rds"
      refine ⟨a, _, dx, _, _, rfl, ha2, T.cl_Cursor, T.na_own_text, rfl, ?_⟩
      walk_at "rds"
      refine ⟨a, _, dx, _, _, rfl, ha2, T.cl_Cursor, T.na_spot, rfl, ?_⟩
      refine ⟨_, rfl, z, rfl, z16, ?_⟩
      refine ⟨_, _, _, rfl, ?_⟩
      have hw4 := w4_tail hz hi
      have hrt := cutS_tail z i hi
      generalize cutS z (some (i : Int)) none = rest at hw4 hrt ⊢
      rw [← hrt] at hu
      have hrl : (tl rest).length = (tl z).length - i := by rw [hrt, List.length_drop]
      have fp : upd H1 p (.lst []) p = some (.lst []) := upd_same
      have s2 : Same H (upd H1 p (.lst [])) := Same.new s1 hp
      have pa : p ≠ a := fun e => by rw [e, ha1] at hp; cases hp
      have np : H p = none := none_same s1 hp
      generalize upd H1 p (.lst []) = H2 at *
      dsimp only
      refine tCut (R := fun σ' H' => Same H H' ∧ H' p = some (.lst ((ones (mns us)).map V.str)) ∧ ∃ v5 v6 v7, σ' = [some (.ref a), some (.str mk), some (.ref p), some (.int (lastE us : Nat)), some (.str rest), v5, v6, v7]) ?_ (fun key => ?_)
      · rintro σ' H' ⟨sm, hl, v5, v6, v7, rfl⟩
        have hf := sm _ _ ha
        have hal := (uns_all (l := tl rest) (m := tl mk) hw4.1 0 0).2
        rw [hu] at hal
        dsimp only at hal
        have hml : (mns us).length ≤ (tl z).length := by unfold mns; rw [List.length_map]; omega
        walk_at "rds"
        refine ⟨a, _, dx, _, _, rfl, hf, T.cl_Cursor, T.na_spot, rfl, ?_⟩
        walk_at "rds"
        refine ⟨dx, _, hf, Nat.le_of_ble_eq_true rfl, ?_⟩
        have hl2 : upd H' a (.ins T.C_Cursor dx (putF "spot" (.int ((i : Int) + ((lastE us : Nat) : Int))) [("own_text", .str z), ("begins", .ref t), ("spot", .int (i : Int))])) p = some (.lst ((ones (mns us)).map V.str)) := by rw [upd_ne pa]; exact hl
        have ha3 : upd H' a (.ins T.C_Cursor dx (putF "spot" (.int ((i : Int) + ((lastE us : Nat) : Int))) [("own_text", .str z), ("begins", .ref t), ("spot", .int (i : Int))])) a = some (.ins T.C_Cursor dx [("own_text", .str z), ("begins", .ref t), ("spot", .int ((i + lastE us : Nat) : Int))]) := by rw [upd_same]; rfl
        have kp : Kp a H (upd H' a (.ins T.C_Cursor dx (putF "spot" (.int ((i : Int) + ((lastE us : Nat) : Int))) [("own_text", .str z), ("begins", .ref t), ("spot", .int (i : Int))]))) := (Kp.of sm).upd
        generalize upd H' a (.ins T.C_Cursor dx (putF "spot" (.int ((i : Int) + ((lastE us : Nat) : Int))) [("own_text", .str z), ("begins", .ref t), ("spot", .int (i : Int))])) = H5 at *
        walk_at "rds"
        refine ⟨"", p, ones (mns us), rfl, rfl, .inl (SqL.of hl2), ones_ok (n := (tl z).length) hml (by omega), ?_⟩
        rw [ones_join]
        exact q _ kp ⟨dx, t, ha3⟩
      · walk_at "rds"
        refine ⟨fun n tt σ' H' => ∃ (j br : Nat) (ds : List (Nat × Nat × Nat)), n = (tl rest).length + 1 - j ∧ (tt = .new [.str rest, .str mk] ∧ j = 0 ∧ br = 0 ∨ tt = .at rest mk j br) ∧ j ≤ (tl rest).length ∧ br ≤ 2 ∧ Same H H' ∧ H' p = some (.lst ((ones (mns ds)).map V.str)) ∧ us = ds ++ (uns (tl rest) (tl mk) j br).1 ∧ ds.length ≤ j ∧ ∃ v5 v6 v7, σ' = [some (.ref a), some (.str mk), some (.ref p), some (.int (lastE ds : Nat)), some (.str rest), v5, v6, v7], ⟨_, 0, 0, [], rfl, .inl ⟨rfl, rfl, rfl⟩, Nat.zero_le _, Nat.zero_le _, s2, fp, by rw [hu]; rfl, Nat.zero_le _, _, _, _, rfl⟩, ?_⟩
        clear hu
        rintro n tt σ' H' ⟨j, br, ds, rfl, ht, hj, hbr, sm, hd, hu, hl, v5, v6, v7, rfl⟩
        have hml : (mns ds).length = ds.length := List.length_map _
        refine su_w hw4 hm hbr ht ?_
        unfold Wu
        cases hs : stepAt (tl rest) (tl mk) j br with
        | done =>
          rw [uns_done hs, List.append_nil] at hu
          subst hu
          intro H3 s3
          exact key _ _ ⟨sm.trans s3, s3 _ _ hd, _, _, _, rfl⟩
        | unit e c b =>
          obtain ⟨e1, e2, e3⟩ := step_lt hs
          rw [uns_unit hs] at hu
          intro H3 p3 s3 hp3
          have f2 : upd H3 p3 (.tup [.int (j : Int), .int (e : Int), .str ⟨#[c]⟩]) p3 = some (.tup [.int (j : Int), .int (e : Int), .str ⟨#[c]⟩]) := upd_same
          have d2 : upd H3 p3 (.tup [.int (j : Int), .int (e : Int), .str ⟨#[c]⟩]) p = some (.lst ((ones (mns ds)).map V.str)) := lk_new hp3 (s3 _ _ hd)
          have sm2 : Same H (upd H3 p3 (.tup [.int (j : Int), .int (e : Int), .str ⟨#[c]⟩])) := (sm.trans s3).trans (Same.new (Same.refl _) hp3)
          refine ⟨fun σ4 H4 => Same H H4 ∧ H4 p = some (.lst ((ones (mns (ds ++ [(j, e, c)]))).map V.str)) ∧ ∃ v5 v6 v7, σ4 = [some (.ref a), some (.str mk), some (.ref p), some (.int (lastE (ds ++ [(j, e, c)]) : Nat)), some (.str rest), v5, v6, v7], fun σ4 H4 h4 => ⟨trivial, _, by omega, e, b, ds ++ [(j, e, c)], rfl, .inr rfl, e2, e3, h4.1, h4.2.1, by rw [List.append_assoc]; exact hu, by rw [List.length_append]; show ds.length + 1 ≤ e; omega, h4.2.2⟩, ?_⟩
          generalize upd H3 p3 (.tup [.int (j : Int), .int (e : Int), .str ⟨#[c]⟩]) = H4 at *
          refine ⟨_, _, rfl, SqT.of f2, rfl, _, _, rfl, _, _, rfl, _, _, rfl, rfl, ?_⟩
          walk_at "rds"
          refine ⟨.inl ⟨rfl, _, SqL.of d2⟩, ?_⟩
          walk_at "rds"
          refine ⟨p, _, _, rfl, rfl, d2, by rw [List.length_map, ones_len, hml]; unfold sizeLine; omega, ?_⟩
          walk_at "rds"
          refine ⟨fun b o e => by rw [upd_ne (ne_of_none e np)]; exact sm2 b o e, ?_, some (.int (j : Int)), some (.int (e : Int)), some (.str ⟨#[c]⟩), ?_⟩
          · rw [upd_same]
            unfold mns
            rw [List.map_append]
            show _ = some (HO.lst ((ones (_ ++ [c])).map V.str))
            rw [ones_snoc, List.map_append]
            rfl
          · rw [lastE_snoc]
            rfl
        | ill k =>
          rw [uns_ill hs, List.append_nil] at hu
          subst hu
          intro H3 d s3 hd2
          refine ⟨T.si_IllFormed, true, T.eo_IllFormed, fun _ ax hax => ?_, fun z => by cases z⟩
          exact key _ _ ⟨Same.new (sm.trans s3) hd2, lk_new hd2 (s3 _ _ hd), _, _, _, rfl⟩
    · refine ⟨"", v, rfl, .inr ⟨hb, ?_⟩⟩
      exact q

end
end K7

set_option maxHeartbeats 1000000
set_option pp.maxSteps 700
set_option pp.deepTerms false
set_option pp.deepTerms.threshold 14
namespace K7
open PySem PySem.Spec PyProof.Rows L2 Mx
/-! ### the law's table -/
open TL Num
theorem tl_signs : tl signs = codes := by decide +kernel
theorem codes_lt : ∀ c ∈ codes, c < 131 := by decide +kernel
def sp__law_digits : Sp := fun vs H Q _ => ∃ n b : Nat, vs = [.int (n : Int), .int (b : Int)] ∧ Base b ∧ n < 131 ∧ ∀ y : Str, tl y = dg b n → Q (.str y) H
def Fives (H : Hp) (a : Addr) (ts : List Addr) : Prop := H a = some (.lst (ts.map V.ref)) ∧ ts.length = 5 ∧ ∀ i t, ts[i]? = some t → H t = some (.tup [.str (toS (fiveL.getD i ([], 0)).1), .str ⟨#[(fiveL.getD i ([], 0)).2]⟩])
def sp__law_five : Sp := fun vs H Q _ => vs = [] ∧ ∀ a ts H', Same H H' → Fives H' a ts → Q (.ref a) H'
def sp__law_table : Sp := fun vs H Q _ => ∃ b : Nat, vs = [.int (b : Int)] ∧ Base b ∧ ∀ p H', H p = none → Same H H' → H' p = some (.dK (kvOf (tab b))) → Q (.ref p) H'

local macro_rules | `(tactic| walk_at "sz") => `(tactic| first | assumption | decide | omega | (unfold sizeLine; omega) | exact Nat.le_of_ble_eq_true rfl)
local macro_rules | `(tactic| walk_at "hp") => `(tactic| (first | assumption | exact upd_same | (rw [upd_ne (by assumption)]; assumption)))
local macro_rules | `(tactic| walk_at "rd") => `(tactic| (first
  | refine ⟨_, rfl, ?_⟩
  | (refine ⟨_, _, rfl, rfl, ?rdc, ?_⟩; (case rdc => first | (show (0 : Int) < _; omega) | (exact ⟨by omega, by omega⟩) | (exact .inl ⟨by omega, by omega⟩) | (exact .inr ⟨by omega, by omega⟩) | exact ⟨by decide, by decide, by decide⟩))
  | refine ⟨_, _, rfl, rfl, ?_⟩
  | refine .inl ⟨_, rfl, ?_⟩
  | refine ⟨rfl, ?_⟩
  | refine ⟨⟨_, rfl⟩, ?_⟩
  | refine ⟨⟨_, SqL.of (by walk_at "hp")⟩, ?_⟩
  | refine ⟨_, _, _, _, rfl, rfl, SqL.of (by walk_at "hp"), (by rfl), ?_⟩
  | refine ⟨_, _, _, _, rfl, rfl, (by walk_at "hp"), (by rfl), ?_⟩
  | refine ⟨_, _, rfl, ⟨by walk_at "sz", rfl⟩, ?_⟩
  | refine ⟨_, _, _, rfl, rfl, by walk_at "sz", by assumption, ?_⟩
  | refine And.intro (by walk_at "sz") ?_
  | refine itT rfl ?_
  | refine itF rfl ?_
  | refine itT (by assumption) ?_
  | refine itF (by assumption) ?_
  | refine itT (decide_eq_true (by omega)) ?_
  | refine itF (decide_eq_false (by omega)) ?_
  | refine itT (dVi (by omega)) ?_
  | refine itF (dViN (by omega)) ?_
  | refine itT (notT (by assumption)) ?_
  | refine itF (notF (by assumption)) ?_
  | refine itT (notT (dViN (by omega))) ?_
  | refine itF (notF (dVi (by omega))) ?_
  | refine itT (decide_eq_true rfl) ?_
  | refine itF (notF (decide_eq_true rfl)) ?_
  | refine ite2 (fun _ => ?_) (fun _ => ?_)
  | with_reducible refine tC_ ?_
  | with_reducible refine tNext_ ?_
  | with_reducible refine tNil_ ?_
  | with_reducible refine tYes_ ?_))
local macro_rules | `(tactic| walk_at "rds") => `(tactic| repeat' (walk_at "rd"))
section
variable {P : Program} {w : World} {K : PySem.W.Frag} {mg : Str → Option Value} {base : Heap}

local macro_rules | `(tactic| walk_at "lk") => `(tactic| first
  | with_reducible assumption
  | with_reducible exact upd_same
  | (walk_at "lk1"; walk_at "lk")
  | fail "lk")
local macro_rules | `(tactic| walk_at "lk1") => `(tactic| first
  | ((with_reducible refine' lk_new ?a1 ?a2); (case a1 => with_reducible assumption); (case' a2 => skip))
  | ((with_reducible refine' lk_ne ?a1 ?a2); (case a1 => with_reducible assumption); (case' a2 => skip))
  | ((with_reducible refine' lk_neN ?a1 ?a2 ?a3); (case a1 => with_reducible assumption); (case a2 => walk_at "lk"); (case' a3 => skip))
  | ((with_reducible refine' lk_neN' ?a1 ?a2 ?a3); (case a1 => with_reducible assumption); (case a2 => walk_at "lk"); (case' a3 => skip))
  | ((with_reducible refine' lk_same ?a1 ?a2); (case a1 => with_reducible assumption); (case' a2 => skip))
  | ((with_reducible refine' lk_go ?a1 ?a2 ?a3); (case a1 => with_reducible assumption); (case a2 => walk_at "nt"); (case' a3 => skip))
  | ((with_reducible refine' lk_kp_nl ?a1 ?a2 ?a3 ?a4); (case a1 => with_reducible assumption); (case a2 => walk_at "st"); (case a3 => walk_at "nl"); (case' a4 => skip))
  | ((with_reducible refine' lk_kp ?a1 ?a2 ?a3); (case a1 => with_reducible assumption); (case a2 => walk_at "ne"); (case' a3 => skip))
  | fail "lk1")
local macro_rules | `(tactic| walk_at "nt") => `(tactic| first
  | (intro _ z; cases z)
  | fail "nt")
local macro_rules | `(tactic| walk_at "nl") => `(tactic| first
  | (intro _ z; cases z)
  | fail "nl")
local macro_rules | `(tactic| walk_at "ne") => `(tactic| first
  | with_reducible assumption
  | ((with_reducible refine' ne_st ?a1 ?a2); (case a1 => with_reducible assumption); (case a2 => walk_at "st"))
  | fail "ne")
local macro_rules | `(tactic| walk_at "st") => `(tactic| first
  | with_reducible assumption
  | with_reducible exact st_new (by with_reducible assumption) (by walk_at "st")
  | with_reducible exact st_same (by with_reducible assumption) (by walk_at "st")
  | with_reducible exact st_go (by with_reducible assumption) (by walk_at "st")
  | with_reducible exact st_ne (by walk_at "ns") (by walk_at "st")
  | fail "st")
local macro_rules | `(tactic| walk_at "ns") => `(tactic| first
  | with_reducible assumption
  | with_reducible exact Ne.symm (by with_reducible assumption)
  | with_reducible exact Ne.symm (ne_st (by with_reducible assumption) (by walk_at "st"))
  | fail "ns")
local macro_rules | `(tactic| walk_at "fr") => `(tactic| first
  | with_reducible assumption
  | with_reducible exact Same.refl _
  | with_reducible exact Go.refl _ _
  | with_reducible exact Kp.refl _ _
  | with_reducible exact LamX.ExtN.refl _
  | with_reducible exact nw_refl
  | (walk_at "fr1"; walk_at "fr")
  | fail "fr")
local macro_rules | `(tactic| walk_at "fr1") => `(tactic| first
  | ((with_reducible refine' fr_new ?a1 ?a2); (case a1 => with_reducible assumption); (case' a2 => skip))
  | ((with_reducible refine' go_new ?a1 ?a2); (case a1 => with_reducible assumption); (case' a2 => skip))
  | ((with_reducible refine' kp_new ?a1 ?a2); (case a1 => with_reducible assumption); (case' a2 => skip))
  | ((with_reducible refine' fr_same ?a1 ?a2); (case a1 => with_reducible assumption); (case' a2 => skip))
  | ((with_reducible refine' go_same ?a1 ?a2); (case a1 => with_reducible assumption); (case' a2 => skip))
  | ((with_reducible refine' kp_same ?a1 ?a2); (case a1 => with_reducible assumption); (case' a2 => skip))
  | ((with_reducible refine' go_go ?a1 ?a2); (case a1 => with_reducible assumption); (case' a2 => skip))
  | ((with_reducible refine' go_kp ?a1 ?a2 ?a3 ?a4); (case a1 => with_reducible assumption); (case a2 => with_reducible assumption); (case a3 => walk_at "st"); (case' a4 => skip))
  | ((with_reducible refine' kp_kp ?a1 ?a2); (case a1 => with_reducible assumption); (case' a2 => skip))
  | ((with_reducible refine' kp_upd ?a1); (case' a1 => skip))
  | ((with_reducible refine' go_set2 ?a1 ?a2 ?a3 ?a4); (case a1 => walk_at "lk"); (case a2 => with_reducible assumption); (case a3 => walk_at "fr"); (case' a4 => skip))
  | ((with_reducible refine' fr_set2 ?a1 ?a2 ?a3); (case a1 => with_reducible assumption); (case a2 => walk_at "fr"); (case' a3 => skip))
  | ((with_reducible refine' en_new ?a1 ?a2); (case a1 => with_reducible assumption); (case' a2 => skip))
  | ((with_reducible refine' en_same ?a1 ?a2); (case a1 => with_reducible assumption); (case' a2 => skip))
  | ((with_reducible refine' en_go ?a1 ?a2); (case a1 => with_reducible assumption); (case' a2 => skip))
  | ((with_reducible refine' en_set2 ?a1 ?a2 ?a3); (case a1 => with_reducible assumption); (case a2 => walk_at "fr"); (case' a3 => skip))
  | ((with_reducible refine' en_kp ?a1 ?a2 ?a3 ?a4); (case a1 => with_reducible assumption); (case a2 => with_reducible assumption); (case a3 => walk_at "fr"); (case' a4 => skip))
  | ((with_reducible refine' nw_new ?a1 ?a2); (case a1 => with_reducible assumption); (case' a2 => skip))
  | ((with_reducible refine' nw_same ?a1 ?a2); (case a1 => with_reducible assumption); (case' a2 => skip))
  | ((with_reducible refine' nw_go ?a1 ?a2); (case a1 => with_reducible assumption); (case' a2 => skip))
  | ((with_reducible refine' nw_kp ?a1 ?a2 ?a3); (case a1 => with_reducible assumption); (case a2 => walk_at "st"); (case' a3 => skip))
  | ((with_reducible refine' nw_set ?a1 ?a2); (case a1 => walk_at "lk"); (case' a2 => skip))
  | ((with_reducible refine' nw_set2 ?a1 ?a2 ?a3); (case a1 => with_reducible assumption); (case a2 => walk_at "fr"); (case' a3 => skip))
  | fail "fr1")
local macro_rules | `(tactic| walk_at "tb") => `(tactic| first
  | with_reducible assumption
  | (walk_at "tb1"; walk_at "tb")
  | fail "tb")
local macro_rules | `(tactic| walk_at "tb1") => `(tactic| first
  | ((with_reducible refine' tabs_new ?a1 ?a2); (case a1 => with_reducible assumption); (case' a2 => skip))
  | ((with_reducible refine' tabs_same ?a1 ?a2); (case a1 => with_reducible assumption); (case' a2 => skip))
  | ((with_reducible refine' tabs_go ?a1 ?a2); (case a1 => with_reducible assumption); (case' a2 => skip))
  | ((with_reducible refine' tabs_kp ?a1 ?a2 ?a3); (case a1 => with_reducible assumption); (case a2 => walk_at "st"); (case' a3 => skip))
  | ((with_reducible refine' tabs_set ?a1 ?a2); (case a1 => walk_at "lk"); (case' a2 => skip))
  | fail "tb1")
local macro_rules | `(tactic| walk_at "dg") => `(tactic| first
  | assumption
  | (refine' dp_ext ?a1 ?a2; (case a1 => assumption); (case a2 => walk_at "fr"))
  | (refine' dn_use ?a1 ?a2; (case a1 => assumption); (case a2 => walk_at "fr"))
  | fail "dg")
local macro_rules | `(tactic| walk_at "dp") => `(tactic| first
  | assumption
  | exact .str _
  | exact .int _
  | exact .bl _
  | exact .non
  | (refine' Dp.lst (SqL.of ?a1) ?a2; (case a1 => walk_at "lk"); (case a2 => walk_at "dpa"))
  | (refine' Dp.tup (SqT.of ?a1) ?a2; (case a1 => walk_at "lk"); (case a2 => walk_at "dpa"))
  | (walk_at "dg")
  | fail "dp")
local macro_rules | `(tactic| walk_at "dpa") => `(tactic| first
  | assumption
  | exact .nil
  | (refine' DpAll.cons ?a1 ?a2; (case a1 => walk_at "dp"); (case a2 => walk_at "dpa"))
  | fail "dpa")
local macro_rules | `(tactic| walk_at "dx") => `(tactic| first
  | assumption
  | exact .str _
  | exact .int _
  | exact .bl _
  | exact .non
  | (refine' Dx.lst (SqL.of ?a1) ?a2; (case a1 => walk_at "lk"); (case a2 => walk_at "dxa"))
  | (refine' Dx.tup (SqT.of ?a1) ?a2; (case a1 => walk_at "lk"); (case a2 => walk_at "dxa"))
  | (refine' Dx.dct (.inl ?a1) ?a2; (case a1 => walk_at "lk"); (case a2 => exact .nil))
  | (refine' dx_ext ?a1 ?a2; (case a1 => assumption); (case a2 => walk_at "fr"))
  | fail "dx")
local macro_rules | `(tactic| walk_at "dxa") => `(tactic| first
  | assumption
  | exact .nil
  | (refine' DxAll.cons ?a1 ?a2; (case a1 => walk_at "dx"); (case a2 => walk_at "dxa"))
  | fail "dxa")
local macro_rules | `(tactic| walk_at "ty") => `(tactic| first
  | assumption
  | (refine' ty_ext ?a1 ?a2; (case a1 => assumption); (case a2 => walk_at "fr"))
  | fail "ty")
local macro_rules | `(tactic| walk_at "shp") => `(tactic| first
  | assumption
  | (simp only [SeqAt.shaped, lay_l, lay_t, lay_i, lay_b, lay_n, lay_c, lay_e, PyData.depth, PyData.depthAll, Bool.and_true, Bool.true_and, Bool.and_eq_true, decide_eq_true_eq]
     repeat' (first | assumption | (refine And.intro ?_ ?_) | (exact rfl) | (decide +kernel) | omega))
  | decide +kernel)
local macro_rules | `(tactic| walk_at "side") => `(tactic| first
  | assumption
  | (intros; trivial)
  | omega
  | (walk_at "lk")
  | (walk_at "st")
  | (walk_at "sz")
  | (walk_at "tb")
  | (walk_at "fr"))
local macro_rules | `(tactic| walk_at "cl") => `(tactic| ((repeat' (apply Exists.intro)); refine And.intro rfl ?_; repeat (refine And.intro (by walk_at "side") ?_)))
local macro_rules | `(tactic| walk_at "eqd") => `(tactic| (refine ⟨_, _, by walk_at "dp", by walk_at "dp", by walk_at "shp", by walk_at "shp", ?_⟩; rw [eqv_same (by walk_at "shp")]))
local macro_rules | `(tactic| walk_at "new") => `(tactic| refine fun (p : Addr) (hp : (_ : Hp) p = none) => ?_)
local macro_rules | `(tactic| walk_at "rdn") => `(tactic| (repeat' (first | walk_at "rd" | walk_at "new")))

theorem ok__law_table (T : Tx P w K mg base) (G__law_signs : FnOk P w K mg base CX0 1 T.d__law_signs.f T.d__law_signs.fd [] sp__law_signs) (G__law_digits : FnOk P w K mg base CX0 1 T.d__law_digits.f T.d__law_digits.fd ["code", "radix"] sp__law_digits) : FnOk P w K mg base CX0 3 T.d__law_table.f T.d__law_table.fd ["radix"] sp__law_table := by
  have sc := sc__law_table
  refine T.d__law_table.F.ok sc (fun vs H Q E h => ?_) (fun cdv A outer s H vs Q E hr h => ?_)
  · obtain ⟨b, rfl, hb, q⟩ := h
    rfl
  · obtain ⟨b, rfl, hb, q⟩ := h
    refine ⟨_, (pss_cons (ps_set (i := 1) sc.nd rfl (Or.inl rfl) pe_dnewK)
      (pss_cons (ps_for PassesOwn.never rfl (pi_str (pe_call0 G__law_signs (hr.mono (by decide)) rfl T.d__law_signs.m T.d__law_signs.F.kp T.d__law_signs.b .nil pass0)) (pg_name (i := 2) sc.nd rfl (Or.inl rfl)) (pss_cons (ps_set (i := 3) sc.nd rfl (Or.inl rfl) (pe_call G__law_digits (hr.mono (by decide)) rfl T.d__law_digits.m T.d__law_digits.F.kp T.d__law_digits.b .nil pass0 (pa_cons (pe_callB call_ord (by rfl) T.n_ord (by decide +kernel) (pa_cons (pv 2) pa_nil)) (pa_cons (pv 0) pa_nil))))
      (pss_cons (ps_for PassesOwn.never rfl (pi_range1 rfl T.n_range (pa_cons (pe_callB call_len (by rfl) T.n_len PySem.boot_len (pa_cons (pv 3) pa_nil)) pa_nil)) (pg_name (i := 4) sc.nd rfl (Or.inl rfl)) (pss_one (ps_expr (pe_dset2 (pv 1) (pe_slice sl_str (pv 3) po_none (po_some (pv 4))) pe_str ⟨by rfl, by rfl, by rfl, by rfl⟩))))
      (pss_one (ps_asg (pv 2) (pg_sub (pv 1) (pv 3) (set_dict (hu_of hr))))))))
      (pss_one (ps_ret (pv 1))))), ?_⟩
    walk_at "rds"
    intro p hp
    walk_at "rds"
    have ss : signs.cps.size = 96 := by decide +kernel
    refine for_it walk_str (fun i σ H' => (∃ v2 v3 v4, σ = [some (.int (b : Int)), some (.ref p), v2, v3, v4]) ∧ Kp p H H' ∧ H' p = some (.dK (kvOf ((codes.take i).foldl (add b) []))) ∧ ((codes.take i).foldl (add b) []).length ≤ 10 * i) ⟨⟨_, _, _, rfl⟩, (Kp.refl _ _).upd, upd_same, Nat.le_refl _⟩ (fun _ _ _ _ _ => trivial) ?_ ?_
    · rintro i x σ H1 H2 hi ⟨⟨v2, v3, v4, rfl⟩, kp, hd, hlen⟩ ⟨rfl, c, hc, rfl⟩
      have hi97 : i < 97 := by omega
      have hg : codes[i]? = some c := by rw [← tl_signs, Array.getElem?_toList]; exact hc
      have c131 := codes_lt c (List.mem_of_getElem? hg)
      have etk : codes.take (i + 1) = codes.take i ++ [c] := take_snoc hg
      generalize ht0 : (codes.take i).foldl (add b) [] = t0 at hd hlen
      walk_at "rds"
      refine ⟨c, b, rfl, hb, c131, fun y hy => ?_⟩
      have yl : y.length = (dg b c).length := by rw [len_tl, hy]
      have y4 := dg_len hb c131
      rw [← yl] at y4
      walk_at "rds"
      refine for_range (fun k σ H' => (∃ v4, σ = [some (.int (b : Int)), some (.ref p), some (.str ⟨#[c]⟩), some (.str y), v4]) ∧ Kp p H H' ∧ H' p = some (.dK (kvOf ((List.range k).foldl (fun t k => setd t ((dg b c).take k) []) t0))) ∧ ((List.range k).foldl (fun t k => setd t ((dg b c).take k) []) t0).length ≤ 10 * i + k) ⟨⟨_, rfl⟩, kp, hd, hlen⟩ ?_ ?_
      · rintro k σ H3 hk ⟨⟨v5, rfl⟩, kp3, hd3, hl3⟩
        have hk2 : k ≤ (tl y).length := by rw [hy]; omega
        have cl := cutS_take y k hk2
        rw [hy] at cl
        rw [List.range_succ, List.foldl_append]
        simp only [List.foldl_cons, List.foldl_nil]
        generalize (List.range k).foldl (fun t k => setd t ((dg b c).take k) []) t0 = t1 at *
        simp only [Int.zero_add]
        have yok : y.length ≤ sizeLine := by unfold sizeLine; omega
        walk_at "rds"
        refine ⟨.inl ⟨_, .inl hd3⟩, ?_⟩
        walk_at "rds"
        have el : V.str (cutS y none (some (k : Int))) = kV (key ((dg b c).take k)) := by rw [Num.key_of, cl]
        have kl : (kvOf t1).length = t1.length := by unfold kvOf; rw [List.length_map]
        refine ⟨p, _, key ((dg b c).take k), .str "", rfl, by rw [el], hd3, by rw [kl]; unfold sizeLine; omega, fun u hu => ?_, fun hn => ?_⟩
        · exact ⟨⟨_, rfl⟩, kp3, by rw [setd_yes hu]; exact hd3, by rw [setd_yes hu]; omega⟩
        · exact ⟨⟨_, rfl⟩, kp3.upd, by rw [upd_same, setd_no hn], Nat.le_trans (setd_len _ _ _) (by omega)⟩
      · rintro σ H3 ⟨⟨v5, rfl⟩, kp3, hd3, hl3⟩
        walk_at "rds"
        have ey : V.str y = kV (key (dg b c)) := by rw [Num.key_of, hy]
        have ek : ((y.length : Nat) : Int).toNat = (dg b c).length := by rw [yl]; rfl
        rw [ek] at hd3 hl3
        generalize ht1 : (List.range (dg b c).length).foldl (fun t k => setd t ((dg b c).take k) []) t0 = t1 at *
        have kl : (kvOf t1).length = t1.length := by unfold kvOf; rw [List.length_map]
        refine ⟨p, _, rfl, .inl ⟨_, key (dg b c), hd3, ey, by rw [kl]; unfold sizeLine; omega, rfl⟩, ?_⟩
        have ea : (codes.take (i + 1)).foldl (add b) [] = put t1 (dg b c) [c] := by
          rw [etk, List.foldl_append, ht0, ← ht1]
          rfl
        refine ⟨⟨_, _, _, rfl⟩, kp3.upd, ?_, ?_⟩
        · rw [upd_same, ea, ← kv_put]
        · rw [ea]
          exact Nat.le_trans (put_len _ _ _) (by omega)
    · rintro σ H1 ⟨⟨v2, v3, v4, rfl⟩, kp, hd, hlen⟩
      walk_at "rds"
      refine q p H1 hp (kp.same hp) ?_
      rw [hd, ss]
      rfl

theorem ok__law_five (T : Tx P w K mg base) : FnOk P w K mg base CX0 1 T.d__law_five.f T.d__law_five.fd [] sp__law_five := by
  have sc := sc__law_five
  refine T.d__law_five.F.ok sc (fun vs H Q E h => ?_) (fun cdv A outer s H vs Q E hr h => ?_)
  · obtain ⟨rfl, q⟩ := h
    rfl
  · obtain ⟨rfl, q⟩ := h
    refine ⟨_, (pss_one (ps_ret (pe_lst (pa_cons (pe_tup (pa_cons pe_str (pa_cons pe_str pa_nil))) (pa_cons (pe_tup (pa_cons pe_str (pa_cons pe_str pa_nil))) (pa_cons (pe_tup (pa_cons pe_str (pa_cons pe_str pa_nil))) (pa_cons (pe_tup (pa_cons pe_str (pa_cons pe_str pa_nil))) (pa_cons (pe_tup (pa_cons pe_str (pa_cons pe_str pa_nil))) pa_nil)))))))), ?_⟩
    walk_at "rds"
    intro p0 h0
    walk_at "rds"
    intro p1 h1
    walk_at "rds"
    intro p2 h2
    walk_at "rds"
    intro p3 h3
    walk_at "rds"
    intro p4 h4
    walk_at "rds"
    intro p5 h5
    refine q p5 [p0, p1, p2, p3, p4] _ (by walk_at "fr") ⟨upd_same, rfl, fun i t ht => ?_⟩
    match i, ht with
    | 0, ht => obtain rfl := Option.some.inj ht; show _ = some (HO.tup [.str "amp", .str "&"]); walk_at "lk"
    | 1, ht => obtain rfl := Option.some.inj ht; show _ = some (HO.tup [.str "apos", .str "'"]); walk_at "lk"
    | 2, ht => obtain rfl := Option.some.inj ht; show _ = some (HO.tup [.str "gt", .str ">"]); walk_at "lk"
    | 3, ht => obtain rfl := Option.some.inj ht; show _ = some (HO.tup [.str "lt", .str "<"]); walk_at "lk"
    | 4, ht => obtain rfl := Option.some.inj ht; show _ = some (HO.tup [.str "quot", .str "\""]); walk_at "lk"
    | n + 5, ht => cases ht

theorem ok__law_digits (T : Tx P w K mg base) : FnOk P w K mg base CX0 1 T.d__law_digits.f T.d__law_digits.fd ["code", "radix"] sp__law_digits := by
  have sc := sc__law_digits
  refine T.d__law_digits.F.ok sc (fun vs H Q E h => ?_) (fun cdv A outer s H vs Q E hr h => ?_)
  · obtain ⟨n, b, rfl, hb, hn, q⟩ := h
    rfl
  · obtain ⟨n, b, rfl, hb, hn, q⟩ := h
    refine ⟨_, (pss_cons (ps_set (i := 2) sc.nd rfl (Or.inl rfl) (pe_ix ix_str pe_str (pe_op op_mod (pe_callTy call_int1 (by rfl) T.n_int (by decide +kernel) (pa_cons (pv 0) pa_nil)) (pv 1)) (fun _ _ => rfl)))
      (pss_cons (ps_while PassesOwn.never (pt_cmpR op_ge (pv 0) (pv 1) (nomark _)) (pss_cons (ps_set (i := 0) sc.nd rfl (Or.inl rfl) (pe_op op_fdiv (pv 0) (pv 1)))
      (pss_one (ps_set (i := 2) sc.nd rfl (Or.inl rfl) (pe_op op_add_str (pe_ix ix_str pe_str (pe_op op_mod (pe_callTy call_int1 (by rfl) T.n_int (by decide +kernel) (pa_cons (pv 0) pa_nil)) (pv 1)) (fun _ _ => rfl)) (pv 2))))))
      (pss_one (ps_ret (pv 2))))), ?_⟩
    have hb0 : 10 ≤ b ∧ b ≤ 16 := by rcases hb with rfl | rfl <;> decide
    have em : ∀ k : Nat, ((k : Int) % (b : Int)) = ((k % b : Nat) : Int) := fun k => (Int.natCast_emod _ _).symm
    have ed : ∀ k : Nat, ((k : Int) / (b : Int)) = ((k / b : Nat) : Int) := fun k => (Int.natCast_ediv _ _).symm
    have ha : ∀ k : Nat, atI ("0123456789abcdef" : Str).cps.toList ((k : Int) % (b : Int)) = some (hexc (k % b)) := fun k => by
      rw [em]
      exact hex_at _ (Nat.lt_of_lt_of_le (Nat.mod_lt _ (by omega)) hb0.2)
    have hb1 := ha n
    have one : ∀ c : Nat, (⟨#[c]⟩ : Str).length = 1 := fun _ => rfl
    walk_at "rds"
    refine ⟨fun m σ H' => ∃ (k : Nat) (y : Str), m = k ∧ H' = H ∧ σ = [some (.int (k : Int)), some (.int (b : Int)), some (.str y)] ∧ k < 131 ∧ dg b n = pre_ b k ++ tl y ∧ (tl y).length + k ≤ 131, ⟨_, n, ⟨#[hexc (n % b)]⟩, rfl, rfl, rfl, hn, dg_eq hb hn, by show 1 + n ≤ 131; omega⟩, ?_⟩
    rintro m σ H' ⟨k, y, rfl, rfl, rfl, hk, hd, hy⟩
    have yl : y.length = (tl y).length := len_tl y
    by_cases hlt : b ≤ m
    · have hdv : m / b < m := Nat.div_lt_self (by omega) (by omega)
      have hb2 : atI ("0123456789abcdef" : Str).cps.toList (((m : Int) / (b : Int)) % (b : Int)) = some (hexc (m / b % b)) := by rw [ed]; exact ha (m / b)
      have zok : (⟨#[hexc (m / b % b)]⟩ : Str).length + y.length ≤ sizeLine := by rw [one, yl]; unfold sizeLine; omega
      walk_at "rds"
      refine ⟨fun σ' H2 => H2 = H' ∧ σ' = [some (.int ((m / b : Nat) : Int)), some (.int (b : Int)), some (.str (⟨#[hexc (m / b % b)]⟩ ++ y))], ?_, ?_⟩
      · rintro σ' H2 ⟨rfl, rfl⟩
        refine ⟨m / b, hdv, m / b, _, rfl, rfl, rfl, by omega, ?_, ?_⟩
        · rw [tl_append, hd]
          unfold pre_
          rw [if_pos hlt]
          rw [dg_eq hb (by omega : m / b < 131), List.append_assoc]
          rfl
        · rw [tl_append, List.length_append]
          show 1 + _ + _ ≤ 131
          omega
      · walk_at "rds"
        show [some (V.int ((m : Int) / (b : Int))), _, _] = _
        rw [ed]
    · walk_at "rds"
      refine q y ?_
      rw [hd]
      unfold pre_
      rw [if_neg hlt]
      rfl
end
end K7

set_option maxHeartbeats 1000000
set_option pp.maxSteps 700
set_option pp.deepTerms false
set_option pp.deepTerms.threshold 14
namespace K7
open PySem PySem.Spec PyProof.Rows L2 Mx
/-! ### the law's own reader -/
open TL Num
/-- the two tables -/
def Tabs2 (H : Hp) (a : Addr) : Prop := ∃ d1 d2, H a = some (.lst [.ref d1, .ref d2]) ∧ H d1 = some (.dK (kvOf (tab 10))) ∧ H d2 = some (.dK (kvOf (tab 16)))
theorem Tabs2.same {H H' : Hp} {a : Addr} (h : Tabs2 H a) (s : Same H H') : Tabs2 H' a := let ⟨d1, d2, h1, h2, h3⟩ := h; ⟨d1, d2, s _ _ h1, s _ _ h2, s _ _ h3⟩
/-- the law's answer: a new pair, or an index -/
def Ans (r : Res) (H : Hp) (Q : VK) : Prop := match r with
  | .ok e c => ∀ H' p, Same H H' → H' p = none → Q (.ref p) (upd H' p (.tup [.int (e : Int), .str ⟨#[c]⟩]))
  | .ill i => ∀ H', Same H H' → Q (.int (i : Int)) H'
theorem Ans.ok {e c : Nat} {H : Hp} {Q : VK} (h : Ans (.ok e c) H Q) : ∀ H' p, Same H H' → H' p = none → Q (.ref p) (upd H' p (.tup [.int (e : Int), .str ⟨#[c]⟩])) := h
theorem Ans.ill {i : Nat} {H : Hp} {Q : VK} (h : Ans (.ill i) H Q) : ∀ H', Same H H' → Q (.int (i : Int)) H' := h
def sp__law_number_end : Sp := fun vs H Q _ => ∃ (z : Str) (bg : Nat) (a : Addr), vs = [.str z, .int (bg : Int), .ref a] ∧ W4 z ∧ bg ≤ (tl z).length ∧ Tabs2 H a ∧ Ans (numAt (tl z) bg) H Q
def sp__law_reference_end : Sp := fun vs H Q _ => ∃ (z : Str) (bg : Nat) (a : Addr), vs = [.str z, .int (bg : Int), .ref a] ∧ W4 z ∧ bg < (tl z).length ∧ Tabs2 H a ∧ Ans (refAt (tl z) bg) H Q
theorem dget_tab {b : Nat} (hb : Base b) {H : Hp} {d : Addr} (hd : H d = some (.dK (kvOf (tab b)))) {x : Str} (hx : has (tab b) (tl x) = true) : DGet H d (.str x) (some (.str (toS (chr b (tl x)).toList))) :=
  .inl ⟨_, key (tl x), .inl hd, key_of x, by rw [kv_val, get_yes hb hx]; rfl⟩
theorem cutS_front (z : Str) (i : Nat) : tl (cutS z none (some (i : Int))) = (tl z).take i := by
  show (((z.cps.toList.drop (HT.sIx z.length 0 none)).take (HT.sIx z.length z.length (some (i : Int)) - HT.sIx z.length 0 none)).toArray).toList = _
  have e0 : HT.sIx z.length 0 none = 0 := rfl
  have l := len_tl z
  rw [HT.sIx_nat, e0, List.drop_zero, Nat.sub_zero]
  show z.cps.toList.take _ = _
  by_cases h : i ≤ z.length
  · rw [Nat.min_eq_left h]
  · rw [Nat.min_eq_right (by omega), List.take_of_length_le (by show (tl z).length ≤ _; omega), List.take_of_length_le (by show (tl z).length ≤ _; omega)]
theorem lnum_end {b : Nat} {w : List Nat} {i : Nat} : lnum b w [] i = .ill i := by unfold lnum; rfl
theorem lnum_59 {b : Nat} {w l : List Nat} {i : Nat} : lnum b w (59 :: l) i = (match chr b w with | some x => .ok (i + 1) x | none => .ill i) := by
  rw [lnum]
  exact if_pos rfl
theorem lnum_0 {b c : Nat} {w l : List Nat} {i : Nat} (h : c ≠ 59) (h0 : low c = 48 ∧ w = []) : lnum b w (c :: l) i = lnum b w l (i + 1) := by
  rw [lnum]
  rw [if_neg h, if_pos h0]
theorem lnum_on {b c : Nat} {w l : List Nat} {i : Nat} (h : c ≠ 59) (h0 : ¬ (low c = 48 ∧ w = [])) (hh : has (tab b) (w ++ [low c]) = true) : lnum b w (c :: l) i = lnum b (w ++ [low c]) l (i + 1) := by
  rw [lnum]
  rw [if_neg h, if_neg h0, if_pos hh]
theorem lnum_no {b c : Nat} {w l : List Nat} {i : Nat} (h : c ≠ 59) (h0 : ¬ (low c = 48 ∧ w = [])) (hh : has (tab b) (w ++ [low c]) = false) : lnum b w (c :: l) i = .ill i := by
  rw [lnum]
  rw [if_neg h, if_neg h0, if_neg (by rw [hh]; decide)]

local macro_rules | `(tactic| walk_at "sz") => `(tactic| first | assumption | decide | omega | (unfold sizeLine; omega) | exact Nat.le_of_ble_eq_true rfl)
local macro_rules | `(tactic| walk_at "hp") => `(tactic| (first | assumption | exact upd_same | (rw [upd_ne (by assumption)]; assumption)))
local macro_rules | `(tactic| walk_at "rd") => `(tactic| (first
  | refine ⟨_, rfl, ?_⟩
  | (refine ⟨_, _, rfl, rfl, ?rdc, ?_⟩; (case rdc => first | (show (0 : Int) < _; omega) | (exact ⟨by omega, by omega⟩) | (exact .inl ⟨by omega, by omega⟩) | (exact .inr ⟨by omega, by omega⟩) | exact ⟨by decide, by decide, by decide⟩))
  | refine ⟨_, _, rfl, rfl, ?_⟩
  | refine .inl ⟨_, rfl, ?_⟩
  | refine ⟨rfl, ?_⟩
  | refine ⟨⟨_, rfl⟩, ?_⟩
  | refine ⟨⟨_, SqL.of (by walk_at "hp")⟩, ?_⟩
  | refine ⟨_, _, _, _, rfl, rfl, SqL.of (by walk_at "hp"), (by rfl), ?_⟩
  | refine ⟨_, _, _, _, rfl, rfl, (by walk_at "hp"), (by rfl), ?_⟩
  | refine ⟨_, _, rfl, ⟨by walk_at "sz", rfl⟩, ?_⟩
  | refine ⟨_, _, _, rfl, rfl, by walk_at "sz", by assumption, ?_⟩
  | refine And.intro (by walk_at "sz") ?_
  | refine itT rfl ?_
  | refine itF rfl ?_
  | refine itT (by assumption) ?_
  | refine itF (by assumption) ?_
  | refine itT (decide_eq_true (by omega)) ?_
  | refine itF (decide_eq_false (by omega)) ?_
  | refine itT (dVi (by omega)) ?_
  | refine itF (dViN (by omega)) ?_
  | refine itT (notT (by assumption)) ?_
  | refine itF (notF (by assumption)) ?_
  | refine itT (notT (dViN (by omega))) ?_
  | refine itF (notF (dVi (by omega))) ?_
  | refine itT (decide_eq_true rfl) ?_
  | refine itF (notF (decide_eq_true rfl)) ?_
  | refine ite2 (fun _ => ?_) (fun _ => ?_)
  | with_reducible refine tC_ ?_
  | with_reducible refine tNext_ ?_
  | with_reducible refine tNil_ ?_
  | with_reducible refine tYes_ ?_))
local macro_rules | `(tactic| walk_at "rds") => `(tactic| repeat' (walk_at "rd"))
section
variable {P : Program} {w : World} {K : PySem.W.Frag} {mg : Str → Option Value} {base : Heap}

local macro_rules | `(tactic| walk_at "lk") => `(tactic| first
  | with_reducible assumption
  | with_reducible exact upd_same
  | (walk_at "lk1"; walk_at "lk")
  | fail "lk")
local macro_rules | `(tactic| walk_at "lk1") => `(tactic| first
  | ((with_reducible refine' lk_new ?a1 ?a2); (case a1 => with_reducible assumption); (case' a2 => skip))
  | ((with_reducible refine' lk_ne ?a1 ?a2); (case a1 => with_reducible assumption); (case' a2 => skip))
  | ((with_reducible refine' lk_neN ?a1 ?a2 ?a3); (case a1 => with_reducible assumption); (case a2 => walk_at "lk"); (case' a3 => skip))
  | ((with_reducible refine' lk_neN' ?a1 ?a2 ?a3); (case a1 => with_reducible assumption); (case a2 => walk_at "lk"); (case' a3 => skip))
  | ((with_reducible refine' lk_same ?a1 ?a2); (case a1 => with_reducible assumption); (case' a2 => skip))
  | ((with_reducible refine' lk_go ?a1 ?a2 ?a3); (case a1 => with_reducible assumption); (case a2 => walk_at "nt"); (case' a3 => skip))
  | ((with_reducible refine' lk_kp_nl ?a1 ?a2 ?a3 ?a4); (case a1 => with_reducible assumption); (case a2 => walk_at "st"); (case a3 => walk_at "nl"); (case' a4 => skip))
  | ((with_reducible refine' lk_kp ?a1 ?a2 ?a3); (case a1 => with_reducible assumption); (case a2 => walk_at "ne"); (case' a3 => skip))
  | fail "lk1")
local macro_rules | `(tactic| walk_at "nt") => `(tactic| first
  | (intro _ z; cases z)
  | fail "nt")
local macro_rules | `(tactic| walk_at "nl") => `(tactic| first
  | (intro _ z; cases z)
  | fail "nl")
local macro_rules | `(tactic| walk_at "ne") => `(tactic| first
  | with_reducible assumption
  | ((with_reducible refine' ne_st ?a1 ?a2); (case a1 => with_reducible assumption); (case a2 => walk_at "st"))
  | fail "ne")
local macro_rules | `(tactic| walk_at "st") => `(tactic| first
  | with_reducible assumption
  | with_reducible exact st_new (by with_reducible assumption) (by walk_at "st")
  | with_reducible exact st_same (by with_reducible assumption) (by walk_at "st")
  | with_reducible exact st_go (by with_reducible assumption) (by walk_at "st")
  | with_reducible exact st_ne (by walk_at "ns") (by walk_at "st")
  | fail "st")
local macro_rules | `(tactic| walk_at "ns") => `(tactic| first
  | with_reducible assumption
  | with_reducible exact Ne.symm (by with_reducible assumption)
  | with_reducible exact Ne.symm (ne_st (by with_reducible assumption) (by walk_at "st"))
  | fail "ns")
local macro_rules | `(tactic| walk_at "fr") => `(tactic| first
  | with_reducible assumption
  | with_reducible exact Same.refl _
  | with_reducible exact Go.refl _ _
  | with_reducible exact Kp.refl _ _
  | with_reducible exact LamX.ExtN.refl _
  | with_reducible exact nw_refl
  | (walk_at "fr1"; walk_at "fr")
  | fail "fr")
local macro_rules | `(tactic| walk_at "fr1") => `(tactic| first
  | ((with_reducible refine' fr_new ?a1 ?a2); (case a1 => with_reducible assumption); (case' a2 => skip))
  | ((with_reducible refine' go_new ?a1 ?a2); (case a1 => with_reducible assumption); (case' a2 => skip))
  | ((with_reducible refine' kp_new ?a1 ?a2); (case a1 => with_reducible assumption); (case' a2 => skip))
  | ((with_reducible refine' fr_same ?a1 ?a2); (case a1 => with_reducible assumption); (case' a2 => skip))
  | ((with_reducible refine' go_same ?a1 ?a2); (case a1 => with_reducible assumption); (case' a2 => skip))
  | ((with_reducible refine' kp_same ?a1 ?a2); (case a1 => with_reducible assumption); (case' a2 => skip))
  | ((with_reducible refine' go_go ?a1 ?a2); (case a1 => with_reducible assumption); (case' a2 => skip))
  | ((with_reducible refine' go_kp ?a1 ?a2 ?a3 ?a4); (case a1 => with_reducible assumption); (case a2 => with_reducible assumption); (case a3 => walk_at "st"); (case' a4 => skip))
  | ((with_reducible refine' kp_kp ?a1 ?a2); (case a1 => with_reducible assumption); (case' a2 => skip))
  | ((with_reducible refine' kp_upd ?a1); (case' a1 => skip))
  | ((with_reducible refine' go_set2 ?a1 ?a2 ?a3 ?a4); (case a1 => walk_at "lk"); (case a2 => with_reducible assumption); (case a3 => walk_at "fr"); (case' a4 => skip))
  | ((with_reducible refine' fr_set2 ?a1 ?a2 ?a3); (case a1 => with_reducible assumption); (case a2 => walk_at "fr"); (case' a3 => skip))
  | ((with_reducible refine' en_new ?a1 ?a2); (case a1 => with_reducible assumption); (case' a2 => skip))
  | ((with_reducible refine' en_same ?a1 ?a2); (case a1 => with_reducible assumption); (case' a2 => skip))
  | ((with_reducible refine' en_go ?a1 ?a2); (case a1 => with_reducible assumption); (case' a2 => skip))
  | ((with_reducible refine' en_set2 ?a1 ?a2 ?a3); (case a1 => with_reducible assumption); (case a2 => walk_at "fr"); (case' a3 => skip))
  | ((with_reducible refine' en_kp ?a1 ?a2 ?a3 ?a4); (case a1 => with_reducible assumption); (case a2 => with_reducible assumption); (case a3 => walk_at "fr"); (case' a4 => skip))
  | ((with_reducible refine' nw_new ?a1 ?a2); (case a1 => with_reducible assumption); (case' a2 => skip))
  | ((with_reducible refine' nw_same ?a1 ?a2); (case a1 => with_reducible assumption); (case' a2 => skip))
  | ((with_reducible refine' nw_go ?a1 ?a2); (case a1 => with_reducible assumption); (case' a2 => skip))
  | ((with_reducible refine' nw_kp ?a1 ?a2 ?a3); (case a1 => with_reducible assumption); (case a2 => walk_at "st"); (case' a3 => skip))
  | ((with_reducible refine' nw_set ?a1 ?a2); (case a1 => walk_at "lk"); (case' a2 => skip))
  | ((with_reducible refine' nw_set2 ?a1 ?a2 ?a3); (case a1 => with_reducible assumption); (case a2 => walk_at "fr"); (case' a3 => skip))
  | fail "fr1")
local macro_rules | `(tactic| walk_at "tb") => `(tactic| first
  | with_reducible assumption
  | (walk_at "tb1"; walk_at "tb")
  | fail "tb")
local macro_rules | `(tactic| walk_at "tb1") => `(tactic| first
  | ((with_reducible refine' tabs_new ?a1 ?a2); (case a1 => with_reducible assumption); (case' a2 => skip))
  | ((with_reducible refine' tabs_same ?a1 ?a2); (case a1 => with_reducible assumption); (case' a2 => skip))
  | ((with_reducible refine' tabs_go ?a1 ?a2); (case a1 => with_reducible assumption); (case' a2 => skip))
  | ((with_reducible refine' tabs_kp ?a1 ?a2 ?a3); (case a1 => with_reducible assumption); (case a2 => walk_at "st"); (case' a3 => skip))
  | ((with_reducible refine' tabs_set ?a1 ?a2); (case a1 => walk_at "lk"); (case' a2 => skip))
  | fail "tb1")
local macro_rules | `(tactic| walk_at "dg") => `(tactic| first
  | assumption
  | (refine' dp_ext ?a1 ?a2; (case a1 => assumption); (case a2 => walk_at "fr"))
  | (refine' dn_use ?a1 ?a2; (case a1 => assumption); (case a2 => walk_at "fr"))
  | fail "dg")
local macro_rules | `(tactic| walk_at "dp") => `(tactic| first
  | assumption
  | exact .str _
  | exact .int _
  | exact .bl _
  | exact .non
  | (refine' Dp.lst (SqL.of ?a1) ?a2; (case a1 => walk_at "lk"); (case a2 => walk_at "dpa"))
  | (refine' Dp.tup (SqT.of ?a1) ?a2; (case a1 => walk_at "lk"); (case a2 => walk_at "dpa"))
  | (walk_at "dg")
  | fail "dp")
local macro_rules | `(tactic| walk_at "dpa") => `(tactic| first
  | assumption
  | exact .nil
  | (refine' DpAll.cons ?a1 ?a2; (case a1 => walk_at "dp"); (case a2 => walk_at "dpa"))
  | fail "dpa")
local macro_rules | `(tactic| walk_at "dx") => `(tactic| first
  | assumption
  | exact .str _
  | exact .int _
  | exact .bl _
  | exact .non
  | (refine' Dx.lst (SqL.of ?a1) ?a2; (case a1 => walk_at "lk"); (case a2 => walk_at "dxa"))
  | (refine' Dx.tup (SqT.of ?a1) ?a2; (case a1 => walk_at "lk"); (case a2 => walk_at "dxa"))
  | (refine' Dx.dct (.inl ?a1) ?a2; (case a1 => walk_at "lk"); (case a2 => exact .nil))
  | (refine' dx_ext ?a1 ?a2; (case a1 => assumption); (case a2 => walk_at "fr"))
  | fail "dx")
local macro_rules | `(tactic| walk_at "dxa") => `(tactic| first
  | assumption
  | exact .nil
  | (refine' DxAll.cons ?a1 ?a2; (case a1 => walk_at "dx"); (case a2 => walk_at "dxa"))
  | fail "dxa")
local macro_rules | `(tactic| walk_at "ty") => `(tactic| first
  | assumption
  | (refine' ty_ext ?a1 ?a2; (case a1 => assumption); (case a2 => walk_at "fr"))
  | fail "ty")
local macro_rules | `(tactic| walk_at "shp") => `(tactic| first
  | assumption
  | (simp only [SeqAt.shaped, lay_l, lay_t, lay_i, lay_b, lay_n, lay_c, lay_e, PyData.depth, PyData.depthAll, Bool.and_true, Bool.true_and, Bool.and_eq_true, decide_eq_true_eq]
     repeat' (first | assumption | (refine And.intro ?_ ?_) | (exact rfl) | (decide +kernel) | omega))
  | decide +kernel)
local macro_rules | `(tactic| walk_at "side") => `(tactic| first
  | assumption
  | (intros; trivial)
  | omega
  | (walk_at "lk")
  | (walk_at "st")
  | (walk_at "sz")
  | (walk_at "tb")
  | (walk_at "fr"))
local macro_rules | `(tactic| walk_at "cl") => `(tactic| ((repeat' (apply Exists.intro)); refine And.intro rfl ?_; repeat (refine And.intro (by walk_at "side") ?_)))
local macro_rules | `(tactic| walk_at "eqd") => `(tactic| (refine ⟨_, _, by walk_at "dp", by walk_at "dp", by walk_at "shp", by walk_at "shp", ?_⟩; rw [eqv_same (by walk_at "shp")]))
local macro_rules | `(tactic| walk_at "new") => `(tactic| refine fun (p : Addr) (hp : (_ : Hp) p = none) => ?_)
local macro_rules | `(tactic| walk_at "rdn") => `(tactic| (repeat' (first | walk_at "rd" | walk_at "new")))

theorem ok__law_number_end (T : Tx P w K mg base) : FnOk P w K mg base CX0 1 T.d__law_number_end.f T.d__law_number_end.fd ["raw_so", "at", "tables"] sp__law_number_end := by
  have sc := sc__law_number_end
  refine T.d__law_number_end.F.ok sc (fun vs H Q E h => ?_) (fun cdv A outer s H vs Q E hr h => ?_)
  · obtain ⟨z, bg, a, rfl, hz, hbg, ht, q⟩ := h
    rfl
  · obtain ⟨z, bg, a, rfl, hz, hbg, ht, q⟩ := h
    refine ⟨_, (pss_cons (ps_set (i := 3) sc.nd rfl (Or.inl rfl) (pe_cmpR op_eq (pe_slice sl_str (pv 0) (po_some (pv 1)) (po_some (pe_op op_add (pv 1) pe_int))) pe_str (nomark _)))
      (pss_cons (ps_par3 (i := 4) (j := 5) (l := 6) (by rfl) sc.nd rfl rfl rfl (by decide) (by decide) (by decide) rfl rfl rfl (pa_cons (pe_ix ix_list (pv 2) (pe_ifExp (pt_val (pv 3)) pe_int pe_int) (fun _ _ => rfl)) (pa_cons (pe_ifExp (pt_val (pv 3)) (pe_op op_add (pv 1) pe_int) (pv 1)) (pa_cons pe_str pa_nil))) (by rfl))
      (pss_cons (ps_while PassesOwn.never (pt_cmpR op_lt (pv 5) (pe_callB call_len (by rfl) T.n_len PySem.boot_len (pa_cons (pv 0) pa_nil)) (nomark _)) (pss_cons (ps_set (i := 7) sc.nd rfl (Or.inl rfl) (pe_ix ix_str (pv 0) (pv 5) (fun _ _ => rfl)))
      (pss_cons (ps_set (i := 8) sc.nd rfl (Or.inl rfl) (pe_lower (pv 6)))
      (pss_cons (ps_while PassesOwn.never (pt_cmpR op_eq (pe_slice sl_str (pv 8) po_none (po_some pe_int)) pe_str (nomark _)) (pss_one (ps_set (i := 8) sc.nd rfl (Or.inl rfl) (pe_slice sl_str (pv 8) (po_some pe_int) po_none))))
      (pss_cons (ps_if (pt_cmpR op_eq (pv 7) pe_str (nomark _)) (pss_one (ps_ret (pe_ifExp (pt_cmpR op_ne (pe_dget (hu_of hr) (pv 4) (pv 8) (fun _ _ => rfl)) pe_str (nomark _)) (pe_tup (pa_cons (pe_op op_add (pv 5) pe_int) (pa_cons (pe_dget (hu_of hr) (pv 4) (pv 8) (fun _ _ => rfl)) pa_nil))) (pv 5)))) pss_nil)
      (pss_cons (ps_if (PW.pt (pw_or (pt_cmpR op_ne (pe_lower (pv 7)) pe_str (nomark _)) (pw_or1 (pt_cmpR op_ne (pv 8) pe_str (nomark _))))) (pss_one (ps_if (pt_cmp (pc_dnotin (hu_of hr) (pe_op op_add_str (pv 8) (pe_lower (pv 7))) (pv 4))) (pss_one (ps_ret (pv 5))) pss_nil)) pss_nil)
      (pss_one (ps_par (i := 6) (j := 5) (by rfl) sc.nd rfl rfl (by decide) rfl rfl (pa_cons (pe_op op_add_str (pv 6) (pv 7)) (pa_cons (pe_op op_add (pv 5) pe_int) pa_nil)) (by rfl)))))))))
      (pss_one (ps_ret (pe_callB call_len (by rfl) T.n_len PySem.boot_len (pa_cons (pv 0) pa_nil))))))), ?_⟩
    obtain ⟨d1, d2, ht, h1, h2⟩ := ht
    have zl : z.length = (tl z).length := len_tl z
    have z4 := hz.2
    have zok : z.length ≤ sizeLine := by rw [zl]; unfold sizeLine; omega
    have hcx : decide (V.str (cutS z (some (bg : Int)) (some ((bg : Int) + 1))) = V.str "x") = decide (((tl z).drop bg).head? = some 120) := by
      have q := cutS_over z bg (bg + 1) hbg
      rw [show bg + 1 - bg = 1 by omega] at q
      rw [strEq, show ((bg : Int) + 1) = ((bg + 1 : Nat) : Int) from rfl, q]
      exact take1 _ _
    refine tCut (R := fun σ' H' => H' = H ∧ σ' = [some (.str z), some (.int (bg : Int)), some (.ref a), some (.bl (decide (V.str (cutS z (some (bg : Int)) (some ((bg : Int) + 1))) = V.str "x"))), none, none, none, none, none]) ?_ (fun key => ?_)
    case refine_2 =>
      repeat' (first | exact key _ _ ⟨rfl, rfl⟩ | walk_at "rd")
    rintro σ0 H0 ⟨rfl, rfl⟩
    refine tCut (R := fun σ' H' => H' = H0 ∧ ∃ (b : Nat) (d : Addr) (s : Nat) (k : Bool), Base b ∧ H0 d = some (.dK (kvOf (tab b))) ∧ s ≤ (tl z).length ∧ numAt (tl z) bg = lnum b [] ((tl z).drop s) s ∧ σ' = [some (.str z), some (.int (bg : Int)), some (.ref a), some (.bl k), some (.ref d), some (.int (s : Int)), some (.str ""), none, none]) ?_ (fun key => ?_)
    case refine_2 =>
      by_cases hx : ((tl z).drop bg).head? = some 120
      · have hlt : bg < (tl z).length := by
          by_cases h : bg < (tl z).length
          · exact h
          · rw [List.drop_eq_nil_of_le (by omega)] at hx; cases hx
        rw [hcx, decide_eq_true hx]
        walk_at "rds"
        refine ⟨_, _, _, rfl, ?_⟩
        refine key _ _ ⟨rfl, 16, d2, bg + 1, true, .inr rfl, h2, hlt, ?_, rfl⟩
        have e := numAt_law (l := tl z) (bg := bg) (s := bg + 1) hlt (by unfold restOf; rw [if_pos hx, List.tail_drop])
        rw [e]
        unfold baseOf
        rw [if_pos hx]
      · rw [hcx, decide_eq_false hx]
        walk_at "rds"
        refine ⟨_, _, _, rfl, ?_⟩
        refine key _ _ ⟨rfl, 10, d1, bg, false, .inl rfl, h1, hbg, ?_, rfl⟩
        have e := numAt_law (l := tl z) (bg := bg) (s := bg) hbg (by unfold restOf; rw [if_neg hx])
        rw [e]
        unfold baseOf
        rw [if_neg hx]
    rintro σ0 H ⟨rfl, b, d, s0, kx, hb, hd, hs0, hnum, rfl⟩
    clear hcx h1 h2 ht
    rw [hnum] at q
    walk_at "rds"
    refine ⟨fun m σ H' => ∃ (s : Nat) (y : Str), m = (tl z).length - s ∧ H' = H ∧ (∃ v7 v8, σ = [some (.str z), some (.int (bg : Int)), some (.ref a), some (.bl kx), some (.ref d), some (.int (s : Int)), some (.str y), v7, v8]) ∧ s ≤ (tl z).length ∧ Asc y ∧ (tl y).length ≤ s ∧ has (tab b) (short (tl y)) = true ∧ Ans (lnum b (short (tl y)) ((tl z).drop s) s) H Q, ⟨_, s0, "", rfl, rfl, ⟨_, _, rfl⟩, hs0, (fun c hc => nomatch hc), Nat.zero_le _, has_nil hb, q⟩, ?_⟩
    clear q hnum
    rintro m σ H' ⟨s, y, rfl, rfl, ⟨v7, v8, rfl⟩, hs, hy, hyl, hh, q⟩
    have yl : y.length = (tl y).length := len_tl y
    have y5 : y.length ≤ 5592405 := by omega
    by_cases hlt : s < (tl z).length
    · have hg : (tl z)[s]? = some (tl z)[s] := List.getElem?_eq_getElem hlt
      have c8 : (tl z)[s] < 128 := hz.1 _ (List.getElem_mem hlt)
      rw [List.drop_eq_getElem_cons hlt] at q
      generalize (tl z)[s] = c at hg c8 q
      have hc2 : atI z.cps.toList ((s : Nat) : Int) = some c := atI_nat hg
      walk_at "rds"
      refine ⟨fun σ' H2 => ∃ y2 : Str, H2 = H' ∧ (∃ v7 v8, σ' = [some (.str z), some (.int (bg : Int)), some (.ref a), some (.bl kx), some (.ref d), some (.int ((s + 1 : Nat) : Int)), some (.str y2), v7, v8]) ∧ Asc y2 ∧ (tl y2).length ≤ s + 1 ∧ has (tab b) (short (tl y2)) = true ∧ Ans (lnum b (short (tl y2)) ((tl z).drop (s + 1)) (s + 1)) H' Q, ?_, ?_⟩
      · rintro σ' H2 ⟨y2, rfl, h1, h2, h3, h4, h5⟩
        exact ⟨_, by omega, s + 1, y2, rfl, rfl, h1, hlt, h2, h3, h4, h5⟩
      have one : ∀ c : Nat, (⟨#[c]⟩ : Str).length = 1 := fun _ => rfl
      have hsh : zer (tl (Txt.lower y)) = short (tl y) := by rw [tl_low hy]; rfl
      have hsl : (tl (Txt.lower y)).length = (tl y).length := by rw [tl_low hy, List.length_map]
      walk_at "rds"
      refine ⟨fun m σ H2 => ∃ x : Str, m = (tl x).length ∧ H2 = H' ∧ σ = [some (.str z), some (.int (bg : Int)), some (.ref a), some (.bl kx), some (.ref d), some (.int (s : Int)), some (.str y), some (.str ⟨#[c]⟩), some (.str x)] ∧ zer (tl x) = short (tl y) ∧ (tl x).length ≤ s, ⟨_, Txt.lower y, rfl, rfl, rfl, hsh, by omega⟩, ?_⟩
      rintro m σ H2 ⟨x, rfl, rfl, rfl, hx, hxl⟩
      have xl : x.length = (tl x).length := len_tl x
      have xok : x.length ≤ sizeLine := by rw [xl]; unfold sizeLine; omega
      have hc0 : decide (V.str (cutS x none (some 1)) = V.str "0") = decide ((tl x).head? = some 48) := by
        rw [strEq, show (1 : Int) = ((1 : Nat) : Int) from rfl, cutS_front]
        exact take1 _ _
      by_cases h48 : (tl x).head? = some 48
      · rw [decide_eq_true h48] at hc0
        obtain ⟨r, hr⟩ : ∃ r, tl x = 48 :: r := by
          cases h : tl x with
          | nil => rw [h] at h48; cases h48
          | cons a r => rw [h] at h48; exact ⟨r, by rw [Option.some.inj h48]⟩
        have hx1 : 1 ≤ (tl x).length := by rw [hr, List.length_cons]; omega
        have ct : tl (cutS x (some 1) none) = r := (cutS_tail x 1 hx1).trans (by rw [hr]; rfl)
        walk_at "rds"
        refine ⟨fun σ' H3 => H3 = H2 ∧ σ' = [some (.str z), some (.int (bg : Int)), some (.ref a), some (.bl kx), some (.ref d), some (.int (s : Int)), some (.str y), some (.str ⟨#[c]⟩), some (.str (cutS x (some 1) none))], ?_, ?_⟩
        · rintro σ' H3 ⟨rfl, rfl⟩
          refine ⟨_, ?_, cutS x (some 1) none, rfl, rfl, rfl, ?_, ?_⟩
          · rw [ct, hr, List.length_cons]; omega
          · rw [ct, ← hx, hr]; rfl
          · rw [hr, List.length_cons] at hxl; rw [ct]; omega
        walk_at "rds"
        rfl
      · rw [decide_eq_false h48] at hc0
        have hw : short (tl y) = tl x := by
          rw [← hx]
          cases h : tl x with
          | nil => rfl
          | cons a r =>
            rw [h] at h48
            exact zer_nz r fun e => h48 (by rw [e]; rfl)
        rw [hw] at q hh
        have d59 : decide (V.str ⟨#[c]⟩ = V.str ";") = decide (c = 59) := by
          rw [strEq]
          show decide ([c] = [59]) = _
          simp
        have hasc : Asc (⟨#[c]⟩ : Str) := fun e he => by
          have he : e ∈ [c] := he
          rw [List.mem_singleton.mp he]
          exact c8
        have l1 : tl (Txt.lower ⟨#[c]⟩) = [low c] := tl_low hasc
        have ll : (Txt.lower ⟨#[c]⟩).length = 1 := by rw [len_tl, l1]; rfl
        have s1 : x.length + (Txt.lower ⟨#[c]⟩).length ≤ sizeLine := by rw [ll]; unfold sizeLine; omega
        have s2 : y.length + (⟨#[c]⟩ : Str).length ≤ sizeLine := by rw [one]; unfold sizeLine; omega
        have c5 : (⟨#[c]⟩ : Str).length ≤ 5592405 := by rw [one]; decide
        have ty : tl (y ++ ⟨#[c]⟩) = tl y ++ [c] := tl_append _ _
        have hy2 : Asc (y ++ ⟨#[c]⟩) := fun e he => by
          have he : e ∈ tl (y ++ ⟨#[c]⟩) := he
          rw [ty] at he
          rcases List.mem_append.mp he with h | h
          · exact hy e h
          · exact hasc e h
        have hl2 : (tl (y ++ ⟨#[c]⟩)).length ≤ s + 1 := by rw [ty, List.length_append]; show (tl y).length + 1 ≤ _; omega
        have hs2 := short_snoc (tl y) c
        rw [hw] at hs2
        by_cases h59 : c = 59
        · rw [decide_eq_true h59] at d59
          rw [h59, lnum_59] at q
          cases hchr : chr b (tl x) with
          | some v =>
            rw [hchr] at q
            have g := dget_tab hb hd hh
            rw [hchr] at g
            have hne : decide (V.str (toS [v]) = V.str "") = false := by rw [empty_eq, tl_toS]; rfl
            walk_at "rds"
            refine ⟨d, _, rfl, g, ?_⟩
            walk_at "rds"
            refine ⟨d, _, rfl, g, ?_⟩
            walk_at "rds"
            intro p hp
            exact q.ok _ p (Same.refl _) hp
          | none =>
            rw [hchr] at q
            have g := dget_tab hb hd hh
            rw [hchr] at g
            have hne : decide (V.str (toS []) = V.str "") = true := by rw [empty_eq, tl_toS]; rfl
            walk_at "rds"
            refine ⟨d, _, rfl, g, ?_⟩
            walk_at "rds"
            exact q.ill _ (Same.refl _)
        · rw [decide_eq_false h59] at d59
          have dl : decide (V.str (Txt.lower ⟨#[c]⟩) = V.str "0") = decide (low c = 48) := by
            rw [zero_eq, l1]
            simp
          have dx := empty_eq x
          by_cases h0 : low c = 48 ∧ tl x = []
          · rw [decide_eq_true h0.1] at dl
            rw [decide_eq_true h0.2] at dx
            rw [if_pos h0] at hs2
            rw [lnum_0 h59 h0] at q
            walk_at "rds"
            refine ⟨_, _, rfl, ?_⟩
            refine ⟨y ++ ⟨#[c]⟩, rfl, ⟨_, _, rfl⟩, hy2, hl2, ?_, ?_⟩
            · rw [ty, hs2]; exact has_nil hb
            · rw [ty, hs2]; rw [h0.2] at q; exact q
          · rw [if_neg h0] at hs2
            have tk : tl (x ++ Txt.lower ⟨#[c]⟩) = tl x ++ [low c] := by rw [tl_append, l1]
            by_cases h48c : low c = 48
            · have h2 : tl x ≠ [] := fun e => h0 ⟨h48c, e⟩
              rw [decide_eq_true h48c] at dl
              rw [decide_eq_false h2] at dx
              walk_at "rds"
              refine ⟨d, valV (kvOf (tab b)) (key (tl (x ++ Txt.lower ⟨#[c]⟩))), rfl, .inl ⟨_, _, .inl hd, key_of _, rfl⟩, ?_⟩
              show ∃ c, V.bl (!(valV _ _).isSome) = V.bl c ∧ _
              rw [has_val, tk]
              refine ⟨_, rfl, ?_⟩
              cases hk : has (tab b) (tl x ++ [low c]) with
              | true =>
                rw [lnum_on h59 h0 hk] at q
                walk_at "rds"
                refine ⟨_, _, rfl, ?_⟩
                refine ⟨y ++ ⟨#[c]⟩, rfl, ⟨_, _, rfl⟩, hy2, hl2, ?_, ?_⟩
                · rw [ty, hs2]; exact hk
                · rw [ty, hs2]; exact q
              | false =>
                rw [lnum_no h59 h0 hk] at q
                walk_at "rds"
                exact q.ill _ (Same.refl _)
            · rw [decide_eq_false h48c] at dl
              walk_at "rds"
              refine ⟨d, valV (kvOf (tab b)) (key (tl (x ++ Txt.lower ⟨#[c]⟩))), rfl, .inl ⟨_, _, .inl hd, key_of _, rfl⟩, ?_⟩
              show ∃ c, V.bl (!(valV _ _).isSome) = V.bl c ∧ _
              rw [has_val, tk]
              refine ⟨_, rfl, ?_⟩
              cases hk : has (tab b) (tl x ++ [low c]) with
              | true =>
                rw [lnum_on h59 h0 hk] at q
                walk_at "rds"
                refine ⟨_, _, rfl, ?_⟩
                refine ⟨y ++ ⟨#[c]⟩, rfl, ⟨_, _, rfl⟩, hy2, hl2, ?_, ?_⟩
                · rw [ty, hs2]; exact hk
                · rw [ty, hs2]; exact q
              | false =>
                rw [lnum_no h59 h0 hk] at q
                walk_at "rds"
                exact q.ill _ (Same.refl _)
    · have es : s = (tl z).length := by omega
      rw [es, List.drop_length, lnum_end] at q
      walk_at "rds"
      rw [zl]
      exact q _ (Same.refl _)

end
end K7

set_option maxHeartbeats 1000000
set_option pp.maxSteps 700
set_option pp.deepTerms false
set_option pp.deepTerms.threshold 14
namespace K7
open PySem PySem.Spec PyProof.Rows L2 Mx
open TL Num
def dat5 (i : Nat) : PyData := .tuple [.str (toS (fiveL.getD i ([], 0)).1), .str ⟨#[(fiveL.getD i ([], 0)).2]⟩]
theorem dat5_ok : ∀ i < 5, PyData.canLay0 (dat5 i) = true ∧ (dat5 i).depth ≤ 1 := by decide +kernel
theorem shaped5 : ∀ l : List Nat, (∀ i ∈ l, i < 5) → PyData.canLayAll0 (l.map dat5) = true ∧ PyData.depthAll (l.map dat5) ≤ 1 := by
  intro l
  induction l with
  | nil => intro _; exact ⟨rfl, Nat.zero_le _⟩
  | cons i l ih =>
    intro h
    obtain ⟨h1, h2⟩ := dat5_ok i (h i List.mem_cons_self)
    obtain ⟨h3, h4⟩ := ih fun j hj => h j (List.mem_cons_of_mem _ hj)
    refine ⟨?_, ?_⟩
    · show (PyData.canLay0 (dat5 i) && PyData.canLayAll0 (l.map dat5)) = true
      rw [h1, h3]
      rfl
    · show max _ (PyData.depthAll (l.map dat5)) ≤ 1
      exact Nat.max_le.mpr ⟨h2, h4⟩
theorem shaped5' (l : List Nat) (h : ∀ i ∈ l, i < 5) : SeqAt.shaped (.list (l.map dat5)) = true := by
  obtain ⟨h1, h2⟩ := shaped5 l h
  show (PyData.canLayAll0 _ && decide (PyData.depthAll _ + 1 ≤ 64)) = true
  rw [h1, Bool.true_and]
  exact decide_eq_true (by omega)
theorem dp5 {K : PySem.W.Frag} {H : Hp} {ts : List Addr} (h : ∀ i t, ts[i]? = some t → H t = some (.tup [.str (toS (fiveL.getD i ([], 0)).1), .str ⟨#[(fiveL.getD i ([], 0)).2]⟩])) (hl : ts.length = 5) : ∀ l : List Nat, (∀ i ∈ l, i < 5) → DpAll K H (l.map fun i => V.ref (ts.getD i 0)) (l.map dat5) := by
  intro l
  induction l with
  | nil => intro _; exact .nil
  | cons i l ih =>
    intro hi
    have h5 : i < ts.length := by rw [hl]; exact hi i List.mem_cons_self
    refine .cons (.tup (SqT.of (h i (ts.getD i 0) ?_)) (.cons (.str _) (.cons (.str _) .nil))) (ih fun j hj => hi j (List.mem_cons_of_mem _ hj))
    rw [List.getD_eq_getElem?_getD, List.getElem?_eq_getElem h5]
    rfl
def hitI (x : List Nat) : List Nat := (List.range 5).filter fun i => x.isPrefixOf ((fiveL.getD i ([], 0)).1 ++ [59])
theorem hitI_lt (x : List Nat) : ∀ i ∈ hitI x, i < 5 := fun i h => List.mem_range.mp (List.mem_filter.mp h).1
theorem lhit_I (x : List Nat) : lhit x = (hitI x).map fun i => fiveL.getD i ([], 0) := by
  have q := picked_filter fiveL ([], 0) (fun p : List Nat × Nat => x.isPrefixOf (p.1 ++ [59]))
  exact q.symm
theorem atI_last {l : List Nat} {c : Nat} : atI (l ++ [c]) (-1) = some c := by
  have e : ixN (l ++ [c]).length (-1) = some l.length := by
    unfold ixN
    rw [List.length_append, List.length_singleton, if_neg (by decide), if_pos (by omega)]
    congr 1
    omega
  unfold atI
  rw [e]
  show (l ++ [c])[l.length]? = some c
  simp
theorem atI_zero {α : Type} (a : α) (l : List α) : atI (a :: l) 0 = some a := by
  have e : ixN (a :: l).length 0 = some 0 := by
    unfold ixN
    rw [if_pos (Int.le_refl 0), if_pos (by rw [List.length_cons]; omega)]
    rfl
  unfold atI
  rw [e]
  rfl
theorem lref_end {w : List Nat} {i : Nat} : lref w [] i = .ill i := by unfold lref; rfl
theorem lref_cons {w l : List Nat} {c i : Nat} : lref w (c :: l) i = (match lhit (w ++ [c]) with
    | [] => .ill i
    | p :: _ => if c = 59 then .ok (i + 1) p.2 else lref (w ++ [c]) l (i + 1)) := by
  rw [lref]
  all_goals (cases lhit (w ++ [c]) <;> rfl)

local macro_rules | `(tactic| walk_at "sz") => `(tactic| first | assumption | decide | omega | (unfold sizeLine; omega) | exact Nat.le_of_ble_eq_true rfl)
local macro_rules | `(tactic| walk_at "hp") => `(tactic| (first | assumption | exact upd_same | (rw [upd_ne (by assumption)]; assumption)))
local macro_rules | `(tactic| walk_at "rd") => `(tactic| (first
  | refine ⟨_, rfl, ?_⟩
  | (refine ⟨_, _, rfl, rfl, ?rdc, ?_⟩; (case rdc => first | (show (0 : Int) < _; omega) | (exact ⟨by omega, by omega⟩) | (exact .inl ⟨by omega, by omega⟩) | (exact .inr ⟨by omega, by omega⟩) | exact ⟨by decide, by decide, by decide⟩))
  | refine ⟨_, _, rfl, rfl, ?_⟩
  | refine .inl ⟨_, rfl, ?_⟩
  | refine ⟨rfl, ?_⟩
  | refine ⟨⟨_, rfl⟩, ?_⟩
  | refine ⟨⟨_, SqL.of (by walk_at "hp")⟩, ?_⟩
  | refine ⟨_, _, _, _, rfl, rfl, SqL.of (by walk_at "hp"), (by rfl), ?_⟩
  | refine ⟨_, _, _, _, rfl, rfl, (by walk_at "hp"), (by rfl), ?_⟩
  | refine ⟨_, _, rfl, ⟨by walk_at "sz", rfl⟩, ?_⟩
  | refine ⟨_, _, _, rfl, rfl, by walk_at "sz", by assumption, ?_⟩
  | refine And.intro (by walk_at "sz") ?_
  | refine itT rfl ?_
  | refine itF rfl ?_
  | refine itT (by assumption) ?_
  | refine itF (by assumption) ?_
  | refine itT (decide_eq_true (by omega)) ?_
  | refine itF (decide_eq_false (by omega)) ?_
  | refine itT (dVi (by omega)) ?_
  | refine itF (dViN (by omega)) ?_
  | refine itT (notT (by assumption)) ?_
  | refine itF (notF (by assumption)) ?_
  | refine itT (notT (dViN (by omega))) ?_
  | refine itF (notF (dVi (by omega))) ?_
  | refine itT (decide_eq_true rfl) ?_
  | refine itF (notF (decide_eq_true rfl)) ?_
  | refine ite2 (fun _ => ?_) (fun _ => ?_)
  | with_reducible refine tC_ ?_
  | with_reducible refine tNext_ ?_
  | with_reducible refine tNil_ ?_
  | with_reducible refine tYes_ ?_))
local macro_rules | `(tactic| walk_at "rds") => `(tactic| repeat' (walk_at "rd"))
section
variable {P : Program} {w : World} {K : PySem.W.Frag} {mg : Str → Option Value} {base : Heap}

local macro_rules | `(tactic| walk_at "lk") => `(tactic| first
  | with_reducible assumption
  | with_reducible exact upd_same
  | (walk_at "lk1"; walk_at "lk")
  | fail "lk")
local macro_rules | `(tactic| walk_at "lk1") => `(tactic| first
  | ((with_reducible refine' lk_new ?a1 ?a2); (case a1 => with_reducible assumption); (case' a2 => skip))
  | ((with_reducible refine' lk_ne ?a1 ?a2); (case a1 => with_reducible assumption); (case' a2 => skip))
  | ((with_reducible refine' lk_neN ?a1 ?a2 ?a3); (case a1 => with_reducible assumption); (case a2 => walk_at "lk"); (case' a3 => skip))
  | ((with_reducible refine' lk_neN' ?a1 ?a2 ?a3); (case a1 => with_reducible assumption); (case a2 => walk_at "lk"); (case' a3 => skip))
  | ((with_reducible refine' lk_same ?a1 ?a2); (case a1 => with_reducible assumption); (case' a2 => skip))
  | ((with_reducible refine' lk_go ?a1 ?a2 ?a3); (case a1 => with_reducible assumption); (case a2 => walk_at "nt"); (case' a3 => skip))
  | ((with_reducible refine' lk_kp_nl ?a1 ?a2 ?a3 ?a4); (case a1 => with_reducible assumption); (case a2 => walk_at "st"); (case a3 => walk_at "nl"); (case' a4 => skip))
  | ((with_reducible refine' lk_kp ?a1 ?a2 ?a3); (case a1 => with_reducible assumption); (case a2 => walk_at "ne"); (case' a3 => skip))
  | fail "lk1")
local macro_rules | `(tactic| walk_at "nt") => `(tactic| first
  | (intro _ z; cases z)
  | fail "nt")
local macro_rules | `(tactic| walk_at "nl") => `(tactic| first
  | (intro _ z; cases z)
  | fail "nl")
local macro_rules | `(tactic| walk_at "ne") => `(tactic| first
  | with_reducible assumption
  | ((with_reducible refine' ne_st ?a1 ?a2); (case a1 => with_reducible assumption); (case a2 => walk_at "st"))
  | fail "ne")
local macro_rules | `(tactic| walk_at "st") => `(tactic| first
  | with_reducible assumption
  | with_reducible exact st_new (by with_reducible assumption) (by walk_at "st")
  | with_reducible exact st_same (by with_reducible assumption) (by walk_at "st")
  | with_reducible exact st_go (by with_reducible assumption) (by walk_at "st")
  | with_reducible exact st_ne (by walk_at "ns") (by walk_at "st")
  | fail "st")
local macro_rules | `(tactic| walk_at "ns") => `(tactic| first
  | with_reducible assumption
  | with_reducible exact Ne.symm (by with_reducible assumption)
  | with_reducible exact Ne.symm (ne_st (by with_reducible assumption) (by walk_at "st"))
  | fail "ns")
local macro_rules | `(tactic| walk_at "fr") => `(tactic| first
  | with_reducible assumption
  | with_reducible exact Same.refl _
  | with_reducible exact Go.refl _ _
  | with_reducible exact Kp.refl _ _
  | with_reducible exact LamX.ExtN.refl _
  | with_reducible exact nw_refl
  | (walk_at "fr1"; walk_at "fr")
  | fail "fr")
local macro_rules | `(tactic| walk_at "fr1") => `(tactic| first
  | ((with_reducible refine' fr_new ?a1 ?a2); (case a1 => with_reducible assumption); (case' a2 => skip))
  | ((with_reducible refine' go_new ?a1 ?a2); (case a1 => with_reducible assumption); (case' a2 => skip))
  | ((with_reducible refine' kp_new ?a1 ?a2); (case a1 => with_reducible assumption); (case' a2 => skip))
  | ((with_reducible refine' fr_same ?a1 ?a2); (case a1 => with_reducible assumption); (case' a2 => skip))
  | ((with_reducible refine' go_same ?a1 ?a2); (case a1 => with_reducible assumption); (case' a2 => skip))
  | ((with_reducible refine' kp_same ?a1 ?a2); (case a1 => with_reducible assumption); (case' a2 => skip))
  | ((with_reducible refine' go_go ?a1 ?a2); (case a1 => with_reducible assumption); (case' a2 => skip))
  | ((with_reducible refine' go_kp ?a1 ?a2 ?a3 ?a4); (case a1 => with_reducible assumption); (case a2 => with_reducible assumption); (case a3 => walk_at "st"); (case' a4 => skip))
  | ((with_reducible refine' kp_kp ?a1 ?a2); (case a1 => with_reducible assumption); (case' a2 => skip))
  | ((with_reducible refine' kp_upd ?a1); (case' a1 => skip))
  | ((with_reducible refine' go_set2 ?a1 ?a2 ?a3 ?a4); (case a1 => walk_at "lk"); (case a2 => with_reducible assumption); (case a3 => walk_at "fr"); (case' a4 => skip))
  | ((with_reducible refine' fr_set2 ?a1 ?a2 ?a3); (case a1 => with_reducible assumption); (case a2 => walk_at "fr"); (case' a3 => skip))
  | ((with_reducible refine' en_new ?a1 ?a2); (case a1 => with_reducible assumption); (case' a2 => skip))
  | ((with_reducible refine' en_same ?a1 ?a2); (case a1 => with_reducible assumption); (case' a2 => skip))
  | ((with_reducible refine' en_go ?a1 ?a2); (case a1 => with_reducible assumption); (case' a2 => skip))
  | ((with_reducible refine' en_set2 ?a1 ?a2 ?a3); (case a1 => with_reducible assumption); (case a2 => walk_at "fr"); (case' a3 => skip))
  | ((with_reducible refine' en_kp ?a1 ?a2 ?a3 ?a4); (case a1 => with_reducible assumption); (case a2 => with_reducible assumption); (case a3 => walk_at "fr"); (case' a4 => skip))
  | ((with_reducible refine' nw_new ?a1 ?a2); (case a1 => with_reducible assumption); (case' a2 => skip))
  | ((with_reducible refine' nw_same ?a1 ?a2); (case a1 => with_reducible assumption); (case' a2 => skip))
  | ((with_reducible refine' nw_go ?a1 ?a2); (case a1 => with_reducible assumption); (case' a2 => skip))
  | ((with_reducible refine' nw_kp ?a1 ?a2 ?a3); (case a1 => with_reducible assumption); (case a2 => walk_at "st"); (case' a3 => skip))
  | ((with_reducible refine' nw_set ?a1 ?a2); (case a1 => walk_at "lk"); (case' a2 => skip))
  | ((with_reducible refine' nw_set2 ?a1 ?a2 ?a3); (case a1 => with_reducible assumption); (case a2 => walk_at "fr"); (case' a3 => skip))
  | fail "fr1")
local macro_rules | `(tactic| walk_at "tb") => `(tactic| first
  | with_reducible assumption
  | (walk_at "tb1"; walk_at "tb")
  | fail "tb")
local macro_rules | `(tactic| walk_at "tb1") => `(tactic| first
  | ((with_reducible refine' tabs_new ?a1 ?a2); (case a1 => with_reducible assumption); (case' a2 => skip))
  | ((with_reducible refine' tabs_same ?a1 ?a2); (case a1 => with_reducible assumption); (case' a2 => skip))
  | ((with_reducible refine' tabs_go ?a1 ?a2); (case a1 => with_reducible assumption); (case' a2 => skip))
  | ((with_reducible refine' tabs_kp ?a1 ?a2 ?a3); (case a1 => with_reducible assumption); (case a2 => walk_at "st"); (case' a3 => skip))
  | ((with_reducible refine' tabs_set ?a1 ?a2); (case a1 => walk_at "lk"); (case' a2 => skip))
  | fail "tb1")
local macro_rules | `(tactic| walk_at "dg") => `(tactic| first
  | assumption
  | (refine' dp_ext ?a1 ?a2; (case a1 => assumption); (case a2 => walk_at "fr"))
  | (refine' dn_use ?a1 ?a2; (case a1 => assumption); (case a2 => walk_at "fr"))
  | fail "dg")
local macro_rules | `(tactic| walk_at "dp") => `(tactic| first
  | assumption
  | exact .str _
  | exact .int _
  | exact .bl _
  | exact .non
  | (refine' Dp.lst (SqL.of ?a1) ?a2; (case a1 => walk_at "lk"); (case a2 => walk_at "dpa"))
  | (refine' Dp.tup (SqT.of ?a1) ?a2; (case a1 => walk_at "lk"); (case a2 => walk_at "dpa"))
  | (walk_at "dg")
  | fail "dp")
local macro_rules | `(tactic| walk_at "dpa") => `(tactic| first
  | assumption
  | exact .nil
  | (refine' DpAll.cons ?a1 ?a2; (case a1 => walk_at "dp"); (case a2 => walk_at "dpa"))
  | fail "dpa")
local macro_rules | `(tactic| walk_at "dx") => `(tactic| first
  | assumption
  | exact .str _
  | exact .int _
  | exact .bl _
  | exact .non
  | (refine' Dx.lst (SqL.of ?a1) ?a2; (case a1 => walk_at "lk"); (case a2 => walk_at "dxa"))
  | (refine' Dx.tup (SqT.of ?a1) ?a2; (case a1 => walk_at "lk"); (case a2 => walk_at "dxa"))
  | (refine' Dx.dct (.inl ?a1) ?a2; (case a1 => walk_at "lk"); (case a2 => exact .nil))
  | (refine' dx_ext ?a1 ?a2; (case a1 => assumption); (case a2 => walk_at "fr"))
  | fail "dx")
local macro_rules | `(tactic| walk_at "dxa") => `(tactic| first
  | assumption
  | exact .nil
  | (refine' DxAll.cons ?a1 ?a2; (case a1 => walk_at "dx"); (case a2 => walk_at "dxa"))
  | fail "dxa")
local macro_rules | `(tactic| walk_at "ty") => `(tactic| first
  | assumption
  | (refine' ty_ext ?a1 ?a2; (case a1 => assumption); (case a2 => walk_at "fr"))
  | fail "ty")
local macro_rules | `(tactic| walk_at "shp") => `(tactic| first
  | assumption
  | (simp only [SeqAt.shaped, lay_l, lay_t, lay_i, lay_b, lay_n, lay_c, lay_e, PyData.depth, PyData.depthAll, Bool.and_true, Bool.true_and, Bool.and_eq_true, decide_eq_true_eq]
     repeat' (first | assumption | (refine And.intro ?_ ?_) | (exact rfl) | (decide +kernel) | omega))
  | decide +kernel)
local macro_rules | `(tactic| walk_at "side") => `(tactic| first
  | assumption
  | (intros; trivial)
  | omega
  | (walk_at "lk")
  | (walk_at "st")
  | (walk_at "sz")
  | (walk_at "tb")
  | (walk_at "fr"))
local macro_rules | `(tactic| walk_at "cl") => `(tactic| ((repeat' (apply Exists.intro)); refine And.intro rfl ?_; repeat (refine And.intro (by walk_at "side") ?_)))
local macro_rules | `(tactic| walk_at "eqd") => `(tactic| (refine ⟨_, _, by walk_at "dp", by walk_at "dp", by walk_at "shp", by walk_at "shp", ?_⟩; rw [eqv_same (by walk_at "shp")]))
local macro_rules | `(tactic| walk_at "new") => `(tactic| refine fun (p : Addr) (hp : (_ : Hp) p = none) => ?_)
local macro_rules | `(tactic| walk_at "rdn") => `(tactic| (repeat' (first | walk_at "rd" | walk_at "new")))

theorem ok__law_reference_end (T : Tx P w K mg base) (G__law_number_end : FnOk P w K mg base CX0 1 T.d__law_number_end.f T.d__law_number_end.fd ["raw_so", "at", "tables"] sp__law_number_end) (G__law_five : FnOk P w K mg base CX0 1 T.d__law_five.f T.d__law_five.fd [] sp__law_five) : FnOk P w K mg base CX0 2 T.d__law_reference_end.f T.d__law_reference_end.fd ["raw_so", "at", "tables"] sp__law_reference_end := by
  have sc := sc__law_reference_end
  refine T.d__law_reference_end.F.ok sc (fun vs H Q E h => ?_) (fun cdv A outer s H vs Q E hr h => ?_)
  · obtain ⟨z, bg, a, rfl, hz, hbg, ht, q⟩ := h
    rfl
  · obtain ⟨z, bg, a, rfl, hz, hbg, ht, q⟩ := h
    refine ⟨_, (pss_cons (ps_if (pt_cmpR op_eq (pe_slice sl_str (pv 0) (po_some (pe_op op_add (pv 1) pe_int)) (po_some (pe_op op_add (pv 1) pe_int))) pe_str (nomark _)) (pss_one (ps_ret (pe_call G__law_number_end (hr.mono (by decide)) rfl T.d__law_number_end.m T.d__law_number_end.F.kp T.d__law_number_end.b .nil pass0 (pa_cons (pv 0) (pa_cons (pe_op op_add (pv 1) pe_int) (pa_cons (pv 2) pa_nil)))))) pss_nil)
      (pss_cons (ps_for PassesOwn.never rfl (pi_range2 rfl T.n_range (pa_cons (pe_op op_add (pv 1) pe_int) (pa_cons (pe_callB call_len (by rfl) T.n_len PySem.boot_len (pa_cons (pv 0) pa_nil)) pa_nil))) (pg_name (i := 3) sc.nd rfl (Or.inl rfl)) (pss_cons (ps_set (i := 4) sc.nd rfl (Or.inr rfl) (pe_slice sl_str (pv 0) (po_some (pe_op op_add (pv 1) pe_int)) (po_some (pe_op op_add (pv 3) pe_int))))
      (pss_cons (ps_setLc (i := 5) (own := [("pair", 6)]) (g := gName 6) rfl sc.nd rfl rfl (sw_true rfl rfl rfl (by decide +kernel)) (pi_list (pe_call0 G__law_five (hr.mono (by decide)) rfl T.d__law_five.m T.d__law_five.F.kp T.d__law_five.b .nil pass0)) (blkOk_by (own := [("pair", 6)]) (N := ["raw_so", "at", "tables", "spot", "word", "some", "pair"]) (sc := defScope s__law_reference_end) (by decide +kernel)) (fun _ _ _ _ _ => pg_name (i := 6) sc.nd rfl (Or.inl rfl)) (fun _ _ _ _ _ => (pts_one (pt_val (pe_m1 PySem.F.slot_str_startswith PySem.F.type_str_startswith mt_startswith (pe_op op_add_str (pe_ix (show IxR _ (rIxT K) from ix_tup) (pv 6) pe_int (fun _ _ => rfl)) pe_str) (pv 4))))) (fun _ _ _ _ _ => pv 6))
      (pss_cons (ps_if (pt_cmpR (op_eqD hr.units) (pv 5) (pe_lst pa_nil) (nomark _)) (pss_one (ps_ret (pv 3))) pss_nil)
      (pss_one (ps_if (pt_cmpR op_eq (pe_ix ix_str (pv 4) (pe_un un_neg pe_int) (fun _ _ => rfl)) pe_str (nomark _)) (pss_one (ps_ret (pe_tup (pa_cons (pe_op op_add (pv 3) pe_int) (pa_cons (pe_ix ix_tup (pe_ix ix_list (pv 5) pe_int (fun _ _ => rfl)) pe_int (fun _ _ => rfl)) pa_nil))))) pss_nil))))))
      (pss_one (ps_ret (pe_callB call_len (by rfl) T.n_len PySem.boot_len (pa_cons (pv 0) pa_nil)))))), ?_⟩
    have zl : z.length = (tl z).length := len_tl z
    have z4 := hz.2
    have zok : z.length ≤ sizeLine := by rw [zl]; unfold sizeLine; omega
    have hc0 : decide (V.str (cutS z (some ((bg : Int) + 1)) (some ((bg : Int) + 2))) = V.str "#") = decide (((tl z).drop (bg + 1)).head? = some 35) := by
      have q := cutS_over z (bg + 1) (bg + 2) hbg
      rw [show bg + 2 - (bg + 1) = 1 by omega] at q
      rw [strEq, show ((bg : Int) + 1) = ((bg + 1 : Nat) : Int) from rfl, show ((bg : Int) + 2) = ((bg + 2 : Nat) : Int) from rfl, q]
      exact take1 _ _
    by_cases hx : ((tl z).drop (bg + 1)).head? = some 35
    · rw [decide_eq_true hx] at hc0
      have h2 := head_lt hx
      have q0 : Ans (numAt (tl z) (bg + 2)) H Q := by
        unfold refAt at q
        rw [if_pos hx] at q
        exact q
      walk_at "rds"
      refine ⟨z, bg + 2, a, rfl, hz, by omega, ht, ?_⟩
      walk_at "rds"
      exact q0
    · rw [decide_eq_false hx] at hc0
      obtain ⟨r, hr⟩ : ∃ r, (tl z).drop (bg + 1) = r := ⟨_, rfl⟩
      have hrl : r.length = (tl z).length - (bg + 1) := by rw [← hr, List.length_drop]
      have q0 : Ans (lref [] r (bg + 1)) H Q := by
        unfold refAt at q
        rw [if_neg hx, hr, ← lref_eq r [] (bg + 1) (fun _ h => nomatch h)] at q
        exact q
      clear q
      walk_at "rds"
      simp only [zl]
      refine ⟨((bg + 1 : Nat) : Int), ((tl z).length : Int), rfl, ⟨by omega, by omega, by omega, by omega⟩, ?_⟩
      have en : (((tl z).length : Int) - ((bg + 1 : Nat) : Int)).toNat = r.length := by omega
      rw [en]
      refine for_it (D := ⟨_, _, fun _ _ => False, fun _ _ => False⟩) (walk_range (lo := ((bg + 1 : Nat) : Int)) (n := r.length)) (fun i σ H1 => Same H H1 ∧ (∃ v3 v4 v5 v6, σ = [some (.str z), some (.int (bg : Int)), some (.ref a), v3, v4, v5, v6]) ∧ Ans (lref (r.take i) (r.drop i) (bg + 1 + i)) H Q) ⟨Same.refl _, ⟨_, _, _, _, rfl⟩, by simpa using q0⟩ (fun _ _ _ _ _ => trivial) ?_ ?_
      · rintro i x σ H1 H2 hi ⟨sm, ⟨v3, v4, v5, v6, rfl⟩, hq⟩ ⟨rfl, rfl⟩
        have ek : ((bg + 1 : Nat) : Int) + (i : Int) = ((bg + 1 + i : Nat) : Int) := (Int.natCast_add _ _).symm
        have hgr : r[i]? = some (r[i]) := List.getElem?_eq_getElem hi
        have hdr : r.drop i = r[i] :: r.drop (i + 1) := List.drop_eq_getElem_cons hi
        rw [hdr, lref_cons, lhit_I] at hq
        generalize r[i] = c at hgr hq
        have etake : r.take (i + 1) = r.take i ++ [c] := take_snoc hgr
        have hcut1 : tl (cutS z (some ((bg : Int) + 1)) (some (((bg + 1 + i : Nat) : Int) + 1))) = r.take i ++ [c] := by
          have q := cutS_mid z (bg + 1) (bg + 1 + i + 1) (by omega) (by omega)
          rw [hr, show bg + 1 + i + 1 - (bg + 1) = i + 1 by omega, etake] at q
          exact q
        have wl : (cutS z (some ((bg : Int) + 1)) (some (((bg + 1 + i : Nat) : Int) + 1))).length ≤ sizeLine := by
          rw [len_tl, hcut1, ← etake, List.length_take]
          unfold sizeLine
          omega
        simp only [ek]
        walk_at "rds"
        intro a5 ts H3 s3 hf
        obtain ⟨hf1, hf2, hf3⟩ := hf
        refine ⟨a5, rfl, ⟨_, SqL.of hf1⟩, ?_⟩
        intro D hD
        generalize cutS z (some ((bg : Int) + 1)) (some (((bg + 1 + i : Nat) : Int) + 1)) = wd at hcut1 wl ⊢
        have hsome : ∀ k, k < 5 → ts[k]? = some (ts.getD k 0) := fun k hk => by rw [List.getD_eq_getElem?_getD, List.getElem?_eq_getElem (by omega)]; rfl
        refine lc_flt (walk_list (xs := ts.map V.ref)) (fun k => (r.take i ++ [c]).isPrefixOf ((fiveL.getD k ([], 0)).1 ++ [59])) (fun k => V.ref (ts.getD k 0)) hD (by rw [List.length_map, hf2]; exact Nat.le_of_ble_eq_true rfl) (fun H1 sm => SqL.of (sm _ _ hf1)) (fun k H1 x H2 y => y.1 ▸ Same.refl _) ?_ ?_
        · rintro k x H4 H5 Nx Mo hk sm4 ⟨rfl, hx⟩ k1 k2
          have hk5 : k < 5 := by rw [List.length_map, hf2] at hk; exact hk
          rw [List.getElem?_map, hsome k hk5] at hx
          obtain rfl := Option.some.inj hx
          have h4 := sm4 _ _ (hf3 k _ (hsome k hk5))
          have hnl : ∀ k < 5, (fiveL.getD k ([], 0)).1.length ≤ 4 := by decide
          have hn4 := hnl k hk5
          generalize fiveL.getD k ([], 0) = pr at *
          obtain ⟨n, y⟩ := pr
          dsimp only at k1 k2 h4 hn4 ⊢
          have tnl : (toS n).length ≤ 4 := by rw [len_tl, tl_toS]; exact hn4
          have e1 : (";" : Str).length = 1 := rfl
          have s1 : (toS n).length + (";" : Str).length ≤ sizeLine := by rw [e1]; unfold sizeLine; omega
          refine ⟨rfl, ?_⟩
          refine ⟨_, rfl, ?_⟩
          have hst : Txt.startswith (toS n ++ ";") wd = (r.take i ++ [c]).isPrefixOf (n ++ [59]) := by
            rw [starts_tl, tl_append, tl_toS, hcut1]
            rfl
          cases hp : (r.take i ++ [c]).isPrefixOf (n ++ [59]) with
          | true =>
            rw [hp] at hst
            walk_at "rds"
            refine ⟨_, _, _, _, rfl, rfl, SqT.of h4, rfl, ?_⟩
            walk_at "rds"
            exact k1 hp _ (Same.refl _)
          | false =>
            rw [hp] at hst
            walk_at "rds"
            refine ⟨_, _, _, _, rfl, rfl, SqT.of h4, rfl, ?_⟩
            walk_at "rds"
            exact k2 hp _ (Same.refl _)
        · intro H4 sm4 hl4
          have hl5 : (ts.map V.ref).length = 5 := by rw [List.length_map]; exact hf2
          rw [hl5] at hl4
          have hl4 : H4 D = some (.lst ((hitI (r.take i ++ [c])).map fun k => V.ref (ts.getD k 0))) := hl4
          have f4 : ∀ k t, ts[k]? = some t → H4 t = some (.tup [.str (toS (fiveL.getD k ([], 0)).1), .str ⟨#[(fiveL.getD k ([], 0)).2]⟩]) := fun k t e => sm4 _ _ (hf3 k t e)
          have s4 : Same H H4 := (sm.trans s3).trans sm4
          have hI5 := hitI_lt (r.take i ++ [c])
          have hat : atI wd.cps.toList (-1) = some c := by
            show atI (tl wd) (-1) = some c
            rw [hcut1]
            exact atI_last
          have d59 : decide (V.str ⟨#[c]⟩ = V.str ";") = decide (c = 59) := by
            rw [strEq]
            show decide ([c] = [59]) = _
            simp
          walk_at "rds"
          intro pe hpe
          have f5 : ∀ k t, ts[k]? = some t → upd H4 pe (.lst []) t = some (.tup [.str (toS (fiveL.getD k ([], 0)).1), .str ⟨#[(fiveL.getD k ([], 0)).2]⟩]) := fun k t e => lk_new hpe (f4 k t e)
          refine ⟨.list ((hitI (r.take i ++ [c])).map dat5), .list [], .lst (SqL.of (lk_new hpe hl4)) (dp5 f5 hf2 _ hI5), .lst (SqL.of upd_same) .nil, shaped5' _ hI5, rfl, ?_⟩
          have s5 : Same H (upd H4 pe (.lst [])) := Same.new s4 hpe
          have hl5 := lk_new (o := .lst []) hpe hl4
          generalize upd H4 pe (.lst []) = H5 at *
          clear hl4 f4 s4 hpe sm4 hf3 s3 hf1
          cases hI : hitI (r.take i ++ [c]) with
          | nil =>
            rw [hI] at hq
            have hq : Ans (.ill (bg + 1 + i)) H Q := hq
            refine ⟨_, rfl, itT rfl ?_⟩
            walk_at "rds"
            exact hq.ill _ s5
          | cons k0 l =>
            rw [hI] at hq hl5
            have hk0 : k0 < 5 := hI5 k0 (by rw [hI]; exact List.mem_cons_self)
            have ft := f5 k0 _ (hsome k0 hk0)
            refine ⟨_, rfl, itF rfl ?_⟩
            by_cases h59 : c = 59
            · have hq : Ans (if c = 59 then .ok (bg + 1 + i + 1) (fiveL.getD k0 ([], 0)).2 else lref (r.take i ++ [c]) (r.drop (i + 1)) (bg + 1 + i + 1)) H Q := hq
              rw [if_pos h59] at hq
              rw [decide_eq_true h59] at d59
              walk_at "rds"
              refine ⟨_, _, _, _, rfl, rfl, SqL.of hl5, atI_zero _ _, ?_⟩
              refine ⟨_, _, _, _, rfl, rfl, SqT.of ft, rfl, ?_⟩
              walk_at "rds"
              intro p hp
              exact hq.ok _ p s5 hp
            · have hq : Ans (if c = 59 then .ok (bg + 1 + i + 1) (fiveL.getD k0 ([], 0)).2 else lref (r.take i ++ [c]) (r.drop (i + 1)) (bg + 1 + i + 1)) H Q := hq
              rw [if_neg h59] at hq
              rw [decide_eq_false h59] at d59
              walk_at "rds"
              refine ⟨⟨_, _, _, _, rfl⟩, ?_⟩
              rw [etake]
              exact hq
      · rintro σ H1 ⟨sm, ⟨v3, v4, v5, v6, rfl⟩, hq⟩
        rw [List.drop_length, hrl, show bg + 1 + ((tl z).length - (bg + 1)) = (tl z).length by omega, lref_end] at hq
        walk_at "rds"
        rw [zl]
        exact hq.ill _ sm

end
end K7

set_option maxHeartbeats 1000000
set_option pp.maxSteps 700
set_option pp.deepTerms false
set_option pp.deepTerms.threshold 14
namespace K7
open PySem PySem.Spec PyProof.Rows L2 Mx
open TL Num
/-- units as tuples -/
def uV (u : Nat × Nat × Nat) : List V := [.int (u.1 : Int), .int (u.2.1 : Int), .str ⟨#[u.2.2]⟩]
inductive Trs (H : Hp) : List (Nat × Nat × Nat) → List V → Prop
  | nil : Trs H [] []
  | cons {u : Nat × Nat × Nat} {t : Addr} {us : List (Nat × Nat × Nat)} {vs : List V} : H t = some (.tup (uV u)) → Trs H us vs → Trs H (u :: us) (.ref t :: vs)
theorem Trs.mono {H H' : Hp} {us : List (Nat × Nat × Nat)} {vs : List V} (h : Trs H us vs) (s : ∀ t xs, H t = some (.tup xs) → H' t = some (.tup xs)) : Trs H' us vs := by
  induction h with
  | nil => exact .nil
  | cons h _ ih => exact .cons (s _ _ h) ih
theorem Trs.same {H H' : Hp} {us : List (Nat × Nat × Nat)} {vs : List V} (h : Trs H us vs) (s : Same H H') : Trs H' us vs := h.mono fun t xs e => s _ _ e
theorem Trs.snoc {H : Hp} {us : List (Nat × Nat × Nat)} {vs : List V} {u : Nat × Nat × Nat} {t : Addr} (h : Trs H us vs) (ht : H t = some (.tup (uV u))) : Trs H (us ++ [u]) (vs ++ [.ref t]) := by
  induction h with
  | nil => exact .cons ht .nil
  | cons h _ ih => exact .cons h ih
theorem Trs.length {H : Hp} {us : List (Nat × Nat × Nat)} {vs : List V} (h : Trs H us vs) : vs.length = us.length := by
  induction h with
  | nil => rfl
  | cons _ _ ih => rw [List.length_cons, List.length_cons, ih]
theorem Trs.drop {H : Hp} {us : List (Nat × Nat × Nat)} {vs : List V} (h : Trs H us vs) : ∀ k, Trs H (us.drop k) (vs.drop k) := by
  induction h with
  | nil => intro k; rw [List.drop_nil, List.drop_nil]; exact .nil
  | cons h t ih =>
    intro k
    cases k with
    | zero => exact .cons h t
    | succ k => exact ih k
theorem Trs.at {H : Hp} {us : List (Nat × Nat × Nat)} {vs : List V} (h : Trs H us vs) : ∀ (k : Nat) (x : V), vs[k]? = some x → ∃ t u, x = .ref t ∧ us[k]? = some u ∧ H t = some (.tup (uV u)) := by
  induction h with
  | nil => intro k x e; cases e
  | cons h t ih =>
    intro k x e
    cases k with
    | zero => exact ⟨_, _, (Option.some.inj e).symm, rfl, h⟩
    | succ k => exact ih k x e
theorem tup_put {H : Hp} {p : Addr} {xs : List V} {o : HO} (h : H p = some (.lst xs)) : ∀ t ys, H t = some (.tup ys) → L2.upd H p o t = some (.tup ys) := fun t ys e => by
  rw [upd_ne (fun z => by rw [z, h] at e; cases e)]
  exact e
theorem cutV_last2 (xs : List V) : cutV xs (some (-2)) none = xs.drop (xs.length - 2) := by
  show (xs.drop (HT.sIx xs.length 0 (some (-2)))).take (HT.sIx xs.length xs.length none - HT.sIx xs.length 0 (some (-2))) = _
  have e1 : HT.sIx xs.length xs.length none = xs.length := rfl
  have e2 : HT.sIx xs.length 0 (some (-2)) = xs.length - 2 := by
    unfold HT.sIx
    simp
    omega
  rw [e1, e2, List.take_of_length_le (by rw [List.length_drop]; exact Nat.le_refl _)]
/-- the law's count of brackets is that of the program -/
theorem step_brs {l m : List Nat} {i : Nat} {ds : List (Nat × Nat × Nat)} {e c b : Nat} (h : stepAt l m i (brs ds) = .unit e c b) : b = brs (ds ++ [(i, e, c)]) := by
  have hi : i < l.length := by
    by_cases hi : i < l.length
    · exact hi
    · rw [step_end hi] at h; cases h
  have hg : l[i]? = some l[i] := List.getElem?_eq_getElem hi
  by_cases h1 : l[i] = 38
  · rw [h1] at hg
    rw [step_amp hg] at h
    cases hr : refAt l i with
    | ok e2 x =>
      rw [hr] at h
      cases h
      have q := refAt_two hi hr
      rw [brs_not]
      unfold dirU
      rw [decide_eq_false (show ¬ e = i + 1 by omega), Bool.and_false]
    | ill k => rw [hr] at h; cases h
  · by_cases h2 : l[i] = 60 ∨ m = [l[i]] ∨ (m = [] ∧ l[i] = 62 ∧ brs ds = 2)
    · rw [step_ill hg h1 h2] at h; cases h
    · rw [step_one hg h1 h2] at h
      cases h
      by_cases h93 : l[i] = 93
      · rw [if_pos h93, brs_dir]
        unfold dirU
        rw [decide_eq_true (rfl : i + 1 = i + 1), Bool.and_true, h93]
        refine decide_eq_true ?_
        show (if m = [] then 93 else spC 93) = 93
        split <;> rfl
      · rw [if_neg h93, brs_not]
        unfold dirU
        rw [decide_eq_false, Bool.false_and]
        show ¬ (if m = [] then l[i] else spC l[i]) = 93
        split
        · exact h93
        · unfold spC
          split
          · decide
          · exact h93
def sp__law_read : Sp := fun vs H Q _ => ∃ (z m : Str) (a : Addr) (us : List (Nat × Nat × Nat)) (r : Option Nat), vs = [.str z, .str m, .ref a] ∧ W4 z ∧ MarkOk m ∧ Tabs2 H a ∧ uns (tl z) (tl m) 0 0 = (us, r) ∧
  ∀ H' D p ws, Same H H' → H' D = some (.lst ws) → Trs H' us ws → H' p = some (.tup [.ref D, optV r]) → Q (.ref p) H'

local macro_rules | `(tactic| walk_at "sz") => `(tactic| first | assumption | decide | omega | (unfold sizeLine; omega) | exact Nat.le_of_ble_eq_true rfl)
local macro_rules | `(tactic| walk_at "hp") => `(tactic| (first | assumption | exact upd_same | (rw [upd_ne (by assumption)]; assumption)))
local macro_rules | `(tactic| walk_at "rd") => `(tactic| (first
  | refine ⟨_, rfl, ?_⟩
  | (refine ⟨_, _, rfl, rfl, ?rdc, ?_⟩; (case rdc => first | (show (0 : Int) < _; omega) | (exact ⟨by omega, by omega⟩) | (exact .inl ⟨by omega, by omega⟩) | (exact .inr ⟨by omega, by omega⟩) | exact ⟨by decide, by decide, by decide⟩))
  | refine ⟨_, _, rfl, rfl, ?_⟩
  | refine .inl ⟨_, rfl, ?_⟩
  | refine ⟨rfl, ?_⟩
  | refine ⟨⟨_, rfl⟩, ?_⟩
  | refine ⟨⟨_, SqL.of (by walk_at "hp")⟩, ?_⟩
  | refine ⟨_, _, _, _, rfl, rfl, SqL.of (by walk_at "hp"), (by rfl), ?_⟩
  | refine ⟨_, _, _, _, rfl, rfl, (by walk_at "hp"), (by rfl), ?_⟩
  | refine ⟨_, _, rfl, ⟨by walk_at "sz", rfl⟩, ?_⟩
  | refine ⟨_, _, _, rfl, rfl, by walk_at "sz", by assumption, ?_⟩
  | refine And.intro (by walk_at "sz") ?_
  | refine itT rfl ?_
  | refine itF rfl ?_
  | refine itT (by assumption) ?_
  | refine itF (by assumption) ?_
  | refine itT (decide_eq_true (by omega)) ?_
  | refine itF (decide_eq_false (by omega)) ?_
  | refine itT (dVi (by omega)) ?_
  | refine itF (dViN (by omega)) ?_
  | refine itT (notT (by assumption)) ?_
  | refine itF (notF (by assumption)) ?_
  | refine itT (notT (dViN (by omega))) ?_
  | refine itF (notF (dVi (by omega))) ?_
  | refine itT (decide_eq_true rfl) ?_
  | refine itF (notF (decide_eq_true rfl)) ?_
  | refine ite2 (fun _ => ?_) (fun _ => ?_)
  | with_reducible refine tC_ ?_
  | with_reducible refine tNext_ ?_
  | with_reducible refine tNil_ ?_
  | with_reducible refine tYes_ ?_))
local macro_rules | `(tactic| walk_at "rds") => `(tactic| repeat' (walk_at "rd"))
section
variable {P : Program} {w : World} {K : PySem.W.Frag} {mg : Str → Option Value} {base : Heap}

local macro_rules | `(tactic| walk_at "lk") => `(tactic| first
  | with_reducible assumption
  | with_reducible exact upd_same
  | (walk_at "lk1"; walk_at "lk")
  | fail "lk")
local macro_rules | `(tactic| walk_at "lk1") => `(tactic| first
  | ((with_reducible refine' lk_new ?a1 ?a2); (case a1 => with_reducible assumption); (case' a2 => skip))
  | ((with_reducible refine' lk_ne ?a1 ?a2); (case a1 => with_reducible assumption); (case' a2 => skip))
  | ((with_reducible refine' lk_neN ?a1 ?a2 ?a3); (case a1 => with_reducible assumption); (case a2 => walk_at "lk"); (case' a3 => skip))
  | ((with_reducible refine' lk_neN' ?a1 ?a2 ?a3); (case a1 => with_reducible assumption); (case a2 => walk_at "lk"); (case' a3 => skip))
  | ((with_reducible refine' lk_same ?a1 ?a2); (case a1 => with_reducible assumption); (case' a2 => skip))
  | ((with_reducible refine' lk_go ?a1 ?a2 ?a3); (case a1 => with_reducible assumption); (case a2 => walk_at "nt"); (case' a3 => skip))
  | ((with_reducible refine' lk_kp_nl ?a1 ?a2 ?a3 ?a4); (case a1 => with_reducible assumption); (case a2 => walk_at "st"); (case a3 => walk_at "nl"); (case' a4 => skip))
  | ((with_reducible refine' lk_kp ?a1 ?a2 ?a3); (case a1 => with_reducible assumption); (case a2 => walk_at "ne"); (case' a3 => skip))
  | fail "lk1")
local macro_rules | `(tactic| walk_at "nt") => `(tactic| first
  | (intro _ z; cases z)
  | fail "nt")
local macro_rules | `(tactic| walk_at "nl") => `(tactic| first
  | (intro _ z; cases z)
  | fail "nl")
local macro_rules | `(tactic| walk_at "ne") => `(tactic| first
  | with_reducible assumption
  | ((with_reducible refine' ne_st ?a1 ?a2); (case a1 => with_reducible assumption); (case a2 => walk_at "st"))
  | fail "ne")
local macro_rules | `(tactic| walk_at "st") => `(tactic| first
  | with_reducible assumption
  | with_reducible exact st_new (by with_reducible assumption) (by walk_at "st")
  | with_reducible exact st_same (by with_reducible assumption) (by walk_at "st")
  | with_reducible exact st_go (by with_reducible assumption) (by walk_at "st")
  | with_reducible exact st_ne (by walk_at "ns") (by walk_at "st")
  | fail "st")
local macro_rules | `(tactic| walk_at "ns") => `(tactic| first
  | with_reducible assumption
  | with_reducible exact Ne.symm (by with_reducible assumption)
  | with_reducible exact Ne.symm (ne_st (by with_reducible assumption) (by walk_at "st"))
  | fail "ns")
local macro_rules | `(tactic| walk_at "fr") => `(tactic| first
  | with_reducible assumption
  | with_reducible exact Same.refl _
  | with_reducible exact Go.refl _ _
  | with_reducible exact Kp.refl _ _
  | with_reducible exact LamX.ExtN.refl _
  | with_reducible exact nw_refl
  | (walk_at "fr1"; walk_at "fr")
  | fail "fr")
local macro_rules | `(tactic| walk_at "fr1") => `(tactic| first
  | ((with_reducible refine' fr_new ?a1 ?a2); (case a1 => with_reducible assumption); (case' a2 => skip))
  | ((with_reducible refine' go_new ?a1 ?a2); (case a1 => with_reducible assumption); (case' a2 => skip))
  | ((with_reducible refine' kp_new ?a1 ?a2); (case a1 => with_reducible assumption); (case' a2 => skip))
  | ((with_reducible refine' fr_same ?a1 ?a2); (case a1 => with_reducible assumption); (case' a2 => skip))
  | ((with_reducible refine' go_same ?a1 ?a2); (case a1 => with_reducible assumption); (case' a2 => skip))
  | ((with_reducible refine' kp_same ?a1 ?a2); (case a1 => with_reducible assumption); (case' a2 => skip))
  | ((with_reducible refine' go_go ?a1 ?a2); (case a1 => with_reducible assumption); (case' a2 => skip))
  | ((with_reducible refine' go_kp ?a1 ?a2 ?a3 ?a4); (case a1 => with_reducible assumption); (case a2 => with_reducible assumption); (case a3 => walk_at "st"); (case' a4 => skip))
  | ((with_reducible refine' kp_kp ?a1 ?a2); (case a1 => with_reducible assumption); (case' a2 => skip))
  | ((with_reducible refine' kp_upd ?a1); (case' a1 => skip))
  | ((with_reducible refine' go_set2 ?a1 ?a2 ?a3 ?a4); (case a1 => walk_at "lk"); (case a2 => with_reducible assumption); (case a3 => walk_at "fr"); (case' a4 => skip))
  | ((with_reducible refine' fr_set2 ?a1 ?a2 ?a3); (case a1 => with_reducible assumption); (case a2 => walk_at "fr"); (case' a3 => skip))
  | ((with_reducible refine' en_new ?a1 ?a2); (case a1 => with_reducible assumption); (case' a2 => skip))
  | ((with_reducible refine' en_same ?a1 ?a2); (case a1 => with_reducible assumption); (case' a2 => skip))
  | ((with_reducible refine' en_go ?a1 ?a2); (case a1 => with_reducible assumption); (case' a2 => skip))
  | ((with_reducible refine' en_set2 ?a1 ?a2 ?a3); (case a1 => with_reducible assumption); (case a2 => walk_at "fr"); (case' a3 => skip))
  | ((with_reducible refine' en_kp ?a1 ?a2 ?a3 ?a4); (case a1 => with_reducible assumption); (case a2 => with_reducible assumption); (case a3 => walk_at "fr"); (case' a4 => skip))
  | ((with_reducible refine' nw_new ?a1 ?a2); (case a1 => with_reducible assumption); (case' a2 => skip))
  | ((with_reducible refine' nw_same ?a1 ?a2); (case a1 => with_reducible assumption); (case' a2 => skip))
  | ((with_reducible refine' nw_go ?a1 ?a2); (case a1 => with_reducible assumption); (case' a2 => skip))
  | ((with_reducible refine' nw_kp ?a1 ?a2 ?a3); (case a1 => with_reducible assumption); (case a2 => walk_at "st"); (case' a3 => skip))
  | ((with_reducible refine' nw_set ?a1 ?a2); (case a1 => walk_at "lk"); (case' a2 => skip))
  | ((with_reducible refine' nw_set2 ?a1 ?a2 ?a3); (case a1 => with_reducible assumption); (case a2 => walk_at "fr"); (case' a3 => skip))
  | fail "fr1")
local macro_rules | `(tactic| walk_at "tb") => `(tactic| first
  | with_reducible assumption
  | (walk_at "tb1"; walk_at "tb")
  | fail "tb")
local macro_rules | `(tactic| walk_at "tb1") => `(tactic| first
  | ((with_reducible refine' tabs_new ?a1 ?a2); (case a1 => with_reducible assumption); (case' a2 => skip))
  | ((with_reducible refine' tabs_same ?a1 ?a2); (case a1 => with_reducible assumption); (case' a2 => skip))
  | ((with_reducible refine' tabs_go ?a1 ?a2); (case a1 => with_reducible assumption); (case' a2 => skip))
  | ((with_reducible refine' tabs_kp ?a1 ?a2 ?a3); (case a1 => with_reducible assumption); (case a2 => walk_at "st"); (case' a3 => skip))
  | ((with_reducible refine' tabs_set ?a1 ?a2); (case a1 => walk_at "lk"); (case' a2 => skip))
  | fail "tb1")
local macro_rules | `(tactic| walk_at "dg") => `(tactic| first
  | assumption
  | (refine' dp_ext ?a1 ?a2; (case a1 => assumption); (case a2 => walk_at "fr"))
  | (refine' dn_use ?a1 ?a2; (case a1 => assumption); (case a2 => walk_at "fr"))
  | fail "dg")
local macro_rules | `(tactic| walk_at "dp") => `(tactic| first
  | assumption
  | exact .str _
  | exact .int _
  | exact .bl _
  | exact .non
  | (refine' Dp.lst (SqL.of ?a1) ?a2; (case a1 => walk_at "lk"); (case a2 => walk_at "dpa"))
  | (refine' Dp.tup (SqT.of ?a1) ?a2; (case a1 => walk_at "lk"); (case a2 => walk_at "dpa"))
  | (walk_at "dg")
  | fail "dp")
local macro_rules | `(tactic| walk_at "dpa") => `(tactic| first
  | assumption
  | exact .nil
  | (refine' DpAll.cons ?a1 ?a2; (case a1 => walk_at "dp"); (case a2 => walk_at "dpa"))
  | fail "dpa")
local macro_rules | `(tactic| walk_at "dx") => `(tactic| first
  | assumption
  | exact .str _
  | exact .int _
  | exact .bl _
  | exact .non
  | (refine' Dx.lst (SqL.of ?a1) ?a2; (case a1 => walk_at "lk"); (case a2 => walk_at "dxa"))
  | (refine' Dx.tup (SqT.of ?a1) ?a2; (case a1 => walk_at "lk"); (case a2 => walk_at "dxa"))
  | (refine' Dx.dct (.inl ?a1) ?a2; (case a1 => walk_at "lk"); (case a2 => exact .nil))
  | (refine' dx_ext ?a1 ?a2; (case a1 => assumption); (case a2 => walk_at "fr"))
  | fail "dx")
local macro_rules | `(tactic| walk_at "dxa") => `(tactic| first
  | assumption
  | exact .nil
  | (refine' DxAll.cons ?a1 ?a2; (case a1 => walk_at "dx"); (case a2 => walk_at "dxa"))
  | fail "dxa")
local macro_rules | `(tactic| walk_at "ty") => `(tactic| first
  | assumption
  | (refine' ty_ext ?a1 ?a2; (case a1 => assumption); (case a2 => walk_at "fr"))
  | fail "ty")
local macro_rules | `(tactic| walk_at "shp") => `(tactic| first
  | assumption
  | (simp only [SeqAt.shaped, lay_l, lay_t, lay_i, lay_b, lay_n, lay_c, lay_e, PyData.depth, PyData.depthAll, Bool.and_true, Bool.true_and, Bool.and_eq_true, decide_eq_true_eq]
     repeat' (first | assumption | (refine And.intro ?_ ?_) | (exact rfl) | (decide +kernel) | omega))
  | decide +kernel)
local macro_rules | `(tactic| walk_at "side") => `(tactic| first
  | assumption
  | (intros; trivial)
  | omega
  | (walk_at "lk")
  | (walk_at "st")
  | (walk_at "sz")
  | (walk_at "tb")
  | (walk_at "fr"))
local macro_rules | `(tactic| walk_at "cl") => `(tactic| ((repeat' (apply Exists.intro)); refine And.intro rfl ?_; repeat (refine And.intro (by walk_at "side") ?_)))
local macro_rules | `(tactic| walk_at "eqd") => `(tactic| (refine ⟨_, _, by walk_at "dp", by walk_at "dp", by walk_at "shp", by walk_at "shp", ?_⟩; rw [eqv_same (by walk_at "shp")]))
local macro_rules | `(tactic| walk_at "new") => `(tactic| refine fun (p : Addr) (hp : (_ : Hp) p = none) => ?_)
local macro_rules | `(tactic| walk_at "rdn") => `(tactic| (repeat' (first | walk_at "rd" | walk_at "new")))

theorem ok__law_read (T : Tx P w K mg base) (G__law_reference_end : FnOk P w K mg base CX0 2 T.d__law_reference_end.f T.d__law_reference_end.fd ["raw_so", "at", "tables"] sp__law_reference_end) : FnOk P w K mg base CX0 3 T.d__law_read.f T.d__law_read.fd ["raw_so", "edge", "tables"] sp__law_read := by
  have sc := sc__law_read
  refine T.d__law_read.F.ok sc (fun vs H Q E h => ?_) (fun cdv A outer s H vs Q E hr h => ?_)
  · obtain ⟨z, mk, a, us, r, rfl, hz, hm, ht, hu, q⟩ := h
    rfl
  · obtain ⟨z, mk, a, us, r, rfl, hz, hm, ht, hu, q⟩ := h
    refine ⟨_, (pss_cons (ps_par (i := 3) (j := 4) (by rfl) sc.nd rfl rfl (by decide) rfl rfl (pa_cons (pe_lst pa_nil) (pa_cons pe_int pa_nil)) (by rfl))
      (pss_cons (ps_while PassesOwn.never (pt_cmpR op_lt (pv 4) (pe_callB call_len (by rfl) T.n_len PySem.boot_len (pa_cons (pv 0) pa_nil)) (nomark _)) (pss_cons (ps_set (i := 5) sc.nd rfl (Or.inl rfl) (pe_ix ix_str (pv 0) (pv 4) (fun _ _ => rfl)))
      (pss_cons (ps_if (pt_cmpR op_eq (pv 5) pe_str (nomark _)) (pss_cons (ps_set (i := 6) sc.nd rfl (Or.inl rfl) (pe_call G__law_reference_end (hr.mono (by decide)) rfl T.d__law_reference_end.m T.d__law_reference_end.F.kp T.d__law_reference_end.b .nil pass0 (pa_cons (pv 0) (pa_cons (pv 4) (pa_cons (pv 2) pa_nil)))))
      (pss_cons (ps_if (pt_val (pe_callB call_isi (by rfl) T.n_isinstance (by decide +kernel) (pa_cons (pv 6) (pa_cons ((pe_bltn (by rfl) T.n_int (by decide +kernel) (v := .ty "int") rfl)) pa_nil)))) (pss_one (ps_ret (pe_tup (pa_cons (pv 3) (pa_cons (pv 6) pa_nil))))) pss_nil)
      (pss_one (ps_asg (pv 6) (pg_tup (by rfl) (pgs_cons (pg_name (i := 7) sc.nd rfl (Or.inl rfl)) (pgs_cons (pg_name (i := 8) sc.nd rfl (Or.inl rfl)) pgs_nil))))))) (pss_cons (ps_setLc (i := 9) (own := [("unit", 10)]) (g := gName 10) rfl sc.nd rfl rfl (sw_true rfl rfl rfl (by decide +kernel)) (pi_list (pe_slice sl_list (pv 3) (po_some (pe_un un_neg pe_int)) po_none)) (blkOk_by (own := [("unit", 10)]) (N := ["raw_so", "edge", "tables", "found", "at", "one", "told", "end", "meant", "direct", "unit"]) (sc := defScope s__law_read) (by decide +kernel)) (fun _ _ _ _ _ => pg_name (i := 10) sc.nd rfl (Or.inl rfl)) (fun _ _ _ _ _ => (pts_one (PW.pt (pw_and (pt_cmpR op_eq (pe_ix (show IxR _ (rIxT K) from ix_tup) (pv 10) pe_int (fun _ _ => rfl)) pe_str (nomark _)) (pw_and1 (pt_cmpR op_eq (pe_ix (show IxR _ (rIxT K) from ix_tup) (pv 10) pe_int (fun _ _ => rfl)) (pe_op op_add (pe_ix (show IxR _ (rIxT K) from ix_tup) (pv 10) pe_int (fun _ _ => rfl)) pe_int) (nomark _))))))) (fun _ _ _ _ _ => pv 10))
      (pss_cons (ps_if (PW.pt (pw_or (pt_cmpR op_eq (pv 5) pe_str (nomark _)) (pw_or (pt_cmpR op_eq (pv 5) (pv 1) (nomark _)) (pw_or1 (PW.pt (pw_and (pt_cmpR op_eq (pv 1) pe_str (nomark _)) (pw_and (pt_cmpR op_eq (pv 5) pe_str (nomark _)) (pw_and1 (pt_cmpR op_eq (pe_callB call_len (by rfl) T.n_len PySem.boot_len (pa_cons (pv 9) pa_nil)) pe_int (nomark _)))))))))) (pss_one (ps_ret (pe_tup (pa_cons (pv 3) (pa_cons (pv 4) pa_nil))))) pss_nil)
      (pss_one (ps_par (i := 7) (j := 8) (by rfl) sc.nd rfl rfl (by decide) rfl rfl (pa_cons (pe_op op_add (pv 4) pe_int) (pa_cons (pe_ifExp (PW.pt (pw_and (pt_cmpR op_ne (pv 1) pe_str (nomark _)) (pw_and1 (pt_cmpR op_in_sign (pv 5) pe_str (by rfl))))) pe_str (pv 5)) pa_nil)) (by rfl))))))
      (pss_cons (ps_expr (pe_bm PySem.F.plainAttrs_list PySem.F.slot_list_append PySem.F.type_list_append mt_append (pv 3) (pa_cons (pe_tup (pa_cons (pv 4) (pa_cons (pv 7) (pa_cons (pv 8) pa_nil)))) pa_nil)))
      (pss_one (ps_set (i := 4) sc.nd rfl (Or.inl rfl) (pv 7)))))))
      (pss_one (ps_ret (pe_tup (pa_cons (pv 3) (pa_cons pe_non pa_nil))))))), ?_⟩
    have zl : z.length = (tl z).length := len_tl z
    have z4 := hz.2
    walk_at "rds"
    intro D hD
    walk_at "rds"
    refine ⟨_, _, rfl, ?_⟩
    refine ⟨fun n σ H' => ∃ (i : Nat) (ds : List (Nat × Nat × Nat)) (ws : List V), n = (tl z).length - i ∧ i ≤ (tl z).length ∧ (∃ v5 v6 v7 v8 v9, σ = [some (.str z), some (.str mk), some (.ref a), some (.ref D), some (.int (i : Int)), v5, v6, v7, v8, v9, none]) ∧ Same H H' ∧ H' D = some (.lst ws) ∧ Trs H' ds ws ∧ us = ds ++ (uns (tl z) (tl mk) i (brs ds)).1 ∧ r = (uns (tl z) (tl mk) i (brs ds)).2 ∧ ds.length ≤ i, ⟨_, 0, [], [], rfl, Nat.zero_le _, ⟨_, _, _, _, _, rfl⟩, Same.new (Same.refl _) hD, upd_same, .nil, by rw [show brs [] = 0 from rfl, hu]; rfl, by rw [show brs [] = 0 from rfl, hu], Nat.zero_le _⟩, ?_⟩
    clear hu
    rintro n σ H1 ⟨i, ds, ws, rfl, hi, ⟨v5, v6, v7, v8, v9, rfl⟩, sm, hd, htr, hu, hr, hl⟩
    have hwl := htr.length
    by_cases hlt : i < (tl z).length
    · have hg : (tl z)[i]? = some (tl z)[i] := List.getElem?_eq_getElem hlt
      have c8 : (tl z)[i] < 128 := hz.1 _ (List.getElem_mem hlt)
      have hst := step_amp (l := tl z) (m := tl mk) (i := i) (br := brs ds)
      have hst2 := step_ill (l := tl z) (m := tl mk) (i := i) (br := brs ds) hg
      have hst3 := step_one (l := tl z) (m := tl mk) (i := i) (br := brs ds) hg
      rw [hg] at hst
      generalize (tl z)[i] = c at hg c8 hst hst2 hst3
      have hc2 : atI z.cps.toList ((i : Nat) : Int) = some c := atI_nat hg
      walk_at "rds"
      refine ⟨fun σ' H2 => ∃ (j : Nat) (ds : List (Nat × Nat × Nat)) (ws : List V), i < j ∧ j ≤ (tl z).length ∧ (∃ v5 v6 v7 v8 v9, σ' = [some (.str z), some (.str mk), some (.ref a), some (.ref D), some (.int (j : Int)), v5, v6, v7, v8, v9, none]) ∧ Same H H2 ∧ H2 D = some (.lst ws) ∧ Trs H2 ds ws ∧ us = ds ++ (uns (tl z) (tl mk) j (brs ds)).1 ∧ r = (uns (tl z) (tl mk) j (brs ds)).2 ∧ ds.length ≤ j, ?_, ?_⟩
      · rintro σ' H2 ⟨j, ds, ws, h1, h2, h3, h4, h5, h6, h7, h8, h9⟩
        exact ⟨_, by omega, j, ds, ws, rfl, h2, h3, h4, h5, h6, h7, h8, h9⟩
      refine tCut (R := fun σ' H' => H' = H1 ∧ σ' = [some (.str z), some (.str mk), some (.ref a), some (.ref D), some (.int (i : Int)), some (.str ⟨#[c]⟩), v6, v7, v8, v9, none]) ?_ (fun key => ?_)
      case refine_2 => repeat' (first | exact key _ _ ⟨rfl, rfl⟩ | walk_at "rd")
      rintro σ0 H0 ⟨rfl, rfl⟩
      have d38 : decide (V.str ⟨#[c]⟩ = V.str "&") = decide (c = 38) := by
        rw [strEq]
        show decide ([c] = [38]) = _
        simp
      refine tCut (R := fun σ' H' => ∃ (e c' b : Nat), stepAt (tl z) (tl mk) i (brs ds) = .unit e c' b ∧ Same H H' ∧ H' D = some (.lst ws) ∧ Trs H' ds ws ∧ ∃ v5 v6 v9, σ' = [some (.str z), some (.str mk), some (.ref a), some (.ref D), some (.int (i : Int)), v5, v6, some (.int (e : Int)), some (.str ⟨#[c']⟩), v9, none]) ?_ (fun key => ?_)
      · rintro σ' H2 ⟨e, c', b, hs, s2, hd2, htr2, v5, v6, v9, rfl⟩
        obtain ⟨e1, e2, e3⟩ := step_lt hs
        have eb := step_brs hs
        rw [uns_unit hs, eb] at hu hr
        clear hst hst2 hst3 hs
        walk_at "rds"
        refine ⟨.inl ⟨rfl, _, SqL.of hd2⟩, ?_⟩
        walk_at "rds"
        intro t htn
        refine ⟨D, ws, _, rfl, rfl, lk_new htn hd2, by rw [hwl]; unfold sizeLine; omega, ?_⟩
        walk_at "rds"
        refine ⟨e, ds ++ [(i, e, c')], ws ++ [.ref t], e1, e2, ⟨_, _, _, _, _, rfl⟩, ?_, upd_same, ?_, by rw [List.append_assoc]; exact hu, hr, by rw [List.length_append]; show ds.length + 1 ≤ e; omega⟩
        · have s3 := Same.new (o := .tup [.int (i : Int), .int (e : Int), .str ⟨#[c']⟩]) s2 htn
          exact fun b o e => by rw [upd_ne (ne_of_none e hD)]; exact s3 b o e
        · refine Trs.snoc ((htr2.mono fun b ys e => lk_new htn e).mono (tup_put (lk_new htn hd2))) ?_
          exact tup_put (lk_new htn hd2) _ _ upd_same
      by_cases h38 : c = 38
      · rw [decide_eq_true h38] at d38
        subst h38
        have hst := hst rfl
        walk_at "rds"
        refine ⟨z, i, a, rfl, hz, hlt, ht.same sm, ?_⟩
        cases hra : refAt (tl z) i with
        | ok e c' =>
          rw [hra] at hst
          intro H3 p s3 hp
          have fp : upd H3 p (.tup [.int (e : Int), .str ⟨#[c']⟩]) p = some (.tup [.int (e : Int), .str ⟨#[c']⟩]) := upd_same
          have hd3 : upd H3 p (.tup [.int (e : Int), .str ⟨#[c']⟩]) D = some (.lst ws) := lk_new hp (s3 _ _ hd)
          have htr3 : Trs (upd H3 p (.tup [.int (e : Int), .str ⟨#[c']⟩])) ds ws := (htr.same s3).mono fun b ys e => lk_new hp e
          have sm3 : Same H (upd H3 p (.tup [.int (e : Int), .str ⟨#[c']⟩])) := Same.new (sm.trans s3) hp
          generalize upd H3 p (.tup [.int (e : Int), .str ⟨#[c']⟩]) = H4 at *
          walk_at "rds"
          refine ⟨_, _, _, _, false, rfl, .ty _, .base (.tup fp), kit_ty (by decide +kernel), ?_⟩
          walk_at "rds"
          refine ⟨p, _, rfl, SqT.of fp, rfl, _, _, rfl, _, _, rfl, rfl, ?_⟩
          exact key _ _ ⟨e, c', 0, hst, sm3, hd3, htr3, _, _, _, rfl⟩
        | ill k =>
          rw [hra] at hst
          rw [uns_ill hst, List.append_nil] at hu
          rw [uns_ill hst] at hr
          subst hu
          subst hr
          intro H3 s3
          walk_at "rds"
          refine ⟨_, _, _, _, true, rfl, .ty _, .base (.int _), kit_ty (by decide +kernel), ?_⟩
          walk_at "rds"
          intro p hp
          exact q _ D p ws (Same.new (sm.trans s3) hp) (lk_new hp (s3 _ _ hd)) ((htr.same s3).mono fun t xs e => lk_new hp e) upd_same
      · rw [decide_eq_false h38] at d38
        walk_at "rds"
        refine ⟨D, ws, rfl, SqL.of hd, fun p hp => ?_⟩
        rw [cutV_last2, hwl]
        refine ⟨p, rfl, ⟨_, SqL.of upd_same⟩, ?_⟩
        have fp : upd H0 p (.lst (ws.drop (ds.length - 2))) p = some (.lst (ws.drop (ds.length - 2))) := upd_same
        have hd3 : upd H0 p (.lst (ws.drop (ds.length - 2))) D = some (.lst ws) := lk_new hp hd
        have htr3 : Trs (upd H0 p (.lst (ws.drop (ds.length - 2)))) ds ws := htr.mono fun b ys e => lk_new hp e
        have htl := htr3.drop (ds.length - 2)
        have sm3 : Same H (upd H0 p (.lst (ws.drop (ds.length - 2)))) := Same.new sm hp
        generalize upd H0 p (.lst (ws.drop (ds.length - 2))) = H3 at *
        have htlen := htl.length
        obtain ⟨l2, hl2⟩ : ∃ l2, ds.drop (ds.length - 2) = l2 := ⟨_, rfl⟩
        have hbr := brs_two ds
        rw [hl2] at htl htlen hbr
        generalize ws.drop (ds.length - 2) = xs at *
        have hx2 : xs.length ≤ 1000000 := by rw [htlen, ← hl2, List.length_drop]; omega
        intro D2 hD2
        refine lc_flt (walk_list (xs := xs)) (fun k => dirU (l2.getD k (0, 0, 0))) (fun k => xs.getD k .non) hD2 hx2 (fun H1 sm => SqL.of (sm _ _ fp)) (fun k H1 x H2 y => y.1 ▸ Same.refl _) ?_ ?_
        · rintro k x H4 H5 Nx Mo hk sm4 ⟨rfl, hx⟩ k1 k2
          obtain ⟨t, u, rfl, hu2, ht4⟩ := htl.at k x hx
          have hyk : xs.getD k .non = .ref t := by rw [List.getD_eq_getElem?_getD, hx]; rfl
          have huk : l2.getD k (0, 0, 0) = u := by rw [List.getD_eq_getElem?_getD, hu2]; rfl
          rw [huk] at k1 k2
          rw [hyk] at k1
          have h4 : H5 t = some (.tup [.int (u.1 : Int), .int (u.2.1 : Int), .str ⟨#[u.2.2]⟩]) := sm4 _ _ ht4
          have d93 : decide (V.str ⟨#[u.2.2]⟩ = V.str "]") = decide (u.2.2 = 93) := by
            rw [strEq]
            show decide ([u.2.2] = [93]) = _
            simp
          have dee : decide (V.int (u.2.1 : Int) = V.int ((u.1 : Int) + 1)) = decide (u.2.1 = u.1 + 1) := by
            by_cases h : u.2.1 = u.1 + 1
            · rw [decide_eq_true h, h]
              exact decide_eq_true rfl
            · rw [decide_eq_false h]
              exact decide_eq_false fun e => h (by injection e with e; omega)
          have hdu : dirU u = (decide (u.2.2 = 93) && decide (u.2.1 = u.1 + 1)) := rfl
          refine ⟨rfl, ?_⟩
          by_cases h93 : u.2.2 = 93
          · rw [decide_eq_true h93] at d93 hdu
            refine ⟨_, rfl, ?_⟩
            refine ⟨_, _, _, _, rfl, rfl, SqT.of h4, rfl, ?_⟩
            by_cases hee : u.2.1 = u.1 + 1
            · rw [decide_eq_true hee] at dee hdu
              walk_at "rds"
              refine ⟨_, _, _, _, rfl, rfl, SqT.of h4, rfl, ?_⟩
              walk_at "rds"
              refine ⟨_, _, _, _, rfl, rfl, SqT.of h4, rfl, ?_⟩
              walk_at "rds"
              exact k1 hdu _ (Same.refl _)
            · rw [decide_eq_false hee] at dee hdu
              walk_at "rds"
              refine ⟨_, _, _, _, rfl, rfl, SqT.of h4, rfl, ?_⟩
              walk_at "rds"
              refine ⟨_, _, _, _, rfl, rfl, SqT.of h4, rfl, ?_⟩
              walk_at "rds"
              exact k2 hdu _ (Same.refl _)
          · rw [decide_eq_false h93] at d93 hdu
            refine ⟨_, rfl, ?_⟩
            refine ⟨_, _, _, _, rfl, rfl, SqT.of h4, rfl, ?_⟩
            walk_at "rds"
            exact k2 hdu _ (Same.refl _)
        · intro H4 sm4 hl4
          rw [htlen] at hl4
          have hpl : (picked l2.length (fun k => dirU (l2.getD k (0, 0, 0))) (fun k => xs.getD k V.non)).length = (l2.filter dirU).length := by
            rw [← picked_filter l2 (0, 0, 0) dirU]
            unfold picked
            rw [List.length_map, List.length_map]
          have hd4 := sm4 _ _ hd3
          have htr4 := htr3.same sm4
          have s4 := sm3.trans sm4
          have dlen : decide (V.int ((picked l2.length (fun k => dirU (l2.getD k (0, 0, 0))) (fun k => xs.getD k V.non)).length : Int) = V.int 2) = decide (brs ds = 2) := by
            rw [hpl]
            by_cases h : brs ds = 2
            · rw [decide_eq_true h, hbr.mpr h]
              rfl
            · rw [decide_eq_false h]
              exact decide_eq_false fun e => h (hbr.mp (by injection e with e; omega))
          generalize picked l2.length (fun k => dirU (l2.getD k (0, 0, 0))) (fun k => xs.getD k V.non) = pk at *
          have d60 : decide (V.str ⟨#[c]⟩ = V.str "<") = decide (c = 60) := by
            rw [strEq]
            show decide ([c] = [60]) = _
            simp
          have d62 : decide (V.str ⟨#[c]⟩ = V.str ">") = decide (c = 62) := by
            rw [strEq]
            show decide ([c] = [62]) = _
            simp
          have dE : decide (V.str ⟨#[c]⟩ = V.str mk) = decide (tl mk = [c]) := by
            rw [strEq]
            exact decide_eq_decide.mpr ⟨fun e => e.symm, fun e => e.symm⟩
          have dm : decide (V.str mk = V.str "") = decide (tl mk = []) := by rw [strEq]; rfl
          have dtn : decide (c ∈ ("\t\n" : Str).cps.toList) = decide (c = 9 ∨ c = 10) := by
            show decide (c ∈ [9, 10]) = _
            simp
          by_cases hill : c = 60 ∨ tl mk = [c] ∨ (tl mk = [] ∧ c = 62 ∧ brs ds = 2)
          · have hst := hst2 h38 hill
            rw [uns_ill hst, List.append_nil] at hu
            rw [uns_ill hst] at hr
            subst hu
            subst hr
            by_cases h1 : c = 60
            · rw [decide_eq_true h1] at d60
              walk_at "rds"
              intro p hp
              exact q _ D p ws (Same.new s4 hp) (lk_new hp hd4) (htr4.mono fun t xs e => lk_new hp e) upd_same
            rw [decide_eq_false h1] at d60
            by_cases h2 : tl mk = [c]
            · rw [decide_eq_true h2] at dE
              walk_at "rds"
              intro p hp
              exact q _ D p ws (Same.new s4 hp) (lk_new hp hd4) (htr4.mono fun t xs e => lk_new hp e) upd_same
            rw [decide_eq_false h2] at dE
            obtain ⟨e1, e2, e3⟩ : tl mk = [] ∧ c = 62 ∧ brs us = 2 := by
              rcases hill with h | h | h
              · exact absurd h h1
              · exact absurd h h2
              · exact h
            rw [decide_eq_true e1] at dm
            rw [decide_eq_true e2] at d62
            rw [decide_eq_true e3] at dlen
            walk_at "rds"
            refine ⟨_, _, rfl, .inl ⟨_, SqL.of hl4, rfl⟩, ?_⟩
            walk_at "rds"
            intro p hp
            exact q _ D p ws (Same.new s4 hp) (lk_new hp hd4) (htr4.mono fun t xs e => lk_new hp e) upd_same
          · have hst := hst3 h38 hill
            have h1 : ¬ c = 60 := fun h => hill (.inl h)
            have h2 : ¬ tl mk = [c] := fun h => hill (.inr (.inl h))
            rw [decide_eq_false h1] at d60
            rw [decide_eq_false h2] at dE
            by_cases hm1 : tl mk = []
            · rw [decide_eq_true hm1] at dm
              rw [if_pos hm1] at hst
              by_cases c62 : c = 62
              · have hb3 : brs ds ≠ 2 := fun h => hill (.inr (.inr ⟨hm1, c62, h⟩))
                rw [decide_eq_true c62] at d62
                rw [decide_eq_false hb3] at dlen
                walk_at "rds"
                refine ⟨_, _, rfl, .inl ⟨_, SqL.of hl4, rfl⟩, ?_⟩
                walk_at "rds"
                refine ⟨_, _, rfl, ?_⟩
                exact key _ _ ⟨i + 1, c, _, hst, s4, hd4, htr4, _, _, _, rfl⟩
              · rw [decide_eq_false c62] at d62
                walk_at "rds"
                refine ⟨_, _, rfl, ?_⟩
                exact key _ _ ⟨i + 1, c, _, hst, s4, hd4, htr4, _, _, _, rfl⟩
            · rw [decide_eq_false hm1] at dm
              rw [if_neg hm1] at hst
              by_cases c9 : c = 9 ∨ c = 10
              · rw [decide_eq_true c9] at dtn
                walk_at "rds"
                refine ⟨_, _, rfl, ?_⟩
                refine key _ _ ⟨i + 1, spC c, _, hst, s4, hd4, htr4, some (.str ⟨#[c]⟩), v6, some (.ref D2), ?_⟩
                unfold spC
                rw [if_pos c9]
                rfl
              · rw [decide_eq_false c9] at dtn
                walk_at "rds"
                refine ⟨_, _, rfl, ?_⟩
                refine key _ _ ⟨i + 1, spC c, _, hst, s4, hd4, htr4, some (.str ⟨#[c]⟩), v6, some (.ref D2), ?_⟩
                unfold spC
                rw [if_neg c9]
                rfl
    · have es : i = (tl z).length := by omega
      rw [uns_done (step_end hlt), List.append_nil] at hu
      rw [uns_done (step_end hlt)] at hr
      subst hu
      subst hr
      walk_at "rds"
      intro p hp
      exact q _ D p ws (Same.new sm hp) (lk_new hp hd) (htr.mono fun t xs e => lk_new hp e) upd_same

end
end K7

set_option maxHeartbeats 1000000
set_option pp.maxSteps 700
set_option pp.deepTerms false
set_option pp.deepTerms.threshold 14
namespace K7
open PySem PySem.Spec PyProof.Rows L2 Mx
open TL Num
def sp__law_collected : Sp := fun vs H Q _ => ∃ (z m : Str) (us : List (Nat × Nat × Nat)) (r : Option Nat), vs = [.str z, .str m] ∧ W4 z ∧ MarkOk m ∧ uns (tl z) (tl m) 0 0 = (us, r) ∧
  ∀ H' D p ws, Same H H' → H' D = some (.lst ws) → Trs H' us ws → H' p = some (.tup [.ref D, optV r]) → Q (.ref p) H'

local macro_rules | `(tactic| walk_at "sz") => `(tactic| first | assumption | decide | omega | (unfold sizeLine; omega) | exact Nat.le_of_ble_eq_true rfl)
local macro_rules | `(tactic| walk_at "hp") => `(tactic| (first | assumption | exact upd_same | (rw [upd_ne (by assumption)]; assumption)))
local macro_rules | `(tactic| walk_at "rd") => `(tactic| (first
  | refine ⟨_, rfl, ?_⟩
  | (refine ⟨_, _, rfl, rfl, ?rdc, ?_⟩; (case rdc => first | (show (0 : Int) < _; omega) | (exact ⟨by omega, by omega⟩) | (exact .inl ⟨by omega, by omega⟩) | (exact .inr ⟨by omega, by omega⟩) | exact ⟨by decide, by decide, by decide⟩))
  | refine ⟨_, _, rfl, rfl, ?_⟩
  | refine .inl ⟨_, rfl, ?_⟩
  | refine ⟨rfl, ?_⟩
  | refine ⟨⟨_, rfl⟩, ?_⟩
  | refine ⟨⟨_, SqL.of (by walk_at "hp")⟩, ?_⟩
  | refine ⟨_, _, _, _, rfl, rfl, SqL.of (by walk_at "hp"), (by rfl), ?_⟩
  | refine ⟨_, _, _, _, rfl, rfl, (by walk_at "hp"), (by rfl), ?_⟩
  | refine ⟨_, _, rfl, ⟨by walk_at "sz", rfl⟩, ?_⟩
  | refine ⟨_, _, _, rfl, rfl, by walk_at "sz", by assumption, ?_⟩
  | refine And.intro (by walk_at "sz") ?_
  | refine itT rfl ?_
  | refine itF rfl ?_
  | refine itT (by assumption) ?_
  | refine itF (by assumption) ?_
  | refine itT (decide_eq_true (by omega)) ?_
  | refine itF (decide_eq_false (by omega)) ?_
  | refine itT (dVi (by omega)) ?_
  | refine itF (dViN (by omega)) ?_
  | refine itT (notT (by assumption)) ?_
  | refine itF (notF (by assumption)) ?_
  | refine itT (notT (dViN (by omega))) ?_
  | refine itF (notF (dVi (by omega))) ?_
  | refine itT (decide_eq_true rfl) ?_
  | refine itF (notF (decide_eq_true rfl)) ?_
  | refine ite2 (fun _ => ?_) (fun _ => ?_)
  | with_reducible refine tC_ ?_
  | with_reducible refine tNext_ ?_
  | with_reducible refine tNil_ ?_
  | with_reducible refine tYes_ ?_))
local macro_rules | `(tactic| walk_at "rds") => `(tactic| repeat' (walk_at "rd"))
section
variable {P : Program} {w : World} {K : PySem.W.Frag} {mg : Str → Option Value} {base : Heap}

local macro_rules | `(tactic| walk_at "lk") => `(tactic| first
  | with_reducible assumption
  | with_reducible exact upd_same
  | (walk_at "lk1"; walk_at "lk")
  | fail "lk")
local macro_rules | `(tactic| walk_at "lk1") => `(tactic| first
  | ((with_reducible refine' lk_new ?a1 ?a2); (case a1 => with_reducible assumption); (case' a2 => skip))
  | ((with_reducible refine' lk_ne ?a1 ?a2); (case a1 => with_reducible assumption); (case' a2 => skip))
  | ((with_reducible refine' lk_neN ?a1 ?a2 ?a3); (case a1 => with_reducible assumption); (case a2 => walk_at "lk"); (case' a3 => skip))
  | ((with_reducible refine' lk_neN' ?a1 ?a2 ?a3); (case a1 => with_reducible assumption); (case a2 => walk_at "lk"); (case' a3 => skip))
  | ((with_reducible refine' lk_same ?a1 ?a2); (case a1 => with_reducible assumption); (case' a2 => skip))
  | ((with_reducible refine' lk_go ?a1 ?a2 ?a3); (case a1 => with_reducible assumption); (case a2 => walk_at "nt"); (case' a3 => skip))
  | ((with_reducible refine' lk_kp_nl ?a1 ?a2 ?a3 ?a4); (case a1 => with_reducible assumption); (case a2 => walk_at "st"); (case a3 => walk_at "nl"); (case' a4 => skip))
  | ((with_reducible refine' lk_kp ?a1 ?a2 ?a3); (case a1 => with_reducible assumption); (case a2 => walk_at "ne"); (case' a3 => skip))
  | fail "lk1")
local macro_rules | `(tactic| walk_at "nt") => `(tactic| first
  | (intro _ z; cases z)
  | fail "nt")
local macro_rules | `(tactic| walk_at "nl") => `(tactic| first
  | (intro _ z; cases z)
  | fail "nl")
local macro_rules | `(tactic| walk_at "ne") => `(tactic| first
  | with_reducible assumption
  | ((with_reducible refine' ne_st ?a1 ?a2); (case a1 => with_reducible assumption); (case a2 => walk_at "st"))
  | fail "ne")
local macro_rules | `(tactic| walk_at "st") => `(tactic| first
  | with_reducible assumption
  | with_reducible exact st_new (by with_reducible assumption) (by walk_at "st")
  | with_reducible exact st_same (by with_reducible assumption) (by walk_at "st")
  | with_reducible exact st_go (by with_reducible assumption) (by walk_at "st")
  | with_reducible exact st_ne (by walk_at "ns") (by walk_at "st")
  | fail "st")
local macro_rules | `(tactic| walk_at "ns") => `(tactic| first
  | with_reducible assumption
  | with_reducible exact Ne.symm (by with_reducible assumption)
  | with_reducible exact Ne.symm (ne_st (by with_reducible assumption) (by walk_at "st"))
  | fail "ns")
local macro_rules | `(tactic| walk_at "fr") => `(tactic| first
  | with_reducible assumption
  | with_reducible exact Same.refl _
  | with_reducible exact Go.refl _ _
  | with_reducible exact Kp.refl _ _
  | with_reducible exact LamX.ExtN.refl _
  | with_reducible exact nw_refl
  | (walk_at "fr1"; walk_at "fr")
  | fail "fr")
local macro_rules | `(tactic| walk_at "fr1") => `(tactic| first
  | ((with_reducible refine' fr_new ?a1 ?a2); (case a1 => with_reducible assumption); (case' a2 => skip))
  | ((with_reducible refine' go_new ?a1 ?a2); (case a1 => with_reducible assumption); (case' a2 => skip))
  | ((with_reducible refine' kp_new ?a1 ?a2); (case a1 => with_reducible assumption); (case' a2 => skip))
  | ((with_reducible refine' fr_same ?a1 ?a2); (case a1 => with_reducible assumption); (case' a2 => skip))
  | ((with_reducible refine' go_same ?a1 ?a2); (case a1 => with_reducible assumption); (case' a2 => skip))
  | ((with_reducible refine' kp_same ?a1 ?a2); (case a1 => with_reducible assumption); (case' a2 => skip))
  | ((with_reducible refine' go_go ?a1 ?a2); (case a1 => with_reducible assumption); (case' a2 => skip))
  | ((with_reducible refine' go_kp ?a1 ?a2 ?a3 ?a4); (case a1 => with_reducible assumption); (case a2 => with_reducible assumption); (case a3 => walk_at "st"); (case' a4 => skip))
  | ((with_reducible refine' kp_kp ?a1 ?a2); (case a1 => with_reducible assumption); (case' a2 => skip))
  | ((with_reducible refine' kp_upd ?a1); (case' a1 => skip))
  | ((with_reducible refine' go_set2 ?a1 ?a2 ?a3 ?a4); (case a1 => walk_at "lk"); (case a2 => with_reducible assumption); (case a3 => walk_at "fr"); (case' a4 => skip))
  | ((with_reducible refine' fr_set2 ?a1 ?a2 ?a3); (case a1 => with_reducible assumption); (case a2 => walk_at "fr"); (case' a3 => skip))
  | ((with_reducible refine' en_new ?a1 ?a2); (case a1 => with_reducible assumption); (case' a2 => skip))
  | ((with_reducible refine' en_same ?a1 ?a2); (case a1 => with_reducible assumption); (case' a2 => skip))
  | ((with_reducible refine' en_go ?a1 ?a2); (case a1 => with_reducible assumption); (case' a2 => skip))
  | ((with_reducible refine' en_set2 ?a1 ?a2 ?a3); (case a1 => with_reducible assumption); (case a2 => walk_at "fr"); (case' a3 => skip))
  | ((with_reducible refine' en_kp ?a1 ?a2 ?a3 ?a4); (case a1 => with_reducible assumption); (case a2 => with_reducible assumption); (case a3 => walk_at "fr"); (case' a4 => skip))
  | ((with_reducible refine' nw_new ?a1 ?a2); (case a1 => with_reducible assumption); (case' a2 => skip))
  | ((with_reducible refine' nw_same ?a1 ?a2); (case a1 => with_reducible assumption); (case' a2 => skip))
  | ((with_reducible refine' nw_go ?a1 ?a2); (case a1 => with_reducible assumption); (case' a2 => skip))
  | ((with_reducible refine' nw_kp ?a1 ?a2 ?a3); (case a1 => with_reducible assumption); (case a2 => walk_at "st"); (case' a3 => skip))
  | ((with_reducible refine' nw_set ?a1 ?a2); (case a1 => walk_at "lk"); (case' a2 => skip))
  | ((with_reducible refine' nw_set2 ?a1 ?a2 ?a3); (case a1 => with_reducible assumption); (case a2 => walk_at "fr"); (case' a3 => skip))
  | fail "fr1")
local macro_rules | `(tactic| walk_at "tb") => `(tactic| first
  | with_reducible assumption
  | (walk_at "tb1"; walk_at "tb")
  | fail "tb")
local macro_rules | `(tactic| walk_at "tb1") => `(tactic| first
  | ((with_reducible refine' tabs_new ?a1 ?a2); (case a1 => with_reducible assumption); (case' a2 => skip))
  | ((with_reducible refine' tabs_same ?a1 ?a2); (case a1 => with_reducible assumption); (case' a2 => skip))
  | ((with_reducible refine' tabs_go ?a1 ?a2); (case a1 => with_reducible assumption); (case' a2 => skip))
  | ((with_reducible refine' tabs_kp ?a1 ?a2 ?a3); (case a1 => with_reducible assumption); (case a2 => walk_at "st"); (case' a3 => skip))
  | ((with_reducible refine' tabs_set ?a1 ?a2); (case a1 => walk_at "lk"); (case' a2 => skip))
  | fail "tb1")
local macro_rules | `(tactic| walk_at "dg") => `(tactic| first
  | assumption
  | (refine' dp_ext ?a1 ?a2; (case a1 => assumption); (case a2 => walk_at "fr"))
  | (refine' dn_use ?a1 ?a2; (case a1 => assumption); (case a2 => walk_at "fr"))
  | fail "dg")
local macro_rules | `(tactic| walk_at "dp") => `(tactic| first
  | assumption
  | exact .str _
  | exact .int _
  | exact .bl _
  | exact .non
  | (refine' Dp.lst (SqL.of ?a1) ?a2; (case a1 => walk_at "lk"); (case a2 => walk_at "dpa"))
  | (refine' Dp.tup (SqT.of ?a1) ?a2; (case a1 => walk_at "lk"); (case a2 => walk_at "dpa"))
  | (walk_at "dg")
  | fail "dp")
local macro_rules | `(tactic| walk_at "dpa") => `(tactic| first
  | assumption
  | exact .nil
  | (refine' DpAll.cons ?a1 ?a2; (case a1 => walk_at "dp"); (case a2 => walk_at "dpa"))
  | fail "dpa")
local macro_rules | `(tactic| walk_at "dx") => `(tactic| first
  | assumption
  | exact .str _
  | exact .int _
  | exact .bl _
  | exact .non
  | (refine' Dx.lst (SqL.of ?a1) ?a2; (case a1 => walk_at "lk"); (case a2 => walk_at "dxa"))
  | (refine' Dx.tup (SqT.of ?a1) ?a2; (case a1 => walk_at "lk"); (case a2 => walk_at "dxa"))
  | (refine' Dx.dct (.inl ?a1) ?a2; (case a1 => walk_at "lk"); (case a2 => exact .nil))
  | (refine' dx_ext ?a1 ?a2; (case a1 => assumption); (case a2 => walk_at "fr"))
  | fail "dx")
local macro_rules | `(tactic| walk_at "dxa") => `(tactic| first
  | assumption
  | exact .nil
  | (refine' DxAll.cons ?a1 ?a2; (case a1 => walk_at "dx"); (case a2 => walk_at "dxa"))
  | fail "dxa")
local macro_rules | `(tactic| walk_at "ty") => `(tactic| first
  | assumption
  | (refine' ty_ext ?a1 ?a2; (case a1 => assumption); (case a2 => walk_at "fr"))
  | fail "ty")
local macro_rules | `(tactic| walk_at "shp") => `(tactic| first
  | assumption
  | (simp only [SeqAt.shaped, lay_l, lay_t, lay_i, lay_b, lay_n, lay_c, lay_e, PyData.depth, PyData.depthAll, Bool.and_true, Bool.true_and, Bool.and_eq_true, decide_eq_true_eq]
     repeat' (first | assumption | (refine And.intro ?_ ?_) | (exact rfl) | (decide +kernel) | omega))
  | decide +kernel)
local macro_rules | `(tactic| walk_at "side") => `(tactic| first
  | assumption
  | (intros; trivial)
  | omega
  | (walk_at "lk")
  | (walk_at "st")
  | (walk_at "sz")
  | (walk_at "tb")
  | (walk_at "fr"))
local macro_rules | `(tactic| walk_at "cl") => `(tactic| ((repeat' (apply Exists.intro)); refine And.intro rfl ?_; repeat (refine And.intro (by walk_at "side") ?_)))
local macro_rules | `(tactic| walk_at "eqd") => `(tactic| (refine ⟨_, _, by walk_at "dp", by walk_at "dp", by walk_at "shp", by walk_at "shp", ?_⟩; rw [eqv_same (by walk_at "shp")]))
local macro_rules | `(tactic| walk_at "new") => `(tactic| refine fun (p : Addr) (hp : (_ : Hp) p = none) => ?_)
local macro_rules | `(tactic| walk_at "rdn") => `(tactic| (repeat' (first | walk_at "rd" | walk_at "new")))

theorem ok__law_collected (T : Tx P w K mg base) (G_units : Gx.GFn2 P w K mg base 6 T.d_units.f T.d_units.fd ["raw", "mark"] (SU T.a_IllFormed) Ut.new) : FnOk P w K mg base CX0 8 T.d__law_collected.f T.d__law_collected.fd ["raw_so", "edge"] sp__law_collected := by
  have sc := sc__law_collected
  refine T.d__law_collected.F.ok sc (fun vs H Q E h => ?_) (fun cdv A outer s H vs Q E hr h => ?_)
  · obtain ⟨z, mk, us, r, rfl, hz, hm, hu, q⟩ := h
    rfl
  · obtain ⟨z, mk, us, r, rfl, hz, hm, hu, q⟩ := h
    refine' ⟨_, (pss_cons (ps_par (i := 2) (j := 3) (by rfl) sc.nd rfl rfl (by decide) rfl rfl (pa_cons (pe_lst pa_nil) (pa_cons pe_non pa_nil)) (by rfl))
      (pss_cons ?tr
      (pss_one (ps_ret (pe_tup (pa_cons (pv 2) (pa_cons (pe_ifExp (pt_cmpR op_isN (pv 3) pe_non (nomark _)) pe_non (Mx.pe_xo (pv 3))) pa_nil))))))), ?_⟩
    case tr =>
      refine' ps_try_k1 (tb := fun W => Gx.tForG (SU T.a_IllFormed) K (Gx.tCall2 (SU T.a_IllFormed) Ut.new (["raw", "mark"] : List Str).length [] (tCons (tVar 0) (tCons (tVar 1) tNil))) (gName 4) (tDrop (tBM K "list" rAppend (tVar 2) (tCons (tVar 4) tNil))) W) (ts := fun _ _ _ => tAsg (tVar 5) (gName 3)) (i := 5) rfl rfl rfl sc.nd rfl rfl ⟨rfl, T.x_IllFormed.mgC, by decide⟩ takes0 ?bd ?su
      case bd =>
        intro W pn xe tk po
        refine pss_one ?_
        refine' Gx.ps_forG (S := SU T.a_IllFormed) (k := 6) (Wx := W) po rfl tk (hr.mono (by decide)) ?he ?hg ?hb
        case he => exact Gx.pgen2_call (S := SU T.a_IllFormed) (start := Ut.new) G_units (hr.mono (by decide)) rfl T.d_units.m T.d_units.F.kp T.d_units.b .nil (pa_cons (pv 0) (pa_cons (pv 1) pa_nil))
        case hg => exact pg_name (i := 4) sc.nd rfl (Or.inl rfl)
        case hb => exact pss_one (ps_expr (pe_bm PySem.F.plainAttrs_list PySem.F.slot_list_append PySem.F.type_list_append mt_append (pv 2) (pa_cons (pv 4) pa_nil)))
      case su =>
        intro a oe cls d pn hz hf
        exact pss_one (ps_set (i := 3) sc.nd rfl (Or.inl rfl) (pv 5))
    
    have zl : z.length = (tl z).length := len_tl z
    have z4 := hz.2
    walk_at "rds"
    intro D hD
    refine ⟨_, _, rfl, ?_⟩
    dsimp only
    have fD : upd H D (.lst []) D = some (.lst []) := upd_same
    have s0 : Same H (upd H D (.lst [])) := Same.new (Same.refl _) hD
    generalize upd H D (.lst []) = H0 at *
    refine tCut (R := fun σ' H' => ∃ ws, Same H H' ∧ H' D = some (.lst ws) ∧ Trs H' us ws ∧ ∃ v4, (r = none ∧ σ' = [some (.str z), some (.str mk), some (.ref D), some .non, v4, none]) ∨ ∃ (k : Nat) (a : Addr), r = some k ∧ XoAt H' a T.a_IllFormed [("position", .int (k : Int))] ∧ σ' = [some (.str z), some (.str mk), some (.ref D), some (.ref a), v4, none]) ?_ (fun key => ?_)
    · rintro σ' H' ⟨ws, sm, hd, htr, v4, ⟨rfl, rfl⟩ | ⟨k, a, rfl, hx, rfl⟩⟩
      · walk_at "rds"
        intro p hp
        exact q _ D p ws (Same.new sm hp) (lk_new hp hd) (htr.mono fun t xs e => lk_new hp e) upd_same
      · walk_at "rds"
        refine ⟨a, T.a_IllFormed, _, .int (k : Int), rfl, hx, T.xc_IllFormed, T.fn_IllFormed, rfl, ?_⟩
        walk_at "rds"
        intro p hp
        exact q _ D p ws (Same.new sm hp) (lk_new hp hd) (htr.mono fun t xs e => lk_new hp e) upd_same
    · walk_at "rds"
      refine ⟨fun n tt σ' H' => ∃ (j br : Nat) (ds : List (Nat × Nat × Nat)) (ws : List V), n = (tl z).length + 1 - j ∧ (tt = .new [.str z, .str mk] ∧ j = 0 ∧ br = 0 ∨ tt = .at z mk j br) ∧ j ≤ (tl z).length ∧ br ≤ 2 ∧ Same H H' ∧ H' D = some (.lst ws) ∧ Trs H' ds ws ∧ us = ds ++ (uns (tl z) (tl mk) j br).1 ∧ r = (uns (tl z) (tl mk) j br).2 ∧ ds.length ≤ j ∧ ∃ v4, σ' = [some (.str z), some (.str mk), some (.ref D), some .non, v4, none], ⟨_, 0, 0, [], [], rfl, .inl ⟨rfl, rfl, rfl⟩, Nat.zero_le _, Nat.zero_le _, s0, fD, .nil, by rw [hu]; rfl, by rw [hu], Nat.zero_le _, _, rfl⟩, ?_⟩
      clear hu
      rintro n tt σ' H' ⟨j, br, ds, ws, rfl, ht, hj, hbr, sm, hd, htr, hu, hr2, hl, v4, rfl⟩
      have hwl := htr.length
      refine su_w hz hm hbr ht ?_
      unfold Wu
      cases hs : stepAt (tl z) (tl mk) j br with
      | done =>
        rw [uns_done hs] at hu hr2
        rw [List.append_nil] at hu
        subst hu
        subst hr2
        intro H3 s3
        exact key _ _ ⟨ws, sm.trans s3, s3 _ _ hd, htr.same s3, _, .inl ⟨rfl, rfl⟩⟩
      | unit e c b =>
        obtain ⟨e1, e2, e3⟩ := step_lt hs
        rw [uns_unit hs] at hu hr2
        intro H3 p3 s3 hp3
        have f2 : upd H3 p3 (.tup [.int (j : Int), .int (e : Int), .str ⟨#[c]⟩]) p3 = some (.tup (uV (j, e, c))) := upd_same
        have d2 : upd H3 p3 (.tup [.int (j : Int), .int (e : Int), .str ⟨#[c]⟩]) D = some (.lst ws) := lk_new hp3 (s3 _ _ hd)
        have sm2 : Same H (upd H3 p3 (.tup [.int (j : Int), .int (e : Int), .str ⟨#[c]⟩])) := (sm.trans s3).trans (Same.new (Same.refl _) hp3)
        have t2 : Trs (upd H3 p3 (.tup [.int (j : Int), .int (e : Int), .str ⟨#[c]⟩])) ds ws := (htr.same s3).mono fun t xs e => lk_new hp3 e
        refine ⟨fun σ4 H4 => Same H H4 ∧ H4 D = some (.lst (ws ++ [.ref p3])) ∧ Trs H4 (ds ++ [(j, e, c)]) (ws ++ [.ref p3]) ∧ ∃ v4, σ4 = [some (.str z), some (.str mk), some (.ref D), some .non, v4, none], fun σ4 H4 h4 => ⟨trivial, _, by omega, e, b, ds ++ [(j, e, c)], ws ++ [.ref p3], rfl, .inr rfl, e2, e3, h4.1, h4.2.1, h4.2.2.1, by rw [List.append_assoc]; exact hu, hr2, by rw [List.length_append]; show ds.length + 1 ≤ e; omega, h4.2.2.2⟩, ?_⟩
        generalize upd H3 p3 (.tup [.int (j : Int), .int (e : Int), .str ⟨#[c]⟩]) = H4 at *
        walk_at "rds"
        refine ⟨.inl ⟨rfl, _, SqL.of d2⟩, ?_⟩
        walk_at "rds"
        refine ⟨D, _, _, rfl, rfl, d2, by rw [hwl]; unfold sizeLine; omega, ?_⟩
        walk_at "rds"
        exact ⟨fun b o e => by rw [upd_ne (ne_of_none e hD)]; exact sm2 b o e, upd_same, Trs.snoc (t2.mono (tup_put d2)) (tup_put d2 _ _ f2), _, rfl⟩
      | ill k =>
        rw [uns_ill hs] at hu hr2
        rw [List.append_nil] at hu
        subst hu
        subst hr2
        intro H3 d s3 hd2
        refine ⟨T.si_IllFormed, true, T.eo_IllFormed, fun _ ax hax => ?_, fun z => by cases z⟩
        have fx := lk_new (o := xoO ax (.ref T.a_IllFormed) (some d)) hax (upd_same (H := H3) (a := d) (o := .xd [("position", .int (k : Int))]))
        have d2 := lk_new (o := xoO ax (.ref T.a_IllFormed) (some d)) hax (lk_new (o := .xd [("position", .int (k : Int))]) hd2 (s3 _ _ hd))
        have sm2 : Same H (upd (upd H3 d (.xd [("position", .int (k : Int))])) ax (xoO ax (.ref T.a_IllFormed) (some d))) := Same.new (Same.new (sm.trans s3) hd2) hax
        have t2 : Trs (upd (upd H3 d (.xd [("position", .int (k : Int))])) ax (xoO ax (.ref T.a_IllFormed) (some d))) us ws := ((htr.same s3).mono fun t xs e => lk_new hd2 e).mono fun t xs e => lk_new hax e
        walk_at "rds"
        refine ⟨ax, T.a_IllFormed, _, .int (k : Int), rfl, ⟨d, upd_same, fx⟩, T.xc_IllFormed, T.fn_IllFormed, rfl, ?_⟩
        walk_at "rds"
        intro p hp
        exact q _ D p ws (Same.new sm2 hp) (lk_new hp d2) (t2.mono fun t xs e => lk_new hp e) upd_same

end
end K7

set_option maxHeartbeats 1000000
set_option pp.maxSteps 700
set_option pp.deepTerms false
set_option pp.deepTerms.threshold 14
namespace K7
open PySem PySem.Spec PyProof.Rows L2 Mx
open TL Num
def OkP (z : Str) : Prop := 0 < z.cps.size ∧ z.cps.size ≤ 10 ∧ ∀ c ∈ z.cps.toList, c < 128
def pieceV : List V := [.str "]]>", .str "]", .str "]]", .str ">", .str "a", .str " ", .str "\t", .str "\n", .str "'", .str "\"", .str "<", .str "x;", .str "#"]
theorem pieceV_at {i : Nat} {x : V} (h : pieceV[i]? = some x) : ∃ z : Str, x = .str z ∧ OkP z := by
  have k : ∀ x ∈ pieceV, ∃ z : Str, x = .str z ∧ OkP z := by
    intro x hx
    simp only [pieceV, List.mem_cons, List.not_mem_nil, or_false] at hx
    rcases hx with rfl | rfl | rfl | rfl | rfl | rfl | rfl | rfl | rfl | rfl | rfl | rfl | rfl <;> exact ⟨_, rfl, by decide +kernel, by decide +kernel, by decide +kernel⟩
  exact k x (List.mem_of_getElem? h)
def moreV : List V := [.str "", .str "0", .str "1", .str "x", .str "#", .str ";", .str "&", .str "l", .str "a", .str " "]
theorem moreV_at {i : Nat} {x : V} (h : moreV[i]? = some x) : ∃ z : Str, x = .str z ∧ z.cps.size ≤ 1 ∧ ∀ c ∈ z.cps.toList, c < 128 := by
  have k : ∀ x ∈ moreV, ∃ z : Str, x = .str z ∧ z.cps.size ≤ 1 ∧ ∀ c ∈ z.cps.toList, c < 128 := by
    intro x hx
    simp only [moreV, List.mem_cons, List.not_mem_nil, or_false] at hx
    rcases hx with rfl | rfl | rfl | rfl | rfl | rfl | rfl | rfl | rfl | rfl <;> exact ⟨_, rfl, by decide +kernel, by decide +kernel⟩
  exact k x (List.mem_of_getElem? h)
theorem sz_tl (z : Str) : z.cps.size = (tl z).length := by show _ = z.cps.toList.length; simp
theorem okP_of {z : Str} {l : List Nat} (e : tl z = l) (h0 : 0 < l.length) (h1 : l.length ≤ 10) (h2 : ∀ c ∈ l, c < 128) : OkP z := ⟨by rw [sz_tl, e]; exact h0, by rw [sz_tl, e]; exact h1, fun c hc => h2 c (by rw [← e]; exact hc)⟩
theorem dg_asc10 : ∀ n < 128, (dg 10 n).length ≤ 3 ∧ ∀ c ∈ dg 10 n, c < 128 := by decide +kernel
theorem dg_asc16 : ∀ n < 128, (dg 16 n).length ≤ 3 ∧ ∀ c ∈ dg 16 n, c < 128 := by decide +kernel
theorem int_asc : ∀ n < 200, (tl (toString ((n : Nat) : Int) : Str)).length ≤ 3 ∧ ∀ c ∈ tl (toString ((n : Nat) : Int) : Str), c < 128 := by decide +kernel
theorem lg_200 : ∀ n < 200, ((n : Nat) : Int).natAbs.log2 < 1920 := by decide +kernel
theorem codes_128 : ∀ c ∈ codes, c < 128 := by decide +kernel
theorem five_piece : ∀ i < 5, (toS ([38] ++ (fiveL.getD i ([], 0)).1 ++ [59])).cps.size ≤ 10 ∧ 0 < (toS ([38] ++ (fiveL.getD i ([], 0)).1 ++ [59])).cps.size ∧ ∀ c ∈ (toS ([38] ++ (fiveL.getD i ([], 0)).1 ++ [59])).cps.toList, c < 128 := by decide +kernel
theorem cut_all {z : Str} {b e : Option Int} {p : Nat → Prop} (h : ∀ c ∈ tl z, p c) : ∀ c ∈ tl (cutS z b e), p c := by
  intro c hc
  have hc : c ∈ ((((tl z).drop (HT.sIx z.length 0 b)).take (HT.sIx z.length z.length e - HT.sIx z.length 0 b)).toArray).toList := hc
  rw [List.toList_toArray] at hc
  exact h c (List.mem_of_mem_drop (List.mem_of_mem_take hc))
theorem cut_len (z : Str) (b e : Option Int) : (tl (cutS z b e)).length ≤ (tl z).length := by
  show ((((tl z).drop (HT.sIx z.length 0 b)).take (HT.sIx z.length z.length e - HT.sIx z.length 0 b)).toArray).toList.length ≤ _
  rw [List.toList_toArray, List.length_take, List.length_drop]
  omega
def sp__law_piece : Sp := fun vs H Q _ => ∃ (a : Addr) (c : Int), vs = [.ref a] ∧ StAt a c H ∧ c ≤ 1000000 ∧ ∀ (z : Str) (H' : Hp), z.cps.size ≤ 30 → (∀ x ∈ z.cps.toList, x < 128) → Kp a H H' → StAt a (c + 10) H' → Q (.str z) H'

local macro_rules | `(tactic| walk_at "sz") => `(tactic| first | assumption | decide | omega | (unfold sizeLine; omega) | exact Nat.le_of_ble_eq_true rfl)
local macro_rules | `(tactic| walk_at "hp") => `(tactic| (first | assumption | exact upd_same | (rw [upd_ne (by assumption)]; assumption)))
local macro_rules | `(tactic| walk_at "rd") => `(tactic| (first
  | refine ⟨_, rfl, ?_⟩
  | (refine ⟨_, _, rfl, rfl, ?rdc, ?_⟩; (case rdc => first | (show (0 : Int) < _; omega) | (exact ⟨by omega, by omega⟩) | (exact .inl ⟨by omega, by omega⟩) | (exact .inr ⟨by omega, by omega⟩) | exact ⟨by decide, by decide, by decide⟩))
  | refine ⟨_, _, rfl, rfl, ?_⟩
  | refine .inl ⟨_, rfl, ?_⟩
  | refine ⟨rfl, ?_⟩
  | refine ⟨⟨_, rfl⟩, ?_⟩
  | refine ⟨⟨_, SqL.of (by walk_at "hp")⟩, ?_⟩
  | refine ⟨_, _, _, _, rfl, rfl, SqL.of (by walk_at "hp"), (by rfl), ?_⟩
  | refine ⟨_, _, _, _, rfl, rfl, (by walk_at "hp"), (by rfl), ?_⟩
  | refine ⟨_, _, rfl, ⟨by walk_at "sz", rfl⟩, ?_⟩
  | refine ⟨_, _, _, rfl, rfl, by walk_at "sz", by assumption, ?_⟩
  | refine And.intro (by walk_at "sz") ?_
  | refine itT rfl ?_
  | refine itF rfl ?_
  | refine itT (by assumption) ?_
  | refine itF (by assumption) ?_
  | refine itT (decide_eq_true (by omega)) ?_
  | refine itF (decide_eq_false (by omega)) ?_
  | refine itT (dVi (by omega)) ?_
  | refine itF (dViN (by omega)) ?_
  | refine itT (notT (by assumption)) ?_
  | refine itF (notF (by assumption)) ?_
  | refine itT (notT (dViN (by omega))) ?_
  | refine itF (notF (dVi (by omega))) ?_
  | refine itT (decide_eq_true rfl) ?_
  | refine itF (notF (decide_eq_true rfl)) ?_
  | refine ite2 (fun _ => ?_) (fun _ => ?_)
  | with_reducible refine tC_ ?_
  | with_reducible refine tNext_ ?_
  | with_reducible refine tNil_ ?_
  | with_reducible refine tYes_ ?_))
local macro_rules | `(tactic| walk_at "rds") => `(tactic| repeat' (walk_at "rd"))
section
variable {P : Program} {w : World} {K : PySem.W.Frag} {mg : Str → Option Value} {base : Heap}

local macro_rules | `(tactic| walk_at "lk") => `(tactic| first
  | with_reducible assumption
  | with_reducible exact upd_same
  | (walk_at "lk1"; walk_at "lk")
  | fail "lk")
local macro_rules | `(tactic| walk_at "lk1") => `(tactic| first
  | ((with_reducible refine' lk_new ?a1 ?a2); (case a1 => with_reducible assumption); (case' a2 => skip))
  | ((with_reducible refine' lk_ne ?a1 ?a2); (case a1 => with_reducible assumption); (case' a2 => skip))
  | ((with_reducible refine' lk_neN ?a1 ?a2 ?a3); (case a1 => with_reducible assumption); (case a2 => walk_at "lk"); (case' a3 => skip))
  | ((with_reducible refine' lk_neN' ?a1 ?a2 ?a3); (case a1 => with_reducible assumption); (case a2 => walk_at "lk"); (case' a3 => skip))
  | ((with_reducible refine' lk_same ?a1 ?a2); (case a1 => with_reducible assumption); (case' a2 => skip))
  | ((with_reducible refine' lk_go ?a1 ?a2 ?a3); (case a1 => with_reducible assumption); (case a2 => walk_at "nt"); (case' a3 => skip))
  | ((with_reducible refine' lk_kp_nl ?a1 ?a2 ?a3 ?a4); (case a1 => with_reducible assumption); (case a2 => walk_at "st"); (case a3 => walk_at "nl"); (case' a4 => skip))
  | ((with_reducible refine' lk_kp ?a1 ?a2 ?a3); (case a1 => with_reducible assumption); (case a2 => walk_at "ne"); (case' a3 => skip))
  | fail "lk1")
local macro_rules | `(tactic| walk_at "nt") => `(tactic| first
  | (intro _ z; cases z)
  | fail "nt")
local macro_rules | `(tactic| walk_at "nl") => `(tactic| first
  | (intro _ z; cases z)
  | fail "nl")
local macro_rules | `(tactic| walk_at "ne") => `(tactic| first
  | with_reducible assumption
  | ((with_reducible refine' ne_st ?a1 ?a2); (case a1 => with_reducible assumption); (case a2 => walk_at "st"))
  | fail "ne")
local macro_rules | `(tactic| walk_at "st") => `(tactic| first
  | with_reducible assumption
  | with_reducible exact st_new (by with_reducible assumption) (by walk_at "st")
  | with_reducible exact st_same (by with_reducible assumption) (by walk_at "st")
  | with_reducible exact st_go (by with_reducible assumption) (by walk_at "st")
  | with_reducible exact st_ne (by walk_at "ns") (by walk_at "st")
  | fail "st")
local macro_rules | `(tactic| walk_at "ns") => `(tactic| first
  | with_reducible assumption
  | with_reducible exact Ne.symm (by with_reducible assumption)
  | with_reducible exact Ne.symm (ne_st (by with_reducible assumption) (by walk_at "st"))
  | fail "ns")
local macro_rules | `(tactic| walk_at "fr") => `(tactic| first
  | with_reducible assumption
  | with_reducible exact Same.refl _
  | with_reducible exact Go.refl _ _
  | with_reducible exact Kp.refl _ _
  | with_reducible exact LamX.ExtN.refl _
  | with_reducible exact nw_refl
  | (walk_at "fr1"; walk_at "fr")
  | fail "fr")
local macro_rules | `(tactic| walk_at "fr1") => `(tactic| first
  | ((with_reducible refine' fr_new ?a1 ?a2); (case a1 => with_reducible assumption); (case' a2 => skip))
  | ((with_reducible refine' go_new ?a1 ?a2); (case a1 => with_reducible assumption); (case' a2 => skip))
  | ((with_reducible refine' kp_new ?a1 ?a2); (case a1 => with_reducible assumption); (case' a2 => skip))
  | ((with_reducible refine' fr_same ?a1 ?a2); (case a1 => with_reducible assumption); (case' a2 => skip))
  | ((with_reducible refine' go_same ?a1 ?a2); (case a1 => with_reducible assumption); (case' a2 => skip))
  | ((with_reducible refine' kp_same ?a1 ?a2); (case a1 => with_reducible assumption); (case' a2 => skip))
  | ((with_reducible refine' go_go ?a1 ?a2); (case a1 => with_reducible assumption); (case' a2 => skip))
  | ((with_reducible refine' go_kp ?a1 ?a2 ?a3 ?a4); (case a1 => with_reducible assumption); (case a2 => with_reducible assumption); (case a3 => walk_at "st"); (case' a4 => skip))
  | ((with_reducible refine' kp_kp ?a1 ?a2); (case a1 => with_reducible assumption); (case' a2 => skip))
  | ((with_reducible refine' kp_upd ?a1); (case' a1 => skip))
  | ((with_reducible refine' go_set2 ?a1 ?a2 ?a3 ?a4); (case a1 => walk_at "lk"); (case a2 => with_reducible assumption); (case a3 => walk_at "fr"); (case' a4 => skip))
  | ((with_reducible refine' fr_set2 ?a1 ?a2 ?a3); (case a1 => with_reducible assumption); (case a2 => walk_at "fr"); (case' a3 => skip))
  | ((with_reducible refine' en_new ?a1 ?a2); (case a1 => with_reducible assumption); (case' a2 => skip))
  | ((with_reducible refine' en_same ?a1 ?a2); (case a1 => with_reducible assumption); (case' a2 => skip))
  | ((with_reducible refine' en_go ?a1 ?a2); (case a1 => with_reducible assumption); (case' a2 => skip))
  | ((with_reducible refine' en_set2 ?a1 ?a2 ?a3); (case a1 => with_reducible assumption); (case a2 => walk_at "fr"); (case' a3 => skip))
  | ((with_reducible refine' en_kp ?a1 ?a2 ?a3 ?a4); (case a1 => with_reducible assumption); (case a2 => with_reducible assumption); (case a3 => walk_at "fr"); (case' a4 => skip))
  | ((with_reducible refine' nw_new ?a1 ?a2); (case a1 => with_reducible assumption); (case' a2 => skip))
  | ((with_reducible refine' nw_same ?a1 ?a2); (case a1 => with_reducible assumption); (case' a2 => skip))
  | ((with_reducible refine' nw_go ?a1 ?a2); (case a1 => with_reducible assumption); (case' a2 => skip))
  | ((with_reducible refine' nw_kp ?a1 ?a2 ?a3); (case a1 => with_reducible assumption); (case a2 => walk_at "st"); (case' a3 => skip))
  | ((with_reducible refine' nw_set ?a1 ?a2); (case a1 => walk_at "lk"); (case' a2 => skip))
  | ((with_reducible refine' nw_set2 ?a1 ?a2 ?a3); (case a1 => with_reducible assumption); (case a2 => walk_at "fr"); (case' a3 => skip))
  | fail "fr1")
local macro_rules | `(tactic| walk_at "tb") => `(tactic| first
  | with_reducible assumption
  | (walk_at "tb1"; walk_at "tb")
  | fail "tb")
local macro_rules | `(tactic| walk_at "tb1") => `(tactic| first
  | ((with_reducible refine' tabs_new ?a1 ?a2); (case a1 => with_reducible assumption); (case' a2 => skip))
  | ((with_reducible refine' tabs_same ?a1 ?a2); (case a1 => with_reducible assumption); (case' a2 => skip))
  | ((with_reducible refine' tabs_go ?a1 ?a2); (case a1 => with_reducible assumption); (case' a2 => skip))
  | ((with_reducible refine' tabs_kp ?a1 ?a2 ?a3); (case a1 => with_reducible assumption); (case a2 => walk_at "st"); (case' a3 => skip))
  | ((with_reducible refine' tabs_set ?a1 ?a2); (case a1 => walk_at "lk"); (case' a2 => skip))
  | fail "tb1")
local macro_rules | `(tactic| walk_at "dg") => `(tactic| first
  | assumption
  | (refine' dp_ext ?a1 ?a2; (case a1 => assumption); (case a2 => walk_at "fr"))
  | (refine' dn_use ?a1 ?a2; (case a1 => assumption); (case a2 => walk_at "fr"))
  | fail "dg")
local macro_rules | `(tactic| walk_at "dp") => `(tactic| first
  | assumption
  | exact .str _
  | exact .int _
  | exact .bl _
  | exact .non
  | (refine' Dp.lst (SqL.of ?a1) ?a2; (case a1 => walk_at "lk"); (case a2 => walk_at "dpa"))
  | (refine' Dp.tup (SqT.of ?a1) ?a2; (case a1 => walk_at "lk"); (case a2 => walk_at "dpa"))
  | (walk_at "dg")
  | fail "dp")
local macro_rules | `(tactic| walk_at "dpa") => `(tactic| first
  | assumption
  | exact .nil
  | (refine' DpAll.cons ?a1 ?a2; (case a1 => walk_at "dp"); (case a2 => walk_at "dpa"))
  | fail "dpa")
local macro_rules | `(tactic| walk_at "dx") => `(tactic| first
  | assumption
  | exact .str _
  | exact .int _
  | exact .bl _
  | exact .non
  | (refine' Dx.lst (SqL.of ?a1) ?a2; (case a1 => walk_at "lk"); (case a2 => walk_at "dxa"))
  | (refine' Dx.tup (SqT.of ?a1) ?a2; (case a1 => walk_at "lk"); (case a2 => walk_at "dxa"))
  | (refine' Dx.dct (.inl ?a1) ?a2; (case a1 => walk_at "lk"); (case a2 => exact .nil))
  | (refine' dx_ext ?a1 ?a2; (case a1 => assumption); (case a2 => walk_at "fr"))
  | fail "dx")
local macro_rules | `(tactic| walk_at "dxa") => `(tactic| first
  | assumption
  | exact .nil
  | (refine' DxAll.cons ?a1 ?a2; (case a1 => walk_at "dx"); (case a2 => walk_at "dxa"))
  | fail "dxa")
local macro_rules | `(tactic| walk_at "ty") => `(tactic| first
  | assumption
  | (refine' ty_ext ?a1 ?a2; (case a1 => assumption); (case a2 => walk_at "fr"))
  | fail "ty")
local macro_rules | `(tactic| walk_at "shp") => `(tactic| first
  | assumption
  | (simp only [SeqAt.shaped, lay_l, lay_t, lay_i, lay_b, lay_n, lay_c, lay_e, PyData.depth, PyData.depthAll, Bool.and_true, Bool.true_and, Bool.and_eq_true, decide_eq_true_eq]
     repeat' (first | assumption | (refine And.intro ?_ ?_) | (exact rfl) | (decide +kernel) | omega))
  | decide +kernel)
local macro_rules | `(tactic| walk_at "side") => `(tactic| first
  | assumption
  | (intros; trivial)
  | omega
  | (walk_at "lk")
  | (walk_at "st")
  | (walk_at "sz")
  | (walk_at "tb")
  | (walk_at "fr"))
local macro_rules | `(tactic| walk_at "cl") => `(tactic| ((repeat' (apply Exists.intro)); refine And.intro rfl ?_; repeat (refine And.intro (by walk_at "side") ?_)))
local macro_rules | `(tactic| walk_at "eqd") => `(tactic| (refine ⟨_, _, by walk_at "dp", by walk_at "dp", by walk_at "shp", by walk_at "shp", ?_⟩; rw [eqv_same (by walk_at "shp")]))
local macro_rules | `(tactic| walk_at "new") => `(tactic| refine fun (p : Addr) (hp : (_ : Hp) p = none) => ?_)
local macro_rules | `(tactic| walk_at "rdn") => `(tactic| (repeat' (first | walk_at "rd" | walk_at "new")))

theorem ok__law_piece (T : Tx P w K mg base) (G__law_draw : FnOk P w K mg base CX0 2 T.d__law_draw.f T.d__law_draw.fd ["stream", "top"] sp__law_draw) (G__law_signs : FnOk P w K mg base CX0 1 T.d__law_signs.f T.d__law_signs.fd [] sp__law_signs) (G__law_pick : FnOk P w K mg base CX0 3 T.d__law_pick.f T.d__law_pick.fd ["stream", "some"] sp__law_pick) (G__law_digits : FnOk P w K mg base CX0 1 T.d__law_digits.f T.d__law_digits.fd ["code", "radix"] sp__law_digits) (G__law_five : FnOk P w K mg base CX0 1 T.d__law_five.f T.d__law_five.fd [] sp__law_five) : FnOk P w K mg base CX0 4 T.d__law_piece.f T.d__law_piece.fd ["stream"] sp__law_piece := by
  have sc := sc__law_piece
  refine T.d__law_piece.F.ok sc (fun vs H Q E h => ?_) (fun cdv A outer s H vs Q E hr h => ?_)
  · obtain ⟨a, c, rfl, hs, hc, q⟩ := h
    rfl
  · obtain ⟨a, c, rfl, hs, hc, q⟩ := h
    refine ⟨_, (pss_cons (ps_set (i := 1) sc.nd rfl (Or.inl rfl) (pe_call G__law_draw (hr.mono (by decide)) rfl T.d__law_draw.m T.d__law_draw.F.kp T.d__law_draw.b .nil pass0 (pa_cons (pv 0) (pa_cons pe_int pa_nil))))
      (pss_cons (ps_if (pt_cmpR op_lt (pv 1) pe_int (nomark _)) (pss_one (ps_ret (pe_call G__law_pick (hr.mono (by decide)) rfl T.d__law_pick.m T.d__law_pick.F.kp T.d__law_pick.b .nil pass0 (pa_cons (pv 0) (pa_cons (pe_lst (pa_cons pe_str (pa_cons pe_str (pa_cons pe_str (pa_cons pe_str (pa_cons pe_str (pa_cons pe_str (pa_cons pe_str (pa_cons pe_str (pa_cons pe_str (pa_cons pe_str (pa_cons pe_str (pa_cons pe_str (pa_cons pe_str pa_nil)))))))))))))) pa_nil))))) pss_nil)
      (pss_cons (ps_if (pt_cmpR op_eq (pv 1) pe_int (nomark _)) (pss_one (ps_ret (pe_call G__law_pick (hr.mono (by decide)) rfl T.d__law_pick.m T.d__law_pick.F.kp T.d__law_pick.b .nil pass0 (pa_cons (pv 0) (pa_cons (pe_call0 G__law_signs (hr.mono (by decide)) rfl T.d__law_signs.m T.d__law_signs.F.kp T.d__law_signs.b .nil pass0) pa_nil))))) pss_nil)
      (pss_cons (ps_set (i := 2) sc.nd rfl (Or.inl rfl) (pe_call G__law_pick (hr.mono (by decide)) rfl T.d__law_pick.m T.d__law_pick.F.kp T.d__law_pick.b .nil pass0 (pa_cons (pv 0) (pa_cons (pe_call0 G__law_signs (hr.mono (by decide)) rfl T.d__law_signs.m T.d__law_signs.F.kp T.d__law_signs.b .nil pass0) pa_nil))))
      (pss_cons (ps_set (i := 3) sc.nd rfl (Or.inl rfl) (pe_lst (pa_cons (pe_op op_add_str (pe_op op_add_str pe_str (pe_call G__law_digits (hr.mono (by decide)) rfl T.d__law_digits.m T.d__law_digits.F.kp T.d__law_digits.b .nil pass0 (pa_cons (pe_callB call_ord (by rfl) T.n_ord (by decide +kernel) (pa_cons (pv 2) pa_nil)) (pa_cons pe_int pa_nil)))) pe_str) (pa_cons (pe_op op_add_str (pe_op op_add_str pe_str (pe_call G__law_digits (hr.mono (by decide)) rfl T.d__law_digits.m T.d__law_digits.F.kp T.d__law_digits.b .nil pass0 (pa_cons (pe_callB call_ord (by rfl) T.n_ord (by decide +kernel) (pa_cons (pv 2) pa_nil)) (pa_cons pe_int pa_nil)))) pe_str) (pa_cons pe_str pa_nil)))))
      (pss_cons (ps_set (i := 3) sc.nd rfl (Or.inl rfl) (pe_op op_catR (pv 3) (pe_lc (own := [("name", 7), ("meant", 8)]) (g := (gTup K 2 (gCons (gName 7) (gCons (gName 8) gNil)))) (tt := tYes) rfl sc.nd (pi_list (pe_call0 G__law_five (hr.mono (by decide)) rfl T.d__law_five.m T.d__law_five.F.kp T.d__law_five.b .nil pass0)) (blkOk_by (own := [("name", 7), ("meant", 8)]) (N := ["stream", "n", "one", "written", "found", "at", "more", "name", "meant"]) (sc := defScope s__law_piece) (by decide +kernel)) (fun _ _ _ _ _ => pg_tup (by rfl) (pgs_cons (pg_name (i := 7) sc.nd rfl (Or.inl rfl)) (pgs_cons (pg_name (i := 8) sc.nd rfl (Or.inl rfl)) pgs_nil))) (fun _ _ _ _ _ => pts_nil) (fun _ _ _ _ _ => pe_op op_add_str (pe_op op_add_str pe_str (pv 7)) pe_str))))
      (pss_cons (ps_set (i := 3) sc.nd rfl (Or.inl rfl) (pe_op op_catR (pv 3) (pe_lst (pa_cons (pe_op op_add_str (pe_op op_add_str pe_str (pe_callTy call_str_int (by rfl) T.n_str (by decide +kernel) (pa_cons (pe_call G__law_draw (hr.mono (by decide)) rfl T.d__law_draw.m T.d__law_draw.F.kp T.d__law_draw.b .nil pass0 (pa_cons (pv 0) (pa_cons pe_int pa_nil))) pa_nil))) pe_str) (pa_cons pe_str (pa_cons pe_str (pa_cons pe_str pa_nil)))))))
      (pss_cons (ps_set (i := 4) sc.nd rfl (Or.inl rfl) (pe_call G__law_pick (hr.mono (by decide)) rfl T.d__law_pick.m T.d__law_pick.F.kp T.d__law_pick.b .nil pass0 (pa_cons (pv 0) (pa_cons (pv 3) pa_nil))))
      (pss_cons (ps_if (pt_cmpR op_lt (pv 1) pe_int (nomark _)) (pss_one (ps_ret (pv 4))) pss_nil)
      (pss_cons (ps_set (i := 5) sc.nd rfl (Or.inl rfl) (pe_call G__law_draw (hr.mono (by decide)) rfl T.d__law_draw.m T.d__law_draw.F.kp T.d__law_draw.b .nil pass0 (pa_cons (pv 0) (pa_cons (pe_callB call_len (by rfl) T.n_len PySem.boot_len (pa_cons (pv 4) pa_nil)) pa_nil))))
      (pss_cons (ps_set (i := 6) sc.nd rfl (Or.inl rfl) (pe_call G__law_pick (hr.mono (by decide)) rfl T.d__law_pick.m T.d__law_pick.F.kp T.d__law_pick.b .nil pass0 (pa_cons (pv 0) (pa_cons (pe_lst (pa_cons pe_str (pa_cons pe_str (pa_cons pe_str (pa_cons pe_str (pa_cons pe_str (pa_cons pe_str (pa_cons pe_str (pa_cons pe_str (pa_cons pe_str (pa_cons pe_str pa_nil))))))))))) pa_nil))))
      (pss_one (ps_ret (pe_op op_add_str (pe_op op_add_str (pe_slice sl_str (pv 4) po_none (po_some (pv 5))) (pv 6)) (pe_slice sl_str (pv 4) (po_some (pe_op op_add (pv 5) (pe_call G__law_draw (hr.mono (by decide)) rfl T.d__law_draw.m T.d__law_draw.F.kp T.d__law_draw.b .nil pass0 (pa_cons (pv 0) (pa_cons pe_int pa_nil))))) po_none))))))))))))))), ?_⟩
    walk_at "rds"
    refine ⟨a, c, _, rfl, hs, by omega, by decide, by decide, fun r H1 r0 r1 k1 s1 => ?_⟩
    by_cases h2 : r < 2
    · walk_at "rds"
      intro L hL
      have nL : L ≠ a := ne_st hL s1
      refine ⟨a, _, .ref L, rfl, st_new hL s1, by omega, .inl ⟨L, pieceV, rfl, nL, upd_same, by decide, by decide, fun j y H2 hj k2 s2 => ?_⟩⟩
      obtain ⟨z, rfl, z0, z1, z2⟩ := pieceV_at hj
      exact q z H2 (by omega) z2 ((k1.new hL).trans k2) (s2.mono (by omega))
    by_cases h22 : r = 2
    · walk_at "rds"
      refine ⟨a, _, .str signs, rfl, s1, by omega, .inr ⟨signs, rfl, by decide +kernel, by decide +kernel, fun cp H2 hcm k2 s2 => ?_⟩⟩
      have hc : cp ∈ codes := by rw [← tl_signs]; exact hcm
      refine q ⟨#[cp]⟩ H2 (by show 1 ≤ 30; decide) (fun x hx => ?_) (k1.trans k2) (s2.mono (by omega))
      have hx : x ∈ [cp] := hx
      rw [List.mem_singleton.mp hx]
      exact codes_128 cp hc
    walk_at "rds"
    refine ⟨a, _, .str signs, rfl, s1, by omega, .inr ⟨signs, rfl, by decide +kernel, by decide +kernel, fun cp H2 hcm k2 s2 => ?_⟩⟩
    have hcc : cp ∈ codes := by rw [← tl_signs]; exact hcm
    have c8 := codes_128 cp hcc
    clear hcm hcc
    have one : (⟨#[cp]⟩ : Str).length = 1 := rfl
    walk_at "rds"
    refine ⟨cp, 10, rfl, .inl rfl, by omega, fun y hy => ?_⟩
    have la : ∀ x y : Str, (x ++ y).length = x.length + y.length := fun x y => by rw [len_tl, tl_append, List.length_append, ← len_tl, ← len_tl]
    obtain ⟨y1, y2⟩ := dg_asc10 cp c8
    obtain ⟨w1, w2⟩ := dg_asc16 cp c8
    have e1 : (";" : Str).length = 1 := rfl
    have e2 : ("&#" : Str).length = 2 := rfl
    have e3 : ("&#x" : Str).length = 3 := rfl
    have e5 : ("&" : Str).length = 1 := rfl
    have e6 : ("&#0" : Str).length = 3 := rfl
    have yl : y.length ≤ 3 := by rw [len_tl, hy]; exact y1
    have t1 : ("&#" : Str).length + y.length ≤ sizeLine := by rw [e2]; unfold sizeLine; omega
    have t2 : ("&#" ++ y : Str).length + (";" : Str).length ≤ sizeLine := by rw [la, e2, e1]; unfold sizeLine; omega
    walk_at "rds"
    refine ⟨cp, 16, rfl, .inr rfl, by omega, fun w hw => ?_⟩
    have wl : w.length ≤ 3 := by rw [len_tl, hw]; exact w1
    have t3 : ("&#x" : Str).length + w.length ≤ sizeLine := by rw [e3]; unfold sizeLine; omega
    have t4 : ("&#x" ++ w : Str).length + (";" : Str).length ≤ sizeLine := by rw [la, e3, e1]; unfold sizeLine; omega
    walk_at "rds"
    have okA : OkP ("&#" ++ y ++ ";" : Str) := okP_of (l := [38, 35] ++ dg 10 cp ++ [59]) (by rw [tl_append, tl_append, hy]; rfl) (by simp) (by simp; omega) (fun x hx => by
      simp only [List.mem_append] at hx
      rcases hx with (hx | hx) | hx
      · exact (by decide : ∀ x ∈ ([38, 35] : List Nat), x < 128) x hx
      · exact y2 x hx
      · exact (by decide : ∀ x ∈ ([59] : List Nat), x < 128) x hx)
    have okB : OkP ("&#x" ++ w ++ ";" : Str) := okP_of (l := [38, 35, 120] ++ dg 16 cp ++ [59]) (by rw [tl_append, tl_append, hw]; rfl) (by simp) (by simp; omega) (fun x hx => by
      simp only [List.mem_append] at hx
      rcases hx with (hx | hx) | hx
      · exact (by decide : ∀ x ∈ ([38, 35, 120] : List Nat), x < 128) x hx
      · exact w2 x hx
      · exact (by decide : ∀ x ∈ ([59] : List Nat), x < 128) x hx)
    intro p hp
    generalize ("&#" ++ y ++ ";" : Str) = A at *
    generalize ("&#x" ++ w ++ ";" : Str) = B at *
    clear t1 t2 t3 t4 yl wl y1 y2 w1 w2 hy hw
    have kA : Kp a H (upd H2 p (.lst [.str A, .str B, .str "&#93;"])) := (k1.trans k2).new hp
    have sA := st_new (o := .lst [.str A, .str B, .str "&#93;"]) hp s2
    have fA : upd H2 p (.lst [.str A, .str B, .str "&#93;"]) p = some (.lst [.str A, .str B, .str "&#93;"]) := upd_same
    generalize upd H2 p (.lst [.str A, .str B, .str "&#93;"]) = H3 at *
    clear hp k1 k2 s1 s2
    walk_at "rds"
    intro a5 ts H4 s4 hf
    obtain ⟨hf1, hf2, hf3⟩ := hf
    have fA4 := s4 _ _ fA
    refine ⟨a5, rfl, ⟨_, SqL.of hf1⟩, ?_⟩
    intro D hD
    refine lc_flt (te := tOp (fun x y H Q => ∃ i j, x = V.str i ∧ y = V.str j ∧ i.length + j.length ≤ sizeLine ∧ Q (V.str (i ++ j)) H) (tOp (fun x y H Q => ∃ i j, x = V.str i ∧ y = V.str j ∧ i.length + j.length ≤ sizeLine ∧ Q (V.str (i ++ j)) H) (tC (.str "&")) (tVar 7)) (tC (.str ";"))) (g := gTup K 2 (gCons (gName 7) (gCons (gName 8) gNil))) (walk_list (xs := ts.map V.ref)) (fun _ => true) (fun i => .str (toS ([38] ++ (fiveL.getD i ([], 0)).1 ++ [59]))) hD (by rw [List.length_map, hf2]; exact Nat.le_of_ble_eq_true rfl) (fun H1 sm => SqL.of (sm _ _ hf1)) (fun i H1 x H2 y => y.1 ▸ Same.refl _) ?_ ?_
    · rintro i x H5 H6 Nx Mo hi sm ⟨rfl, hx⟩ k1 k2
      rw [List.getElem?_map] at hx
      obtain ⟨t, ht, rfl⟩ := Option.map_eq_some_iff.mp hx
      have h4 := sm _ _ (hf3 i t ht)
      have hnl : ∀ i < 5, (fiveL.getD i ([], 0)).1.length ≤ 4 := by decide
      have hn4 := hnl i (by rw [List.length_map, hf2] at hi; exact hi)
      clear hf3
      generalize fiveL.getD i ([], 0) = pr at *
      obtain ⟨n, x⟩ := pr
      dsimp only at k1 k2 h4 hn4 ⊢
      refine ⟨_, _, rfl, SqT.of h4, rfl, _, _, rfl, _, _, rfl, rfl, ?_⟩
      refine ⟨rfl, ?_⟩
      have tnl : (toS n).length ≤ 4 := by rw [len_tl, tl_toS]; exact hn4
      have s1 : ("&" : Str).length + (toS n).length ≤ sizeLine := by rw [e5]; unfold sizeLine; omega
      have s2 : ("&" ++ toS n : Str).length + (";" : Str).length ≤ sizeLine := by rw [la, e5, e1]; unfold sizeLine; omega
      walk_at "rds"
      have r4 : ("&" ++ toS n ++ ";" : Str) = toS ([38] ++ n ++ [59]) := Mx.str_ext (by show tl _ = tl _; rw [tl_append, tl_append, tl_toS, tl_toS]; rfl)
      rw [r4]
      exact k1 rfl _ (Same.refl _)
    intro H5 sm5 hl5
    have hL5 : (ts.map V.ref).length = 5 := by rw [List.length_map]; exact hf2
    rw [hL5] at hl5
    have ok5 : ∀ x ∈ picked 5 (fun _ => true) (fun i => V.str (toS ([38] ++ (fiveL.getD i ([], 0)).1 ++ [59]))), ∃ z, x = .str z ∧ OkP z := fun x hx => by
      obtain ⟨i, hi, _, rfl⟩ := picked_mem hx
      obtain ⟨g1, g2, g3⟩ := five_piece i hi
      exact ⟨_, rfl, g2, g1, g3⟩
    have ln5 := picked_len 5 (fun _ => true) (fun i => V.str (toS ([38] ++ (fiveL.getD i ([], 0)).1 ++ [59])))
    generalize picked 5 (fun _ => true) (fun i => V.str (toS ([38] ++ (fiveL.getD i ([], 0)).1 ++ [59]))) = l5 at *
    have fA5 := sm5 _ _ fA4
    refine ⟨p, D, _, _, rfl, rfl, .of fA5, .of hl5, (by show 3 + l5.length ≤ sizeLine; unfold sizeLine; omega), fun p2 hp2 => ?_⟩
    have k5 : Kp a H (upd H5 p2 (.lst ([.str A, .str B, .str "&#93;"] ++ l5))) := ((kA.trans (Kp.of s4)).trans (Kp.of sm5)).new hp2
    have st5 := st_new (o := .lst ([.str A, .str B, .str "&#93;"] ++ l5)) hp2 (st_same sm5 (st_same s4 sA))
    have f5 : upd H5 p2 (.lst ([.str A, .str B, .str "&#93;"] ++ l5)) p2 = some (.lst ([.str A, .str B, .str "&#93;"] ++ l5)) := upd_same
    have okL : ∀ x ∈ [V.str A, .str B, .str "&#93;"] ++ l5, ∃ z, x = .str z ∧ OkP z := fun x hx => by
      simp only [List.mem_append, List.mem_cons, List.not_mem_nil, or_false] at hx
      rcases hx with (rfl | rfl | rfl) | hx
      · exact ⟨_, rfl, okA⟩
      · exact ⟨_, rfl, okB⟩
      · exact ⟨_, rfl, by decide +kernel, by decide +kernel, by decide +kernel⟩
      · exact ok5 x hx
    have lnL : ([V.str A, .str B, .str "&#93;"] ++ l5).length ≤ 8 := by rw [List.length_append]; show 3 + l5.length ≤ 8; omega
    have n2 : p2 ≠ a := ne_st hp2 (st_same sm5 (st_same s4 sA))
    generalize [V.str A, .str B, .str "&#93;"] ++ l5 = L1 at *
    generalize upd H5 p2 (.lst L1) = H6 at *
    clear hp2 fA5 hl5 sm5 hf1 hf3 hf2 s4 fA4 fA hD kA sA ok5 okA okB ln5 hL5
    walk_at "rds"
    refine ⟨a, _, _, rfl, st5, by omega, by decide, by decide, fun r2 H7 r20 r21 k7 s7 => ?_⟩
    obtain ⟨n, rfl⟩ : ∃ n : Nat, r2 = (n : Int) := ⟨r2.toNat, by omega⟩
    have hn : n < 200 := by omega
    have f7 : H7 p2 = some (.lst L1) := k7 _ _ n2 f5
    have k7 := k5.trans k7
    clear f5 st5 k5 r20 r21
    walk_at "rds"
    refine ⟨lg_200 n hn, ?_⟩
    obtain ⟨i1, i2⟩ := int_asc n hn
    generalize (toString ((n : Nat) : Int) : Str) = w at i1 i2 ⊢
    have wl : w.length ≤ 3 := by rw [len_tl]; exact i1
    have ws : w.cps.size ≤ 3 := by rw [sz_tl]; exact i1
    have t1 : ("&#0" : Str).length + w.length ≤ sizeLine := by rw [e6]; unfold sizeLine; omega
    have t2 : ("&#0" ++ w : Str).length + (";" : Str).length ≤ sizeLine := by rw [la, e6, e1]; unfold sizeLine; omega
    have okC : OkP ("&#0" ++ w ++ ";" : Str) := okP_of (l := [38, 35, 48] ++ tl w ++ [59]) (by rw [tl_append, tl_append]; rfl) (by simp) (by simp; omega) (fun x hx => by
      simp only [List.mem_append] at hx
      rcases hx with (hx | hx) | hx
      · exact (by decide : ∀ x ∈ ([38, 35, 48] : List Nat), x < 128) x hx
      · exact i2 x hx
      · exact (by decide : ∀ x ∈ ([59] : List Nat), x < 128) x hx)
    walk_at "rds"
    intro p4 hp4
    generalize ("&#0" ++ w ++ ";" : Str) = C at *
    clear t1 t2 wl ws i1 i2
    refine ⟨p2, p4, _, _, rfl, rfl, .of (lk_new hp4 f7), .of upd_same, (by show L1.length + 4 ≤ sizeLine; unfold sizeLine; omega), fun p5 hp5 => ?_⟩
    have okM : ∀ x ∈ L1 ++ [V.str C, .str "&#xA;", .str "&#x7F;", .str "&#X41;"], ∃ z, x = .str z ∧ OkP z := fun x hx => by
      simp only [List.mem_append, List.mem_cons, List.not_mem_nil, or_false] at hx
      rcases hx with hx | (rfl | rfl | rfl | rfl)
      · exact okL x hx
      · exact ⟨_, rfl, okC⟩
      · exact ⟨_, rfl, by decide +kernel, by decide +kernel, by decide +kernel⟩
      · exact ⟨_, rfl, by decide +kernel, by decide +kernel, by decide +kernel⟩
      · exact ⟨_, rfl, by decide +kernel, by decide +kernel, by decide +kernel⟩
    have lnM : 0 < (L1 ++ [V.str C, .str "&#xA;", .str "&#x7F;", .str "&#X41;"]).length ∧ (L1 ++ [V.str C, .str "&#xA;", .str "&#x7F;", .str "&#X41;"]).length < 1000000 := by
      rw [List.length_append]
      show 0 < L1.length + 4 ∧ L1.length + 4 < 1000000
      omega
    generalize L1 ++ [V.str C, .str "&#xA;", .str "&#x7F;", .str "&#X41;"] = L2_ at *
    have s8 := st_new (o := .lst L2_) hp5 (st_new hp4 s7)
    have k8 : Kp a H _ := (k7.new hp4).new (o := .lst L2_) hp5
    have n5 : p5 ≠ a := ne_st hp5 (st_new hp4 s7)
    walk_at "rds"
    refine ⟨a, _, .ref p5, rfl, s8, by omega, .inl ⟨p5, _, rfl, n5, upd_same, lnM.1, lnM.2, fun j y H8 hj k9 s9 => ?_⟩⟩
    obtain ⟨z, rfl, z0, z1, z2⟩ := okM y (List.mem_of_getElem? hj)
    have k9 := k8.trans k9
    clear k8 s8 n5 hp5 hp4 hj okM lnM okC okL f7 s7 k7 n2
    have zl : z.length = z.cps.size := rfl
    have zt : z.cps.size = (tl z).length := sz_tl z
    by_cases h6 : r < 6
    · walk_at "rds"
      exact q z H8 (by omega) z2 k9 (s9.mono (by omega))
    have z16 : z.length ≤ sizeLine := by rw [zl]; unfold sizeLine; omega
    walk_at "rds"
    refine ⟨a, _, _, rfl, s9, by omega, by omega, by omega, fun r3 H9 r30 r31 k10 s10 => ?_⟩
    walk_at "rds"
    intro Lm hLm
    have nL : Lm ≠ a := ne_st hLm s10
    refine ⟨a, _, .ref Lm, rfl, st_new hLm s10, by omega, .inl ⟨Lm, moreV, rfl, nL, upd_same, by decide, by decide, fun j2 y2 H10 hj2 k11 s11 => ?_⟩⟩
    obtain ⟨u, rfl, u1, u2⟩ := moreV_at hj2
    have k11 := ((k9.trans k10).new hLm).trans k11
    have ul : u.length = u.cps.size := rfl
    have ut : u.cps.size = (tl u).length := sz_tl u
    have c1 := cut_len z none (some r3)
    have c2 := cut_all (z := z) (b := none) (e := some r3) z2
    have c1l : (cutS z none (some r3)).length ≤ (tl z).length := by rw [len_tl]; exact c1
    have t1 : (cutS z none (some r3)).length + u.length ≤ sizeLine := by unfold sizeLine; omega
    walk_at "rds"
    refine ⟨a, _, _, rfl, s11, by omega, by decide, by decide, fun r4 H11 r40 r41 k12 s12 => ?_⟩
    have c3 := cut_len z (some (r3 + r4)) none
    have c4 := cut_all (z := z) (b := some (r3 + r4)) (e := none) z2
    have c3l : (cutS z (some (r3 + r4)) none).length ≤ (tl z).length := by rw [len_tl]; exact c3
    have t2 : (cutS z none (some r3) ++ u).length + (cutS z (some (r3 + r4)) none).length ≤ sizeLine := by rw [la]; unfold sizeLine; omega
    walk_at "rds"
    refine q _ H11 ?_ ?_ (k11.trans k12) (s12.mono (by omega))
    · rw [sz_tl, tl_append, tl_append, List.length_append, List.length_append]
      omega
    · intro x hx
      have hx : x ∈ tl (cutS z none (some r3) ++ u ++ cutS z (some (r3 + r4)) none) := hx
      rw [tl_append, tl_append] at hx
      simp only [List.mem_append] at hx
      rcases hx with (hx | hx) | hx
      · exact c2 x hx
      · exact u2 x hx
      · exact c4 x hx

end
end K7

set_option maxHeartbeats 1000000
set_option pp.maxSteps 700
set_option pp.deepTerms false
set_option pp.deepTerms.threshold 14
namespace K7
open PySem PySem.Spec PyProof.Rows L2 Mx
open TL Num
def datU (u : Nat × Nat × Nat) : PyData := .tuple [.int (u.1 : Int), .int (u.2.1 : Int), .str ⟨#[u.2.2]⟩]
theorem Trs.dp {K : PySem.W.Frag} {H : Hp} {us : List (Nat × Nat × Nat)} {ws : List V} (h : Trs H us ws) : DpAll K H ws (us.map datU) := by
  induction h with
  | nil => exact .nil
  | cons h _ ih => exact .cons (.tup (SqT.of h) (.cons (.int _) (.cons (.int _) (.cons (.str _) .nil)))) ih
theorem lay_unit {c : Nat} (hc : c < 128) : ((#[c] : Array Nat).all fun x => decide (x < 0x110000)) = true := by
  rw [Array.all_eq_true]
  intro i hi
  have hi0 : i = 0 := by simpa using hi
  subst hi0
  exact decide_eq_true (Nat.lt_trans hc (by decide))
theorem layU {us : List (Nat × Nat × Nat)} (h : ∀ u ∈ us, u.2.2 < 128) : PyData.canLayAll0 (us.map datU) = true ∧ PyData.depthAll (us.map datU) ≤ 1 := by
  induction us with
  | nil => exact ⟨rfl, Nat.zero_le _⟩
  | cons u l ih =>
    obtain ⟨i1, i2⟩ := ih fun x hx => h x (List.mem_cons_of_mem _ hx)
    have h1 := lay_unit (h u List.mem_cons_self)
    refine ⟨?_, ?_⟩
    · show ((true && (true && (((#[u.2.2] : Array Nat).all fun x => decide (x < 0x110000)) && true))) && PyData.canLayAll0 (l.map datU)) = true
      rw [h1, i1]
      rfl
    · show max _ (PyData.depthAll (l.map datU)) ≤ 1
      exact Nat.max_le.mpr ⟨Nat.le_of_ble_eq_true rfl, i2⟩
theorem shapedU {us : List (Nat × Nat × Nat)} (h : ∀ u ∈ us, u.2.2 < 128) : SeqAt.shaped (.list (us.map datU)) = true := by
  obtain ⟨h1, h2⟩ := layU h
  show (PyData.canLayAll0 _ && decide (PyData.depthAll _ + 1 ≤ 64)) = true
  rw [h1, Bool.true_and]
  exact decide_eq_true (by omega)
theorem Trs.last {H : Hp} {us : List (Nat × Nat × Nat)} {ws : List V} (h : Trs H us ws) (n : us ≠ []) : ∃ t u, atI ws (-1) = some (.ref t) ∧ H t = some (.tup (uV u)) ∧ lastE us = u.2.1 := by
  have hl := h.length
  have hpos : 0 < us.length := List.length_pos_iff.mpr n
  have hw : ws[ws.length - 1]? = some (ws[ws.length - 1]'(by omega)) := List.getElem?_eq_getElem (by omega)
  obtain ⟨t, u, e1, e2, e3⟩ := h.at _ _ hw
  refine ⟨t, u, ?_, e3, ?_⟩
  · have e : ixN ws.length (-1) = some (ws.length - 1) := by
      unfold ixN
      rw [if_neg (by decide), if_pos (by omega)]
      congr 1
      omega
    unfold atI
    rw [e]
    show ws[ws.length - 1]? = _
    rw [hw, e1]
  · unfold lastE
    rw [List.getLast?_eq_getElem?, ← hl, e2]
    rfl
theorem picked_mns (us : List (Nat × Nat × Nat)) : picked us.length (fun _ => true) (fun k => V.str ⟨#[(us.getD k (0, 0, 0)).2.2]⟩) = (ones (mns us)).map V.str := by
  rw [picked_map (y := fun k => us.getD k (0, 0, 0)) (g := fun u : Nat × Nat × Nat => V.str ⟨#[u.2.2]⟩), picked_filter us (0, 0, 0) (fun _ => true), List.filter_eq_self.mpr fun _ _ => rfl]
  unfold ones mns
  rw [List.map_map, List.map_map]
  rfl
theorem lastE_le {us : List (Nat × Nat × Nat)} {n : Nat} (h : ∀ u ∈ us, u.2.1 ≤ n) : lastE us ≤ n := by
  unfold lastE
  cases e : us.getLast? with
  | none => exact Nat.zero_le _
  | some u => exact h u (List.mem_of_getLast? e)
def W9 (z : Str) : Prop := Asc z ∧ (tl z).length ≤ 900
theorem W9.w4 {z : Str} (h : W9 z) : W4 z := ⟨h.1, Nat.le_trans h.2 (by decide)⟩
def sp__law_taken_right : Sp := fun vs H Q _ => ∃ (z m : Str) (a : Addr), vs = [.str z, .str m, .ref a] ∧ W9 z ∧ MarkOk m ∧ Tabs2 H a ∧ ∀ H', Same H H' → Q (.bl true) H'

local macro_rules | `(tactic| walk_at "sz") => `(tactic| first | assumption | decide | omega | (unfold sizeLine; omega) | exact Nat.le_of_ble_eq_true rfl)
local macro_rules | `(tactic| walk_at "hp") => `(tactic| (first | assumption | exact upd_same | (rw [upd_ne (by assumption)]; assumption)))
local macro_rules | `(tactic| walk_at "rd") => `(tactic| (first
  | refine ⟨_, rfl, ?_⟩
  | (refine ⟨_, _, rfl, rfl, ?rdc, ?_⟩; (case rdc => first | (show (0 : Int) < _; omega) | (exact ⟨by omega, by omega⟩) | (exact .inl ⟨by omega, by omega⟩) | (exact .inr ⟨by omega, by omega⟩) | exact ⟨by decide, by decide, by decide⟩))
  | refine ⟨_, _, rfl, rfl, ?_⟩
  | refine .inl ⟨_, rfl, ?_⟩
  | refine ⟨rfl, ?_⟩
  | refine ⟨⟨_, rfl⟩, ?_⟩
  | refine ⟨⟨_, SqL.of (by walk_at "hp")⟩, ?_⟩
  | refine ⟨_, _, _, _, rfl, rfl, SqL.of (by walk_at "hp"), (by rfl), ?_⟩
  | refine ⟨_, _, _, _, rfl, rfl, (by walk_at "hp"), (by rfl), ?_⟩
  | refine ⟨_, _, rfl, ⟨by walk_at "sz", rfl⟩, ?_⟩
  | refine ⟨_, _, _, rfl, rfl, by walk_at "sz", by assumption, ?_⟩
  | refine And.intro (by walk_at "sz") ?_
  | refine itT rfl ?_
  | refine itF rfl ?_
  | refine itT (by assumption) ?_
  | refine itF (by assumption) ?_
  | refine itT (decide_eq_true (by omega)) ?_
  | refine itF (decide_eq_false (by omega)) ?_
  | refine itT (dVi (by omega)) ?_
  | refine itF (dViN (by omega)) ?_
  | refine itT (notT (by assumption)) ?_
  | refine itF (notF (by assumption)) ?_
  | refine itT (notT (dViN (by omega))) ?_
  | refine itF (notF (dVi (by omega))) ?_
  | refine itT (decide_eq_true rfl) ?_
  | refine itF (notF (decide_eq_true rfl)) ?_
  | refine ite2 (fun _ => ?_) (fun _ => ?_)
  | with_reducible refine tC_ ?_
  | with_reducible refine tNext_ ?_
  | with_reducible refine tNil_ ?_
  | with_reducible refine tYes_ ?_))
local macro_rules | `(tactic| walk_at "rds") => `(tactic| repeat' (walk_at "rd"))
section
variable {P : Program} {w : World} {K : PySem.W.Frag} {mg : Str → Option Value} {base : Heap}

local macro_rules | `(tactic| walk_at "lk") => `(tactic| first
  | with_reducible assumption
  | with_reducible exact upd_same
  | (walk_at "lk1"; walk_at "lk")
  | fail "lk")
local macro_rules | `(tactic| walk_at "lk1") => `(tactic| first
  | ((with_reducible refine' lk_new ?a1 ?a2); (case a1 => with_reducible assumption); (case' a2 => skip))
  | ((with_reducible refine' lk_ne ?a1 ?a2); (case a1 => with_reducible assumption); (case' a2 => skip))
  | ((with_reducible refine' lk_neN ?a1 ?a2 ?a3); (case a1 => with_reducible assumption); (case a2 => walk_at "lk"); (case' a3 => skip))
  | ((with_reducible refine' lk_neN' ?a1 ?a2 ?a3); (case a1 => with_reducible assumption); (case a2 => walk_at "lk"); (case' a3 => skip))
  | ((with_reducible refine' lk_same ?a1 ?a2); (case a1 => with_reducible assumption); (case' a2 => skip))
  | ((with_reducible refine' lk_go ?a1 ?a2 ?a3); (case a1 => with_reducible assumption); (case a2 => walk_at "nt"); (case' a3 => skip))
  | ((with_reducible refine' lk_kp_nl ?a1 ?a2 ?a3 ?a4); (case a1 => with_reducible assumption); (case a2 => walk_at "st"); (case a3 => walk_at "nl"); (case' a4 => skip))
  | ((with_reducible refine' lk_kp ?a1 ?a2 ?a3); (case a1 => with_reducible assumption); (case a2 => walk_at "ne"); (case' a3 => skip))
  | fail "lk1")
local macro_rules | `(tactic| walk_at "nt") => `(tactic| first
  | (intro _ z; cases z)
  | fail "nt")
local macro_rules | `(tactic| walk_at "nl") => `(tactic| first
  | (intro _ z; cases z)
  | fail "nl")
local macro_rules | `(tactic| walk_at "ne") => `(tactic| first
  | with_reducible assumption
  | ((with_reducible refine' ne_st ?a1 ?a2); (case a1 => with_reducible assumption); (case a2 => walk_at "st"))
  | fail "ne")
local macro_rules | `(tactic| walk_at "st") => `(tactic| first
  | with_reducible assumption
  | with_reducible exact st_new (by with_reducible assumption) (by walk_at "st")
  | with_reducible exact st_same (by with_reducible assumption) (by walk_at "st")
  | with_reducible exact st_go (by with_reducible assumption) (by walk_at "st")
  | with_reducible exact st_ne (by walk_at "ns") (by walk_at "st")
  | fail "st")
local macro_rules | `(tactic| walk_at "ns") => `(tactic| first
  | with_reducible assumption
  | with_reducible exact Ne.symm (by with_reducible assumption)
  | with_reducible exact Ne.symm (ne_st (by with_reducible assumption) (by walk_at "st"))
  | fail "ns")
local macro_rules | `(tactic| walk_at "fr") => `(tactic| first
  | with_reducible assumption
  | with_reducible exact Same.refl _
  | with_reducible exact Go.refl _ _
  | with_reducible exact Kp.refl _ _
  | with_reducible exact LamX.ExtN.refl _
  | with_reducible exact nw_refl
  | (walk_at "fr1"; walk_at "fr")
  | fail "fr")
local macro_rules | `(tactic| walk_at "fr1") => `(tactic| first
  | ((with_reducible refine' fr_new ?a1 ?a2); (case a1 => with_reducible assumption); (case' a2 => skip))
  | ((with_reducible refine' go_new ?a1 ?a2); (case a1 => with_reducible assumption); (case' a2 => skip))
  | ((with_reducible refine' kp_new ?a1 ?a2); (case a1 => with_reducible assumption); (case' a2 => skip))
  | ((with_reducible refine' fr_same ?a1 ?a2); (case a1 => with_reducible assumption); (case' a2 => skip))
  | ((with_reducible refine' go_same ?a1 ?a2); (case a1 => with_reducible assumption); (case' a2 => skip))
  | ((with_reducible refine' kp_same ?a1 ?a2); (case a1 => with_reducible assumption); (case' a2 => skip))
  | ((with_reducible refine' go_go ?a1 ?a2); (case a1 => with_reducible assumption); (case' a2 => skip))
  | ((with_reducible refine' go_kp ?a1 ?a2 ?a3 ?a4); (case a1 => with_reducible assumption); (case a2 => with_reducible assumption); (case a3 => walk_at "st"); (case' a4 => skip))
  | ((with_reducible refine' kp_kp ?a1 ?a2); (case a1 => with_reducible assumption); (case' a2 => skip))
  | ((with_reducible refine' kp_upd ?a1); (case' a1 => skip))
  | ((with_reducible refine' go_set2 ?a1 ?a2 ?a3 ?a4); (case a1 => walk_at "lk"); (case a2 => with_reducible assumption); (case a3 => walk_at "fr"); (case' a4 => skip))
  | ((with_reducible refine' fr_set2 ?a1 ?a2 ?a3); (case a1 => with_reducible assumption); (case a2 => walk_at "fr"); (case' a3 => skip))
  | ((with_reducible refine' en_new ?a1 ?a2); (case a1 => with_reducible assumption); (case' a2 => skip))
  | ((with_reducible refine' en_same ?a1 ?a2); (case a1 => with_reducible assumption); (case' a2 => skip))
  | ((with_reducible refine' en_go ?a1 ?a2); (case a1 => with_reducible assumption); (case' a2 => skip))
  | ((with_reducible refine' en_set2 ?a1 ?a2 ?a3); (case a1 => with_reducible assumption); (case a2 => walk_at "fr"); (case' a3 => skip))
  | ((with_reducible refine' en_kp ?a1 ?a2 ?a3 ?a4); (case a1 => with_reducible assumption); (case a2 => with_reducible assumption); (case a3 => walk_at "fr"); (case' a4 => skip))
  | ((with_reducible refine' nw_new ?a1 ?a2); (case a1 => with_reducible assumption); (case' a2 => skip))
  | ((with_reducible refine' nw_same ?a1 ?a2); (case a1 => with_reducible assumption); (case' a2 => skip))
  | ((with_reducible refine' nw_go ?a1 ?a2); (case a1 => with_reducible assumption); (case' a2 => skip))
  | ((with_reducible refine' nw_kp ?a1 ?a2 ?a3); (case a1 => with_reducible assumption); (case a2 => walk_at "st"); (case' a3 => skip))
  | ((with_reducible refine' nw_set ?a1 ?a2); (case a1 => walk_at "lk"); (case' a2 => skip))
  | ((with_reducible refine' nw_set2 ?a1 ?a2 ?a3); (case a1 => with_reducible assumption); (case a2 => walk_at "fr"); (case' a3 => skip))
  | fail "fr1")
local macro_rules | `(tactic| walk_at "tb") => `(tactic| first
  | with_reducible assumption
  | (walk_at "tb1"; walk_at "tb")
  | fail "tb")
local macro_rules | `(tactic| walk_at "tb1") => `(tactic| first
  | ((with_reducible refine' tabs_new ?a1 ?a2); (case a1 => with_reducible assumption); (case' a2 => skip))
  | ((with_reducible refine' tabs_same ?a1 ?a2); (case a1 => with_reducible assumption); (case' a2 => skip))
  | ((with_reducible refine' tabs_go ?a1 ?a2); (case a1 => with_reducible assumption); (case' a2 => skip))
  | ((with_reducible refine' tabs_kp ?a1 ?a2 ?a3); (case a1 => with_reducible assumption); (case a2 => walk_at "st"); (case' a3 => skip))
  | ((with_reducible refine' tabs_set ?a1 ?a2); (case a1 => walk_at "lk"); (case' a2 => skip))
  | fail "tb1")
local macro_rules | `(tactic| walk_at "dg") => `(tactic| first
  | assumption
  | (refine' dp_ext ?a1 ?a2; (case a1 => assumption); (case a2 => walk_at "fr"))
  | (refine' dn_use ?a1 ?a2; (case a1 => assumption); (case a2 => walk_at "fr"))
  | fail "dg")
local macro_rules | `(tactic| walk_at "dp") => `(tactic| first
  | assumption
  | exact .str _
  | exact .int _
  | exact .bl _
  | exact .non
  | (refine' Dp.lst (SqL.of ?a1) ?a2; (case a1 => walk_at "lk"); (case a2 => walk_at "dpa"))
  | (refine' Dp.tup (SqT.of ?a1) ?a2; (case a1 => walk_at "lk"); (case a2 => walk_at "dpa"))
  | (walk_at "dg")
  | fail "dp")
local macro_rules | `(tactic| walk_at "dpa") => `(tactic| first
  | assumption
  | exact .nil
  | (refine' DpAll.cons ?a1 ?a2; (case a1 => walk_at "dp"); (case a2 => walk_at "dpa"))
  | fail "dpa")
local macro_rules | `(tactic| walk_at "dx") => `(tactic| first
  | assumption
  | exact .str _
  | exact .int _
  | exact .bl _
  | exact .non
  | (refine' Dx.lst (SqL.of ?a1) ?a2; (case a1 => walk_at "lk"); (case a2 => walk_at "dxa"))
  | (refine' Dx.tup (SqT.of ?a1) ?a2; (case a1 => walk_at "lk"); (case a2 => walk_at "dxa"))
  | (refine' Dx.dct (.inl ?a1) ?a2; (case a1 => walk_at "lk"); (case a2 => exact .nil))
  | (refine' dx_ext ?a1 ?a2; (case a1 => assumption); (case a2 => walk_at "fr"))
  | fail "dx")
local macro_rules | `(tactic| walk_at "dxa") => `(tactic| first
  | assumption
  | exact .nil
  | (refine' DxAll.cons ?a1 ?a2; (case a1 => walk_at "dx"); (case a2 => walk_at "dxa"))
  | fail "dxa")
local macro_rules | `(tactic| walk_at "ty") => `(tactic| first
  | assumption
  | (refine' ty_ext ?a1 ?a2; (case a1 => assumption); (case a2 => walk_at "fr"))
  | fail "ty")
local macro_rules | `(tactic| walk_at "shp") => `(tactic| first
  | assumption
  | (simp only [SeqAt.shaped, lay_l, lay_t, lay_i, lay_b, lay_n, lay_c, lay_e, PyData.depth, PyData.depthAll, Bool.and_true, Bool.true_and, Bool.and_eq_true, decide_eq_true_eq]
     repeat' (first | assumption | (refine And.intro ?_ ?_) | (exact rfl) | (decide +kernel) | omega))
  | decide +kernel)
local macro_rules | `(tactic| walk_at "side") => `(tactic| first
  | assumption
  | (intros; trivial)
  | omega
  | (walk_at "lk")
  | (walk_at "st")
  | (walk_at "sz")
  | (walk_at "tb")
  | (walk_at "fr"))
local macro_rules | `(tactic| walk_at "cl") => `(tactic| ((repeat' (apply Exists.intro)); refine And.intro rfl ?_; repeat (refine And.intro (by walk_at "side") ?_)))
local macro_rules | `(tactic| walk_at "eqd") => `(tactic| (refine ⟨_, _, by walk_at "dp", by walk_at "dp", by walk_at "shp", by walk_at "shp", ?_⟩; rw [eqv_same (by walk_at "shp")]))
local macro_rules | `(tactic| walk_at "new") => `(tactic| refine fun (p : Addr) (hp : (_ : Hp) p = none) => ?_)
local macro_rules | `(tactic| walk_at "rdn") => `(tactic| (repeat' (first | walk_at "rd" | walk_at "new")))

theorem ok__law_taken_right (T : Tx P w K mg base) (G_Cursor_go_to : FnOk P w K mg base (L2.CX P w) 4 T.f_Cursor_go_to T.fd_Cursor_go_to ["self", "position"] (sp_Cursor_go_to T.C_Cursor)) (G__law_read : FnOk P w K mg base CX0 3 T.d__law_read.f T.d__law_read.fd ["raw_so", "edge", "tables"] sp__law_read) (G_Cursor_take_text : FnOk P w K mg base (L2.CX P w) 8 T.f_Cursor_take_text T.fd_Cursor_take_text ["self", "mark"] (sp_Cursor_take_text K T.C_Cursor T.a_InvalidKind)) (G_Cursor_offset : FnOk P w K mg base CX0 1 T.f_Cursor_offset T.fd_Cursor_offset ["self"] (sp_Cursor_offset T.C_Cursor)) (G_Cursor___init__ : FnOk P w K mg base CX0 5 T.f_Cursor___init__ T.fd_Cursor___init__ ["self", "text"] (sp_Cursor___init__ T.C_Cursor)) : FnOk P w K mg base CX0 9 T.d__law_taken_right.f T.d__law_taken_right.fd ["raw_so", "edge", "tables"] sp__law_taken_right := by
  have sc := sc__law_taken_right
  refine T.d__law_taken_right.F.ok sc (fun vs H Q E h => ?_) (fun cdv A outer s H vs Q E hr h => ?_)
  · obtain ⟨z, mk, a, rfl, hz, hm, ht, q⟩ := h
    rfl
  · obtain ⟨z, mk, a, rfl, hz, hm, ht, q⟩ := h
    refine ⟨_, (pss_cons (ps_par (i := 3) (j := 4) (by rfl) sc.nd rfl rfl (by decide) rfl rfl (pa_cons (pe_make T.mk_Cursor G_Cursor___init__ (hr.mono (by decide)) rfl T.mg_Cursor T.b_Cursor___init__ .nil pass0 (pa_cons (pe_op op_add_str pe_str (pv 0)) pa_nil)) (pa_cons pe_int pa_nil)) (by rfl))
      (pss_cons (ps_expr (pe_meth (pv 3) T.cl_Cursor T.me_Cursor_go_to G_Cursor_go_to (hr.mono (by decide)) T.b_Cursor_go_to .nil passL (pa_cons pe_int pa_nil)))
      (pss_cons (ps_for PassesOwn.never rfl (pi_range1 rfl T.n_range (pa_cons pe_int pa_nil)) (pg_name (i := 5) sc.nd rfl (Or.inl rfl)) (pss_cons (ps_set (i := 6) sc.nd rfl (Or.inl rfl) (pe_ix ix_tup (pe_call G__law_read (hr.mono (by decide)) rfl T.d__law_read.m T.d__law_read.F.kp T.d__law_read.b .nil pass0 (pa_cons (pe_slice sl_str (pv 0) (po_some (pv 4)) po_none) (pa_cons (pv 1) (pa_cons (pv 2) pa_nil)))) pe_int (fun _ _ => rfl)))
      (pss_cons (ps_set (i := 7) sc.nd rfl (Or.inl rfl) (pe_ifExp (pt_cmpR op_eq (pv 1) pe_str (nomark _)) (pe_meth0 (pv 3) T.cl_Cursor T.me_Cursor_take_text G_Cursor_take_text (hr.mono (by decide)) T.b1_Cursor_take_text T.hd_Cursor_take_text passL) (Mx.pe_methK0 (pv 3) T.cl_Cursor T.me_Cursor_take_text G_Cursor_take_text (hr.mono (by decide)) T.kb_Cursor_take_text passL (pk_cons (pv 1) pk_nil))))
      (pss_cons (ps_set (i := 4) sc.nd rfl (Or.inl rfl) (pe_ifExp (pt_cmpR (op_neD hr.units) (pv 6) (pe_lst pa_nil) (nomark _)) (pe_op op_add (pv 4) (pe_ix ix_tup (pe_ix ix_list (pv 6) (pe_un un_neg pe_int) (fun _ _ => rfl)) pe_int (fun _ _ => rfl))) (pv 4)))
      (pss_one (ps_if (PW.pt (pw_or (pt_cmpR op_ne (pe_prop (pv 3) T.cl_Cursor T.pr_Cursor_offset G_Cursor_offset (hr.mono (by decide)) T.b_Cursor_offset .nil pass0 rfl) (pe_op op_add pe_int (pv 4)) (nomark _)) (pw_or1 (pt_cmpR op_ne (pv 7) (pe_join pe_str (pe_lc (own := [("triple", 8)]) (g := gName 8) (tt := tYes) rfl sc.nd (pi_list (pv 6)) (blkOk_by (own := [("triple", 8)]) (N := ["raw_so", "edge", "tables", "cursor", "spot", "turn", "found", "told", "triple"]) (sc := defScope s__law_taken_right) (by decide +kernel)) (fun _ _ _ _ _ => pg_name (i := 8) sc.nd rfl (Or.inl rfl)) (fun _ _ _ _ _ => pts_nil) (fun _ _ _ _ _ => pe_ix (show IxR _ (rIxT K) from ix_tup) (pv 8) pe_int (fun _ _ => rfl)))) (nomark _))))) (pss_one (ps_ret pe_bl)) pss_nil))))))
      (pss_one (ps_ret pe_bl))))), ?_⟩
    have zl : z.length = (tl z).length := len_tl z
    have z9 := hz.2
    have z16 : z.length ≤ sizeLine := by rw [zl]; unfold sizeLine; omega
    have eab : ("ab" : Str).length = 2 := rfl
    have la : ∀ x y : Str, (x ++ y).length = x.length + y.length := fun x y => by rw [len_tl, tl_append, List.length_append, ← len_tl, ← len_tl]
    have t1 : ("ab" : Str).length + z.length ≤ sizeLine := by rw [eab]; unfold sizeLine; omega
    walk_at "rds"
    have tz : tl ("ab" ++ z : Str) = 97 :: 98 :: tl z := tl_append _ _
    have w2 : W4 ("ab" ++ z : Str) := ⟨fun c hc => by
      have hc : c ∈ tl ("ab" ++ z : Str) := hc
      rw [tz] at hc
      simp only [List.mem_cons] at hc
      rcases hc with rfl | rfl | hc
      · decide
      · decide
      · exact hz.1 c hc, by rw [tz]; show (tl z).length + 1 + 1 ≤ 1000; omega⟩
    have hzl2 : (tl ("ab" ++ z : Str)).length = (tl z).length + 2 := by rw [tz]; rfl
    have hdr : ∀ s, (tl ("ab" ++ z : Str)).drop (2 + s) = (tl z).drop s := fun s => by rw [tz, Nat.add_comm]; rfl
    generalize ("ab" ++ z : Str) = z2 at *
    clear tz t1
    intro x dx nx ndx nex
    refine ⟨x, dx, z2, rfl, w2.2, upd_same, fun H1 kp1 hc1 => ⟨rfl, ?_⟩⟩
    have s1 : Same H H1 := fun b o e => kp1 b o (ne_of_none e nx) (by rw [upd_ne (ne_of_none e nx), upd_ne (ne_of_none e ndx)]; exact e)
    obtain ⟨dx1, t1, f1⟩ := hc1
    clear kp1
    walk_at "rds"
    refine ⟨_, _, rfl, ?_⟩
    walk_at "rds"
    refine ⟨x, dx1, _, rfl, f1, rfl, ?_⟩
    walk_at "rds"
    refine ⟨x, z2, 0, 2, rfl, w2.2, ⟨dx1, t1, f1⟩, by omega, fun H2 kp2 hc2 => ?_⟩
    have s2 : Same H H2 := fun b o e => kp2 b o (ne_of_none e nx) (s1 b o e)
    clear kp2 f1 s1
    walk_at "rds"
    refine for_range (fun i σ H' => ∃ s : Nat, s ≤ (tl z).length ∧ Same H H' ∧ CurAt T.C_Cursor H' x z2 (2 + s) ∧ ∃ v5 v6 v7, σ = [some (.str z), some (.str mk), some (.ref a), some (.ref x), some (.int (s : Int)), v5, v6, v7, none]) ⟨0, Nat.zero_le _, s2, hc2, _, _, _, rfl⟩ ?_ ?_
    · rintro i σ H3 hi ⟨s, hs, s3, ⟨dx3, t3, f3⟩, v5, v6, v7, rfl⟩
      clear s2 hc2
      have hrt := cutS_tail z s hs
      have hw4 := w4_tail hz.w4 hs
      walk_at "rds"
      obtain ⟨us, r, hu⟩ : ∃ us r, uns ((tl z).drop s) (tl mk) 0 0 = (us, r) := ⟨_, _, rfl⟩
      refine ⟨_, mk, a, us, r, rfl, hw4, hm, ht.same s3, by rw [hrt]; exact hu, fun H4 D p ws s4 hd htr hp => ?_⟩
      have hall := uns_all (l := (tl z).drop s) (m := tl mk) (fun c hc => hz.1 c (List.mem_of_mem_drop hc)) 0 0
      rw [hu] at hall
      obtain ⟨hal, hul⟩ := hall
      dsimp only at hal hul
      rw [List.length_drop] at hul hal
      have f4 := s4 _ _ f3
      have sm4 := s3.trans s4
      have hle : lastE us ≤ (tl z).length - s := lastE_le fun u h => (hal u h).2.2
      have nD : D ≠ x := fun e => by rw [e, f4] at hd; cases hd
      clear s4 s3 f3
      walk_at "rds"
      refine ⟨_, _, _, _, rfl, rfl, SqT.of hp, rfl, ?_⟩
      dsimp only [gName]
      refine tCut (R := fun σ' H' => Same H H' ∧ H' D = some (.lst ws) ∧ Trs H' us ws ∧ CurAt T.C_Cursor H' x z2 (2 + s + lastE us) ∧ ∃ v5, σ' = [some (.str z), some (.str mk), some (.ref a), some (.ref x), some (.int (s : Int)), v5, some (.ref D), some (.str (toS (mns us))), none]) ?_ (fun key => ?_)
      case refine_2 =>
        have fin : ∀ H5, Kp x H4 H5 → CurAt T.C_Cursor H5 x z2 (2 + s + lastE us) → Same H H5 ∧ H5 D = some (.lst ws) ∧ Trs H5 us ws ∧ CurAt T.C_Cursor H5 x z2 (2 + s + lastE us) := fun H5 kp hc =>
          ⟨fun b o e => kp b o (ne_of_none e nx) (sm4 b o e), kp _ _ nD hd, htr.mono fun t xs e => kp _ _ (fun z => by rw [z, f4] at e; cases e) e, hc⟩
        by_cases hmk : tl mk = []
        · obtain rfl : mk = "" := Mx.str_ext (hmk.trans (rfl : [] = tl ("" : Str)))
          walk_at "rds"
          refine ⟨x, dx3, _, rfl, f4, rfl, ?_⟩
          refine ⟨x, z2, 2 + s, .str "", rfl, w2, ⟨dx3, t3, f4⟩, by omega, .inl ⟨"", us, r, rfl, .inl rfl, by rw [hdr]; exact hu, fun H5 kp5 hc5 => ?_⟩⟩
          obtain ⟨g1, g2, g3, g4⟩ := fin H5 kp5 hc5
          exact key _ _ ⟨g1, g2, g3, g4, _, rfl⟩
        · have dm : decide (V.str mk = V.str "") = false := by rw [empty_eq]; exact decide_eq_false hmk
          walk_at "rds"
          refine ⟨x, dx3, _, rfl, f4, rfl, ?_⟩
          walk_at "rds"
          refine ⟨x, z2, 2 + s, .str mk, rfl, w2, ⟨dx3, t3, f4⟩, by omega, .inl ⟨mk, us, r, rfl, hm, by rw [hdr]; exact hu, fun H5 kp5 hc5 => ?_⟩⟩
          obtain ⟨g1, g2, g3, g4⟩ := fin H5 kp5 hc5
          exact key _ _ ⟨g1, g2, g3, g4, _, rfl⟩
      clear sm4 hd htr hp f4 hu
      rintro σ0 H5 ⟨s5, hd, htr, hc5, v5, rfl⟩
      refine tCut (R := fun σ' H' => Same H H' ∧ H' D = some (.lst ws) ∧ Trs H' us ws ∧ CurAt T.C_Cursor H' x z2 (2 + s + lastE us) ∧ ∃ v5, σ' = [some (.str z), some (.str mk), some (.ref a), some (.ref x), some (.int ((s + lastE us : Nat) : Int)), v5, some (.ref D), some (.str (toS (mns us))), none]) ?_ (fun key => ?_)
      case refine_2 =>
        have shu := shapedU fun u h => (hal u h).1
        walk_at "rds"
        intro pe hpe
        have hd6 := lk_new (o := .lst []) hpe hd
        have htr6 : Trs (upd H5 pe (.lst [])) us ws := htr.mono fun t xs e => lk_new hpe e
        have s6 : Same H (upd H5 pe (.lst [])) := Same.new s5 hpe
        obtain ⟨dx5, t5, f5⟩ := hc5
        have hc6 : CurAt T.C_Cursor (upd H5 pe (.lst [])) x z2 (2 + s + lastE us) := ⟨dx5, t5, lk_new hpe f5⟩
        refine ⟨.list (us.map datU), .list [], .lst (SqL.of hd6) htr6.dp, .lst (SqL.of upd_same) .nil, shu, rfl, ?_⟩
        generalize upd H5 pe (.lst []) = H6 at *
        by_cases hn : us = []
        · have es : ((s : Nat) : Int) = ((s + lastE us : Nat) : Int) := by
            have e0 : lastE us = 0 := by rw [hn]; rfl
            rw [e0]
            rfl
          refine ⟨false, by rw [hn]; rfl, itF rfl ?_⟩
          repeat' (first | (refine key _ _ ⟨s6, hd6, htr6, hc6, v5, ?_⟩; rw [← es]; rfl) | walk_at "rd")
        · obtain ⟨t, u, e1, e2, e3⟩ := htr6.last hn
          have e2 : H6 t = some (.tup [.int (u.1 : Int), .int (u.2.1 : Int), .str ⟨#[u.2.2]⟩]) := e2
          obtain ⟨u0, l0, hul0⟩ : ∃ u0 l0, us = u0 :: l0 := by
            cases us with
            | nil => exact absurd rfl hn
            | cons a b => exact ⟨a, b, rfl⟩
          refine ⟨true, by rw [hul0]; rfl, itT rfl ?_⟩
          walk_at "rds"
          refine ⟨_, _, _, _, rfl, rfl, SqL.of hd6, e1, ?_⟩
          refine ⟨_, _, _, _, rfl, rfl, SqT.of e2, rfl, ?_⟩
          have es : (s : Int) + (u.2.1 : Int) = ((s + lastE us : Nat) : Int) := by rw [e3]; exact (Int.natCast_add _ _).symm
          repeat' (first | (refine key _ _ ⟨s6, hd6, htr6, hc6, v5, ?_⟩; rw [← es]; rfl) | walk_at "rd")
      clear hd htr hc5 s5
      rintro σ0 H6 ⟨s6, hd, htr, ⟨dx6, t6, f6⟩, v5, rfl⟩
      walk_at "rds"
      refine ⟨x, dx6, _, rfl, f6, ⟨x, z2, 2 + s + lastE us, rfl, ⟨dx6, t6, f6⟩, ?_⟩⟩
      walk_at "rds"
      intro D2 hD2
      have hwl := htr.length
      refine lc_flt (walk_list (xs := ws)) (fun _ => true) (fun k => .str ⟨#[(us.getD k (0, 0, 0)).2.2]⟩) hD2 (by omega) (fun H1 sm => SqL.of (sm _ _ hd)) (fun i H1 x H2 y => y.1 ▸ Same.refl _) ?_ ?_
      · rintro k y H7 H8 Nx Mo hk sm ⟨rfl, hx⟩ k1 k2
        obtain ⟨t, u, rfl, hu2, ht4⟩ := htr.at k y hx
        have huk : us.getD k (0, 0, 0) = u := by rw [List.getD_eq_getElem?_getD, hu2]; rfl
        rw [huk] at k1
        have h4 : H8 t = some (.tup [.int (u.1 : Int), .int (u.2.1 : Int), .str ⟨#[u.2.2]⟩]) := sm _ _ ht4
        refine ⟨rfl, ?_⟩
        walk_at "rds"
        refine ⟨_, _, _, _, rfl, rfl, SqT.of h4, rfl, ?_⟩
        exact k1 rfl _ (Same.refl _)
      intro H7 sm7 hl7
      rw [hwl, picked_mns] at hl7
      have hml : (mns us).length = us.length := List.length_map _
      refine ⟨"", D2, ones (mns us), rfl, rfl, .inl (SqL.of hl7), ones_ok (n := (tl z).length) (by omega) (by omega), ?_⟩
      rw [ones_join]
      walk_at "rds"
      refine ⟨s + lastE us, by omega, s6.trans sm7, ?_, v5, _, _, rfl⟩
      rw [← Nat.add_assoc]
      exact ⟨dx6, t6, sm7 _ _ f6⟩
    · rintro σ H3 ⟨s, hs, s3, hc3, v5, v6, v7, rfl⟩
      walk_at "rds"
      exact q _ s3

end
end K7

set_option maxHeartbeats 1000000
set_option pp.maxSteps 700
set_option pp.deepTerms false
set_option pp.deepTerms.threshold 14
namespace K7
open PySem PySem.Spec PyProof.Rows L2 Mx
/-! ### the law's word on what a call does -/
/-- which answer of _law_told an exception of the class at C gets -/
def Path (K : PySem.W.Frag) (C i t n k : Addr) (f tag : Str) : Prop :=
  (f = "position" ∧ tag = "ill" ∧ PySem.W.kitOne K (.ref C) (.ref i) = some true) ∨
  (f = "index" ∧ tag = "text" ∧ PySem.W.kitOne K (.ref C) (.ref i) = some false ∧ PySem.W.kitOne K (.ref C) (.ref t) = some true) ∨
  (f = "number" ∧ tag = "number" ∧ PySem.W.kitOne K (.ref C) (.ref i) = some false ∧ PySem.W.kitOne K (.ref C) (.ref t) = some false ∧ PySem.W.kitOne K (.ref C) (.ref n) = some true) ∨
  (f = "kind" ∧ tag = "kind" ∧ PySem.W.kitOne K (.ref C) (.ref i) = some false ∧ PySem.W.kitOne K (.ref C) (.ref t) = some false ∧ PySem.W.kitOne K (.ref C) (.ref n) = some false ∧ PySem.W.kitOne K (.ref C) (.ref k) = some true)
def ToldE (K : PySem.W.Frag) (cs : List Value) (i t n k : Addr) (Q : VK) : XK := fun cls d H' => ∃ (C dd : Addr) (fs : List (Str × V)) (f tag : Str) (v : V), cls = .ref C ∧ d = some dd ∧ H' dd = some (.xd fs) ∧ XcC K C ∧ PySem.W.exmAny K (.ref C) cs = some true ∧
  PySem.W.findIn K (.ref C) f = some none ∧ fs.lookup f = some v ∧ Path K C i t n k f tag ∧
  ∀ a p, H' a = none → upd H' a (xoO a (.ref C) (some dd)) p = none → Q (.ref p) (upd (upd H' a (xoO a (.ref C) (some dd))) p (.tup [.str tag, v]))
def TTold (K : PySem.W.Frag) (cs : List Value) (i t n k : Addr) : (XK → Hp → VK → Prop) → Hp → VK → Prop := fun tl H Q =>
  ∀ p0, H p0 = none → tl (ToldE K cs i t n k Q) (upd H p0 (.lst [])) (fun v H1 => ∀ p, H1 p = none → Q (.ref p) (upd H1 p (.lst [v])))

local macro_rules | `(tactic| walk_at "sz") => `(tactic| first | assumption | decide | omega | (unfold sizeLine; omega) | exact Nat.le_of_ble_eq_true rfl)
local macro_rules | `(tactic| walk_at "hp") => `(tactic| (first | assumption | exact upd_same | (rw [upd_ne (by assumption)]; assumption)))
local macro_rules | `(tactic| walk_at "rd") => `(tactic| (first
  | refine ⟨_, rfl, ?_⟩
  | (refine ⟨_, _, rfl, rfl, ?rdc, ?_⟩; (case rdc => first | (show (0 : Int) < _; omega) | (exact ⟨by omega, by omega⟩) | (exact .inl ⟨by omega, by omega⟩) | (exact .inr ⟨by omega, by omega⟩) | exact ⟨by decide, by decide, by decide⟩))
  | refine ⟨_, _, rfl, rfl, ?_⟩
  | refine .inl ⟨_, rfl, ?_⟩
  | refine ⟨rfl, ?_⟩
  | refine ⟨⟨_, rfl⟩, ?_⟩
  | refine ⟨⟨_, SqL.of (by walk_at "hp")⟩, ?_⟩
  | refine ⟨_, _, _, _, rfl, rfl, SqL.of (by walk_at "hp"), (by rfl), ?_⟩
  | refine ⟨_, _, _, _, rfl, rfl, (by walk_at "hp"), (by rfl), ?_⟩
  | refine ⟨_, _, rfl, ⟨by walk_at "sz", rfl⟩, ?_⟩
  | refine ⟨_, _, _, rfl, rfl, by walk_at "sz", by assumption, ?_⟩
  | refine And.intro (by walk_at "sz") ?_
  | refine itT rfl ?_
  | refine itF rfl ?_
  | refine itT (by assumption) ?_
  | refine itF (by assumption) ?_
  | refine itT (decide_eq_true (by omega)) ?_
  | refine itF (decide_eq_false (by omega)) ?_
  | refine itT (dVi (by omega)) ?_
  | refine itF (dViN (by omega)) ?_
  | refine itT (notT (by assumption)) ?_
  | refine itF (notF (by assumption)) ?_
  | refine itT (notT (dViN (by omega))) ?_
  | refine itF (notF (dVi (by omega))) ?_
  | refine itT (decide_eq_true rfl) ?_
  | refine itF (notF (decide_eq_true rfl)) ?_
  | refine ite2 (fun _ => ?_) (fun _ => ?_)
  | with_reducible refine tC_ ?_
  | with_reducible refine tNext_ ?_
  | with_reducible refine tNil_ ?_
  | with_reducible refine tYes_ ?_))
local macro_rules | `(tactic| walk_at "rds") => `(tactic| repeat' (walk_at "rd"))

theorem told_gives {X : Cx} (T : Tx X.prog X.w X.K X.mg X.base) (q : Str) (g : Addr) (cdg : Value) :
    LamX.GivesTo X ["call", "caught", "found", "error"] "_law_told" (defScope s__law_told) g cdg (defBody s__law_told) "call" q
      (TTold X.K [.ref T.a_MarkupError, .ref T.a_MarkupStateError, .ref T.a_LimitError] T.a_IllFormed T.a_InvalidText T.a_InvalidNumber T.a_InvalidKind) := by
  intro f c' s H Q tl act hc h
  have sc := sc__law_told
  refine ⟨_, pss_cons (ps_par (i := 1) (j := 2) (by rfl) sc.nd rfl rfl (by decide) rfl rfl (pa_cons pe_non (pa_cons (pe_lst pa_nil) pa_nil)) (by rfl))
      (pss_cons (ps_try_t3 (X := (cxOf C8.CX0 X.prog X.w X.K X.mg X.base ["call", "caught", "found", "error"] "_law_told" (defScope s__law_told) g cdg X.A X.stack s H C8.E0).nox) (i := 3) (Wout := fun _ _ _ _ => False)
        (tb := fun W D σ H => ∃ (Ech : XK) (Q0 : VK), (∀ cls d σ' H', Ech cls d H' → σ'.length = 4 → W cls d σ' H') ∧ σ[0]? = some (some (.ref f)) ∧ H c' = some (LamX.CodeO c' q) ∧ tl Ech H Q0 ∧ ∀ v H1, Q0 v H1 → ∀ p, H1 p = none → D.nx (σ.set 2 (some (.ref p))) (upd H1 p (.lst [v])))
        rfl rfl rfl sc.nd rfl rfl ⟨rfl, T.m_MarkupError, by decide⟩ ⟨rfl, T.m_MarkupStateError, by decide⟩ ⟨rfl, T.m_LimitError, by decide⟩ LamX.takes0 (fun W pn xe tk _ => ?_)
        (fun a oe cls d pn hz hd => pss_one (ps_set (i := 1) sc.nd rfl (Or.inl rfl) (pv 3))))
      (pss_cons (ps_if (pt_cmpR op_isN (pv 1) pe_non (nomark _)) (pss_one (ps_ret (pv 2))) pss_nil)
      (pss_cons (ps_if (pt_val (pe_callB call_isiX (by rfl) T.n_isinstance (by decide +kernel) (pa_cons (pv 1) (pa_cons (pe_glob (v := .ref T.a_IllFormed) rfl T.x_IllFormed.mgC rfl) pa_nil)))) (pss_one (ps_ret (pe_tup (pa_cons pe_str (pa_cons (pe_xo (pv 1)) pa_nil))))) pss_nil)
      (pss_cons (ps_if (pt_val (pe_callB call_isiX (by rfl) T.n_isinstance (by decide +kernel) (pa_cons (pv 1) (pa_cons (pe_glob (v := .ref T.a_InvalidText) rfl T.x_InvalidText.mgC rfl) pa_nil)))) (pss_one (ps_ret (pe_tup (pa_cons pe_str (pa_cons (pe_xo (pv 1)) pa_nil))))) pss_nil)
      (pss_cons (ps_if (pt_val (pe_callB call_isiX (by rfl) T.n_isinstance (by decide +kernel) (pa_cons (pv 1) (pa_cons (pe_glob (v := .ref T.a_InvalidNumber) rfl T.x_InvalidNumber.mgC rfl) pa_nil)))) (pss_one (ps_ret (pe_tup (pa_cons pe_str (pa_cons (pe_xo (pv 1)) pa_nil))))) pss_nil)
      (pss_one (ps_ret (pe_ifExp (pt_val (pe_callB call_isiX (by rfl) T.n_isinstance (by decide +kernel) (pa_cons (pv 1) (pa_cons (pe_glob (v := .ref T.a_InvalidKind) rfl T.x_InvalidKind.mgC rfl) pa_nil)))) (pe_tup (pa_cons pe_str (pa_cons (pe_xo (pv 1)) pa_nil))) (pe_tup (pa_cons pe_str pa_nil)))))))))), ?_⟩
  · refine ⟨fun pins s' σ H' D I hh => ?_⟩
    obtain ⟨Ech, Q0, hW, h1, h2, h3, h4⟩ := hh
    have tk2 := takes_len tk
    refine PSs.run (t := tAsg (tLst (tCons (eMono fun σZ HZ Q => σZ[0]? = some (some (V.ref f)) ∧ HZ c' = some (LamX.CodeO c' q) ∧ tl Ech HZ Q) tNil)) (gName 2)) ?hb pins s' σ H' D I ?_
    case hb => exact pss_one (ps_set (i := 2) sc.nd rfl (Or.inl rfl) (pe_lst (pa_cons (pe_mono (act (fun cls d σ H => σ.length = 4 → W cls d σ H) pn xe Ech _ _ tk2 (fun cls d σ' H' e hl => hW cls d σ' H' e hl))) pa_nil)))
    exact ⟨Q0, ⟨h1, h2, h3⟩, fun v H1 q0 => ⟨by show 1 ≤ sizeLine; decide, fun p hp => h4 v H1 q0 p hp⟩⟩
  · walk_at "rds"
    intro p0 hp0
    walk_at "rds"
    refine ⟨_, _, rfl, ?_⟩
    refine ⟨ToldE X.K [.ref T.a_MarkupError, .ref T.a_MarkupStateError, .ref T.a_LimitError] T.a_IllFormed T.a_InvalidText T.a_InvalidNumber T.a_InvalidKind Q, fun v H1 => ∀ p, H1 p = none → Q (.ref p) (upd H1 p (.lst [v])), ?_, rfl, ?_, h p0 hp0, ?_⟩
    · rintro cls d σ' H' ⟨C, dd, fs, fi, tag, v, rfl, rfl, hd, xc, ex, fn, lk, path, k⟩ hl
      refine ⟨true, ex, fun _ a ha => ?_, fun z => by cases z⟩
      match σ', hl with
      | [x0, x1, x2, x3], _ =>
        have xa : XoAt (upd H' a (xoO a (.ref C) (some dd))) a C fs := ⟨dd, upd_same, by rw [upd_ne (ne_of_none hd ha)]; exact hd⟩
        walk_at "rds"
        rcases path with ⟨rfl, rfl, k1⟩ | ⟨rfl, rfl, k1, k2⟩ | ⟨rfl, rfl, k1, k2, k3⟩ | ⟨rfl, rfl, k1, k2, k3, k4⟩
        · refine ⟨a, C, fs, _, _, _, rfl, .own _, xa, xc, k1, ?_⟩
          walk_at "rds"
          refine ⟨a, C, fs, v, rfl, xa, xc, fn, lk, ?_⟩
          walk_at "rds"
          intro p hp
          exact k a p ha hp
        · refine ⟨a, C, fs, _, _, _, rfl, .own _, xa, xc, k1, ?_⟩
          walk_at "rds"
          refine ⟨a, C, fs, _, _, _, rfl, .own _, xa, xc, k2, ?_⟩
          walk_at "rds"
          refine ⟨a, C, fs, v, rfl, xa, xc, fn, lk, ?_⟩
          walk_at "rds"
          intro p hp
          exact k a p ha hp
        · refine ⟨a, C, fs, _, _, _, rfl, .own _, xa, xc, k1, ?_⟩
          walk_at "rds"
          refine ⟨a, C, fs, _, _, _, rfl, .own _, xa, xc, k2, ?_⟩
          walk_at "rds"
          refine ⟨a, C, fs, _, _, _, rfl, .own _, xa, xc, k3, ?_⟩
          walk_at "rds"
          refine ⟨a, C, fs, v, rfl, xa, xc, fn, lk, ?_⟩
          walk_at "rds"
          intro p hp
          exact k a p ha hp
        · refine ⟨a, C, fs, _, _, _, rfl, .own _, xa, xc, k1, ?_⟩
          walk_at "rds"
          refine ⟨a, C, fs, _, _, _, rfl, .own _, xa, xc, k2, ?_⟩
          walk_at "rds"
          refine ⟨a, C, fs, _, _, _, rfl, .own _, xa, xc, k3, ?_⟩
          walk_at "rds"
          refine ⟨a, C, fs, _, _, _, rfl, .own _, xa, xc, k4, ?_⟩
          walk_at "rds"
          refine ⟨a, C, fs, v, rfl, xa, xc, fn, lk, ?_⟩
          walk_at "rds"
          intro p hp
          exact k a p ha hp
    · rw [upd_ne (ne_of_none hc hp0)]
      exact hc
    · intro v H1 q0 p hp
      walk_at "rds"
      exact q0 p hp
theorem lam_in {Tb : List (Addr × Str)} {TTd : (XK → Hp → VK → Prop) → Hp → VK → Prop} {t : XK → TE} {σ : L2.St} {H : Hp} {Q : VK} (tb : LamX.Tabs Tb H) (h : ∀ H1, Go Tb H H1 → TTd (fun E H' Q' => t E σ H' Q') H1 Q) : LamX.tLam Tb TTd t σ H Q :=
  ⟨tb, fun H1 e t => h H1 ⟨e, fun _ => t⟩⟩

theorem told_ill {P : Program} {w : World} {K : PySem.W.Frag} {mg : Str → Option Value} {base : Heap} (T : Tx P w K mg base) {Q : VK} {H : Hp} {d : Addr} {v : V} (hd : H d = some (.xd [("position", v)]))
    (k : ∀ ax px, H ax = none → L2.upd H ax (xoO ax (.ref T.a_IllFormed) (some d)) px = none → Q (.ref px) (L2.upd (L2.upd H ax (xoO ax (.ref T.a_IllFormed) (some d))) px (.tup [.str "ill", v]))) :
    ToldE K [.ref T.a_MarkupError, .ref T.a_MarkupStateError, .ref T.a_LimitError] T.a_IllFormed T.a_InvalidText T.a_InvalidNumber T.a_InvalidKind Q (.ref T.a_IllFormed) (some d) H :=
  ⟨T.a_IllFormed, d, [("position", v)], "position", "ill", v, rfl, rfl, hd, T.xc_IllFormed, T.ex_IllFormed, T.fn_IllFormed, rfl, .inl ⟨rfl, rfl, T.k1_IllFormed⟩, k⟩
theorem told_kind {P : Program} {w : World} {K : PySem.W.Frag} {mg : Str → Option Value} {base : Heap} (T : Tx P w K mg base) {Q : VK} {H : Hp} {d : Addr} {v : V} (hd : H d = some (.xd [("kind", v)]))
    (k : ∀ ax px, H ax = none → L2.upd H ax (xoO ax (.ref T.a_InvalidKind) (some d)) px = none → Q (.ref px) (L2.upd (L2.upd H ax (xoO ax (.ref T.a_InvalidKind) (some d))) px (.tup [.str "kind", v]))) :
    ToldE K [.ref T.a_MarkupError, .ref T.a_MarkupStateError, .ref T.a_LimitError] T.a_IllFormed T.a_InvalidText T.a_InvalidNumber T.a_InvalidKind Q (.ref T.a_InvalidKind) (some d) H :=
  ⟨T.a_InvalidKind, d, [("kind", v)], "kind", "kind", v, rfl, rfl, hd, T.xc_InvalidKind, T.ex_InvalidKind, T.fn_InvalidKind, rfl, .inr (.inr (.inr ⟨rfl, rfl, T.k1_InvalidKind, T.k2_InvalidKind, T.k3_InvalidKind, T.k4_InvalidKind⟩)), k⟩
end K7

set_option maxHeartbeats 1000000
set_option pp.maxSteps 700
set_option pp.deepTerms false
set_option pp.deepTerms.threshold 14
namespace K7
open PySem PySem.Spec PyProof.Rows L2 Mx
open TL Num
theorem Tabs2.go {Tb : List (Addr × Str)} {H H' : Hp} {a : Addr} (h : Tabs2 H a) (g : Go Tb H H') : Tabs2 H' a :=
  let ⟨d1, d2, h1, h2, h3⟩ := h
  ⟨d1, d2, lk_go g (fun _ z => by cases z) h1, lk_go g (fun _ z => by cases z) h2, lk_go g (fun _ z => by cases z) h3⟩
def optD : Option Nat → PyData | none => .none | some k => .int (k : Int)
theorem dp_opt {K : PySem.W.Frag} {H : Hp} : ∀ r : Option Nat, Dp K H (optV r) (optD r) | none => .non | some _ => .int _
def dueD (us : List (Nat × Nat × Nat)) (r : Option Nat) : PyData := .tuple [.list (us.map datU), optD r]
theorem dp_due {K : PySem.W.Frag} {H : Hp} {D p : Addr} {us : List (Nat × Nat × Nat)} {ws : List V} {r : Option Nat} (h1 : H D = some (.lst ws)) (h2 : Trs H us ws) (h3 : H p = some (.tup [.ref D, optV r])) : Dp K H (.ref p) (dueD us r) :=
  .tup (SqT.of h3) (.cons (.lst (SqL.of h1) h2.dp) (.cons (dp_opt r) .nil))
theorem shaped_due {us : List (Nat × Nat × Nat)} (h : ∀ u ∈ us, u.2.2 < 128) (r : Option Nat) : SeqAt.shaped (dueD us r) = true := by
  obtain ⟨h1, h2⟩ := layU h
  have e1 : PyData.canLay0 (optD r) = true := by cases r <;> rfl
  have e2 : (optD r).depth = 0 := by cases r <;> rfl
  show ((PyData.canLayAll0 (us.map datU) && (PyData.canLay0 (optD r) && true)) && decide (max (PyData.depthAll (us.map datU) + 1) (max (optD r).depth 0) + 1 ≤ 64)) = true
  rw [h1, e1, e2]
  exact decide_eq_true (by omega)
theorem ne_opt {H : Hp} {Q : VK} : ∀ r : Option Nat, Q (.bl false) H → rNe (optV r) (optV r) H Q
  | none, q => ⟨rfl, by rw [decide_eq_true rfl]; exact q⟩
  | some k, q => ⟨rfl, by rw [decide_eq_true rfl]; exact q⟩
def sp__law_right (K : PySem.W.Frag) (Tb : List (Addr × Str)) : Sp := fun vs H Q _ => ∃ (z m : Str) (a : Addr), vs = [.str z, .str m, .ref a] ∧ W9 z ∧ MarkOk m ∧ Tabs2 H a ∧ LamX.Tabs Tb H ∧ ∀ H', Go Tb H H' → Q (.bl true) H'

local macro_rules | `(tactic| walk_at "sz") => `(tactic| first | assumption | decide | omega | (unfold sizeLine; omega) | exact Nat.le_of_ble_eq_true rfl)
local macro_rules | `(tactic| walk_at "hp") => `(tactic| (first | assumption | exact upd_same | (rw [upd_ne (by assumption)]; assumption)))
local macro_rules | `(tactic| walk_at "rd") => `(tactic| (first
  | refine ⟨_, rfl, ?_⟩
  | (refine ⟨_, _, rfl, rfl, ?rdc, ?_⟩; (case rdc => first | (show (0 : Int) < _; omega) | (exact ⟨by omega, by omega⟩) | (exact .inl ⟨by omega, by omega⟩) | (exact .inr ⟨by omega, by omega⟩) | exact ⟨by decide, by decide, by decide⟩))
  | refine ⟨_, _, rfl, rfl, ?_⟩
  | refine .inl ⟨_, rfl, ?_⟩
  | refine ⟨rfl, ?_⟩
  | refine ⟨⟨_, rfl⟩, ?_⟩
  | refine ⟨⟨_, SqL.of (by walk_at "hp")⟩, ?_⟩
  | refine ⟨_, _, _, _, rfl, rfl, SqL.of (by walk_at "hp"), (by rfl), ?_⟩
  | refine ⟨_, _, _, _, rfl, rfl, (by walk_at "hp"), (by rfl), ?_⟩
  | refine ⟨_, _, rfl, ⟨by walk_at "sz", rfl⟩, ?_⟩
  | refine ⟨_, _, _, rfl, rfl, by walk_at "sz", by assumption, ?_⟩
  | refine And.intro (by walk_at "sz") ?_
  | refine itT rfl ?_
  | refine itF rfl ?_
  | refine itT (by assumption) ?_
  | refine itF (by assumption) ?_
  | refine itT (decide_eq_true (by omega)) ?_
  | refine itF (decide_eq_false (by omega)) ?_
  | refine itT (dVi (by omega)) ?_
  | refine itF (dViN (by omega)) ?_
  | refine itT (notT (by assumption)) ?_
  | refine itF (notF (by assumption)) ?_
  | refine itT (notT (dViN (by omega))) ?_
  | refine itF (notF (dVi (by omega))) ?_
  | refine itT (decide_eq_true rfl) ?_
  | refine itF (notF (decide_eq_true rfl)) ?_
  | refine ite2 (fun _ => ?_) (fun _ => ?_)
  | with_reducible refine tC_ ?_
  | with_reducible refine tNext_ ?_
  | with_reducible refine tNil_ ?_
  | with_reducible refine tYes_ ?_))
local macro_rules | `(tactic| walk_at "rds") => `(tactic| repeat' (walk_at "rd"))
section
variable {P : Program} {w : World} {K : PySem.W.Frag} {mg : Str → Option Value} {base : Heap}

local macro_rules | `(tactic| walk_at "lk") => `(tactic| first
  | with_reducible assumption
  | with_reducible exact upd_same
  | (walk_at "lk1"; walk_at "lk")
  | fail "lk")
local macro_rules | `(tactic| walk_at "lk1") => `(tactic| first
  | ((with_reducible refine' lk_new ?a1 ?a2); (case a1 => with_reducible assumption); (case' a2 => skip))
  | ((with_reducible refine' lk_ne ?a1 ?a2); (case a1 => with_reducible assumption); (case' a2 => skip))
  | ((with_reducible refine' lk_neN ?a1 ?a2 ?a3); (case a1 => with_reducible assumption); (case a2 => walk_at "lk"); (case' a3 => skip))
  | ((with_reducible refine' lk_neN' ?a1 ?a2 ?a3); (case a1 => with_reducible assumption); (case a2 => walk_at "lk"); (case' a3 => skip))
  | ((with_reducible refine' lk_same ?a1 ?a2); (case a1 => with_reducible assumption); (case' a2 => skip))
  | ((with_reducible refine' lk_go ?a1 ?a2 ?a3); (case a1 => with_reducible assumption); (case a2 => walk_at "nt"); (case' a3 => skip))
  | ((with_reducible refine' lk_kp_nl ?a1 ?a2 ?a3 ?a4); (case a1 => with_reducible assumption); (case a2 => walk_at "st"); (case a3 => walk_at "nl"); (case' a4 => skip))
  | ((with_reducible refine' lk_kp ?a1 ?a2 ?a3); (case a1 => with_reducible assumption); (case a2 => walk_at "ne"); (case' a3 => skip))
  | fail "lk1")
local macro_rules | `(tactic| walk_at "nt") => `(tactic| first
  | (intro _ z; cases z)
  | fail "nt")
local macro_rules | `(tactic| walk_at "nl") => `(tactic| first
  | (intro _ z; cases z)
  | fail "nl")
local macro_rules | `(tactic| walk_at "ne") => `(tactic| first
  | with_reducible assumption
  | ((with_reducible refine' ne_st ?a1 ?a2); (case a1 => with_reducible assumption); (case a2 => walk_at "st"))
  | fail "ne")
local macro_rules | `(tactic| walk_at "st") => `(tactic| first
  | with_reducible assumption
  | with_reducible exact st_new (by with_reducible assumption) (by walk_at "st")
  | with_reducible exact st_same (by with_reducible assumption) (by walk_at "st")
  | with_reducible exact st_go (by with_reducible assumption) (by walk_at "st")
  | with_reducible exact st_ne (by walk_at "ns") (by walk_at "st")
  | fail "st")
local macro_rules | `(tactic| walk_at "ns") => `(tactic| first
  | with_reducible assumption
  | with_reducible exact Ne.symm (by with_reducible assumption)
  | with_reducible exact Ne.symm (ne_st (by with_reducible assumption) (by walk_at "st"))
  | fail "ns")
local macro_rules | `(tactic| walk_at "fr") => `(tactic| first
  | with_reducible assumption
  | with_reducible exact Same.refl _
  | with_reducible exact Go.refl _ _
  | with_reducible exact Kp.refl _ _
  | with_reducible exact LamX.ExtN.refl _
  | with_reducible exact nw_refl
  | (walk_at "fr1"; walk_at "fr")
  | fail "fr")
local macro_rules | `(tactic| walk_at "fr1") => `(tactic| first
  | ((with_reducible refine' fr_new ?a1 ?a2); (case a1 => with_reducible assumption); (case' a2 => skip))
  | ((with_reducible refine' go_new ?a1 ?a2); (case a1 => with_reducible assumption); (case' a2 => skip))
  | ((with_reducible refine' kp_new ?a1 ?a2); (case a1 => with_reducible assumption); (case' a2 => skip))
  | ((with_reducible refine' fr_same ?a1 ?a2); (case a1 => with_reducible assumption); (case' a2 => skip))
  | ((with_reducible refine' go_same ?a1 ?a2); (case a1 => with_reducible assumption); (case' a2 => skip))
  | ((with_reducible refine' kp_same ?a1 ?a2); (case a1 => with_reducible assumption); (case' a2 => skip))
  | ((with_reducible refine' go_go ?a1 ?a2); (case a1 => with_reducible assumption); (case' a2 => skip))
  | ((with_reducible refine' go_kp ?a1 ?a2 ?a3 ?a4); (case a1 => with_reducible assumption); (case a2 => with_reducible assumption); (case a3 => walk_at "st"); (case' a4 => skip))
  | ((with_reducible refine' kp_kp ?a1 ?a2); (case a1 => with_reducible assumption); (case' a2 => skip))
  | ((with_reducible refine' kp_upd ?a1); (case' a1 => skip))
  | ((with_reducible refine' go_set2 ?a1 ?a2 ?a3 ?a4); (case a1 => walk_at "lk"); (case a2 => with_reducible assumption); (case a3 => walk_at "fr"); (case' a4 => skip))
  | ((with_reducible refine' fr_set2 ?a1 ?a2 ?a3); (case a1 => with_reducible assumption); (case a2 => walk_at "fr"); (case' a3 => skip))
  | ((with_reducible refine' en_new ?a1 ?a2); (case a1 => with_reducible assumption); (case' a2 => skip))
  | ((with_reducible refine' en_same ?a1 ?a2); (case a1 => with_reducible assumption); (case' a2 => skip))
  | ((with_reducible refine' en_go ?a1 ?a2); (case a1 => with_reducible assumption); (case' a2 => skip))
  | ((with_reducible refine' en_set2 ?a1 ?a2 ?a3); (case a1 => with_reducible assumption); (case a2 => walk_at "fr"); (case' a3 => skip))
  | ((with_reducible refine' en_kp ?a1 ?a2 ?a3 ?a4); (case a1 => with_reducible assumption); (case a2 => with_reducible assumption); (case a3 => walk_at "fr"); (case' a4 => skip))
  | ((with_reducible refine' nw_new ?a1 ?a2); (case a1 => with_reducible assumption); (case' a2 => skip))
  | ((with_reducible refine' nw_same ?a1 ?a2); (case a1 => with_reducible assumption); (case' a2 => skip))
  | ((with_reducible refine' nw_go ?a1 ?a2); (case a1 => with_reducible assumption); (case' a2 => skip))
  | ((with_reducible refine' nw_kp ?a1 ?a2 ?a3); (case a1 => with_reducible assumption); (case a2 => walk_at "st"); (case' a3 => skip))
  | ((with_reducible refine' nw_set ?a1 ?a2); (case a1 => walk_at "lk"); (case' a2 => skip))
  | ((with_reducible refine' nw_set2 ?a1 ?a2 ?a3); (case a1 => with_reducible assumption); (case a2 => walk_at "fr"); (case' a3 => skip))
  | fail "fr1")
local macro_rules | `(tactic| walk_at "tb") => `(tactic| first
  | with_reducible assumption
  | (walk_at "tb1"; walk_at "tb")
  | fail "tb")
local macro_rules | `(tactic| walk_at "tb1") => `(tactic| first
  | ((with_reducible refine' tabs_new ?a1 ?a2); (case a1 => with_reducible assumption); (case' a2 => skip))
  | ((with_reducible refine' tabs_same ?a1 ?a2); (case a1 => with_reducible assumption); (case' a2 => skip))
  | ((with_reducible refine' tabs_go ?a1 ?a2); (case a1 => with_reducible assumption); (case' a2 => skip))
  | ((with_reducible refine' tabs_kp ?a1 ?a2 ?a3); (case a1 => with_reducible assumption); (case a2 => walk_at "st"); (case' a3 => skip))
  | ((with_reducible refine' tabs_set ?a1 ?a2); (case a1 => walk_at "lk"); (case' a2 => skip))
  | fail "tb1")
local macro_rules | `(tactic| walk_at "dg") => `(tactic| first
  | assumption
  | (refine' dp_ext ?a1 ?a2; (case a1 => assumption); (case a2 => walk_at "fr"))
  | (refine' dn_use ?a1 ?a2; (case a1 => assumption); (case a2 => walk_at "fr"))
  | fail "dg")
local macro_rules | `(tactic| walk_at "dp") => `(tactic| first
  | assumption
  | exact .str _
  | exact .int _
  | exact .bl _
  | exact .non
  | (refine' Dp.lst (SqL.of ?a1) ?a2; (case a1 => walk_at "lk"); (case a2 => walk_at "dpa"))
  | (refine' Dp.tup (SqT.of ?a1) ?a2; (case a1 => walk_at "lk"); (case a2 => walk_at "dpa"))
  | (walk_at "dg")
  | fail "dp")
local macro_rules | `(tactic| walk_at "dpa") => `(tactic| first
  | assumption
  | exact .nil
  | (refine' DpAll.cons ?a1 ?a2; (case a1 => walk_at "dp"); (case a2 => walk_at "dpa"))
  | fail "dpa")
local macro_rules | `(tactic| walk_at "dx") => `(tactic| first
  | assumption
  | exact .str _
  | exact .int _
  | exact .bl _
  | exact .non
  | (refine' Dx.lst (SqL.of ?a1) ?a2; (case a1 => walk_at "lk"); (case a2 => walk_at "dxa"))
  | (refine' Dx.tup (SqT.of ?a1) ?a2; (case a1 => walk_at "lk"); (case a2 => walk_at "dxa"))
  | (refine' Dx.dct (.inl ?a1) ?a2; (case a1 => walk_at "lk"); (case a2 => exact .nil))
  | (refine' dx_ext ?a1 ?a2; (case a1 => assumption); (case a2 => walk_at "fr"))
  | fail "dx")
local macro_rules | `(tactic| walk_at "dxa") => `(tactic| first
  | assumption
  | exact .nil
  | (refine' DxAll.cons ?a1 ?a2; (case a1 => walk_at "dx"); (case a2 => walk_at "dxa"))
  | fail "dxa")
local macro_rules | `(tactic| walk_at "ty") => `(tactic| first
  | assumption
  | (refine' ty_ext ?a1 ?a2; (case a1 => assumption); (case a2 => walk_at "fr"))
  | fail "ty")
local macro_rules | `(tactic| walk_at "shp") => `(tactic| first
  | assumption
  | (simp only [SeqAt.shaped, lay_l, lay_t, lay_i, lay_b, lay_n, lay_c, lay_e, PyData.depth, PyData.depthAll, Bool.and_true, Bool.true_and, Bool.and_eq_true, decide_eq_true_eq]
     repeat' (first | assumption | (refine And.intro ?_ ?_) | (exact rfl) | (decide +kernel) | omega))
  | decide +kernel)
local macro_rules | `(tactic| walk_at "side") => `(tactic| first
  | assumption
  | (intros; trivial)
  | omega
  | (walk_at "lk")
  | (walk_at "st")
  | (walk_at "sz")
  | (walk_at "tb")
  | (walk_at "fr"))
local macro_rules | `(tactic| walk_at "cl") => `(tactic| ((repeat' (apply Exists.intro)); refine And.intro rfl ?_; repeat (refine And.intro (by walk_at "side") ?_)))
local macro_rules | `(tactic| walk_at "eqd") => `(tactic| (refine ⟨_, _, by walk_at "dp", by walk_at "dp", by walk_at "shp", by walk_at "shp", ?_⟩; rw [eqv_same (by walk_at "shp")]))
local macro_rules | `(tactic| walk_at "new") => `(tactic| refine fun (p : Addr) (hp : (_ : Hp) p = none) => ?_)
local macro_rules | `(tactic| walk_at "rdn") => `(tactic| (repeat' (first | walk_at "rd" | walk_at "new")))

theorem ok__law_right (T : Tx P w K mg base) {cL PL : Addr} {Tb : List (Addr × Str)} (hm : (PL, ("_law_right.<locals>.<lambda>" : Str)) ∈ Tb) (hu : ∀ p ∈ Tb, p.1 = PL → p.2 = ("_law_right.<locals>.<lambda>" : Str)) (F : FunC K "_law_right" s__law_right T.d__law_right.f T.d__law_right.fd cL) (TB : LamX.TabB base mg cL PL) (G__law_read : FnOk P w K mg base CX0 3 T.d__law_read.f T.d__law_read.fd ["raw_so", "edge", "tables"] sp__law_read) (G__law_collected : FnOk P w K mg base CX0 8 T.d__law_collected.f T.d__law_collected.fd ["raw_so", "edge"] sp__law_collected) (G_first_wrong_raw : FnOk P w K mg base CX0 8 T.d_first_wrong_raw.f T.d_first_wrong_raw.fd ["raw", "mark"] sp_first_wrong_raw) (G_unescaped : FnOk P w K mg base (L2.CX P w) 8 T.d_unescaped.f T.d_unescaped.fd ["raw", "mark"] (sp_unescaped T.a_IllFormed)) (G__law_taken_right : FnOk P w K mg base CX0 9 T.d__law_taken_right.f T.d__law_taken_right.fd ["raw_so", "edge", "tables"] sp__law_taken_right) :
    FnG P w K mg base CX0 13 T.d__law_right.f T.d__law_right.fd ["raw_so", "edge", "tables"] (sp__law_right K Tb) := by
  have sc := sc__law_right
  obtain ⟨oc, od, kV, doc, pm, an, cdT, ct, osl, fdT, lkT, cdT'⟩ := T.d__law_told.F.ex
  have bT := T.d__law_told.b
  have cdT := cdT'
  rw [fdT] at lkT bT
  refine okGC F sc (fun vs H Q E h => ?_) (fun A outer s H vs Q E hr h => ?_)
  · obtain ⟨z, mk, a, rfl, hz, hmk, ht, tb, q⟩ := h
    rfl
  · obtain ⟨z, mk, a, rfl, hz, hmk, ht, tb, q⟩ := h
    refine ⟨_, (pss_cons (ps_set (i := 3) sc.nd rfl (Or.inl rfl) (pe_call G__law_read (hr.r.mono (by decide)) rfl T.d__law_read.m T.d__law_read.F.kp T.d__law_read.b .nil pass0 (pa_cons (pv 0) (pa_cons (pv 1) (pa_cons (pv 2) pa_nil)))))
      (pss_cons (ps_if (PW.pt (pw_or (pt_cmpR (op_neD hr.r.units) (pe_call G__law_collected (hr.r.mono (by decide)) rfl T.d__law_collected.m T.d__law_collected.F.kp T.d__law_collected.b .nil pass0 (pa_cons (pv 0) (pa_cons (pv 1) pa_nil))) (pv 3) (nomark _)) (pw_or1 (pt_cmpR op_ne (pe_call G_first_wrong_raw (hr.r.mono (by decide)) rfl T.d_first_wrong_raw.m T.d_first_wrong_raw.F.kp T.d_first_wrong_raw.b .nil pass0 (pa_cons (pv 0) (pa_cons (pv 1) pa_nil))) (pe_ix ix_tup (pv 3) pe_int (fun _ _ => rfl)) (nomark _))))) (pss_one (ps_ret pe_bl)) pss_nil)
      (pss_cons (ps_set (i := 4) sc.nd rfl (Or.inl rfl) (pe_join pe_str (pe_lc (own := [("begin", 5), ("end", 6), ("meant", 7)]) (g := (gTup K 3 (gCons (gName 5) (gCons (gName 6) (gCons (gName 7) gNil))))) (tt := tYes) rfl sc.nd (pi_list (pe_ix ix_tup (pv 3) pe_int (fun _ _ => rfl))) (blkOk_by (own := [("begin", 5), ("end", 6), ("meant", 7)]) (N := ["raw_so", "edge", "tables", "due", "whole", "begin", "end", "meant"]) (sc := defScope s__law_right) (by decide +kernel)) (fun _ _ _ _ _ => pg_tup (by rfl) (pgs_cons (pg_name (i := 5) sc.nd rfl (Or.inl rfl)) (pgs_cons (pg_name (i := 6) sc.nd rfl (Or.inl rfl)) (pgs_cons (pg_name (i := 7) sc.nd rfl (Or.inl rfl)) pgs_nil)))) (fun _ _ _ _ _ => pts_nil) (fun _ _ _ _ _ => pv 7))))
      (pss_cons (ps_if (pt_cmpR (op_neD hr.r.units) ((LamX.pe_lamcall (T := Tb) (k := 8) (c := cL) (P := PL) rfl T.d__law_told.m T.d__law_told.F.kp lkT cdT bT sc__law_told rfl (Or.inl rfl) (told_gives (X := _) T _ _ _) TB rfl hm hu (hr.r.mono (by decide)) (LamX.lamS_by (sc := defScope s__law_right) (by decide +kernel)) rfl (fun _ _ _ _ _ => rfl) (fun A outer s H E f c' hr2 => pe_call G_unescaped (hr2.mono (by decide)) rfl T.d_unescaped.m T.d_unescaped.F.kp T.d_unescaped.b .nil (passes_call (takes_of rfl rfl rfl rfl) fun _ _ _ _ z => z) (pa_cons (pv 0) (pa_cons (pv 1) pa_nil))))) (pe_ifExp (pt_cmpR op_isN (pe_ix ix_tup (pv 3) pe_int (fun _ _ => rfl)) pe_non (nomark _)) (pe_lst (pa_cons (pv 4) pa_nil)) (pe_tup (pa_cons pe_str (pa_cons (pe_ix ix_tup (pv 3) pe_int (fun _ _ => rfl)) pa_nil)))) (nomark _)) (pss_one (ps_ret pe_bl)) pss_nil)
      (pss_one (ps_ret (pe_call G__law_taken_right (hr.r.mono (by decide)) rfl T.d__law_taken_right.m T.d__law_taken_right.F.kp T.d__law_taken_right.b .nil pass0 (pa_cons (pv 0) (pa_cons (pv 1) (pa_cons (pv 2) pa_nil)))))))))), ?_⟩
    have zl : z.length = (tl z).length := len_tl z
    have z9 := hz.2
    obtain ⟨us, r, hun⟩ : ∃ us r, uns (tl z) (tl mk) 0 0 = (us, r) := ⟨_, _, rfl⟩
    have hall := uns_all (l := tl z) (m := tl mk) hz.1 0 0
    rw [hun] at hall
    obtain ⟨hal, hul⟩ := hall
    dsimp only at hal hul
    have shd := shaped_due (fun u h => (hal u h).1) r
    walk_at "rds"
    refine ⟨z, mk, a, us, r, rfl, hz.w4, hmk, ht, hun, fun H1 D p ws s1 hd htr hp => ?_⟩
    walk_at "rds"
    refine ⟨z, mk, us, r, rfl, hz.w4, hmk, hun, fun H2 D2 p2 ws2 s2 hd2 htr2 hp2 => ?_⟩
    have hd := s2 _ _ hd
    have htr := htr.same s2
    have hp := s2 _ _ hp
    have s2 := s1.trans s2
    clear s1
    walk_at "rds"
    refine ⟨dueD us r, dueD us r, dp_due hd2 htr2 hp2, dp_due hd htr hp, shd, shd, ?_⟩
    rw [eqv_same shd]
    refine ⟨_, rfl, itF rfl ?_⟩
    clear hd2 htr2 hp2 shd
    walk_at "rds"
    refine ⟨z, mk, us, r, rfl, hz.w4, hmk, hun, fun H3 s3 => ?_⟩
    have hd := s3 _ _ hd
    have htr := htr.same s3
    have hp := s3 _ _ hp
    have s3 := s2.trans s3
    clear s2
    walk_at "rds"
    refine ⟨_, _, _, _, rfl, rfl, SqT.of hp, rfl, ?_⟩
    refine ne_opt r ?_
    walk_at "rds"
    refine ⟨_, _, _, _, rfl, rfl, SqT.of hp, rfl, ?_⟩
    refine ⟨D, rfl, ⟨_, SqL.of hd⟩, ?_⟩
    intro D2 hD2
    have hwl := htr.length
    refine lc_flt (g := gTup K 3 (gCons (gName 5) (gCons (gName 6) (gCons (gName 7) gNil)))) (walk_list (xs := ws)) (fun _ => true) (fun k => .str ⟨#[(us.getD k (0, 0, 0)).2.2]⟩) hD2 (by omega) (fun H1 sm => SqL.of (sm _ _ hd)) (fun i H1 x H2 y => y.1 ▸ Same.refl _) ?_ ?_
    · rintro k y H7 H8 Nx Mo hk sm ⟨rfl, hx⟩ k1 k2
      obtain ⟨t, u, rfl, hu2, ht4⟩ := htr.at k y hx
      have huk : us.getD k (0, 0, 0) = u := by rw [List.getD_eq_getElem?_getD, hu2]; rfl
      rw [huk] at k1
      have h4 : H8 t = some (.tup [.int (u.1 : Int), .int (u.2.1 : Int), .str ⟨#[u.2.2]⟩]) := sm _ _ ht4
      refine ⟨_, _, rfl, SqT.of h4, rfl, _, _, rfl, _, _, rfl, _, _, rfl, rfl, ?_⟩
      refine ⟨rfl, ?_⟩
      walk_at "rds"
      exact k1 rfl _ (Same.refl _)
    intro H4 sm4 hl4
    rw [hwl, picked_mns] at hl4
    have hml : (mns us).length = us.length := List.length_map _
    have hp := sm4 _ _ hp
    have s4 := s3.trans sm4
    refine ⟨"", D2, ones (mns us), rfl, rfl, .inl (SqL.of hl4), ones_ok (n := (tl z).length) (by omega) (by omega), ?_⟩
    rw [ones_join]
    have g4 : Go Tb H H4 := Go.same s4
    have tb4 : LamX.Tabs Tb H4 := g4.2 tb
    clear hl4 hD2 hd htr s3
    walk_at "rds"
    intro H5 en5 tb5
    have g5 : Go Tb H4 H5 := ⟨en5, fun _ => tb5⟩
    have g5 := g4.trans g5
    have hp5 := lk_go (Tb := Tb) ⟨en5, fun _ => tb5⟩ (fun _ z => by cases z) hp
    clear g4 tb4 s4 hp en5
    intro p0 hp0
    walk_at "rds"
    have hpA : upd H5 p0 (.lst []) p = some (.tup [.ref D, optV r]) := lk_new hp0 hp5
    have gA : Go Tb H (upd H5 p0 (.lst [])) := go_new hp0 g5
    generalize upd H5 p0 (.lst []) = HA at *
    clear hp0 hp5 g5 tb5
    refine ⟨z, mk, us, r, rfl, hz.w4, hmk, hun, fun hr H6 s6 => ?_, fun k hr H6 d s6 hd6 => ?_⟩
    · subst hr
      have hp6 := s6 _ _ hpA
      have g6 : Go Tb H H6 := gA.trans (Go.same s6)
      clear hpA gA s6
      intro p1 hp1
      walk_at "rds"
      refine ⟨_, _, _, _, rfl, rfl, SqT.of (lk_new hp1 hp6), rfl, ?_⟩
      walk_at "rds"
      intro p2 hp2
      have shs : SeqAt.shaped (.list [.str (toS (mns us))]) = true := shaped_strs (l := [toS (mns us)]) (fun y hy c hc => by
        rw [List.mem_singleton.mp hy] at hc
        have hc : c ∈ tl (toS (mns us)) := hc
        rw [tl_toS] at hc
        obtain ⟨u, hu1, rfl⟩ := List.mem_map.mp hc
        exact Nat.lt_trans (hal u hu1).1 (by decide))
      refine ⟨_, _, .lst (SqL.of (lk_new hp2 upd_same)) (.cons (.str _) .nil), .lst (SqL.of upd_same) (.cons (.str _) .nil), shs, shs, ?_⟩
      rw [eqv_same shs]
      refine ⟨_, rfl, itF rfl ?_⟩
      have g7 : Go Tb H (upd (upd H6 p1 (.lst [.str (toS (mns us))])) p2 (.lst [.str (toS (mns us))])) := go_new hp2 (go_new hp1 g6)
      walk_at "rds"
      refine ⟨z, mk, a, rfl, hz, hmk, ht.go g7, fun H8 s8 => ?_⟩
      walk_at "rds"
      exact q _ (g7.trans (Go.same s8))
    · subst hr
      have hp6 := s6 _ _ hpA
      have g6 : Go Tb H H6 := gA.trans (Go.same s6)
      clear hpA gA s6
      refine told_ill T upd_same (fun ax px hax hpx => ?_)
      have hpB := lk_new (o := .tup [.str "ill", .int (k : Int)]) hpx (lk_new (o := xoO ax (.ref T.a_IllFormed) (some d)) hax (lk_new (o := .xd [("position", .int (k : Int))]) hd6 hp6))
      have gB : Go Tb H (upd (upd (upd H6 d (.xd [("position", .int (k : Int))])) ax (xoO ax (.ref T.a_IllFormed) (some d))) px (.tup [.str "ill", .int (k : Int)])) := go_new hpx (go_new hax (go_new hd6 g6))
      have fB : upd (upd (upd H6 d (.xd [("position", .int (k : Int))])) ax (xoO ax (.ref T.a_IllFormed) (some d))) px (.tup [.str "ill", .int (k : Int)]) px = some (.tup [.str "ill", .int (k : Int)]) := upd_same
      generalize upd (upd (upd H6 d (.xd [("position", .int (k : Int))])) ax (xoO ax (.ref T.a_IllFormed) (some d))) px (.tup [.str "ill", .int (k : Int)]) = HB at *
      clear hpx hax hd6 hp6 g6
      walk_at "rds"
      refine ⟨_, _, _, _, rfl, rfl, SqT.of hpB, rfl, ?_⟩
      walk_at "rds"
      refine ⟨_, _, _, _, rfl, rfl, SqT.of hpB, rfl, ?_⟩
      walk_at "rds"
      intro p2 hp2
      have shi : SeqAt.shaped (.tuple [.str "ill", .int (k : Int)]) = true := by first | walk_at "shp" | decide | exact (by decide +revert)
      refine ⟨_, _, .tup (SqT.of (lk_new hp2 fB)) (.cons (.str _) (.cons (.int _) .nil)), .tup (SqT.of upd_same) (.cons (.str _) (.cons (.int _) .nil)), shi, shi, ?_⟩
      rw [eqv_same shi]
      refine ⟨_, rfl, itF rfl ?_⟩
      have g7 : Go Tb H (upd HB p2 (.tup [.str "ill", .int (k : Int)])) := go_new hp2 gB
      walk_at "rds"
      refine ⟨z, mk, a, rfl, hz, hmk, ht.go g7, fun H8 s8 => ?_⟩
      walk_at "rds"
      exact q _ (g7.trans (Go.same s8))

end
end K7

set_option maxHeartbeats 1000000
set_option pp.maxSteps 700
set_option pp.deepTerms false
set_option pp.deepTerms.threshold 14
namespace K7
open PySem PySem.Spec PyProof.Rows L2 Mx
open TL Num
def OddD (K : PySem.W.Frag) (H : Hp) (v : L2.V) : Prop := ∃ dv, Dx K H v dv ∧ (PyData.tuple [.str "kind", dv]).showable = true ∧ (PyData.tuple [.str "kind", dv]).depth ≤ 60 ∧ (PyData.tuple [.str "kind", dv]).shown.length ≤ sizeLine
theorem nostr_ext {K : PySem.W.Frag} {H H' : Hp} {v : V} (h : NoStr K H v) (g : LamX.ExtN H H') : NoStr K H' v := let ⟨t, a, b⟩ := h; ⟨t, ty_ext a g, b⟩
theorem BadMark.ext {K : PySem.W.Frag} {H H' : Hp} {v : V} (h : BadMark K H v) (g : LamX.ExtN H H') : BadMark K H' v := h.imp (fun h => nostr_ext h g) id
theorem OddD.ext {K : PySem.W.Frag} {H H' : Hp} {v : V} (h : OddD K H v) (g : LamX.ExtN H H') : OddD K H' v := let ⟨d, a, b⟩ := h; ⟨d, Dx.ext g a, b⟩
def sp__law_refused_right (K : PySem.W.Frag) (Tb : List (Addr × Str)) : Sp := fun vs H Q _ => ∃ (z : Str) (v : L2.V), vs = [.str z, v] ∧ W4 z ∧ BadMark K H v ∧ OddD K H v ∧ LamX.Tabs Tb H ∧ ∀ H', Go Tb H H' → Q (.bl true) H'

local macro_rules | `(tactic| walk_at "sz") => `(tactic| first | assumption | decide | omega | (unfold sizeLine; omega) | exact Nat.le_of_ble_eq_true rfl)
local macro_rules | `(tactic| walk_at "hp") => `(tactic| (first | assumption | exact upd_same | (rw [upd_ne (by assumption)]; assumption)))
local macro_rules | `(tactic| walk_at "rd") => `(tactic| (first
  | refine ⟨_, rfl, ?_⟩
  | (refine ⟨_, _, rfl, rfl, ?rdc, ?_⟩; (case rdc => first | (show (0 : Int) < _; omega) | (exact ⟨by omega, by omega⟩) | (exact .inl ⟨by omega, by omega⟩) | (exact .inr ⟨by omega, by omega⟩) | exact ⟨by decide, by decide, by decide⟩))
  | refine ⟨_, _, rfl, rfl, ?_⟩
  | refine .inl ⟨_, rfl, ?_⟩
  | refine ⟨rfl, ?_⟩
  | refine ⟨⟨_, rfl⟩, ?_⟩
  | refine ⟨⟨_, SqL.of (by walk_at "hp")⟩, ?_⟩
  | refine ⟨_, _, _, _, rfl, rfl, SqL.of (by walk_at "hp"), (by rfl), ?_⟩
  | refine ⟨_, _, _, _, rfl, rfl, (by walk_at "hp"), (by rfl), ?_⟩
  | refine ⟨_, _, rfl, ⟨by walk_at "sz", rfl⟩, ?_⟩
  | refine ⟨_, _, _, rfl, rfl, by walk_at "sz", by assumption, ?_⟩
  | refine And.intro (by walk_at "sz") ?_
  | refine itT rfl ?_
  | refine itF rfl ?_
  | refine itT (by assumption) ?_
  | refine itF (by assumption) ?_
  | refine itT (decide_eq_true (by omega)) ?_
  | refine itF (decide_eq_false (by omega)) ?_
  | refine itT (dVi (by omega)) ?_
  | refine itF (dViN (by omega)) ?_
  | refine itT (notT (by assumption)) ?_
  | refine itF (notF (by assumption)) ?_
  | refine itT (notT (dViN (by omega))) ?_
  | refine itF (notF (dVi (by omega))) ?_
  | refine itT (decide_eq_true rfl) ?_
  | refine itF (notF (decide_eq_true rfl)) ?_
  | refine ite2 (fun _ => ?_) (fun _ => ?_)
  | with_reducible refine tC_ ?_
  | with_reducible refine tNext_ ?_
  | with_reducible refine tNil_ ?_
  | with_reducible refine tYes_ ?_))
local macro_rules | `(tactic| walk_at "rds") => `(tactic| repeat' (walk_at "rd"))
section
variable {P : Program} {w : World} {K : PySem.W.Frag} {mg : Str → Option Value} {base : Heap}

local macro_rules | `(tactic| walk_at "lk") => `(tactic| first
  | with_reducible assumption
  | with_reducible exact upd_same
  | (walk_at "lk1"; walk_at "lk")
  | fail "lk")
local macro_rules | `(tactic| walk_at "lk1") => `(tactic| first
  | ((with_reducible refine' lk_new ?a1 ?a2); (case a1 => with_reducible assumption); (case' a2 => skip))
  | ((with_reducible refine' lk_ne ?a1 ?a2); (case a1 => with_reducible assumption); (case' a2 => skip))
  | ((with_reducible refine' lk_neN ?a1 ?a2 ?a3); (case a1 => with_reducible assumption); (case a2 => walk_at "lk"); (case' a3 => skip))
  | ((with_reducible refine' lk_neN' ?a1 ?a2 ?a3); (case a1 => with_reducible assumption); (case a2 => walk_at "lk"); (case' a3 => skip))
  | ((with_reducible refine' lk_same ?a1 ?a2); (case a1 => with_reducible assumption); (case' a2 => skip))
  | ((with_reducible refine' lk_go ?a1 ?a2 ?a3); (case a1 => with_reducible assumption); (case a2 => walk_at "nt"); (case' a3 => skip))
  | ((with_reducible refine' lk_kp_nl ?a1 ?a2 ?a3 ?a4); (case a1 => with_reducible assumption); (case a2 => walk_at "st"); (case a3 => walk_at "nl"); (case' a4 => skip))
  | ((with_reducible refine' lk_kp ?a1 ?a2 ?a3); (case a1 => with_reducible assumption); (case a2 => walk_at "ne"); (case' a3 => skip))
  | fail "lk1")
local macro_rules | `(tactic| walk_at "nt") => `(tactic| first
  | (intro _ z; cases z)
  | fail "nt")
local macro_rules | `(tactic| walk_at "nl") => `(tactic| first
  | (intro _ z; cases z)
  | fail "nl")
local macro_rules | `(tactic| walk_at "ne") => `(tactic| first
  | with_reducible assumption
  | ((with_reducible refine' ne_st ?a1 ?a2); (case a1 => with_reducible assumption); (case a2 => walk_at "st"))
  | fail "ne")
local macro_rules | `(tactic| walk_at "st") => `(tactic| first
  | with_reducible assumption
  | with_reducible exact st_new (by with_reducible assumption) (by walk_at "st")
  | with_reducible exact st_same (by with_reducible assumption) (by walk_at "st")
  | with_reducible exact st_go (by with_reducible assumption) (by walk_at "st")
  | with_reducible exact st_ne (by walk_at "ns") (by walk_at "st")
  | fail "st")
local macro_rules | `(tactic| walk_at "ns") => `(tactic| first
  | with_reducible assumption
  | with_reducible exact Ne.symm (by with_reducible assumption)
  | with_reducible exact Ne.symm (ne_st (by with_reducible assumption) (by walk_at "st"))
  | fail "ns")
local macro_rules | `(tactic| walk_at "fr") => `(tactic| first
  | with_reducible assumption
  | with_reducible exact Same.refl _
  | with_reducible exact Go.refl _ _
  | with_reducible exact Kp.refl _ _
  | with_reducible exact LamX.ExtN.refl _
  | with_reducible exact nw_refl
  | (walk_at "fr1"; walk_at "fr")
  | fail "fr")
local macro_rules | `(tactic| walk_at "fr1") => `(tactic| first
  | ((with_reducible refine' fr_new ?a1 ?a2); (case a1 => with_reducible assumption); (case' a2 => skip))
  | ((with_reducible refine' go_new ?a1 ?a2); (case a1 => with_reducible assumption); (case' a2 => skip))
  | ((with_reducible refine' kp_new ?a1 ?a2); (case a1 => with_reducible assumption); (case' a2 => skip))
  | ((with_reducible refine' fr_same ?a1 ?a2); (case a1 => with_reducible assumption); (case' a2 => skip))
  | ((with_reducible refine' go_same ?a1 ?a2); (case a1 => with_reducible assumption); (case' a2 => skip))
  | ((with_reducible refine' kp_same ?a1 ?a2); (case a1 => with_reducible assumption); (case' a2 => skip))
  | ((with_reducible refine' go_go ?a1 ?a2); (case a1 => with_reducible assumption); (case' a2 => skip))
  | ((with_reducible refine' go_kp ?a1 ?a2 ?a3 ?a4); (case a1 => with_reducible assumption); (case a2 => with_reducible assumption); (case a3 => walk_at "st"); (case' a4 => skip))
  | ((with_reducible refine' kp_kp ?a1 ?a2); (case a1 => with_reducible assumption); (case' a2 => skip))
  | ((with_reducible refine' kp_upd ?a1); (case' a1 => skip))
  | ((with_reducible refine' go_set2 ?a1 ?a2 ?a3 ?a4); (case a1 => walk_at "lk"); (case a2 => with_reducible assumption); (case a3 => walk_at "fr"); (case' a4 => skip))
  | ((with_reducible refine' fr_set2 ?a1 ?a2 ?a3); (case a1 => with_reducible assumption); (case a2 => walk_at "fr"); (case' a3 => skip))
  | ((with_reducible refine' en_new ?a1 ?a2); (case a1 => with_reducible assumption); (case' a2 => skip))
  | ((with_reducible refine' en_same ?a1 ?a2); (case a1 => with_reducible assumption); (case' a2 => skip))
  | ((with_reducible refine' en_go ?a1 ?a2); (case a1 => with_reducible assumption); (case' a2 => skip))
  | ((with_reducible refine' en_set2 ?a1 ?a2 ?a3); (case a1 => with_reducible assumption); (case a2 => walk_at "fr"); (case' a3 => skip))
  | ((with_reducible refine' en_kp ?a1 ?a2 ?a3 ?a4); (case a1 => with_reducible assumption); (case a2 => with_reducible assumption); (case a3 => walk_at "fr"); (case' a4 => skip))
  | ((with_reducible refine' nw_new ?a1 ?a2); (case a1 => with_reducible assumption); (case' a2 => skip))
  | ((with_reducible refine' nw_same ?a1 ?a2); (case a1 => with_reducible assumption); (case' a2 => skip))
  | ((with_reducible refine' nw_go ?a1 ?a2); (case a1 => with_reducible assumption); (case' a2 => skip))
  | ((with_reducible refine' nw_kp ?a1 ?a2 ?a3); (case a1 => with_reducible assumption); (case a2 => walk_at "st"); (case' a3 => skip))
  | ((with_reducible refine' nw_set ?a1 ?a2); (case a1 => walk_at "lk"); (case' a2 => skip))
  | ((with_reducible refine' nw_set2 ?a1 ?a2 ?a3); (case a1 => with_reducible assumption); (case a2 => walk_at "fr"); (case' a3 => skip))
  | fail "fr1")
local macro_rules | `(tactic| walk_at "tb") => `(tactic| first
  | with_reducible assumption
  | (walk_at "tb1"; walk_at "tb")
  | fail "tb")
local macro_rules | `(tactic| walk_at "tb1") => `(tactic| first
  | ((with_reducible refine' tabs_new ?a1 ?a2); (case a1 => with_reducible assumption); (case' a2 => skip))
  | ((with_reducible refine' tabs_same ?a1 ?a2); (case a1 => with_reducible assumption); (case' a2 => skip))
  | ((with_reducible refine' tabs_go ?a1 ?a2); (case a1 => with_reducible assumption); (case' a2 => skip))
  | ((with_reducible refine' tabs_kp ?a1 ?a2 ?a3); (case a1 => with_reducible assumption); (case a2 => walk_at "st"); (case' a3 => skip))
  | ((with_reducible refine' tabs_set ?a1 ?a2); (case a1 => walk_at "lk"); (case' a2 => skip))
  | fail "tb1")
local macro_rules | `(tactic| walk_at "dg") => `(tactic| first
  | assumption
  | (refine' dp_ext ?a1 ?a2; (case a1 => assumption); (case a2 => walk_at "fr"))
  | (refine' dn_use ?a1 ?a2; (case a1 => assumption); (case a2 => walk_at "fr"))
  | fail "dg")
local macro_rules | `(tactic| walk_at "dp") => `(tactic| first
  | assumption
  | exact .str _
  | exact .int _
  | exact .bl _
  | exact .non
  | (refine' Dp.lst (SqL.of ?a1) ?a2; (case a1 => walk_at "lk"); (case a2 => walk_at "dpa"))
  | (refine' Dp.tup (SqT.of ?a1) ?a2; (case a1 => walk_at "lk"); (case a2 => walk_at "dpa"))
  | (walk_at "dg")
  | fail "dp")
local macro_rules | `(tactic| walk_at "dpa") => `(tactic| first
  | assumption
  | exact .nil
  | (refine' DpAll.cons ?a1 ?a2; (case a1 => walk_at "dp"); (case a2 => walk_at "dpa"))
  | fail "dpa")
local macro_rules | `(tactic| walk_at "dx") => `(tactic| first
  | assumption
  | exact .str _
  | exact .int _
  | exact .bl _
  | exact .non
  | (refine' Dx.lst (SqL.of ?a1) ?a2; (case a1 => walk_at "lk"); (case a2 => walk_at "dxa"))
  | (refine' Dx.tup (SqT.of ?a1) ?a2; (case a1 => walk_at "lk"); (case a2 => walk_at "dxa"))
  | (refine' Dx.dct (.inl ?a1) ?a2; (case a1 => walk_at "lk"); (case a2 => exact .nil))
  | (refine' dx_ext ?a1 ?a2; (case a1 => assumption); (case a2 => walk_at "fr"))
  | fail "dx")
local macro_rules | `(tactic| walk_at "dxa") => `(tactic| first
  | assumption
  | exact .nil
  | (refine' DxAll.cons ?a1 ?a2; (case a1 => walk_at "dx"); (case a2 => walk_at "dxa"))
  | fail "dxa")
local macro_rules | `(tactic| walk_at "ty") => `(tactic| first
  | assumption
  | (refine' ty_ext ?a1 ?a2; (case a1 => assumption); (case a2 => walk_at "fr"))
  | fail "ty")
local macro_rules | `(tactic| walk_at "shp") => `(tactic| first
  | assumption
  | (simp only [SeqAt.shaped, lay_l, lay_t, lay_i, lay_b, lay_n, lay_c, lay_e, PyData.depth, PyData.depthAll, Bool.and_true, Bool.true_and, Bool.and_eq_true, decide_eq_true_eq]
     repeat' (first | assumption | (refine And.intro ?_ ?_) | (exact rfl) | (decide +kernel) | omega))
  | decide +kernel)
local macro_rules | `(tactic| walk_at "side") => `(tactic| first
  | assumption
  | (intros; trivial)
  | omega
  | (walk_at "lk")
  | (walk_at "st")
  | (walk_at "sz")
  | (walk_at "tb")
  | (walk_at "fr"))
local macro_rules | `(tactic| walk_at "cl") => `(tactic| ((repeat' (apply Exists.intro)); refine And.intro rfl ?_; repeat (refine And.intro (by walk_at "side") ?_)))
local macro_rules | `(tactic| walk_at "eqd") => `(tactic| (refine ⟨_, _, by walk_at "dp", by walk_at "dp", by walk_at "shp", by walk_at "shp", ?_⟩; rw [eqv_same (by walk_at "shp")]))
local macro_rules | `(tactic| walk_at "new") => `(tactic| refine fun (p : Addr) (hp : (_ : Hp) p = none) => ?_)
local macro_rules | `(tactic| walk_at "rdn") => `(tactic| (repeat' (first | walk_at "rd" | walk_at "new")))

theorem ok__law_refused_right (T : Tx P w K mg base) {cL PL : Addr} {Tb : List (Addr × Str)} (hm : (PL, ("_law_refused_right.<locals>.<lambda>" : Str)) ∈ Tb) (hu : ∀ p ∈ Tb, p.1 = PL → p.2 = ("_law_refused_right.<locals>.<lambda>" : Str)) (F : FunC K "_law_refused_right" s__law_refused_right T.d__law_refused_right.f T.d__law_refused_right.fd cL) (TB : LamX.TabB base mg cL PL) (G_Cursor_take_text : FnOk P w K mg base (L2.CX P w) 8 T.f_Cursor_take_text T.fd_Cursor_take_text ["self", "mark"] (sp_Cursor_take_text K T.C_Cursor T.a_InvalidKind)) (G_Cursor_offset : FnOk P w K mg base CX0 1 T.f_Cursor_offset T.fd_Cursor_offset ["self"] (sp_Cursor_offset T.C_Cursor)) (G_Cursor___init__ : FnOk P w K mg base CX0 5 T.f_Cursor___init__ T.fd_Cursor___init__ ["self", "text"] (sp_Cursor___init__ T.C_Cursor)) :
    FnG P w K mg base CX0 13 T.d__law_refused_right.f T.d__law_refused_right.fd ["raw_so", "odd"] (sp__law_refused_right K Tb) := by
  have sc := sc__law_refused_right
  obtain ⟨oc, od, kV, doc, pm, an, cdT, ct, osl, fdT, lkT, cdT'⟩ := T.d__law_told.F.ex
  have bT := T.d__law_told.b
  have cdT := cdT'
  rw [fdT] at lkT bT
  refine okGC F sc (fun vs H Q E h => ?_) (fun A outer s H vs Q E hr h => ?_)
  · obtain ⟨z, v, rfl, hz, hb, ho, tb, q⟩ := h
    rfl
  · obtain ⟨z, v, rfl, hz, hb, ho, tb, q⟩ := h
    refine ⟨_, (pss_cons (ps_set (i := 2) sc.nd rfl (Or.inr rfl) (pe_make T.mk_Cursor G_Cursor___init__ (hr.r.mono (by decide)) rfl T.mg_Cursor T.b_Cursor___init__ .nil pass0 (pa_cons (pv 0) pa_nil)))
      (pss_one (ps_ret ((pe_and (pe_cmpR op_eq (pe_callB (Mx.call_reprT hr) (by rfl) T.n_repr (by decide +kernel) (pa_cons ((LamX.pe_lamcall (T := Tb) (k := 8) (c := cL) (P := PL) rfl T.d__law_told.m T.d__law_told.F.kp lkT cdT bT sc__law_told rfl (Or.inl rfl) (told_gives (X := _) T _ _ _) TB rfl hm hu (hr.r.mono (by decide)) (LamX.lamS_by (sc := defScope s__law_refused_right) (by decide +kernel)) rfl (fun _ _ _ _ _ => rfl) (fun A outer s H E f c' hr2 => pe_meth (pv 2) T.cl_Cursor T.me_Cursor_take_text G_Cursor_take_text (hr2.mono (by decide)) T.b_Cursor_take_text .nil (passes_call (takes_of rfl rfl rfl rfl) fun _ _ _ _ z => z) (pa_cons (pv 1) pa_nil)))) pa_nil)) (pe_callB (Mx.call_reprT hr) (by rfl) T.n_repr (by decide +kernel) (pa_cons (pe_tup (pa_cons pe_str (pa_cons (pv 1) pa_nil))) pa_nil)) (nomark _)) (pe_one (pe_cmpR op_eq (pe_prop (pv 2) T.cl_Cursor T.pr_Cursor_offset G_Cursor_offset (hr.r.mono (by decide)) T.b_Cursor_offset .nil pass0 rfl) pe_int (nomark _)))))))), ?_⟩
    walk_at "rds"
    intro x dx nx ndx nex
    refine ⟨x, dx, z, rfl, hz.2, upd_same, fun H1 kp1 hc1 => ⟨rfl, ?_⟩⟩
    have s1 : Same H H1 := fun b o e => kp1 b o (ne_of_none e nx) (by rw [upd_ne (ne_of_none e nx), upd_ne (ne_of_none e ndx)]; exact e)
    obtain ⟨dx1, t1, f1⟩ := hc1
    have g1 : Go Tb H H1 := Go.same s1
    have tb1 : LamX.Tabs Tb H1 := g1.2 tb
    clear kp1 s1
    walk_at "rds"
    intro H2 en2 tb2
    have g2 : Go Tb H H2 := g1.trans ⟨en2, fun _ => tb2⟩
    have f2 : H2 x = some (.ins T.C_Cursor dx1 [("own_text", .str z), ("begins", .ref t1), ("spot", .int ((0 : Nat) : Int))]) := lk_go (Tb := Tb) ⟨en2, fun _ => tb2⟩ (fun _ z => by cases z) f1
    clear en2 tb2 g1 f1 tb1
    intro p0 hp0
    have gA : Go Tb H (upd H2 p0 (.lst [])) := go_new hp0 g2
    have fA : upd H2 p0 (.lst []) x = some (.ins T.C_Cursor dx1 [("own_text", .str z), ("begins", .ref t1), ("spot", .int ((0 : Nat) : Int))]) := lk_new hp0 f2
    generalize upd H2 p0 (.lst []) = HA at *
    clear hp0 g2 f2
    walk_at "rds"
    refine ⟨x, dx1, _, rfl, fA, rfl, ?_⟩
    walk_at "rds"
    refine ⟨x, z, 0, v, rfl, hz, ⟨dx1, t1, fA⟩, Nat.zero_le _, .inr ⟨hb.ext gA.1, fun H6 d s6 hd6 => ?_⟩⟩
    have g6 : Go Tb H H6 := gA.trans (Go.same s6)
    have f6 := s6 _ _ fA
    clear gA fA s6
    refine told_kind T upd_same (fun ax px hax hpx => ?_)
    have gB : Go Tb H (upd (upd (upd H6 d (.xd [("kind", v)])) ax (xoO ax (.ref T.a_InvalidKind) (some d))) px (.tup [.str "kind", v])) := go_new hpx (go_new hax (go_new hd6 g6))
    have fB := lk_new (o := .tup [.str "kind", v]) hpx (lk_new (o := xoO ax (.ref T.a_InvalidKind) (some d)) hax (lk_new (o := .xd [("kind", v)]) hd6 f6))
    have fp : upd (upd (upd H6 d (.xd [("kind", v)])) ax (xoO ax (.ref T.a_InvalidKind) (some d))) px (.tup [.str "kind", v]) px = some (.tup [.str "kind", v]) := upd_same
    generalize upd (upd (upd H6 d (.xd [("kind", v)])) ax (xoO ax (.ref T.a_InvalidKind) (some d))) px (.tup [.str "kind", v]) = HB at *
    clear hpx hax hd6 g6 f6
    obtain ⟨dv, ho1, ho2, ho3, ho4⟩ := ho
    walk_at "rds"
    refine ⟨px, [.str "kind", dv], rfl, .tup (SqT.of fp) (.cons (.str _) (.cons (Dx.ext gB.1 ho1) .nil)), ho2, ho3, ho4, ?_⟩
    walk_at "rds"
    intro p2 hp2
    have gC : Go Tb H (upd HB p2 (.tup [.str "kind", v])) := go_new hp2 gB
    have fC := lk_new (o := .tup [.str "kind", v]) hp2 fB
    refine ⟨p2, [.str "kind", dv], rfl, .tup (SqT.of upd_same) (.cons (.str _) (.cons (Dx.ext gC.1 ho1) .nil)), ho2, ho3, ho4, ?_⟩
    walk_at "rds"
    refine ⟨x, dx1, _, rfl, fC, ⟨x, z, 0, rfl, ⟨dx1, t1, fC⟩, ?_⟩⟩
    walk_at "rds"
    have e0 : decide (V.int ((0 : Nat) : Int) = V.int 0) = true := rfl
    exact q _ gC

end
end K7

set_option maxHeartbeats 1000000
set_option pp.maxSteps 700
set_option pp.deepTerms false
set_option pp.deepTerms.threshold 14
namespace K7
open PySem PySem.Spec PyProof.Rows L2 Mx
/-! ### the law -/
open TL Num
theorem join_flat : ∀ l : List Str, tl (Str.join "" l) = l.flatMap tl
  | [] => rfl
  | [c] => by rw [List.flatMap_cons, List.flatMap_nil, List.append_nil]; rfl
  | c :: d :: r => by
    show tl ((c ++ ("" : Str)) ++ Str.join "" (d :: r)) = _
    rw [tl_append, tl_append, join_flat (d :: r)]
    show tl c ++ [] ++ _ = tl c ++ _
    rw [List.append_nil]
    rfl
theorem join_len {n : Nat} : ∀ {l : List Str}, (∀ z ∈ l, z.cps.size ≤ n) → (l.flatMap tl).length ≤ n * l.length ∧ (l.map (·.length)).sum ≤ n * l.length
  | [], _ => ⟨Nat.zero_le _, Nat.zero_le _⟩
  | z :: l, h => by
    obtain ⟨h1, h2⟩ := join_len (n := n) (l := l) fun x hx => h x (List.mem_cons_of_mem _ hx)
    have h3 := h z List.mem_cons_self
    have h4 := sz_tl z
    have h5 : z.length = z.cps.size := rfl
    rw [List.flatMap_cons, List.length_append, List.map_cons, List.sum_cons, List.length_cons, Nat.mul_add, Nat.mul_one]
    omega
theorem join_w9 {l : List Str} (hl : l.length ≤ 10) (h : ∀ z ∈ l, z.cps.size ≤ 30 ∧ ∀ c ∈ z.cps.toList, c < 128) : W9 (Txt.join "" l) ∧ (tl (Txt.join "" l)).length ≤ 300 := by
  have e : tl (Txt.join "" l) = l.flatMap tl := by rw [join_eq, join_flat]
  obtain ⟨h1, _⟩ := join_len fun z hz => (h z hz).1
  refine ⟨⟨fun c hc => ?_, by rw [e]; omega⟩, by rw [e]; omega⟩
  have hc : c ∈ tl (Txt.join "" l) := hc
  rw [e] at hc
  obtain ⟨z, hz, hc⟩ := List.mem_flatMap.mp hc
  exact (h z hz).2 c hc
def someT : List Str := ["]]>", "]]&gt;", "&#93;]>", "]&#93;>", "]]]>", "]] >", "&", "&;", "&#;", "&#x;", "&#12;", "&#2", "&ampx", "&lt", "&lte;", "&apo;", "&#37;", "&#x25;", "&#127;", "&#X4;", "]]&#62;", "a<b", "'\"", "&#00;", "]]&amp;>", "]]&#65;>", "&AMP;", "&#x0041;", "&#x;", "&#0041;", "&#x1", "&#xAf;"]
theorem someT_ok : ∀ z ∈ someT, (tl z).length ≤ 900 ∧ ∀ c ∈ tl z, c < 128 := by decide +kernel
def sp_law (K : PySem.W.Frag) (Tb : List (Addr × Str)) : Sp := fun vs H Q _ => ∃ (a : Addr) (ns : List Int), vs = [.ref a] ∧ LsX K H a (ns.map V.int) ∧ ns.length ≤ 63 ∧ LamX.Tabs Tb H ∧ ∀ H', Q (.bl true) H'

local macro_rules | `(tactic| walk_at "sz") => `(tactic| first | assumption | decide | omega | (unfold sizeLine; omega) | exact Nat.le_of_ble_eq_true rfl)
local macro_rules | `(tactic| walk_at "hp") => `(tactic| (first | assumption | exact upd_same | (rw [upd_ne (by assumption)]; assumption)))
local macro_rules | `(tactic| walk_at "rd") => `(tactic| (first
  | refine ⟨_, rfl, ?_⟩
  | (refine ⟨_, _, rfl, rfl, ?rdc, ?_⟩; (case rdc => first | (show (0 : Int) < _; omega) | (exact ⟨by omega, by omega⟩) | (exact .inl ⟨by omega, by omega⟩) | (exact .inr ⟨by omega, by omega⟩) | exact ⟨by decide, by decide, by decide⟩))
  | refine ⟨_, _, rfl, rfl, ?_⟩
  | refine .inl ⟨_, rfl, ?_⟩
  | refine ⟨rfl, ?_⟩
  | refine ⟨⟨_, rfl⟩, ?_⟩
  | refine ⟨⟨_, SqL.of (by walk_at "hp")⟩, ?_⟩
  | refine ⟨_, _, _, _, rfl, rfl, SqL.of (by walk_at "hp"), (by rfl), ?_⟩
  | refine ⟨_, _, _, _, rfl, rfl, (by walk_at "hp"), (by rfl), ?_⟩
  | refine ⟨_, _, rfl, ⟨by walk_at "sz", rfl⟩, ?_⟩
  | refine ⟨_, _, _, rfl, rfl, by walk_at "sz", by assumption, ?_⟩
  | refine And.intro (by walk_at "sz") ?_
  | refine itT rfl ?_
  | refine itF rfl ?_
  | refine itT (by assumption) ?_
  | refine itF (by assumption) ?_
  | refine itT (decide_eq_true (by omega)) ?_
  | refine itF (decide_eq_false (by omega)) ?_
  | refine itT (dVi (by omega)) ?_
  | refine itF (dViN (by omega)) ?_
  | refine itT (notT (by assumption)) ?_
  | refine itF (notF (by assumption)) ?_
  | refine itT (notT (dViN (by omega))) ?_
  | refine itF (notF (dVi (by omega))) ?_
  | refine itT (decide_eq_true rfl) ?_
  | refine itF (notF (decide_eq_true rfl)) ?_
  | refine ite2 (fun _ => ?_) (fun _ => ?_)
  | with_reducible refine tC_ ?_
  | with_reducible refine tNext_ ?_
  | with_reducible refine tNil_ ?_
  | with_reducible refine tYes_ ?_))
local macro_rules | `(tactic| walk_at "rds") => `(tactic| repeat' (walk_at "rd"))
section
variable {P : Program} {w : World} {K : PySem.W.Frag} {mg : Str → Option Value} {base : Heap}

local macro_rules | `(tactic| walk_at "lk") => `(tactic| first
  | with_reducible assumption
  | with_reducible exact upd_same
  | (walk_at "lk1"; walk_at "lk")
  | fail "lk")
local macro_rules | `(tactic| walk_at "lk1") => `(tactic| first
  | ((with_reducible refine' lk_new ?a1 ?a2); (case a1 => with_reducible assumption); (case' a2 => skip))
  | ((with_reducible refine' lk_ne ?a1 ?a2); (case a1 => with_reducible assumption); (case' a2 => skip))
  | ((with_reducible refine' lk_neN ?a1 ?a2 ?a3); (case a1 => with_reducible assumption); (case a2 => walk_at "lk"); (case' a3 => skip))
  | ((with_reducible refine' lk_neN' ?a1 ?a2 ?a3); (case a1 => with_reducible assumption); (case a2 => walk_at "lk"); (case' a3 => skip))
  | ((with_reducible refine' lk_same ?a1 ?a2); (case a1 => with_reducible assumption); (case' a2 => skip))
  | ((with_reducible refine' lk_go ?a1 ?a2 ?a3); (case a1 => with_reducible assumption); (case a2 => walk_at "nt"); (case' a3 => skip))
  | ((with_reducible refine' lk_kp_nl ?a1 ?a2 ?a3 ?a4); (case a1 => with_reducible assumption); (case a2 => walk_at "st"); (case a3 => walk_at "nl"); (case' a4 => skip))
  | ((with_reducible refine' lk_kp ?a1 ?a2 ?a3); (case a1 => with_reducible assumption); (case a2 => walk_at "ne"); (case' a3 => skip))
  | fail "lk1")
local macro_rules | `(tactic| walk_at "nt") => `(tactic| first
  | (intro _ z; cases z)
  | fail "nt")
local macro_rules | `(tactic| walk_at "nl") => `(tactic| first
  | (intro _ z; cases z)
  | fail "nl")
local macro_rules | `(tactic| walk_at "ne") => `(tactic| first
  | with_reducible assumption
  | ((with_reducible refine' ne_st ?a1 ?a2); (case a1 => with_reducible assumption); (case a2 => walk_at "st"))
  | fail "ne")
local macro_rules | `(tactic| walk_at "st") => `(tactic| first
  | with_reducible assumption
  | with_reducible exact st_new (by with_reducible assumption) (by walk_at "st")
  | with_reducible exact st_same (by with_reducible assumption) (by walk_at "st")
  | with_reducible exact st_go (by with_reducible assumption) (by walk_at "st")
  | with_reducible exact st_ne (by walk_at "ns") (by walk_at "st")
  | fail "st")
local macro_rules | `(tactic| walk_at "ns") => `(tactic| first
  | with_reducible assumption
  | with_reducible exact Ne.symm (by with_reducible assumption)
  | with_reducible exact Ne.symm (ne_st (by with_reducible assumption) (by walk_at "st"))
  | fail "ns")
local macro_rules | `(tactic| walk_at "fr") => `(tactic| first
  | with_reducible assumption
  | with_reducible exact Same.refl _
  | with_reducible exact Go.refl _ _
  | with_reducible exact Kp.refl _ _
  | with_reducible exact LamX.ExtN.refl _
  | with_reducible exact nw_refl
  | (walk_at "fr1"; walk_at "fr")
  | fail "fr")
local macro_rules | `(tactic| walk_at "fr1") => `(tactic| first
  | ((with_reducible refine' fr_new ?a1 ?a2); (case a1 => with_reducible assumption); (case' a2 => skip))
  | ((with_reducible refine' go_new ?a1 ?a2); (case a1 => with_reducible assumption); (case' a2 => skip))
  | ((with_reducible refine' kp_new ?a1 ?a2); (case a1 => with_reducible assumption); (case' a2 => skip))
  | ((with_reducible refine' fr_same ?a1 ?a2); (case a1 => with_reducible assumption); (case' a2 => skip))
  | ((with_reducible refine' go_same ?a1 ?a2); (case a1 => with_reducible assumption); (case' a2 => skip))
  | ((with_reducible refine' kp_same ?a1 ?a2); (case a1 => with_reducible assumption); (case' a2 => skip))
  | ((with_reducible refine' go_go ?a1 ?a2); (case a1 => with_reducible assumption); (case' a2 => skip))
  | ((with_reducible refine' go_kp ?a1 ?a2 ?a3 ?a4); (case a1 => with_reducible assumption); (case a2 => with_reducible assumption); (case a3 => walk_at "st"); (case' a4 => skip))
  | ((with_reducible refine' kp_kp ?a1 ?a2); (case a1 => with_reducible assumption); (case' a2 => skip))
  | ((with_reducible refine' kp_upd ?a1); (case' a1 => skip))
  | ((with_reducible refine' go_set2 ?a1 ?a2 ?a3 ?a4); (case a1 => walk_at "lk"); (case a2 => with_reducible assumption); (case a3 => walk_at "fr"); (case' a4 => skip))
  | ((with_reducible refine' fr_set2 ?a1 ?a2 ?a3); (case a1 => with_reducible assumption); (case a2 => walk_at "fr"); (case' a3 => skip))
  | ((with_reducible refine' en_new ?a1 ?a2); (case a1 => with_reducible assumption); (case' a2 => skip))
  | ((with_reducible refine' en_same ?a1 ?a2); (case a1 => with_reducible assumption); (case' a2 => skip))
  | ((with_reducible refine' en_go ?a1 ?a2); (case a1 => with_reducible assumption); (case' a2 => skip))
  | ((with_reducible refine' en_set2 ?a1 ?a2 ?a3); (case a1 => with_reducible assumption); (case a2 => walk_at "fr"); (case' a3 => skip))
  | ((with_reducible refine' en_kp ?a1 ?a2 ?a3 ?a4); (case a1 => with_reducible assumption); (case a2 => with_reducible assumption); (case a3 => walk_at "fr"); (case' a4 => skip))
  | ((with_reducible refine' nw_new ?a1 ?a2); (case a1 => with_reducible assumption); (case' a2 => skip))
  | ((with_reducible refine' nw_same ?a1 ?a2); (case a1 => with_reducible assumption); (case' a2 => skip))
  | ((with_reducible refine' nw_go ?a1 ?a2); (case a1 => with_reducible assumption); (case' a2 => skip))
  | ((with_reducible refine' nw_kp ?a1 ?a2 ?a3); (case a1 => with_reducible assumption); (case a2 => walk_at "st"); (case' a3 => skip))
  | ((with_reducible refine' nw_set ?a1 ?a2); (case a1 => walk_at "lk"); (case' a2 => skip))
  | ((with_reducible refine' nw_set2 ?a1 ?a2 ?a3); (case a1 => with_reducible assumption); (case a2 => walk_at "fr"); (case' a3 => skip))
  | fail "fr1")
local macro_rules | `(tactic| walk_at "tb") => `(tactic| first
  | with_reducible assumption
  | (walk_at "tb1"; walk_at "tb")
  | fail "tb")
local macro_rules | `(tactic| walk_at "tb1") => `(tactic| first
  | ((with_reducible refine' tabs_new ?a1 ?a2); (case a1 => with_reducible assumption); (case' a2 => skip))
  | ((with_reducible refine' tabs_same ?a1 ?a2); (case a1 => with_reducible assumption); (case' a2 => skip))
  | ((with_reducible refine' tabs_go ?a1 ?a2); (case a1 => with_reducible assumption); (case' a2 => skip))
  | ((with_reducible refine' tabs_kp ?a1 ?a2 ?a3); (case a1 => with_reducible assumption); (case a2 => walk_at "st"); (case' a3 => skip))
  | ((with_reducible refine' tabs_set ?a1 ?a2); (case a1 => walk_at "lk"); (case' a2 => skip))
  | fail "tb1")
local macro_rules | `(tactic| walk_at "dg") => `(tactic| first
  | assumption
  | (refine' dp_ext ?a1 ?a2; (case a1 => assumption); (case a2 => walk_at "fr"))
  | (refine' dn_use ?a1 ?a2; (case a1 => assumption); (case a2 => walk_at "fr"))
  | fail "dg")
local macro_rules | `(tactic| walk_at "dp") => `(tactic| first
  | assumption
  | exact .str _
  | exact .int _
  | exact .bl _
  | exact .non
  | (refine' Dp.lst (SqL.of ?a1) ?a2; (case a1 => walk_at "lk"); (case a2 => walk_at "dpa"))
  | (refine' Dp.tup (SqT.of ?a1) ?a2; (case a1 => walk_at "lk"); (case a2 => walk_at "dpa"))
  | (walk_at "dg")
  | fail "dp")
local macro_rules | `(tactic| walk_at "dpa") => `(tactic| first
  | assumption
  | exact .nil
  | (refine' DpAll.cons ?a1 ?a2; (case a1 => walk_at "dp"); (case a2 => walk_at "dpa"))
  | fail "dpa")
local macro_rules | `(tactic| walk_at "dx") => `(tactic| first
  | assumption
  | exact .str _
  | exact .int _
  | exact .bl _
  | exact .non
  | (refine' Dx.lst (SqL.of ?a1) ?a2; (case a1 => walk_at "lk"); (case a2 => walk_at "dxa"))
  | (refine' Dx.tup (SqT.of ?a1) ?a2; (case a1 => walk_at "lk"); (case a2 => walk_at "dxa"))
  | (refine' Dx.dct (.inl ?a1) ?a2; (case a1 => walk_at "lk"); (case a2 => exact .nil))
  | (refine' dx_ext ?a1 ?a2; (case a1 => assumption); (case a2 => walk_at "fr"))
  | fail "dx")
local macro_rules | `(tactic| walk_at "dxa") => `(tactic| first
  | assumption
  | exact .nil
  | (refine' DxAll.cons ?a1 ?a2; (case a1 => walk_at "dx"); (case a2 => walk_at "dxa"))
  | fail "dxa")
local macro_rules | `(tactic| walk_at "ty") => `(tactic| first
  | assumption
  | (refine' ty_ext ?a1 ?a2; (case a1 => assumption); (case a2 => walk_at "fr"))
  | fail "ty")
local macro_rules | `(tactic| walk_at "shp") => `(tactic| first
  | assumption
  | (simp only [SeqAt.shaped, lay_l, lay_t, lay_i, lay_b, lay_n, lay_c, lay_e, PyData.depth, PyData.depthAll, Bool.and_true, Bool.true_and, Bool.and_eq_true, decide_eq_true_eq]
     repeat' (first | assumption | (refine And.intro ?_ ?_) | (exact rfl) | (decide +kernel) | omega))
  | decide +kernel)
local macro_rules | `(tactic| walk_at "side") => `(tactic| first
  | assumption
  | (intros; trivial)
  | omega
  | (walk_at "lk")
  | (walk_at "st")
  | (walk_at "sz")
  | (walk_at "tb")
  | (walk_at "fr"))
local macro_rules | `(tactic| walk_at "cl") => `(tactic| ((repeat' (apply Exists.intro)); refine And.intro rfl ?_; repeat (refine And.intro (by walk_at "side") ?_)))
local macro_rules | `(tactic| walk_at "eqd") => `(tactic| (refine ⟨_, _, by walk_at "dp", by walk_at "dp", by walk_at "shp", by walk_at "shp", ?_⟩; rw [eqv_same (by walk_at "shp")]))
local macro_rules | `(tactic| walk_at "new") => `(tactic| refine fun (p : Addr) (hp : (_ : Hp) p = none) => ?_)
local macro_rules | `(tactic| walk_at "rdn") => `(tactic| (repeat' (first | walk_at "rd" | walk_at "new")))

theorem ok_law (T : Tx P w K mg base) {f : Addr} {fd : FuncData} {Tb : List (Addr × Str)} (F : Fun K "law" "law" s_law f fd) (G__law_table : FnOk P w K mg base CX0 3 T.d__law_table.f T.d__law_table.fd ["radix"] sp__law_table) (G__law_stream : FnOk P w K mg base CX0 2 T.d__law_stream.f T.d__law_stream.fd ["item", "k"] sp__law_stream) (G__law_draw : FnOk P w K mg base CX0 2 T.d__law_draw.f T.d__law_draw.fd ["stream", "top"] sp__law_draw) (G__law_piece : FnOk P w K mg base CX0 4 T.d__law_piece.f T.d__law_piece.fd ["stream"] sp__law_piece) (G__law_right : Mx.FnG P w K mg base CX0 13 T.d__law_right.f T.d__law_right.fd ["raw_so", "edge", "tables"] (sp__law_right K Tb)) (G__law_pick : FnOk P w K mg base CX0 3 T.d__law_pick.f T.d__law_pick.fd ["stream", "some"] sp__law_pick) (G__law_refused_right : Mx.FnG P w K mg base CX0 13 T.d__law_refused_right.f T.d__law_refused_right.fd ["raw_so", "odd"] (sp__law_refused_right K Tb)) : FnG P w K mg base CX0 15 f fd ["script"] (sp_law K Tb) := by
  have sc := sc_law
  refine Mx.okG F sc (fun vs H Q E h => ?_) (fun cdv A outer s H vs Q E hr h => ?_)
  · obtain ⟨a, ns, rfl, hs, hn, tb, q⟩ := h
    rfl
  · obtain ⟨a, ns, rfl, hs, hn, tb, q⟩ := h
    refine ⟨_, (pss_cons (ps_set (i := 1) sc.nd rfl (Or.inr rfl) (pe_lst (pa_cons (pe_call G__law_table (hr.r.mono (by decide)) rfl T.d__law_table.m T.d__law_table.F.kp T.d__law_table.b .nil pass0 (pa_cons pe_int pa_nil)) (pa_cons (pe_call G__law_table (hr.r.mono (by decide)) rfl T.d__law_table.m T.d__law_table.F.kp T.d__law_table.b .nil pass0 (pa_cons pe_int pa_nil)) pa_nil))))
      (pss_cons (ps_for (passes_of rfl) rfl (pi_enum (by rfl) T.n_enumerate (pa_cons (pe_slice sl_list (pe_op op_catR (pv 0) (pe_lst (pa_cons pe_int pa_nil))) po_none (po_some pe_int)) pa_nil)) (pg_tup (by rfl) (pgs_cons (pg_name (i := 2) sc.nd rfl (Or.inl rfl)) (pgs_cons (pg_name (i := 3) sc.nd rfl (Or.inl rfl)) pgs_nil))) (pss_cons (ps_set (i := 4) sc.nd rfl (Or.inr rfl) (pe_call G__law_stream (hr.r.mono (by decide)) rfl T.d__law_stream.m T.d__law_stream.F.kp T.d__law_stream.b .nil pass0 (pa_cons (pv 3) (pa_cons (pv 2) pa_nil))))
      (pss_one (ps_for (passes_of rfl) rfl (pi_range1 rfl T.n_range (pa_cons pe_int pa_nil)) (pg_name (i := 5) sc.nd rfl (Or.inl rfl)) (pss_cons (ps_set (i := 6) sc.nd rfl (Or.inl rfl) (pe_join pe_str (pe_lc (own := [("part", 10)]) (g := gName 10) (tt := tYes) rfl sc.nd (pi_range1 rfl T.n_range (pa_cons (pe_call G__law_draw (hr.r.mono (by decide)) rfl T.d__law_draw.m T.d__law_draw.F.kp T.d__law_draw.b .nil pass0 (pa_cons (pv 4) (pa_cons pe_int pa_nil))) pa_nil)) (blkOk_by (own := [("part", 10)]) (N := ["script", "tables", "k", "item", "stream", "turn", "raw_so", "edge", "odd", "some", "part", "one"]) (sc := defScope s_law) (by decide +kernel)) (fun _ _ _ _ _ => pg_name (i := 10) sc.nd rfl (Or.inl rfl)) (fun _ _ _ _ _ => pts_nil) (fun _ _ _ _ _ => pe_call G__law_piece (hr.r.mono (by decide)) rfl T.d__law_piece.m T.d__law_piece.F.kp T.d__law_piece.b .nil pass0 (pa_cons (pv 4) pa_nil)))))
      (pss_cons (ps_for (passes_of rfl) rfl (pi_tup (pe_tup (pa_cons pe_str (pa_cons pe_str (pa_cons pe_str pa_nil))))) (pg_name (i := 7) sc.nd rfl (Or.inl rfl)) (pss_one (ps_if (pt_not (pt_val (pg_call G__law_right (hr.mono (by decide)) rfl T.d__law_right.m T.d__law_right.F.kp T.d__law_right.b .nil pass0 (pa_cons (pv 6) (pa_cons (pv 7) (pa_cons (pv 1) pa_nil)))))) (pss_one (ps_ret pe_bl)) pss_nil)))
      (pss_cons (ps_set (i := 8) sc.nd rfl (Or.inl rfl) (pe_call G__law_pick (hr.r.mono (by decide)) rfl T.d__law_pick.m T.d__law_pick.F.kp T.d__law_pick.b .nil pass0 (pa_cons (pv 4) (pa_cons (pe_lst (pa_cons pe_non (pa_cons pe_bl (pa_cons pe_int (pa_cons pe_str (pa_cons pe_str (pa_cons pe_str (pa_cons (pe_tup (pa_cons pe_str pa_nil)) (pa_cons (pe_lst (pa_cons pe_str pa_nil)) (pa_cons pe_dnewK pa_nil)))))))))) pa_nil))))
      (pss_one (ps_if (pt_not (pt_val (pg_call G__law_refused_right (hr.mono (by decide)) rfl T.d__law_refused_right.m T.d__law_refused_right.F.kp T.d__law_refused_right.b .nil pass0 (pa_cons (pe_op op_add_str pe_str (pv 6)) (pa_cons (pv 8) pa_nil))))) (pss_one (ps_ret pe_bl)) pss_nil)))))))))
      (pss_cons (ps_set (i := 9) sc.nd rfl (Or.inl rfl) (pe_lst (pa_cons pe_str (pa_cons pe_str (pa_cons pe_str (pa_cons pe_str (pa_cons pe_str (pa_cons pe_str (pa_cons pe_str (pa_cons pe_str (pa_cons pe_str (pa_cons pe_str (pa_cons pe_str (pa_cons pe_str (pa_cons pe_str pa_nil)))))))))))))))
      (pss_cons (ps_set (i := 9) sc.nd rfl (Or.inl rfl) (pe_op op_catR (pv 9) (pe_lst (pa_cons pe_str (pa_cons pe_str (pa_cons pe_str (pa_cons pe_str (pa_cons pe_str (pa_cons pe_str (pa_cons pe_str (pa_cons pe_str (pa_cons pe_str (pa_cons pe_str (pa_cons pe_str pa_nil))))))))))))))
      (pss_cons (ps_set (i := 9) sc.nd rfl (Or.inl rfl) (pe_op op_catR (pv 9) (pe_lst (pa_cons pe_str (pa_cons pe_str (pa_cons pe_str (pa_cons pe_str (pa_cons pe_str (pa_cons pe_str (pa_cons pe_str (pa_cons pe_str pa_nil)))))))))))
      (pss_one (ps_ret (pe_cmpR (op_eqD hr.r.units) (pe_lc (own := [("one", 11)]) (g := gName 11) rfl sc.nd (pi_list (pv 9)) (blkOk_by (own := [("one", 11)]) (N := ["script", "tables", "k", "item", "stream", "turn", "raw_so", "edge", "odd", "some", "part", "one"]) (sc := defScope s_law) (by decide +kernel)) (fun _ _ _ _ _ => pg_name (i := 11) sc.nd rfl (Or.inl rfl)) (fun _ _ _ _ _ => (pts_one (PW.pt (pw_or (pt_not (pt_val (pg_call G__law_right (hr.mono (by decide)) rfl T.d__law_right.m T.d__law_right.F.kp T.d__law_right.b .nil pass0 (pa_cons (pv 11) (pa_cons pe_str (pa_cons (pv 1) pa_nil)))))) (pw_or1 (pt_not (pt_val (pg_call G__law_right (hr.mono (by decide)) rfl T.d__law_right.m T.d__law_right.F.kp T.d__law_right.b .nil pass0 (pa_cons (pv 11) (pa_cons pe_str (pa_cons (pv 1) pa_nil))))))))))) (fun _ _ _ _ _ => pv 11)) (pe_lst pa_nil) (nomark _))))))))), ?_⟩
    walk_at "rds"
    refine ⟨.inl rfl, fun q1 HA n1 sA eA => ?_⟩
    walk_at "rds"
    refine ⟨.inr rfl, fun q2 HB n2 sB eB => ?_⟩
    walk_at "rds"
    intro pt hpt
    have tA : Tabs2 (upd HB pt (.lst [.ref q1, .ref q2])) pt := ⟨q1, q2, upd_same, lk_new hpt (sB _ _ eA), lk_new hpt eB⟩
    have sC : Same H (upd HB pt (.lst [.ref q1, .ref q2])) := Same.new (sA.trans sB) hpt
    generalize upd HB pt (.lst [.ref q1, .ref q2]) = H0 at *
    have gC : Go Tb H H0 := Go.same sC
    have tb := gC.2 tb
    have hs := lsx_ext hs gC.1
    clear hpt eA eB sA sB sC n1 n2 gC
    walk_at "rds"
    intro p1 hp1
    walk_at "rds"
    refine ⟨a, p1, _, _, rfl, rfl, lsx_ext hs (by walk_at "fr"), .of upd_same, by rw [List.length_map]; unfold sizeLine; show ns.length + 1 ≤ _; omega, fun p2 hp2 => ?_⟩
    walk_at "rds"
    refine ⟨p2, _, rfl, SqL.of upd_same, fun p3 hp3 => ?_⟩
    have hx : ∀ x ∈ cutV (ns.map V.int ++ [.int 0]) none (some 8), ∃ z, x = .int z := fun x h => ints_mem (cutV_mem h)
    have hl : (cutV (ns.map V.int ++ [.int 0]) none (some 8)).length ≤ 8 := cutV_front _ 8
    generalize cutV (ns.map V.int ++ [.int 0]) none (some 8) = xs at *
    have tb3 : LamX.Tabs Tb (upd (upd (upd H0 p1 (.lst [.int 0])) p2 (.lst (ns.map V.int ++ [.int 0]))) p3 (.lst xs)) := by walk_at "tb"
    have g3 : Go Tb H0 (upd (upd (upd H0 p1 (.lst [.int 0])) p2 (.lst (ns.map V.int ++ [.int 0]))) p3 (.lst xs)) := by walk_at "fr"
    have tA := tA.go g3
    have e3 : (upd (upd (upd H0 p1 (.lst [.int 0])) p2 (.lst (ns.map V.int ++ [.int 0]))) p3 (.lst xs)) p3 = some (.lst xs) := upd_same
    generalize (upd (upd (upd H0 p1 (.lst [.int 0])) p2 (.lst (ns.map V.int ++ [.int 0]))) p3 (.lst xs)) = H3 at *
    clear hp1 hp2 hp3 g3 tb hs
    walk_at "rds"
    refine ⟨p3, xs, rfl, SqL.of e3, ?_⟩
    refine for_it (walk_enum (xs := xs)) (fun i σ H' => Go Tb H3 H' ∧ ∃ v2 v3 v4 v5 v6 v7 v8, σ = [some (.ref a), some (.ref pt), v2, v3, v4, v5, v6, v7, v8, none, none, none]) ⟨Go.refl _ _, _, _, _, _, _, _, _, rfl⟩ (fun i σ H' _ hv => SqL.of (hv.1.lst e3)) ?_ ?_
    · rintro i x σ H4 H5 hi ⟨g4, v2, v3, v4, v5, v6, v7, v8, rfl⟩ ⟨t, y1, y2, rfl, ht, rfl, e4, e5⟩
      obtain rfl := Option.some.inj e4
      obtain ⟨z, rfl⟩ := hx _ (List.mem_of_getElem? e5)
      show gTup _ _ _ _ _ (upd H4 t (.tup [.int (i : Int), .int z])) _
      have tbB : LamX.Tabs Tb (upd H4 t (.tup [.int (i : Int), .int z])) := by walk_at "tb"
      have gB : Go Tb H3 (upd H4 t (.tup [.int (i : Int), .int z])) := by walk_at "fr"
      have f5 : upd H4 t (.tup [.int (i : Int), .int z]) t = some (.tup [.int (i : Int), .int z]) := upd_same
      generalize upd H4 t (.tup [.int (i : Int), .int z]) = HB at *
      have tB := tA.go gB
      clear tb3 g4 ht tA
      refine ⟨t, [.int (i : Int), .int z], rfl, SqT.of f5, rfl, ?_⟩
      refine ⟨_, _, rfl, ?_⟩
      refine ⟨_, _, rfl, ?_⟩
      walk_at "rds"
      refine ⟨z, i, rfl, by omega, by omega, fun st H6 hst s6 sa => ?_⟩
      walk_at "rds"
      refine for_range (fun j σ H' => Go Tb HB H' ∧ StAt st (200 * (j : Int)) H' ∧ ∃ v5 v6 v7 v8, σ = [some (.ref a), some (.ref pt), some (.int (i : Int)), some (.int z), some (.ref st), v5, v6, v7, v8, none, none, none]) ⟨Go.same s6, sa.mono (by decide), _, _, _, _, rfl⟩ ?_ ?_
      · rintro j σ H7 hj ⟨g7, sa7, v5, v6, v7, v8, rfl⟩
        have hj3 : j < 4 := hj
        have tb7 : LamX.Tabs Tb H7 := by walk_at "tb"
        walk_at "rds"
        refine ⟨st, _, _, rfl, sa7, by omega, by decide, by decide, fun r H8 r0 r1 kp8 sa8 => ?_⟩
        have g8 : Go Tb HB H8 := by walk_at "fr"
        have tb8 : LamX.Tabs Tb H8 := by walk_at "tb"
        clear sa7 kp8 g7 tb7 s6 sa
        walk_at "rds"
        intro D hD
        have nD : D ≠ st := ne_st hD sa8
        refine lc_it (walk_range (lo := 0) (n := r.toNat)) (fun k Hx => ∃ zs : List Str, zs.length = k ∧ (∀ z ∈ zs, z.cps.size ≤ 30 ∧ ∀ c ∈ z.cps.toList, c < 128) ∧ Go Tb HB Hx ∧ StAt st (200 * (j : Int) + 1 + 10 * (k : Int)) Hx ∧ Hx D = some (.lst (zs.map V.str))) ⟨[], rfl, (fun _ h => nomatch h), go_new hD g8, (st_new hD sa8).mono (by omega), upd_same⟩ (fun _ _ _ _ => trivial) ?_ ?_
        · rintro k x H9 H10 hk ⟨zs, hzl, hzs, g9, sa9, d9⟩ ⟨rfl, rfl⟩
          refine ⟨rfl, ?_⟩
          walk_at "rds"
          refine ⟨st, _, rfl, sa9, by omega, fun w H11 w1 w2 kp11 sa11 => ?_⟩
          have d11 := kp11 _ _ nD d9
          have g11 := go_kp kp11 hst sa9 g9
          refine ⟨zs.map V.str, d11, by rw [List.length_map, hzl]; unfold sizeLine; omega, zs ++ [w], by rw [List.length_append, hzl]; rfl, fun y hy => ?_, go_set2 d11 hD g8 g11, (st_ne (Ne.symm nD) sa11).mono (by omega), by rw [upd_same, List.map_append]; rfl⟩
          rcases List.mem_append.mp hy with hy | hy
          · exact hzs y hy
          · rw [List.mem_singleton.mp hy]
            exact ⟨w1, w2⟩
        rintro H9 ⟨zs, hzl, hzs, g9, sa9, d9⟩
        have hz10 : zs.length ≤ 10 := by omega
        obtain ⟨w9, w300⟩ := join_w9 hz10 hzs
        have hsum := (join_len fun y hy => (hzs y hy).1).2
        refine ⟨"", D, zs, rfl, rfl, .inl (SqL.of d9), by rw [show ("" : Str).length = 0 from rfl]; omega, ?_⟩
        generalize Txt.join "" zs = raw at *
        have sa9 : StAt st (200 * (j : Int) + 110) H9 := sa9.mono (by omega)
        clear hsum hz10 hzs hzl d9 hD nD g8 tb8 sa8
        walk_at "rds"
        intro pe hpe
        refine ⟨pe, rfl, ⟨_, SqT.of upd_same⟩, ?_⟩
        have fe : upd H9 pe (.tup [.str "", .str "'", .str "\""]) pe = some (.tup [.str "", .str "'", .str "\""]) := upd_same
        have gE : Go Tb HB (upd H9 pe (.tup [.str "", .str "'", .str "\""])) := go_new hpe g9
        have sE : StAt st (200 * (j : Int) + 110) (upd H9 pe (.tup [.str "", .str "'", .str "\""])) := st_new hpe sa9
        generalize upd H9 pe (.tup [.str "", .str "'", .str "\""]) = HE at *
        clear hpe g9 sa9
        refine for_it (D := ⟨_, _, fun _ _ => False, fun _ _ => False⟩) (walk_tup (xs := [.str "", .str "'", .str "\""])) (fun e σ H1 => Go Tb HE H1 ∧ ∃ v7 v8, σ = [some (.ref a), some (.ref pt), some (.int (i : Int)), some (.int z), some (.ref st), some (.int (0 + (j : Int))), some (.str raw), v7, v8, none, none, none]) ⟨Go.refl _ _, _, _, rfl⟩ (fun e σ H1 _ h => SqT.of (lk_go h.1 (fun _ z => by cases z) fe)) ?_ ?_
        · rintro e x σ H10 H11 hei ⟨g10, w7, w8, rfl⟩ ⟨rfl, hx⟩
          have he : ∃ m : Str, x = .str m ∧ MarkOk m := by
            have hm := List.mem_of_getElem? hx
            simp only [List.mem_cons, List.not_mem_nil, or_false] at hm
            rcases hm with rfl | rfl | rfl
            · exact ⟨_, rfl, .inl rfl⟩
            · exact ⟨_, rfl, .inr (.inl rfl)⟩
            · exact ⟨_, rfl, .inr (.inr rfl)⟩
          obtain ⟨m, rfl, hmk⟩ := he
          clear hx
          have gT := gE.trans g10
          have tbT := gT.2 tbB
          walk_at "rds"
          refine ⟨raw, m, pt, rfl, w9, hmk, tB.go gT, tbT, fun H12 g12 => ?_⟩
          walk_at "rds"
          exact ⟨g10.trans g12, _, _, rfl⟩
        rintro σ H10 ⟨g10, w7, w8, rfl⟩
        have s10 := st_go g10 sE
        have gX := gE.trans g10
        clear fe gE sE g10
        walk_at "rds"
        intro pa hpa
        walk_at "rds"
        intro pb hpb
        walk_at "rds"
        intro pc hpc
        walk_at "rds"
        intro L hL
        walk_at "rds"
        have npb : pb ≠ st := ne_st hpb (by walk_at "st")
        have nL : L ≠ st := ne_st hL (by walk_at "st")
        obtain ⟨HL, eHL⟩ : ∃ HL, HL = upd (upd (upd (upd H10 pa (.tup [.str "'"])) pb (.lst [.str "\""])) pc (.dK [])) L (.lst [.non, .bl true, .int 0, .str "a", .str "''", .str " ", .ref pa, .ref pb, .ref pc]) := ⟨_, rfl⟩
        have fa : HL pa = some (.tup [.str "'"]) := by rw [eHL]; walk_at "lk"
        have fb : HL pb = some (.lst [.str "\""]) := by rw [eHL]; walk_at "lk"
        have fc : HL pc = some (.dK []) := by rw [eHL]; walk_at "lk"
        have fL : HL L = some (.lst [.non, .bl true, .int 0, .str "a", .str "''", .str " ", .ref pa, .ref pb, .ref pc]) := by rw [eHL]; exact upd_same
        have gL : Go Tb HB HL := by rw [eHL]; walk_at "fr"
        have saL : StAt st (200 * (j : Int) + 110) HL := by rw [eHL]; walk_at "st"
        rw [← eHL]
        clear eHL
        refine ⟨st, _, .ref L, rfl, saL, by omega, .inl ⟨L, _, rfl, nL, fL, Nat.succ_pos _, (by show 9 < 1000000; decide), fun jo y H12 hj kp12 sa12 => ?_⟩⟩
        have odd : BadMark K H12 y ∧ OddD K H12 y := by
          have hm := List.mem_of_getElem? hj
          simp only [List.mem_cons, List.not_mem_nil, or_false] at hm
          rcases hm with rfl | rfl | rfl | rfl | rfl | rfl | rfl | rfl | rfl
          · exact ⟨.inl ⟨"NoneType", .base .non, by decide +kernel⟩, .none, .non, by decide +kernel, by decide +kernel, by decide +kernel⟩
          · exact ⟨.inl ⟨"bool", .base (.bl _), by decide +kernel⟩, .bool true, .bl _, by decide +kernel, by decide +kernel, by decide +kernel⟩
          · exact ⟨.inl ⟨"int", .base (.int _), by decide +kernel⟩, .int 0, .int _, by decide +kernel, by decide +kernel, by decide +kernel⟩
          · exact ⟨.inr ⟨_, rfl, by unfold MarkOk; decide +kernel⟩, .str "a", .str _, by decide +kernel, by decide +kernel, by decide +kernel⟩
          · exact ⟨.inr ⟨_, rfl, by unfold MarkOk; decide +kernel⟩, .str "''", .str _, by decide +kernel, by decide +kernel, by decide +kernel⟩
          · exact ⟨.inr ⟨_, rfl, by unfold MarkOk; decide +kernel⟩, .str " ", .str _, by decide +kernel, by decide +kernel, by decide +kernel⟩
          · exact ⟨.inl ⟨"tuple", .base (.tup (by walk_at "lk")), by decide +kernel⟩, .tuple [.str "'"], .tup (SqT.of (by walk_at "lk")) (.cons (.str _) .nil), by decide +kernel, by decide +kernel, by decide +kernel⟩
          · exact ⟨.inl ⟨"list", .base (.lst (by walk_at "lk")), by decide +kernel⟩, .list [.str "\""], .lst (SqL.of (by walk_at "lk")) (.cons (.str _) .nil), by decide +kernel, by decide +kernel, by decide +kernel⟩
          · exact ⟨.inl ⟨"dict", .base (.dK (by walk_at "lk")), by decide +kernel⟩, .dict [], .dct (.inl (by walk_at "lk")) .nil, by decide +kernel, by decide +kernel, by decide +kernel⟩
        have g12 : Go Tb HB H12 := go_kp kp12 hst saL gL
        have tb12 := g12.2 tbB
        clear fa fb fc fL gL saL hj kp12 nL npb hpa hpb hpc hL
        have eab : ("ab" : Str).length = 2 := rfl
        have rl : raw.length = (tl raw).length := len_tl raw
        have t1 : ("ab" : Str).length + raw.length ≤ sizeLine := by rw [eab]; unfold sizeLine; omega
        have tz : tl ("ab" ++ raw : Str) = 97 :: 98 :: tl raw := tl_append _ _
        have w2 : W4 ("ab" ++ raw : Str) := ⟨fun c hc => by
          have hc : c ∈ tl ("ab" ++ raw : Str) := hc
          rw [tz] at hc
          simp only [List.mem_cons] at hc
          rcases hc with rfl | rfl | hc
          · decide
          · decide
          · exact w9.1 c hc, by rw [tz]; show (tl raw).length + 1 + 1 ≤ 1000; omega⟩
        walk_at "rds"
        refine ⟨_, y, rfl, w2, odd.1, odd.2, tb12, fun H13 g13 => ?_⟩
        walk_at "rds"
        exact ⟨g12.trans g13, (st_go g13 sa12).mono (by omega), _, _, _, _, rfl⟩
      · rintro σ H7 ⟨g7, sa7, v5, v6, v7, v8, rfl⟩
        walk_at "rds"
        exact ⟨go_go g7 gB, _, _, _, _, _, _, _, rfl⟩
    · rintro σ H4 ⟨g4, v2, v3, v4, v5, v6, v7, v8, rfl⟩
      have tb4 : LamX.Tabs Tb H4 := by walk_at "tb"
      have tA := tA.go g4
      clear g4 tb3 e3
      walk_at "rds"
      intro l1 h1
      have f1 : upd H4 l1 (.lst [.str "]]>", .str "]]&gt;", .str "&#93;]>", .str "]&#93;>", .str "]]]>", .str "]] >", .str "&", .str "&;", .str "&#;", .str "&#x;", .str "&#12;", .str "&#2", .str "&ampx"]) l1 = some (.lst [.str "]]>", .str "]]&gt;", .str "&#93;]>", .str "]&#93;>", .str "]]]>", .str "]] >", .str "&", .str "&;", .str "&#;", .str "&#x;", .str "&#12;", .str "&#2", .str "&ampx"]) := upd_same
      have g1 : Go Tb H4 (upd H4 l1 (.lst [.str "]]>", .str "]]&gt;", .str "&#93;]>", .str "]&#93;>", .str "]]]>", .str "]] >", .str "&", .str "&;", .str "&#;", .str "&#x;", .str "&#12;", .str "&#2", .str "&ampx"])) := go_new h1 (Go.refl _ _)
      generalize upd H4 l1 (.lst [.str "]]>", .str "]]&gt;", .str "&#93;]>", .str "]&#93;>", .str "]]]>", .str "]] >", .str "&", .str "&;", .str "&#;", .str "&#x;", .str "&#12;", .str "&#2", .str "&ampx"]) = H5 at *
      have tA := tA.go g1
      have tb5 := g1.2 tb4
      clear tb4 h1 g1
      walk_at "rds"
      intro l2 h2
      refine ⟨l1, l2, _, _, rfl, rfl, .of (lk_new h2 f1), .of upd_same, Nat.le_of_ble_eq_true rfl, fun l3 h3 => ?_⟩
      have f3 : upd (upd H5 l2 (.lst [.str "&lt", .str "&lte;", .str "&apo;", .str "&#37;", .str "&#x25;", .str "&#127;", .str "&#X4;", .str "]]&#62;", .str "a<b", .str "'\"", .str "&#00;"])) l3 (.lst ([.str "]]>", .str "]]&gt;", .str "&#93;]>", .str "]&#93;>", .str "]]]>", .str "]] >", .str "&", .str "&;", .str "&#;", .str "&#x;", .str "&#12;", .str "&#2", .str "&ampx"] ++ [.str "&lt", .str "&lte;", .str "&apo;", .str "&#37;", .str "&#x25;", .str "&#127;", .str "&#X4;", .str "]]&#62;", .str "a<b", .str "'\"", .str "&#00;"])) l3 = some (.lst ([.str "]]>", .str "]]&gt;", .str "&#93;]>", .str "]&#93;>", .str "]]]>", .str "]] >", .str "&", .str "&;", .str "&#;", .str "&#x;", .str "&#12;", .str "&#2", .str "&ampx"] ++ [.str "&lt", .str "&lte;", .str "&apo;", .str "&#37;", .str "&#x25;", .str "&#127;", .str "&#X4;", .str "]]&#62;", .str "a<b", .str "'\"", .str "&#00;"])) := upd_same
      have g3 : Go Tb H5 (upd (upd H5 l2 (.lst [.str "&lt", .str "&lte;", .str "&apo;", .str "&#37;", .str "&#x25;", .str "&#127;", .str "&#X4;", .str "]]&#62;", .str "a<b", .str "'\"", .str "&#00;"])) l3 (.lst ([.str "]]>", .str "]]&gt;", .str "&#93;]>", .str "]&#93;>", .str "]]]>", .str "]] >", .str "&", .str "&;", .str "&#;", .str "&#x;", .str "&#12;", .str "&#2", .str "&ampx"] ++ [.str "&lt", .str "&lte;", .str "&apo;", .str "&#37;", .str "&#x25;", .str "&#127;", .str "&#X4;", .str "]]&#62;", .str "a<b", .str "'\"", .str "&#00;"]))) := go_new h3 (go_new h2 (Go.refl _ _))
      generalize upd (upd H5 l2 (.lst [.str "&lt", .str "&lte;", .str "&apo;", .str "&#37;", .str "&#x25;", .str "&#127;", .str "&#X4;", .str "]]&#62;", .str "a<b", .str "'\"", .str "&#00;"])) l3 (.lst ([.str "]]>", .str "]]&gt;", .str "&#93;]>", .str "]&#93;>", .str "]]]>", .str "]] >", .str "&", .str "&;", .str "&#;", .str "&#x;", .str "&#12;", .str "&#2", .str "&ampx"] ++ [.str "&lt", .str "&lte;", .str "&apo;", .str "&#37;", .str "&#x25;", .str "&#127;", .str "&#X4;", .str "]]&#62;", .str "a<b", .str "'\"", .str "&#00;"])) = H6 at *
      have tA := tA.go g3
      have tb6 := g3.2 tb5
      clear tb5 h3 h2 f1 g3
      walk_at "rds"
      intro l4 h4
      refine ⟨l3, l4, _, _, rfl, rfl, .of (lk_new h4 f3), .of upd_same, Nat.le_of_ble_eq_true rfl, fun l5 h5 => ?_⟩
      have f5 : upd (upd H6 l4 (.lst [.str "]]&amp;>", .str "]]&#65;>", .str "&AMP;", .str "&#x0041;", .str "&#x;", .str "&#0041;", .str "&#x1", .str "&#xAf;"])) l5 (.lst ([.str "]]>", .str "]]&gt;", .str "&#93;]>", .str "]&#93;>", .str "]]]>", .str "]] >", .str "&", .str "&;", .str "&#;", .str "&#x;", .str "&#12;", .str "&#2", .str "&ampx"] ++ [.str "&lt", .str "&lte;", .str "&apo;", .str "&#37;", .str "&#x25;", .str "&#127;", .str "&#X4;", .str "]]&#62;", .str "a<b", .str "'\"", .str "&#00;"] ++ [.str "]]&amp;>", .str "]]&#65;>", .str "&AMP;", .str "&#x0041;", .str "&#x;", .str "&#0041;", .str "&#x1", .str "&#xAf;"])) l5 = some (.lst (someT.map V.str)) := upd_same
      have g5 : Go Tb H6 (upd (upd H6 l4 (.lst [.str "]]&amp;>", .str "]]&#65;>", .str "&AMP;", .str "&#x0041;", .str "&#x;", .str "&#0041;", .str "&#x1", .str "&#xAf;"])) l5 (.lst ([.str "]]>", .str "]]&gt;", .str "&#93;]>", .str "]&#93;>", .str "]]]>", .str "]] >", .str "&", .str "&;", .str "&#;", .str "&#x;", .str "&#12;", .str "&#2", .str "&ampx"] ++ [.str "&lt", .str "&lte;", .str "&apo;", .str "&#37;", .str "&#x25;", .str "&#127;", .str "&#X4;", .str "]]&#62;", .str "a<b", .str "'\"", .str "&#00;"] ++ [.str "]]&amp;>", .str "]]&#65;>", .str "&AMP;", .str "&#x0041;", .str "&#x;", .str "&#0041;", .str "&#x1", .str "&#xAf;"]))) := go_new h5 (go_new h4 (Go.refl _ _))
      generalize upd (upd H6 l4 (.lst [.str "]]&amp;>", .str "]]&#65;>", .str "&AMP;", .str "&#x0041;", .str "&#x;", .str "&#0041;", .str "&#x1", .str "&#xAf;"])) l5 (.lst ([.str "]]>", .str "]]&gt;", .str "&#93;]>", .str "]&#93;>", .str "]]]>", .str "]] >", .str "&", .str "&;", .str "&#;", .str "&#x;", .str "&#12;", .str "&#2", .str "&ampx"] ++ [.str "&lt", .str "&lte;", .str "&apo;", .str "&#37;", .str "&#x25;", .str "&#127;", .str "&#X4;", .str "]]&#62;", .str "a<b", .str "'\"", .str "&#00;"] ++ [.str "]]&amp;>", .str "]]&#65;>", .str "&AMP;", .str "&#x0041;", .str "&#x;", .str "&#0041;", .str "&#x1", .str "&#xAf;"])) = H7 at *
      have tA := tA.go g5
      have tb7 := g5.2 tb6
      clear tb6 h5 h4 f3 g5
      walk_at "rds"
      intro D hD
      refine lc_fltG (Tb := Tb) (walk_list (xs := someT.map V.str)) (fun _ => false) (fun i => .str (someT.getD i "")) hD (by decide) (fun H1 sm => SqL.of (sm.lst f5)) (fun i H1 x H2 y => y.1 ▸ Same.refl _) ?_ ?_
      · rintro i x H8 H9 Nx Mo hi sm ⟨rfl, hx⟩ k1 k2
        obtain ⟨w, hw, rfl⟩ := List.mem_map.mp (List.mem_of_getElem? hx)
        obtain ⟨w1, w2⟩ := someT_ok w hw
        have tb9 : LamX.Tabs Tb H9 := sm.2 tb7
        refine ⟨rfl, ?_⟩
        walk_at "rds"
        refine ⟨w, "", pt, rfl, ⟨w2, w1⟩, .inl rfl, tA.go sm, tb9, fun HA gA => ?_⟩
        have tA2 := (tA.go sm).go gA
        have tbA := gA.2 tb9
        walk_at "rds"
        refine ⟨w, "'", pt, rfl, ⟨w2, w1⟩, .inr (.inl rfl), tA2, tbA, fun HB gB => ?_⟩
        walk_at "rds"
        exact k2 rfl _ (gA.trans gB)
      · intro H8 sm8 hl8
        rw [picked_none] at hl8
        walk_at "rds"
        intro pe hpe
        refine ⟨.list [], .list [], .lst (SqL.of (lk_new hpe hl8)) .nil, .lst (SqL.of upd_same) .nil, rfl, rfl, ?_⟩
        exact q _

end
end K7

set_option maxHeartbeats 1000000
set_option pp.maxSteps 700
set_option pp.deepTerms false
set_option pp.deepTerms.threshold 14
namespace K7
open PySem PySem.Spec PyProof.Rows L2 Mx
local macro_rules | `(tactic| walk_at "sz") => `(tactic| first | assumption | decide | omega | (unfold sizeLine; omega) | exact Nat.le_of_ble_eq_true rfl)
local macro_rules | `(tactic| walk_at "hp") => `(tactic| (first | assumption | exact upd_same | (rw [upd_ne (by assumption)]; assumption)))
local macro_rules | `(tactic| walk_at "rd") => `(tactic| (first
  | refine ⟨_, rfl, ?_⟩
  | (refine ⟨_, _, rfl, rfl, ?rdc, ?_⟩; (case rdc => first | (show (0 : Int) < _; omega) | (exact ⟨by omega, by omega⟩) | (exact .inl ⟨by omega, by omega⟩) | (exact .inr ⟨by omega, by omega⟩) | exact ⟨by decide, by decide, by decide⟩))
  | refine ⟨_, _, rfl, rfl, ?_⟩
  | refine .inl ⟨_, rfl, ?_⟩
  | refine ⟨rfl, ?_⟩
  | refine ⟨⟨_, rfl⟩, ?_⟩
  | refine ⟨⟨_, SqL.of (by walk_at "hp")⟩, ?_⟩
  | refine ⟨_, _, _, _, rfl, rfl, SqL.of (by walk_at "hp"), (by rfl), ?_⟩
  | refine ⟨_, _, _, _, rfl, rfl, (by walk_at "hp"), (by rfl), ?_⟩
  | refine ⟨_, _, rfl, ⟨by walk_at "sz", rfl⟩, ?_⟩
  | refine ⟨_, _, _, rfl, rfl, by walk_at "sz", by assumption, ?_⟩
  | refine And.intro (by walk_at "sz") ?_
  | refine itT rfl ?_
  | refine itF rfl ?_
  | refine itT (by assumption) ?_
  | refine itF (by assumption) ?_
  | refine itT (decide_eq_true (by omega)) ?_
  | refine itF (decide_eq_false (by omega)) ?_
  | refine itT (dVi (by omega)) ?_
  | refine itF (dViN (by omega)) ?_
  | refine itT (notT (by assumption)) ?_
  | refine itF (notF (by assumption)) ?_
  | refine itT (notT (dViN (by omega))) ?_
  | refine itF (notF (dVi (by omega))) ?_
  | refine itT (decide_eq_true rfl) ?_
  | refine itF (notF (decide_eq_true rfl)) ?_
  | refine ite2 (fun _ => ?_) (fun _ => ?_)
  | with_reducible refine tC_ ?_
  | with_reducible refine tNext_ ?_
  | with_reducible refine tNil_ ?_
  | with_reducible refine tYes_ ?_))
local macro_rules | `(tactic| walk_at "rds") => `(tactic| repeat' (walk_at "rd"))
/-! ### the end -/
section
variable {P : Program} {w : World} {K : PySem.W.Frag} {mg : Str → Option Value} {base : Heap}
theorem ok_IllFormed___init__ {CM C fI : Addr} {fd : FuncData} (B : BaseT K mg "MarkupError" CM) (F : Fun K "__init__" "IllFormed.__init__" s_IllFormed___init__ fI fd) (fn : PySem.W.findIn K (.ref C) "position" = some none) : FnOk P w K mg base CX0 1 fI fd ["self", "position"] (spXI K C "position") := by
  have sc := sc_IllFormed___init__
  refine F.ok sc (fun vs H Q E h => ?_) (fun cdv A outer s H vs Q E hr h => ?_)
  · obtain ⟨a, y, rfl, _⟩ := h
    rfl
  · obtain ⟨a, y, rfl, ox, ha, q⟩ := h
    refine ⟨_, pss_cons (ps_expr (pe_minit B rfl (pa_cons (pv 0) (pa_cons pe_str pa_nil)))) (pss_one (ps_ost (pv 0) (pv 1))), ?_⟩
    walk_at "rds"
    refine ⟨a, C, _, rfl, (by show 1 ≤ 1000; decide), ox, ha, ?_⟩
    walk_at "rds"
    exact ⟨a, C, rfl, ox, fn, .inl ⟨ha, fun dx h1 h2 => q dx h1 h2⟩⟩

theorem ok_InvalidText___init__ {CM C fI : Addr} {fd : FuncData} (B : BaseT K mg "MarkupError" CM) (F : Fun K "__init__" "InvalidText.__init__" s_InvalidText___init__ fI fd) (fn : PySem.W.findIn K (.ref C) "index" = some none) : FnOk P w K mg base CX0 1 fI fd ["self", "index"] (spXI K C "index") := by
  have sc := sc_InvalidText___init__
  refine F.ok sc (fun vs H Q E h => ?_) (fun cdv A outer s H vs Q E hr h => ?_)
  · obtain ⟨a, y, rfl, _⟩ := h
    rfl
  · obtain ⟨a, y, rfl, ox, ha, q⟩ := h
    refine ⟨_, pss_cons (ps_expr (pe_minit B rfl (pa_cons (pv 0) (pa_cons pe_str pa_nil)))) (pss_one (ps_ost (pv 0) (pv 1))), ?_⟩
    walk_at "rds"
    refine ⟨a, C, _, rfl, (by show 1 ≤ 1000; decide), ox, ha, ?_⟩
    walk_at "rds"
    exact ⟨a, C, rfl, ox, fn, .inl ⟨ha, fun dx h1 h2 => q dx h1 h2⟩⟩

theorem ok_InvalidKind___init__ {CM C fI : Addr} {fd : FuncData} (B : BaseT K mg "MarkupError" CM) (F : Fun K "__init__" "InvalidKind.__init__" s_InvalidKind___init__ fI fd) (fn : PySem.W.findIn K (.ref C) "kind" = some none) : FnOk P w K mg base CX0 1 fI fd ["self", "kind"] (spXI K C "kind") := by
  have sc := sc_InvalidKind___init__
  refine F.ok sc (fun vs H Q E h => ?_) (fun cdv A outer s H vs Q E hr h => ?_)
  · obtain ⟨a, y, rfl, _⟩ := h
    rfl
  · obtain ⟨a, y, rfl, ox, ha, q⟩ := h
    refine ⟨_, pss_cons (ps_expr (pe_minit B rfl (pa_cons (pv 0) (pa_cons pe_str pa_nil)))) (pss_one (ps_ost (pv 0) (pv 1))), ?_⟩
    walk_at "rds"
    refine ⟨a, C, _, rfl, (by show 1 ≤ 1000; decide), ox, ha, ?_⟩
    walk_at "rds"
    exact ⟨a, C, rfl, ox, fn, .inl ⟨ha, fun dx h1 h2 => q dx h1 h2⟩⟩

theorem ok_InvalidNumber___init__ {CM C fI : Addr} {fd : FuncData} (B : BaseT K mg "MarkupError" CM) (F : Fun K "__init__" "InvalidNumber.__init__" s_InvalidNumber___init__ fI fd) (fn : PySem.W.findIn K (.ref C) "number" = some none) : FnOk P w K mg base CX0 1 fI fd ["self", "number"] (spXI K C "number") := by
  have sc := sc_InvalidNumber___init__
  refine F.ok sc (fun vs H Q E h => ?_) (fun cdv A outer s H vs Q E hr h => ?_)
  · obtain ⟨a, y, rfl, _⟩ := h
    rfl
  · obtain ⟨a, y, rfl, ox, ha, q⟩ := h
    refine ⟨_, pss_cons (ps_expr (pe_minit B rfl (pa_cons (pv 0) (pa_cons pe_str pa_nil)))) (pss_one (ps_ost (pv 0) (pv 1))), ?_⟩
    walk_at "rds"
    refine ⟨a, C, _, rfl, (by show 1 ≤ 1000; decide), ox, ha, ?_⟩
    walk_at "rds"
    exact ⟨a, C, rfl, ox, fn, .inl ⟨ha, fun dx h1 h2 => q dx h1 h2⟩⟩

end
theorem all_mk {l : PySem.W.OpenLaw} {w : World} {K : PySem.W.Frag} {h : Heap} {mg : Str → Option Value} {fa : Addr} (X : K.In h) (G : h.Ns mainGlobals mg) (hfa : mg "law" = some (.ref fa))
    {C_FIVE : Addr} {es_FIVE : Array DictEntry} {n_FIVE : Nat}
    {f_Cursor___init__ : Addr} {od_Cursor___init__ an_Cursor___init__ : Option Addr} {sl_Cursor___init__ : Array (Option Value)} {oc_Cursor___init__ kV_Cursor___init__ dc_Cursor___init__ pm_Cursor___init__ ct_Cursor___init__ : Value}
    {cda cc : Addr} {ccl : Value} {cdd : Option Addr} {cvs : Array Value} {ccs : Array (Option Value)} {cfile : Str} {ctf : Tok} {cl : Value} {cld : Option Addr} {csl : Array (Option Value)}
    {f_Lines___init__ : Addr} {od_Lines___init__ an_Lines___init__ : Option Addr} {sl_Lines___init__ : Array (Option Value)} {oc_Lines___init__ kV_Lines___init__ dc_Lines___init__ pm_Lines___init__ cd_Lines___init__ ct_Lines___init__ : Value}
    {f_Cursor_offset : Addr} {od_Cursor_offset an_Cursor_offset : Option Addr} {sl_Cursor_offset : Array (Option Value)} {oc_Cursor_offset kV_Cursor_offset dc_Cursor_offset pm_Cursor_offset cd_Cursor_offset ct_Cursor_offset : Value}
    {p_Cursor_offset : Addr} {rest_Cursor_offset : List Value}
    {f_Cursor_go_to : Addr} {od_Cursor_go_to an_Cursor_go_to : Option Addr} {sl_Cursor_go_to : Array (Option Value)} {oc_Cursor_go_to kV_Cursor_go_to dc_Cursor_go_to pm_Cursor_go_to cd_Cursor_go_to ct_Cursor_go_to : Value}
    {f_Cursor_take_text : Addr} {od_Cursor_take_text an_Cursor_take_text : Option Addr} {sl_Cursor_take_text : Array (Option Value)} {oc_Cursor_take_text kV_Cursor_take_text dc_Cursor_take_text pm_Cursor_take_text cd_Cursor_take_text ct_Cursor_take_text : Value}
    {dV_Cursor_take_text : Value}
    {f_shortened : Addr} {od_shortened an_shortened : Option Addr} {sl_shortened : Array (Option Value)} {oc_shortened kV_shortened dc_shortened pm_shortened cd_shortened ct_shortened : Value}
    {f_value_of : Addr} {od_value_of an_value_of : Option Addr} {sl_value_of : Array (Option Value)} {oc_value_of kV_value_of dc_value_of pm_value_of cd_value_of ct_value_of : Value}
    {f_is_code : Addr} {od_is_code an_is_code : Option Addr} {sl_is_code : Array (Option Value)} {oc_is_code kV_is_code dc_is_code pm_is_code cd_is_code ct_is_code : Value}
    {f_is_number_part : Addr} {od_is_number_part an_is_number_part : Option Addr} {sl_is_number_part : Array (Option Value)} {oc_is_number_part kV_is_number_part dc_is_number_part pm_is_number_part cd_is_number_part ct_is_number_part : Value}
    {f_character_of : Addr} {od_character_of an_character_of : Option Addr} {sl_character_of : Array (Option Value)} {oc_character_of kV_character_of dc_character_of pm_character_of cd_character_of ct_character_of : Value}
    {f_spaced : Addr} {od_spaced an_spaced : Option Addr} {sl_spaced : Array (Option Value)} {oc_spaced kV_spaced dc_spaced pm_spaced cd_spaced ct_spaced : Value}
    {f_check_text : Addr} {od_check_text an_check_text : Option Addr} {sl_check_text : Array (Option Value)} {oc_check_text kV_check_text dc_check_text pm_check_text cd_check_text ct_check_text : Value}
    {f_check_raw : Addr} {od_check_raw an_check_raw : Option Addr} {sl_check_raw : Array (Option Value)} {oc_check_raw kV_check_raw dc_check_raw pm_check_raw cd_check_raw ct_check_raw : Value}
    {f_number_at : Addr} {od_number_at an_number_at : Option Addr} {sl_number_at : Array (Option Value)} {oc_number_at kV_number_at dc_number_at pm_number_at cd_number_at ct_number_at : Value}
    {f_reference_at : Addr} {od_reference_at an_reference_at : Option Addr} {sl_reference_at : Array (Option Value)} {oc_reference_at kV_reference_at dc_reference_at pm_reference_at cd_reference_at ct_reference_at : Value}
    {f_units : Addr} {od_units an_units : Option Addr} {sl_units : Array (Option Value)} {oc_units kV_units dc_units pm_units dV_units cd_units ct_units : Value}
    {f_unescaped : Addr} {od_unescaped an_unescaped : Option Addr} {sl_unescaped : Array (Option Value)} {oc_unescaped kV_unescaped dc_unescaped pm_unescaped dV_unescaped cd_unescaped ct_unescaped : Value}
    {f_first_wrong_raw : Addr} {od_first_wrong_raw an_first_wrong_raw : Option Addr} {sl_first_wrong_raw : Array (Option Value)} {oc_first_wrong_raw kV_first_wrong_raw dc_first_wrong_raw pm_first_wrong_raw dV_first_wrong_raw cd_first_wrong_raw ct_first_wrong_raw : Value}
    {f_is_between : Addr} {od_is_between an_is_between : Option Addr} {sl_is_between : Array (Option Value)} {oc_is_between kV_is_between dc_is_between pm_is_between dV_is_between cd_is_between ct_is_between : Value}
    {f_check_number : Addr} {od_check_number an_check_number : Option Addr} {sl_check_number : Array (Option Value)} {oc_check_number kV_check_number dc_check_number pm_check_number dV_check_number cd_check_number ct_check_number : Value}
    {f__law_mixed : Addr} {od__law_mixed an__law_mixed : Option Addr} {sl__law_mixed : Array (Option Value)} {oc__law_mixed kV__law_mixed dc__law_mixed pm__law_mixed cd__law_mixed ct__law_mixed : Value}
    {f__law_stream : Addr} {od__law_stream an__law_stream : Option Addr} {sl__law_stream : Array (Option Value)} {oc__law_stream kV__law_stream dc__law_stream pm__law_stream cd__law_stream ct__law_stream : Value}
    {f__law_draw : Addr} {od__law_draw an__law_draw : Option Addr} {sl__law_draw : Array (Option Value)} {oc__law_draw kV__law_draw dc__law_draw pm__law_draw cd__law_draw ct__law_draw : Value}
    {f__law_signs : Addr} {od__law_signs an__law_signs : Option Addr} {sl__law_signs : Array (Option Value)} {oc__law_signs kV__law_signs dc__law_signs pm__law_signs cd__law_signs ct__law_signs : Value}
    {f__law_pick : Addr} {od__law_pick an__law_pick : Option Addr} {sl__law_pick : Array (Option Value)} {oc__law_pick kV__law_pick dc__law_pick pm__law_pick cd__law_pick ct__law_pick : Value}
    {f__law_told : Addr} {od__law_told an__law_told : Option Addr} {sl__law_told : Array (Option Value)} {oc__law_told kV__law_told dc__law_told pm__law_told cd__law_told ct__law_told : Value}
    {f__law_five : Addr} {od__law_five an__law_five : Option Addr} {sl__law_five : Array (Option Value)} {oc__law_five kV__law_five dc__law_five pm__law_five cd__law_five ct__law_five : Value}
    {f__law_digits : Addr} {od__law_digits an__law_digits : Option Addr} {sl__law_digits : Array (Option Value)} {oc__law_digits kV__law_digits dc__law_digits pm__law_digits cd__law_digits ct__law_digits : Value}
    {f__law_table : Addr} {od__law_table an__law_table : Option Addr} {sl__law_table : Array (Option Value)} {oc__law_table kV__law_table dc__law_table pm__law_table cd__law_table ct__law_table : Value}
    {f__law_number_end : Addr} {od__law_number_end an__law_number_end : Option Addr} {sl__law_number_end : Array (Option Value)} {oc__law_number_end kV__law_number_end dc__law_number_end pm__law_number_end cd__law_number_end ct__law_number_end : Value}
    {f__law_reference_end : Addr} {od__law_reference_end an__law_reference_end : Option Addr} {sl__law_reference_end : Array (Option Value)} {oc__law_reference_end kV__law_reference_end dc__law_reference_end pm__law_reference_end cd__law_reference_end ct__law_reference_end : Value}
    {f__law_read : Addr} {od__law_read an__law_read : Option Addr} {sl__law_read : Array (Option Value)} {oc__law_read kV__law_read dc__law_read pm__law_read cd__law_read ct__law_read : Value}
    {f__law_piece : Addr} {od__law_piece an__law_piece : Option Addr} {sl__law_piece : Array (Option Value)} {oc__law_piece kV__law_piece dc__law_piece pm__law_piece cd__law_piece ct__law_piece : Value}
    {f__law_collected : Addr} {od__law_collected an__law_collected : Option Addr} {sl__law_collected : Array (Option Value)} {oc__law_collected kV__law_collected dc__law_collected pm__law_collected cd__law_collected ct__law_collected : Value}
    {f__law_right : Addr} {od__law_right an__law_right : Option Addr} {sl__law_right : Array (Option Value)} {oc__law_right kV__law_right dc__law_right pm__law_right ct__law_right : Value}
    {cL__law_right P__law_right : Addr}
    {f__law_taken_right : Addr} {od__law_taken_right an__law_taken_right : Option Addr} {sl__law_taken_right : Array (Option Value)} {oc__law_taken_right kV__law_taken_right dc__law_taken_right pm__law_taken_right cd__law_taken_right ct__law_taken_right : Value}
    {f__law_refused_right : Addr} {od__law_refused_right an__law_refused_right : Option Addr} {sl__law_refused_right : Array (Option Value)} {oc__law_refused_right kV__law_refused_right dc__law_refused_right pm__law_refused_right ct__law_refused_right : Value}
    {cL__law_refused_right P__law_refused_right : Addr}
    {f_law : Addr} {od_law an_law : Option Addr} {sl_law : Array (Option Value)} {oc_law kV_law dc_law pm_law cd_law ct_law : Value}
    {t_DIGITS : Tok}
    {t_HEXADECIMAL : Tok}
    {t_ORDERED : Tok}
    {t_SIGNS : Tok}
    {C_IllFormed : Addr}
    {C_InvalidText : Addr}
    {C_InvalidKind : Addr}
    {C_InvalidNumber : Addr}
    {C_MarkupError : Addr}
    {C_MarkupStateError : Addr}
    {C_LimitError : Addr}
    {C_Cursor : Addr}
    {nmE_IllFormed : _} {qnE_IllFormed : _} {NSE_IllFormed : _} {bsE_IllFormed : _} {snE_IllFormed : _} {subE_IllFormed : _} {abE_IllFormed : _} {colE_IllFormed : _} {ddE_IllFormed : _} {k0E_IllFormed : _} {k1E_IllFormed : _} {k2E_IllFormed : _} {k3E_IllFormed : _} {k5E_IllFormed : _}
    {I_IllFormed : Addr} {odI_IllFormed anI_IllFormed : Option Addr} {slI_IllFormed : Array (Option Value)} {ocI_IllFormed kVI_IllFormed dcI_IllFormed pmI_IllFormed cdI_IllFormed ctI_IllFormed : Value}
    {nmE_InvalidText : _} {qnE_InvalidText : _} {NSE_InvalidText : _} {bsE_InvalidText : _} {snE_InvalidText : _} {subE_InvalidText : _} {abE_InvalidText : _} {colE_InvalidText : _} {ddE_InvalidText : _} {k0E_InvalidText : _} {k1E_InvalidText : _} {k2E_InvalidText : _} {k3E_InvalidText : _} {k5E_InvalidText : _}
    {I_InvalidText : Addr} {odI_InvalidText anI_InvalidText : Option Addr} {slI_InvalidText : Array (Option Value)} {ocI_InvalidText kVI_InvalidText dcI_InvalidText pmI_InvalidText cdI_InvalidText ctI_InvalidText : Value}
    {nmE_InvalidKind : _} {qnE_InvalidKind : _} {NSE_InvalidKind : _} {bsE_InvalidKind : _} {snE_InvalidKind : _} {subE_InvalidKind : _} {abE_InvalidKind : _} {colE_InvalidKind : _} {ddE_InvalidKind : _} {k0E_InvalidKind : _} {k1E_InvalidKind : _} {k2E_InvalidKind : _} {k3E_InvalidKind : _} {k5E_InvalidKind : _}
    {I_InvalidKind : Addr} {odI_InvalidKind anI_InvalidKind : Option Addr} {slI_InvalidKind : Array (Option Value)} {ocI_InvalidKind kVI_InvalidKind dcI_InvalidKind pmI_InvalidKind cdI_InvalidKind ctI_InvalidKind : Value}
    {nmE_InvalidNumber : _} {qnE_InvalidNumber : _} {NSE_InvalidNumber : _} {bsE_InvalidNumber : _} {snE_InvalidNumber : _} {subE_InvalidNumber : _} {abE_InvalidNumber : _} {colE_InvalidNumber : _} {ddE_InvalidNumber : _} {k0E_InvalidNumber : _} {k1E_InvalidNumber : _} {k2E_InvalidNumber : _} {k3E_InvalidNumber : _} {k5E_InvalidNumber : _}
    {I_InvalidNumber : Addr} {odI_InvalidNumber anI_InvalidNumber : Option Addr} {slI_InvalidNumber : Array (Option Value)} {ocI_InvalidNumber kVI_InvalidNumber dcI_InvalidNumber pmI_InvalidNumber cdI_InvalidNumber ctI_InvalidNumber : Value}
    (tb__law_right : PySem.W.CodeHd h cL__law_right P__law_right)
    (tg__law_right : h.get? P__law_right = some { cls := .none, data := .fields #[] })
    (np__law_right : K.lookup P__law_right = none)
    (hu__law_right : ∀ p ∈ ([(P__law_right, "_law_right.<locals>.<lambda>"), (P__law_refused_right, "_law_refused_right.<locals>.<lambda>")] : List (Addr × Str)), p.1 = P__law_right → p.2 = ("_law_right.<locals>.<lambda>" : Str))
    (tb__law_refused_right : PySem.W.CodeHd h cL__law_refused_right P__law_refused_right)
    (tg__law_refused_right : h.get? P__law_refused_right = some { cls := .none, data := .fields #[] })
    (np__law_refused_right : K.lookup P__law_refused_right = none)
    (hu__law_refused_right : ∀ p ∈ ([(P__law_right, "_law_right.<locals>.<lambda>"), (P__law_refused_right, "_law_refused_right.<locals>.<lambda>")] : List (Addr × Str)), p.1 = P__law_refused_right → p.2 = ("_law_refused_right.<locals>.<lambda>" : Str))
    (a_shortened : PySem.W.nsIn K mainGlobals "shortened" = some (some (.ref f_shortened)))
    (l_shortened : K.lookup f_shortened = some ⟨oc_shortened, od_shortened, .func (PySem.W.fnOf "shortened" "shortened" (defArgs s_shortened) (defBody s_shortened) (defScope s_shortened) .none kV_shortened dc_shortened pm_shortened an_shortened cd_shortened ct_shortened), sl_shortened⟩)
    (c_shortened : PySem.W.codeIn K cd_shortened "shortened" = true)
    (k_shortened : PySem.W.keepIn K (.ref f_shortened) = true)
    (a_value_of : PySem.W.nsIn K mainGlobals "value_of" = some (some (.ref f_value_of)))
    (l_value_of : K.lookup f_value_of = some ⟨oc_value_of, od_value_of, .func (PySem.W.fnOf "value_of" "value_of" (defArgs s_value_of) (defBody s_value_of) (defScope s_value_of) .none kV_value_of dc_value_of pm_value_of an_value_of cd_value_of ct_value_of), sl_value_of⟩)
    (c_value_of : PySem.W.codeIn K cd_value_of "value_of" = true)
    (k_value_of : PySem.W.keepIn K (.ref f_value_of) = true)
    (a_is_code : PySem.W.nsIn K mainGlobals "is_code" = some (some (.ref f_is_code)))
    (l_is_code : K.lookup f_is_code = some ⟨oc_is_code, od_is_code, .func (PySem.W.fnOf "is_code" "is_code" (defArgs s_is_code) (defBody s_is_code) (defScope s_is_code) .none kV_is_code dc_is_code pm_is_code an_is_code cd_is_code ct_is_code), sl_is_code⟩)
    (c_is_code : PySem.W.codeIn K cd_is_code "is_code" = true)
    (k_is_code : PySem.W.keepIn K (.ref f_is_code) = true)
    (a_is_number_part : PySem.W.nsIn K mainGlobals "is_number_part" = some (some (.ref f_is_number_part)))
    (l_is_number_part : K.lookup f_is_number_part = some ⟨oc_is_number_part, od_is_number_part, .func (PySem.W.fnOf "is_number_part" "is_number_part" (defArgs s_is_number_part) (defBody s_is_number_part) (defScope s_is_number_part) .none kV_is_number_part dc_is_number_part pm_is_number_part an_is_number_part cd_is_number_part ct_is_number_part), sl_is_number_part⟩)
    (c_is_number_part : PySem.W.codeIn K cd_is_number_part "is_number_part" = true)
    (k_is_number_part : PySem.W.keepIn K (.ref f_is_number_part) = true)
    (a_character_of : PySem.W.nsIn K mainGlobals "character_of" = some (some (.ref f_character_of)))
    (l_character_of : K.lookup f_character_of = some ⟨oc_character_of, od_character_of, .func (PySem.W.fnOf "character_of" "character_of" (defArgs s_character_of) (defBody s_character_of) (defScope s_character_of) .none kV_character_of dc_character_of pm_character_of an_character_of cd_character_of ct_character_of), sl_character_of⟩)
    (c_character_of : PySem.W.codeIn K cd_character_of "character_of" = true)
    (k_character_of : PySem.W.keepIn K (.ref f_character_of) = true)
    (a_spaced : PySem.W.nsIn K mainGlobals "spaced" = some (some (.ref f_spaced)))
    (l_spaced : K.lookup f_spaced = some ⟨oc_spaced, od_spaced, .func (PySem.W.fnOf "spaced" "spaced" (defArgs s_spaced) (defBody s_spaced) (defScope s_spaced) .none kV_spaced dc_spaced pm_spaced an_spaced cd_spaced ct_spaced), sl_spaced⟩)
    (c_spaced : PySem.W.codeIn K cd_spaced "spaced" = true)
    (k_spaced : PySem.W.keepIn K (.ref f_spaced) = true)
    (a_check_text : PySem.W.nsIn K mainGlobals "check_text" = some (some (.ref f_check_text)))
    (l_check_text : K.lookup f_check_text = some ⟨oc_check_text, od_check_text, .func (PySem.W.fnOf "check_text" "check_text" (defArgs s_check_text) (defBody s_check_text) (defScope s_check_text) .none kV_check_text dc_check_text pm_check_text an_check_text cd_check_text ct_check_text), sl_check_text⟩)
    (c_check_text : PySem.W.codeIn K cd_check_text "check_text" = true)
    (k_check_text : PySem.W.keepIn K (.ref f_check_text) = true)
    (a_check_raw : PySem.W.nsIn K mainGlobals "check_raw" = some (some (.ref f_check_raw)))
    (l_check_raw : K.lookup f_check_raw = some ⟨oc_check_raw, od_check_raw, .func (PySem.W.fnOf "check_raw" "check_raw" (defArgs s_check_raw) (defBody s_check_raw) (defScope s_check_raw) .none kV_check_raw dc_check_raw pm_check_raw an_check_raw cd_check_raw ct_check_raw), sl_check_raw⟩)
    (c_check_raw : PySem.W.codeIn K cd_check_raw "check_raw" = true)
    (k_check_raw : PySem.W.keepIn K (.ref f_check_raw) = true)
    (a_number_at : PySem.W.nsIn K mainGlobals "number_at" = some (some (.ref f_number_at)))
    (l_number_at : K.lookup f_number_at = some ⟨oc_number_at, od_number_at, .func (PySem.W.fnOf "number_at" "number_at" (defArgs s_number_at) (defBody s_number_at) (defScope s_number_at) .none kV_number_at dc_number_at pm_number_at an_number_at cd_number_at ct_number_at), sl_number_at⟩)
    (c_number_at : PySem.W.codeIn K cd_number_at "number_at" = true)
    (k_number_at : PySem.W.keepIn K (.ref f_number_at) = true)
    (a_reference_at : PySem.W.nsIn K mainGlobals "reference_at" = some (some (.ref f_reference_at)))
    (l_reference_at : K.lookup f_reference_at = some ⟨oc_reference_at, od_reference_at, .func (PySem.W.fnOf "reference_at" "reference_at" (defArgs s_reference_at) (defBody s_reference_at) (defScope s_reference_at) .none kV_reference_at dc_reference_at pm_reference_at an_reference_at cd_reference_at ct_reference_at), sl_reference_at⟩)
    (c_reference_at : PySem.W.codeIn K cd_reference_at "reference_at" = true)
    (k_reference_at : PySem.W.keepIn K (.ref f_reference_at) = true)
    (a_units : PySem.W.nsIn K mainGlobals "units" = some (some (.ref f_units)))
    (l_units : K.lookup f_units = some ⟨oc_units, od_units, .func (PySem.W.fnOf "units" "units" (defArgs s_units) (defBody s_units) (defScope s_units) dV_units kV_units dc_units pm_units an_units cd_units ct_units), sl_units⟩)
    (q1_dfl_units : He.dflB K dV_units [.str ""] = true)
    (c_units : PySem.W.codeIn K cd_units "units" = true)
    (k_units : PySem.W.keepIn K (.ref f_units) = true)
    (a_unescaped : PySem.W.nsIn K mainGlobals "unescaped" = some (some (.ref f_unescaped)))
    (l_unescaped : K.lookup f_unescaped = some ⟨oc_unescaped, od_unescaped, .func (PySem.W.fnOf "unescaped" "unescaped" (defArgs s_unescaped) (defBody s_unescaped) (defScope s_unescaped) dV_unescaped kV_unescaped dc_unescaped pm_unescaped an_unescaped cd_unescaped ct_unescaped), sl_unescaped⟩)
    (q1_dfl_unescaped : He.dflB K dV_unescaped [.str ""] = true)
    (c_unescaped : PySem.W.codeIn K cd_unescaped "unescaped" = true)
    (k_unescaped : PySem.W.keepIn K (.ref f_unescaped) = true)
    (a_first_wrong_raw : PySem.W.nsIn K mainGlobals "first_wrong_raw" = some (some (.ref f_first_wrong_raw)))
    (l_first_wrong_raw : K.lookup f_first_wrong_raw = some ⟨oc_first_wrong_raw, od_first_wrong_raw, .func (PySem.W.fnOf "first_wrong_raw" "first_wrong_raw" (defArgs s_first_wrong_raw) (defBody s_first_wrong_raw) (defScope s_first_wrong_raw) dV_first_wrong_raw kV_first_wrong_raw dc_first_wrong_raw pm_first_wrong_raw an_first_wrong_raw cd_first_wrong_raw ct_first_wrong_raw), sl_first_wrong_raw⟩)
    (q1_dfl_first_wrong_raw : He.dflB K dV_first_wrong_raw [.str ""] = true)
    (c_first_wrong_raw : PySem.W.codeIn K cd_first_wrong_raw "first_wrong_raw" = true)
    (k_first_wrong_raw : PySem.W.keepIn K (.ref f_first_wrong_raw) = true)
    (a_is_between : PySem.W.nsIn K mainGlobals "is_between" = some (some (.ref f_is_between)))
    (l_is_between : K.lookup f_is_between = some ⟨oc_is_between, od_is_between, .func (PySem.W.fnOf "is_between" "is_between" (defArgs s_is_between) (defBody s_is_between) (defScope s_is_between) dV_is_between kV_is_between dc_is_between pm_is_between an_is_between cd_is_between ct_is_between), sl_is_between⟩)
    (q1_dfl_is_between : He.dflB K dV_is_between [.non] = true)
    (c_is_between : PySem.W.codeIn K cd_is_between "is_between" = true)
    (k_is_between : PySem.W.keepIn K (.ref f_is_between) = true)
    (a_check_number : PySem.W.nsIn K mainGlobals "check_number" = some (some (.ref f_check_number)))
    (l_check_number : K.lookup f_check_number = some ⟨oc_check_number, od_check_number, .func (PySem.W.fnOf "check_number" "check_number" (defArgs s_check_number) (defBody s_check_number) (defScope s_check_number) dV_check_number kV_check_number dc_check_number pm_check_number an_check_number cd_check_number ct_check_number), sl_check_number⟩)
    (q1_dfl_check_number : He.dflB K dV_check_number [.non] = true)
    (c_check_number : PySem.W.codeIn K cd_check_number "check_number" = true)
    (k_check_number : PySem.W.keepIn K (.ref f_check_number) = true)
    (a__law_mixed : PySem.W.nsIn K mainGlobals "_law_mixed" = some (some (.ref f__law_mixed)))
    (l__law_mixed : K.lookup f__law_mixed = some ⟨oc__law_mixed, od__law_mixed, .func (PySem.W.fnOf "_law_mixed" "_law_mixed" (defArgs s__law_mixed) (defBody s__law_mixed) (defScope s__law_mixed) .none kV__law_mixed dc__law_mixed pm__law_mixed an__law_mixed cd__law_mixed ct__law_mixed), sl__law_mixed⟩)
    (c__law_mixed : PySem.W.codeIn K cd__law_mixed "_law_mixed" = true)
    (k__law_mixed : PySem.W.keepIn K (.ref f__law_mixed) = true)
    (a__law_stream : PySem.W.nsIn K mainGlobals "_law_stream" = some (some (.ref f__law_stream)))
    (l__law_stream : K.lookup f__law_stream = some ⟨oc__law_stream, od__law_stream, .func (PySem.W.fnOf "_law_stream" "_law_stream" (defArgs s__law_stream) (defBody s__law_stream) (defScope s__law_stream) .none kV__law_stream dc__law_stream pm__law_stream an__law_stream cd__law_stream ct__law_stream), sl__law_stream⟩)
    (c__law_stream : PySem.W.codeIn K cd__law_stream "_law_stream" = true)
    (k__law_stream : PySem.W.keepIn K (.ref f__law_stream) = true)
    (a__law_draw : PySem.W.nsIn K mainGlobals "_law_draw" = some (some (.ref f__law_draw)))
    (l__law_draw : K.lookup f__law_draw = some ⟨oc__law_draw, od__law_draw, .func (PySem.W.fnOf "_law_draw" "_law_draw" (defArgs s__law_draw) (defBody s__law_draw) (defScope s__law_draw) .none kV__law_draw dc__law_draw pm__law_draw an__law_draw cd__law_draw ct__law_draw), sl__law_draw⟩)
    (c__law_draw : PySem.W.codeIn K cd__law_draw "_law_draw" = true)
    (k__law_draw : PySem.W.keepIn K (.ref f__law_draw) = true)
    (a__law_signs : PySem.W.nsIn K mainGlobals "_law_signs" = some (some (.ref f__law_signs)))
    (l__law_signs : K.lookup f__law_signs = some ⟨oc__law_signs, od__law_signs, .func (PySem.W.fnOf "_law_signs" "_law_signs" (defArgs s__law_signs) (defBody s__law_signs) (defScope s__law_signs) .none kV__law_signs dc__law_signs pm__law_signs an__law_signs cd__law_signs ct__law_signs), sl__law_signs⟩)
    (c__law_signs : PySem.W.codeIn K cd__law_signs "_law_signs" = true)
    (k__law_signs : PySem.W.keepIn K (.ref f__law_signs) = true)
    (a__law_pick : PySem.W.nsIn K mainGlobals "_law_pick" = some (some (.ref f__law_pick)))
    (l__law_pick : K.lookup f__law_pick = some ⟨oc__law_pick, od__law_pick, .func (PySem.W.fnOf "_law_pick" "_law_pick" (defArgs s__law_pick) (defBody s__law_pick) (defScope s__law_pick) .none kV__law_pick dc__law_pick pm__law_pick an__law_pick cd__law_pick ct__law_pick), sl__law_pick⟩)
    (c__law_pick : PySem.W.codeIn K cd__law_pick "_law_pick" = true)
    (k__law_pick : PySem.W.keepIn K (.ref f__law_pick) = true)
    (a__law_told : PySem.W.nsIn K mainGlobals "_law_told" = some (some (.ref f__law_told)))
    (l__law_told : K.lookup f__law_told = some ⟨oc__law_told, od__law_told, .func (PySem.W.fnOf "_law_told" "_law_told" (defArgs s__law_told) (defBody s__law_told) (defScope s__law_told) .none kV__law_told dc__law_told pm__law_told an__law_told cd__law_told ct__law_told), sl__law_told⟩)
    (c__law_told : PySem.W.codeIn K cd__law_told "_law_told" = true)
    (k__law_told : PySem.W.keepIn K (.ref f__law_told) = true)
    (a__law_five : PySem.W.nsIn K mainGlobals "_law_five" = some (some (.ref f__law_five)))
    (l__law_five : K.lookup f__law_five = some ⟨oc__law_five, od__law_five, .func (PySem.W.fnOf "_law_five" "_law_five" (defArgs s__law_five) (defBody s__law_five) (defScope s__law_five) .none kV__law_five dc__law_five pm__law_five an__law_five cd__law_five ct__law_five), sl__law_five⟩)
    (c__law_five : PySem.W.codeIn K cd__law_five "_law_five" = true)
    (k__law_five : PySem.W.keepIn K (.ref f__law_five) = true)
    (a__law_digits : PySem.W.nsIn K mainGlobals "_law_digits" = some (some (.ref f__law_digits)))
    (l__law_digits : K.lookup f__law_digits = some ⟨oc__law_digits, od__law_digits, .func (PySem.W.fnOf "_law_digits" "_law_digits" (defArgs s__law_digits) (defBody s__law_digits) (defScope s__law_digits) .none kV__law_digits dc__law_digits pm__law_digits an__law_digits cd__law_digits ct__law_digits), sl__law_digits⟩)
    (c__law_digits : PySem.W.codeIn K cd__law_digits "_law_digits" = true)
    (k__law_digits : PySem.W.keepIn K (.ref f__law_digits) = true)
    (a__law_table : PySem.W.nsIn K mainGlobals "_law_table" = some (some (.ref f__law_table)))
    (l__law_table : K.lookup f__law_table = some ⟨oc__law_table, od__law_table, .func (PySem.W.fnOf "_law_table" "_law_table" (defArgs s__law_table) (defBody s__law_table) (defScope s__law_table) .none kV__law_table dc__law_table pm__law_table an__law_table cd__law_table ct__law_table), sl__law_table⟩)
    (c__law_table : PySem.W.codeIn K cd__law_table "_law_table" = true)
    (k__law_table : PySem.W.keepIn K (.ref f__law_table) = true)
    (a__law_number_end : PySem.W.nsIn K mainGlobals "_law_number_end" = some (some (.ref f__law_number_end)))
    (l__law_number_end : K.lookup f__law_number_end = some ⟨oc__law_number_end, od__law_number_end, .func (PySem.W.fnOf "_law_number_end" "_law_number_end" (defArgs s__law_number_end) (defBody s__law_number_end) (defScope s__law_number_end) .none kV__law_number_end dc__law_number_end pm__law_number_end an__law_number_end cd__law_number_end ct__law_number_end), sl__law_number_end⟩)
    (c__law_number_end : PySem.W.codeIn K cd__law_number_end "_law_number_end" = true)
    (k__law_number_end : PySem.W.keepIn K (.ref f__law_number_end) = true)
    (a__law_reference_end : PySem.W.nsIn K mainGlobals "_law_reference_end" = some (some (.ref f__law_reference_end)))
    (l__law_reference_end : K.lookup f__law_reference_end = some ⟨oc__law_reference_end, od__law_reference_end, .func (PySem.W.fnOf "_law_reference_end" "_law_reference_end" (defArgs s__law_reference_end) (defBody s__law_reference_end) (defScope s__law_reference_end) .none kV__law_reference_end dc__law_reference_end pm__law_reference_end an__law_reference_end cd__law_reference_end ct__law_reference_end), sl__law_reference_end⟩)
    (c__law_reference_end : PySem.W.codeIn K cd__law_reference_end "_law_reference_end" = true)
    (k__law_reference_end : PySem.W.keepIn K (.ref f__law_reference_end) = true)
    (a__law_read : PySem.W.nsIn K mainGlobals "_law_read" = some (some (.ref f__law_read)))
    (l__law_read : K.lookup f__law_read = some ⟨oc__law_read, od__law_read, .func (PySem.W.fnOf "_law_read" "_law_read" (defArgs s__law_read) (defBody s__law_read) (defScope s__law_read) .none kV__law_read dc__law_read pm__law_read an__law_read cd__law_read ct__law_read), sl__law_read⟩)
    (c__law_read : PySem.W.codeIn K cd__law_read "_law_read" = true)
    (k__law_read : PySem.W.keepIn K (.ref f__law_read) = true)
    (a__law_piece : PySem.W.nsIn K mainGlobals "_law_piece" = some (some (.ref f__law_piece)))
    (l__law_piece : K.lookup f__law_piece = some ⟨oc__law_piece, od__law_piece, .func (PySem.W.fnOf "_law_piece" "_law_piece" (defArgs s__law_piece) (defBody s__law_piece) (defScope s__law_piece) .none kV__law_piece dc__law_piece pm__law_piece an__law_piece cd__law_piece ct__law_piece), sl__law_piece⟩)
    (c__law_piece : PySem.W.codeIn K cd__law_piece "_law_piece" = true)
    (k__law_piece : PySem.W.keepIn K (.ref f__law_piece) = true)
    (a__law_collected : PySem.W.nsIn K mainGlobals "_law_collected" = some (some (.ref f__law_collected)))
    (l__law_collected : K.lookup f__law_collected = some ⟨oc__law_collected, od__law_collected, .func (PySem.W.fnOf "_law_collected" "_law_collected" (defArgs s__law_collected) (defBody s__law_collected) (defScope s__law_collected) .none kV__law_collected dc__law_collected pm__law_collected an__law_collected cd__law_collected ct__law_collected), sl__law_collected⟩)
    (c__law_collected : PySem.W.codeIn K cd__law_collected "_law_collected" = true)
    (k__law_collected : PySem.W.keepIn K (.ref f__law_collected) = true)
    (a__law_right : PySem.W.nsIn K mainGlobals "_law_right" = some (some (.ref f__law_right)))
    (l__law_right : K.lookup f__law_right = some ⟨oc__law_right, od__law_right, .func (PySem.W.fnOf "_law_right" "_law_right" (defArgs s__law_right) (defBody s__law_right) (defScope s__law_right) .none kV__law_right dc__law_right pm__law_right an__law_right (.ref cL__law_right) ct__law_right), sl__law_right⟩)
    (c__law_right : PySem.W.codeIn K (.ref cL__law_right) "_law_right" = true)
    (k__law_right : PySem.W.keepIn K (.ref f__law_right) = true)
    (a__law_taken_right : PySem.W.nsIn K mainGlobals "_law_taken_right" = some (some (.ref f__law_taken_right)))
    (l__law_taken_right : K.lookup f__law_taken_right = some ⟨oc__law_taken_right, od__law_taken_right, .func (PySem.W.fnOf "_law_taken_right" "_law_taken_right" (defArgs s__law_taken_right) (defBody s__law_taken_right) (defScope s__law_taken_right) .none kV__law_taken_right dc__law_taken_right pm__law_taken_right an__law_taken_right cd__law_taken_right ct__law_taken_right), sl__law_taken_right⟩)
    (c__law_taken_right : PySem.W.codeIn K cd__law_taken_right "_law_taken_right" = true)
    (k__law_taken_right : PySem.W.keepIn K (.ref f__law_taken_right) = true)
    (a__law_refused_right : PySem.W.nsIn K mainGlobals "_law_refused_right" = some (some (.ref f__law_refused_right)))
    (l__law_refused_right : K.lookup f__law_refused_right = some ⟨oc__law_refused_right, od__law_refused_right, .func (PySem.W.fnOf "_law_refused_right" "_law_refused_right" (defArgs s__law_refused_right) (defBody s__law_refused_right) (defScope s__law_refused_right) .none kV__law_refused_right dc__law_refused_right pm__law_refused_right an__law_refused_right (.ref cL__law_refused_right) ct__law_refused_right), sl__law_refused_right⟩)
    (c__law_refused_right : PySem.W.codeIn K (.ref cL__law_refused_right) "_law_refused_right" = true)
    (k__law_refused_right : PySem.W.keepIn K (.ref f__law_refused_right) = true)
    (a_law : PySem.W.nsIn K mainGlobals "law" = some (some (.ref f_law)))
    (l_law : K.lookup f_law = some ⟨oc_law, od_law, .func (PySem.W.fnOf "law" "law" (defArgs s_law) (defBody s_law) (defScope s_law) .none kV_law dc_law pm_law an_law cd_law ct_law), sl_law⟩)
    (c_law : PySem.W.codeIn K cd_law "law" = true)
    (k_law : PySem.W.keepIn K (.ref f_law) = true)
    (n_isinstance : PySem.W.nsIn K mainGlobals "isinstance" = some none)
    (n_str : PySem.W.nsIn K mainGlobals "str" = some none)
    (n_int : PySem.W.nsIn K mainGlobals "int" = some none)
    (n_bool : PySem.W.nsIn K mainGlobals "bool" = some none)
    (n_len : PySem.W.nsIn K mainGlobals "len" = some none)
    (n_range : PySem.W.nsIn K mainGlobals "range" = some none)
    (n_any : PySem.W.nsIn K mainGlobals "any" = some none)
    (n_min : PySem.W.nsIn K mainGlobals "min" = some none)
    (n_ord : PySem.W.nsIn K mainGlobals "ord" = some none)
    (n_enumerate : PySem.W.nsIn K mainGlobals "enumerate" = some none)
    (n_list : PySem.W.nsIn K mainGlobals "list" = some none)
    (n_super : PySem.W.nsIn K mainGlobals "super" = some none)
    (n_repr : PySem.W.nsIn K mainGlobals "repr" = some none)
    (g_DIGITS : PySem.W.nsIn K mainGlobals "DIGITS" = some (some (.str "0123456789" t_DIGITS)))
    (g_HEXADECIMAL : PySem.W.nsIn K mainGlobals "HEXADECIMAL" = some (some (.str "0123456789abcdefABCDEF" t_HEXADECIMAL)))
    (g_ORDERED : PySem.W.nsIn K mainGlobals "ORDERED" = some (some (.str "0123456789ABCDEFabcdef" t_ORDERED)))
    (g_SIGNS : PySem.W.nsIn K mainGlobals "SIGNS" = some (some (.str Num.signsP t_SIGNS)))
    (b_IllFormed : PySem.W.nsIn K mainGlobals "IllFormed" = some (some (.ref C_IllFormed)))
    (b_InvalidText : PySem.W.nsIn K mainGlobals "InvalidText" = some (some (.ref C_InvalidText)))
    (b_InvalidKind : PySem.W.nsIn K mainGlobals "InvalidKind" = some (some (.ref C_InvalidKind)))
    (b_InvalidNumber : PySem.W.nsIn K mainGlobals "InvalidNumber" = some (some (.ref C_InvalidNumber)))
    (b_MarkupError : PySem.W.nsIn K mainGlobals "MarkupError" = some (some (.ref C_MarkupError)))
    (b_MarkupStateError : PySem.W.nsIn K mainGlobals "MarkupStateError" = some (some (.ref C_MarkupStateError)))
    (b_LimitError : PySem.W.nsIn K mainGlobals "LimitError" = some (some (.ref C_LimitError)))
    (b_Cursor : PySem.W.nsIn K mainGlobals "Cursor" = some (some (.ref C_Cursor)))
    (m1 : PySem.W.readsIn K C_MarkupError (.type "type") = true)
    (m2 : PySem.W.specialIn K (.ref C_MarkupError) "__getattribute__" = some (some (.builtin "type.__getattribute__")))
    (m3 : PySem.W.findCls K (.ref C_MarkupError) (.type "type") "__init__" = some (.val (.builtin "ValueError.__init__")))
    (u1 : PySem.W.specialIn K (.builtin "object.__class__") "__get__" = some (some (.builtin "getset_descriptor.__get__")))
    (u2 : PySem.W.takesIn K (.builtin "object.__class__") = some true)
    (o1_IllFormed : K.lookup C_IllFormed = some (excClassObj nmE_IllFormed qnE_IllFormed C_IllFormed NSE_IllFormed bsE_IllFormed [.ref C_MarkupError, .type "ValueError", .type "Exception", .type "BaseException", .type "object"] true snE_IllFormed subE_IllFormed abE_IllFormed colE_IllFormed ddE_IllFormed k0E_IllFormed k1E_IllFormed k2E_IllFormed k3E_IllFormed k5E_IllFormed "ValueError.__new__"))
    (o2_IllFormed : PySem.W.findIn K (.ref C_IllFormed) "__setattr__" = some (some (.builtin "object.__setattr__")))
    (o3_IllFormed : PySem.W.subIn K (.ref C_IllFormed) (.type "BaseException") = some true)
    (o4_IllFormed : PySem.W.typeIn K (.ref C_IllFormed) = some (.type "type"))
    (o5_IllFormed : PySem.W.keepIn K (.ref C_IllFormed) = true)
    (i1_IllFormed : PySem.W.findIn K (.ref C_IllFormed) "__init__" = some (some (.ref I_IllFormed)))
    (i2_IllFormed : PySem.W.typeIn K (.ref I_IllFormed) = some (.type "function"))
    (i3_IllFormed : K.lookup I_IllFormed = some ⟨ocI_IllFormed, odI_IllFormed, .func (PySem.W.fnOf "__init__" "IllFormed.__init__" (defArgs s_IllFormed___init__) (defBody s_IllFormed___init__) (defScope s_IllFormed___init__) .none kVI_IllFormed dcI_IllFormed pmI_IllFormed anI_IllFormed cdI_IllFormed ctI_IllFormed), slI_IllFormed⟩)
    (i4_IllFormed : PySem.W.codeIn K cdI_IllFormed "IllFormed.__init__" = true)
    (i5_IllFormed : PySem.W.keepIn K (.ref I_IllFormed) = true)
    (i6_IllFormed : PySem.W.findIn K (.ref C_IllFormed) "position" = some none)
    (q1_IllFormed : (PySem.W.clsIn K C_IllFormed).isSome = true)
    (q2_IllFormed : PySem.W.findIn K (.ref C_IllFormed) "__getattribute__" = some (some (.builtin "BaseException.__getattribute__")))
    (q3_IllFormed : PySem.W.findIn K (.ref C_IllFormed) "__getattr__" = some none)
    (q4_IllFormed : PySem.W.findIn K (.ref C_IllFormed) "__class__" = some (some (.builtin "object.__class__")))
    (q5_IllFormed : PySem.W.mroIn K C_IllFormed (.type "object") = some true)
    (q6_IllFormed : PySem.W.hasDictIn K C_IllFormed = true)
    (o1_InvalidText : K.lookup C_InvalidText = some (excClassObj nmE_InvalidText qnE_InvalidText C_InvalidText NSE_InvalidText bsE_InvalidText [.ref C_MarkupError, .type "ValueError", .type "Exception", .type "BaseException", .type "object"] true snE_InvalidText subE_InvalidText abE_InvalidText colE_InvalidText ddE_InvalidText k0E_InvalidText k1E_InvalidText k2E_InvalidText k3E_InvalidText k5E_InvalidText "ValueError.__new__"))
    (o2_InvalidText : PySem.W.findIn K (.ref C_InvalidText) "__setattr__" = some (some (.builtin "object.__setattr__")))
    (o3_InvalidText : PySem.W.subIn K (.ref C_InvalidText) (.type "BaseException") = some true)
    (o4_InvalidText : PySem.W.typeIn K (.ref C_InvalidText) = some (.type "type"))
    (o5_InvalidText : PySem.W.keepIn K (.ref C_InvalidText) = true)
    (i1_InvalidText : PySem.W.findIn K (.ref C_InvalidText) "__init__" = some (some (.ref I_InvalidText)))
    (i2_InvalidText : PySem.W.typeIn K (.ref I_InvalidText) = some (.type "function"))
    (i3_InvalidText : K.lookup I_InvalidText = some ⟨ocI_InvalidText, odI_InvalidText, .func (PySem.W.fnOf "__init__" "InvalidText.__init__" (defArgs s_InvalidText___init__) (defBody s_InvalidText___init__) (defScope s_InvalidText___init__) .none kVI_InvalidText dcI_InvalidText pmI_InvalidText anI_InvalidText cdI_InvalidText ctI_InvalidText), slI_InvalidText⟩)
    (i4_InvalidText : PySem.W.codeIn K cdI_InvalidText "InvalidText.__init__" = true)
    (i5_InvalidText : PySem.W.keepIn K (.ref I_InvalidText) = true)
    (i6_InvalidText : PySem.W.findIn K (.ref C_InvalidText) "index" = some none)
    (q1_InvalidText : (PySem.W.clsIn K C_InvalidText).isSome = true)
    (q2_InvalidText : PySem.W.findIn K (.ref C_InvalidText) "__getattribute__" = some (some (.builtin "BaseException.__getattribute__")))
    (q3_InvalidText : PySem.W.findIn K (.ref C_InvalidText) "__getattr__" = some none)
    (q4_InvalidText : PySem.W.findIn K (.ref C_InvalidText) "__class__" = some (some (.builtin "object.__class__")))
    (q5_InvalidText : PySem.W.mroIn K C_InvalidText (.type "object") = some true)
    (q6_InvalidText : PySem.W.hasDictIn K C_InvalidText = true)
    (o1_InvalidKind : K.lookup C_InvalidKind = some (excClassObj nmE_InvalidKind qnE_InvalidKind C_InvalidKind NSE_InvalidKind bsE_InvalidKind [.ref C_MarkupError, .type "ValueError", .type "Exception", .type "BaseException", .type "object"] true snE_InvalidKind subE_InvalidKind abE_InvalidKind colE_InvalidKind ddE_InvalidKind k0E_InvalidKind k1E_InvalidKind k2E_InvalidKind k3E_InvalidKind k5E_InvalidKind "ValueError.__new__"))
    (o2_InvalidKind : PySem.W.findIn K (.ref C_InvalidKind) "__setattr__" = some (some (.builtin "object.__setattr__")))
    (o3_InvalidKind : PySem.W.subIn K (.ref C_InvalidKind) (.type "BaseException") = some true)
    (o4_InvalidKind : PySem.W.typeIn K (.ref C_InvalidKind) = some (.type "type"))
    (o5_InvalidKind : PySem.W.keepIn K (.ref C_InvalidKind) = true)
    (i1_InvalidKind : PySem.W.findIn K (.ref C_InvalidKind) "__init__" = some (some (.ref I_InvalidKind)))
    (i2_InvalidKind : PySem.W.typeIn K (.ref I_InvalidKind) = some (.type "function"))
    (i3_InvalidKind : K.lookup I_InvalidKind = some ⟨ocI_InvalidKind, odI_InvalidKind, .func (PySem.W.fnOf "__init__" "InvalidKind.__init__" (defArgs s_InvalidKind___init__) (defBody s_InvalidKind___init__) (defScope s_InvalidKind___init__) .none kVI_InvalidKind dcI_InvalidKind pmI_InvalidKind anI_InvalidKind cdI_InvalidKind ctI_InvalidKind), slI_InvalidKind⟩)
    (i4_InvalidKind : PySem.W.codeIn K cdI_InvalidKind "InvalidKind.__init__" = true)
    (i5_InvalidKind : PySem.W.keepIn K (.ref I_InvalidKind) = true)
    (i6_InvalidKind : PySem.W.findIn K (.ref C_InvalidKind) "kind" = some none)
    (q1_InvalidKind : (PySem.W.clsIn K C_InvalidKind).isSome = true)
    (q2_InvalidKind : PySem.W.findIn K (.ref C_InvalidKind) "__getattribute__" = some (some (.builtin "BaseException.__getattribute__")))
    (q3_InvalidKind : PySem.W.findIn K (.ref C_InvalidKind) "__getattr__" = some none)
    (q4_InvalidKind : PySem.W.findIn K (.ref C_InvalidKind) "__class__" = some (some (.builtin "object.__class__")))
    (q5_InvalidKind : PySem.W.mroIn K C_InvalidKind (.type "object") = some true)
    (q6_InvalidKind : PySem.W.hasDictIn K C_InvalidKind = true)
    (o1_InvalidNumber : K.lookup C_InvalidNumber = some (excClassObj nmE_InvalidNumber qnE_InvalidNumber C_InvalidNumber NSE_InvalidNumber bsE_InvalidNumber [.ref C_MarkupError, .type "ValueError", .type "Exception", .type "BaseException", .type "object"] true snE_InvalidNumber subE_InvalidNumber abE_InvalidNumber colE_InvalidNumber ddE_InvalidNumber k0E_InvalidNumber k1E_InvalidNumber k2E_InvalidNumber k3E_InvalidNumber k5E_InvalidNumber "ValueError.__new__"))
    (o2_InvalidNumber : PySem.W.findIn K (.ref C_InvalidNumber) "__setattr__" = some (some (.builtin "object.__setattr__")))
    (o3_InvalidNumber : PySem.W.subIn K (.ref C_InvalidNumber) (.type "BaseException") = some true)
    (o4_InvalidNumber : PySem.W.typeIn K (.ref C_InvalidNumber) = some (.type "type"))
    (o5_InvalidNumber : PySem.W.keepIn K (.ref C_InvalidNumber) = true)
    (i1_InvalidNumber : PySem.W.findIn K (.ref C_InvalidNumber) "__init__" = some (some (.ref I_InvalidNumber)))
    (i2_InvalidNumber : PySem.W.typeIn K (.ref I_InvalidNumber) = some (.type "function"))
    (i3_InvalidNumber : K.lookup I_InvalidNumber = some ⟨ocI_InvalidNumber, odI_InvalidNumber, .func (PySem.W.fnOf "__init__" "InvalidNumber.__init__" (defArgs s_InvalidNumber___init__) (defBody s_InvalidNumber___init__) (defScope s_InvalidNumber___init__) .none kVI_InvalidNumber dcI_InvalidNumber pmI_InvalidNumber anI_InvalidNumber cdI_InvalidNumber ctI_InvalidNumber), slI_InvalidNumber⟩)
    (i4_InvalidNumber : PySem.W.codeIn K cdI_InvalidNumber "InvalidNumber.__init__" = true)
    (i5_InvalidNumber : PySem.W.keepIn K (.ref I_InvalidNumber) = true)
    (i6_InvalidNumber : PySem.W.findIn K (.ref C_InvalidNumber) "number" = some none)
    (q1_InvalidNumber : (PySem.W.clsIn K C_InvalidNumber).isSome = true)
    (q2_InvalidNumber : PySem.W.findIn K (.ref C_InvalidNumber) "__getattribute__" = some (some (.builtin "BaseException.__getattribute__")))
    (q3_InvalidNumber : PySem.W.findIn K (.ref C_InvalidNumber) "__getattr__" = some none)
    (q4_InvalidNumber : PySem.W.findIn K (.ref C_InvalidNumber) "__class__" = some (some (.builtin "object.__class__")))
    (q5_InvalidNumber : PySem.W.mroIn K C_InvalidNumber (.type "object") = some true)
    (q6_InvalidNumber : PySem.W.hasDictIn K C_InvalidNumber = true)
    (xe_IllFormed : PySem.W.exmAny K (.ref C_IllFormed) [.ref C_MarkupError, .ref C_MarkupStateError, .ref C_LimitError] = some true)
    (xs_IllFormed : PySem.W.subIn K (.ref C_IllFormed) (.type "StopIteration") = some false)
    (xk1_IllFormed : PySem.W.kitOne K (.ref C_IllFormed) (.ref C_IllFormed) = some true)
    (xe_InvalidKind : PySem.W.exmAny K (.ref C_InvalidKind) [.ref C_MarkupError, .ref C_MarkupStateError, .ref C_LimitError] = some true)
    (xs_InvalidKind : PySem.W.subIn K (.ref C_InvalidKind) (.type "StopIteration") = some false)
    (xk1_InvalidKind : PySem.W.kitOne K (.ref C_InvalidKind) (.ref C_IllFormed) = some false)
    (xk2_InvalidKind : PySem.W.kitOne K (.ref C_InvalidKind) (.ref C_InvalidText) = some false)
    (xk3_InvalidKind : PySem.W.kitOne K (.ref C_InvalidKind) (.ref C_InvalidNumber) = some false)
    (xk4_InvalidKind : PySem.W.kitOne K (.ref C_InvalidKind) (.ref C_InvalidKind) = some true)
    (xo_IllFormed : PySem.W.exmOne K (.ref C_IllFormed) (.ref C_IllFormed) = some true)
    (b_FIVE : PySem.W.nsIn K mainGlobals "FIVE" = some (some (.ref C_FIVE)))
    (f1_FIVE : K.lookup C_FIVE = some ⟨.type "dict", none, .dict es_FIVE n_FIVE, #[]⟩)
    (f2_FIVE : PySem.W.KeysLit w.params es_FIVE.toList)
    (q1_FIVE : (C_FIVE == sysModules) = false)
    (q1_kd : Mx.kdB es_FIVE.toList [("lt", "<"), ("gt", ">"), ("amp", "&"), ("apos", "'"), ("quot", "\"")] = true)
    (wc_pg : PySem.W.plainGet K C_Cursor Str.empty = true)
    (wc_hd : PySem.W.hasDictIn K C_Cursor = true)
    (wc_po : PySem.W.plainOver K C_Cursor = true)
    (wc_sa : PySem.W.findIn K (.ref C_Cursor) "__setattr__" = some (some (.builtin "object.__setattr__")))
    (wc_na_own_text : PySem.W.findIn K (.ref C_Cursor) "own_text" = some none)
    (wc_na_begins : PySem.W.findIn K (.ref C_Cursor) "begins" = some none)
    (wc_na_spot : PySem.W.findIn K (.ref C_Cursor) "spot" = some none)
    (wc_mk : PySem.W.makesIn K C_Cursor = true)
    (wc_kp : PySem.W.keepIn K (.ref C_Cursor) = true)
    (wc_mro : PySem.W.mroIn K C_Cursor (.ref C_Cursor) = some true)
    (wc_cls : (PySem.W.clsIn K C_Cursor).isSome = true)
    (w1_Cursor___init__ : PySem.W.findIn K (.ref C_Cursor) "__init__" = some (some (.ref f_Cursor___init__)))
    (w2_Cursor___init__ : K.lookup f_Cursor___init__ = some ⟨oc_Cursor___init__, od_Cursor___init__, .func (PySem.W.ksFn "__init__" "Cursor.__init__" (defArgs s_Cursor___init__) (defBody s_Cursor___init__) (defScope s_Cursor___init__) .none kV_Cursor___init__ dc_Cursor___init__ pm_Cursor___init__ an_Cursor___init__ (.ref cda) ct_Cursor___init__ cc), sl_Cursor___init__⟩)
    (w3_Cursor___init__ : PySem.W.codeIn K (.ref cda) "Cursor.__init__" = true)
    (w5_Cursor___init__ : PySem.W.isFn K (.ref f_Cursor___init__) = true)
    (w6_Cursor___init__ : K.lookup cda = some ⟨ccl, cdd, .fields cvs, ccs⟩)
    (w7_Cursor___init__ : cvs[2]? = some (.str cfile ctf))
    (w8_Cursor___init__ : ((l.prog.main.file : Str) == cfile) = true)
    (w9_Cursor___init__ : K.lookup cc = some ⟨cl, cld, .cell (some (.ref C_Cursor)), csl⟩)
    (wt_Cursor___init__ : (l.prog.main.scope.names.lookup ("super" : Str)).isSome = false)
    (wo_Cursor___init__ : PySem.W.nsIn K cStatics "thirdparty.any" = some none)
    (w1_Lines___init__ : PySem.W.ks_superIn K C_Cursor C_Cursor "__init__" = some (some (.ref f_Lines___init__)))
    (w2_Lines___init__ : K.lookup f_Lines___init__ = some ⟨oc_Lines___init__, od_Lines___init__, .func (PySem.W.fnOf "__init__" "Lines.__init__" (defArgs s_Lines___init__) (defBody s_Lines___init__) (defScope s_Lines___init__) .none kV_Lines___init__ dc_Lines___init__ pm_Lines___init__ an_Lines___init__ cd_Lines___init__ ct_Lines___init__), sl_Lines___init__⟩)
    (w3_Lines___init__ : PySem.W.codeIn K cd_Lines___init__ "Lines.__init__" = true)
    (w4_Lines___init__ : PySem.W.keepIn K (.ref f_Lines___init__) = true)
    (w5_Lines___init__ : PySem.W.isFn K (.ref f_Lines___init__) = true)
    (wy_Lines___init__ : PySem.W.typeIn K (.ref f_Lines___init__) = some (.type "function"))
    (wf_Lines___init__ : PySem.W.fnIn K f_Lines___init__ = true)
    (w1_Cursor_offset : PySem.W.findIn K (.ref C_Cursor) "offset" = some (some (.ref p_Cursor_offset)))
    (w6_Cursor_offset : PySem.W.specialIn K (.ref p_Cursor_offset) "__get__" = some (some (.builtin "property.__get__")))
    (w7_Cursor_offset : PySem.W.takesIn K (.ref p_Cursor_offset) = some true)
    (w8_Cursor_offset : PySem.W.recIn K p_Cursor_offset "property" = some (.ref f_Cursor_offset :: rest_Cursor_offset))
    (w2_Cursor_offset : K.lookup f_Cursor_offset = some ⟨oc_Cursor_offset, od_Cursor_offset, .func (PySem.W.fnOf "offset" "Cursor.offset" (defArgs s_Cursor_offset) (defBody s_Cursor_offset) (defScope s_Cursor_offset) .none kV_Cursor_offset dc_Cursor_offset pm_Cursor_offset an_Cursor_offset cd_Cursor_offset ct_Cursor_offset), sl_Cursor_offset⟩)
    (w3_Cursor_offset : PySem.W.codeIn K cd_Cursor_offset "Cursor.offset" = true)
    (w4_Cursor_offset : PySem.W.keepIn K (.ref f_Cursor_offset) = true)
    (w5_Cursor_offset : PySem.W.isFn K (.ref f_Cursor_offset) = true)
    (w1_Cursor_go_to : PySem.W.findIn K (.ref C_Cursor) "go_to" = some (some (.ref f_Cursor_go_to)))
    (w2_Cursor_go_to : K.lookup f_Cursor_go_to = some ⟨oc_Cursor_go_to, od_Cursor_go_to, .func (PySem.W.fnOf "go_to" "Cursor.go_to" (defArgs s_Cursor_go_to) (defBody s_Cursor_go_to) (defScope s_Cursor_go_to) .none kV_Cursor_go_to dc_Cursor_go_to pm_Cursor_go_to an_Cursor_go_to cd_Cursor_go_to ct_Cursor_go_to), sl_Cursor_go_to⟩)
    (w3_Cursor_go_to : PySem.W.codeIn K cd_Cursor_go_to "Cursor.go_to" = true)
    (w4_Cursor_go_to : PySem.W.keepIn K (.ref f_Cursor_go_to) = true)
    (w5_Cursor_go_to : PySem.W.isFn K (.ref f_Cursor_go_to) = true)
    (w1_Cursor_take_text : PySem.W.findIn K (.ref C_Cursor) "take_text" = some (some (.ref f_Cursor_take_text)))
    (w2_Cursor_take_text : K.lookup f_Cursor_take_text = some ⟨oc_Cursor_take_text, od_Cursor_take_text, .func (PySem.W.fnOf "take_text" "Cursor.take_text" (defArgs s_Cursor_take_text) (defBody s_Cursor_take_text) (defScope s_Cursor_take_text) dV_Cursor_take_text kV_Cursor_take_text dc_Cursor_take_text pm_Cursor_take_text an_Cursor_take_text cd_Cursor_take_text ct_Cursor_take_text), sl_Cursor_take_text⟩)
    (q1_dfl_Cursor_take_text : He.dflB K dV_Cursor_take_text [.str ""] = true)
    (w3_Cursor_take_text : PySem.W.codeIn K cd_Cursor_take_text "Cursor.take_text" = true)
    (w4_Cursor_take_text : PySem.W.keepIn K (.ref f_Cursor_take_text) = true)
    (w5_Cursor_take_text : PySem.W.isFn K (.ref f_Cursor_take_text) = true) :
    LawG l w K CX0 15 63 "script" mg fa h := by
  have e := hfa.symm.trans (PySem.W.mg_of X G a_law)
  cases e
  refine ⟨PySem.W.fnOf "law" "law" (defArgs s_law) (defBody s_law) (defScope s_law) .none kV_law dc_law pm_law an_law cd_law ct_law, [(cL__law_right, P__law_right), (cL__law_refused_right, P__law_refused_right)], sp_law K [(P__law_right, "_law_right.<locals>.<lambda>"), (P__law_refused_right, "_law_refused_right.<locals>.<lambda>")], ?_, ?_, ?_, fun s v => .of_eq rfl, ?_, ?_⟩
  · intro p hp
    simp only [List.mem_cons, List.not_mem_nil, or_false] at hp
    rcases hp with rfl | rfl
    · exact tg__law_right
    · exact tg__law_refused_right
  · intro p hp
    simp only [List.mem_cons, List.not_mem_nil, or_false] at hp
    rcases hp with rfl | rfl
    · exact np__law_right
    · exact np__law_refused_right
  · intro p hp
    simp only [List.mem_cons, List.not_mem_nil, or_false] at hp
    rcases hp with rfl | rfl
    · exact tb__law_right
    · exact tb__law_refused_right
  · intro H a ns hn _ ht hs
    refine ⟨a, ns, rfl, hs, hn, fun p hp => ?_, fun _ => rfl⟩
    simp only [List.mem_cons, List.not_mem_nil, or_false] at hp
    rcases hp with rfl | rfl
    · exact LamX.TabS.nil (ht (cL__law_right, P__law_right) (by simp))
    · exact LamX.TabS.nil (ht (cL__law_refused_right, P__law_refused_right) (by simp))
  intro base inB nsB tabB
  have F_shortened := fun_mk (st := s_shortened) l_shortened c_shortened k_shortened
  have B_shortened := F_shortened.binds (ps := ["digits"]) fun _ _ _ _ _ _ us hl => match us, hl with | [_], _ => rfl
  have F_value_of := fun_mk (st := s_value_of) l_value_of c_value_of k_value_of
  have B_value_of := F_value_of.binds (ps := ["digits", "base"]) fun _ _ _ _ _ _ us hl => match us, hl with | [_, _], _ => rfl
  have F_is_code := fun_mk (st := s_is_code) l_is_code c_is_code k_is_code
  have B_is_code := F_is_code.binds (ps := ["code"]) fun _ _ _ _ _ _ us hl => match us, hl with | [_], _ => rfl
  have F_is_number_part := fun_mk (st := s_is_number_part) l_is_number_part c_is_number_part k_is_number_part
  have B_is_number_part := F_is_number_part.binds (ps := ["digits", "base"]) fun _ _ _ _ _ _ us hl => match us, hl with | [_, _], _ => rfl
  have F_character_of := fun_mk (st := s_character_of) l_character_of c_character_of k_character_of
  have B_character_of := F_character_of.binds (ps := ["digits", "base"]) fun _ _ _ _ _ _ us hl => match us, hl with | [_, _], _ => rfl
  have F_spaced := fun_mk (st := s_spaced) l_spaced c_spaced k_spaced
  have B_spaced := F_spaced.binds (ps := ["text"]) fun _ _ _ _ _ _ us hl => match us, hl with | [_], _ => rfl
  have F_check_text := fun_mk (st := s_check_text) l_check_text c_check_text k_check_text
  have B_check_text := F_check_text.binds (ps := ["text"]) fun _ _ _ _ _ _ us hl => match us, hl with | [_], _ => rfl
  have F_check_raw := fun_mk (st := s_check_raw) l_check_raw c_check_raw k_check_raw
  have B_check_raw := F_check_raw.binds (ps := ["raw", "mark"]) fun _ _ _ _ _ _ us hl => match us, hl with | [_, _], _ => rfl
  have F_number_at := fun_mk (st := s_number_at) l_number_at c_number_at k_number_at
  have B_number_at := F_number_at.binds (ps := ["raw", "begin"]) fun _ _ _ _ _ _ us hl => match us, hl with | [_, _], _ => rfl
  have F_reference_at := fun_mk (st := s_reference_at) l_reference_at c_reference_at k_reference_at
  have B_reference_at := F_reference_at.binds (ps := ["raw", "begin"]) fun _ _ _ _ _ _ us hl => match us, hl with | [_, _], _ => rfl
  have F_units : L2.FunD K "units" "units" (defArgs s_units) (defBody s_units) (defScope s_units) [.str ""] [] f_units _ := ⟨⟨_, _, _, _, _, _, _, _, _, _, rfl, l_units, c_units, He.dflB_ok q1_dfl_units, .inl rfl⟩, k_units⟩
  obtain ⟨ds_units, v_units, b_units⟩ := F_units.binds1 (ps := ["raw", "mark"]) 2 1 (by simp) (by rfl) (fun T kV doc pm an cdv ct us its h1 h2 => match us, its, h1, h2 with | [_, _], [_], _, _ => ⟨_, rfl, rfl⟩)
  cases v_units
  obtain ⟨e_units, w_units, y_units⟩ := F_units.binds1 (ps := ["raw", "mark"]) 1 0 (by simp) (by rfl) (fun T kV doc pm an cdv ct us its h1 h2 => match us, its, h1, h2 with | [_], [_], _, _ => ⟨_, rfl, rfl⟩)
  have F_unescaped : L2.FunD K "unescaped" "unescaped" (defArgs s_unescaped) (defBody s_unescaped) (defScope s_unescaped) [.str ""] [] f_unescaped _ := ⟨⟨_, _, _, _, _, _, _, _, _, _, rfl, l_unescaped, c_unescaped, He.dflB_ok q1_dfl_unescaped, .inl rfl⟩, k_unescaped⟩
  obtain ⟨ds_unescaped, v_unescaped, b_unescaped⟩ := F_unescaped.binds1 (ps := ["raw", "mark"]) 2 1 (by simp) (by rfl) (fun T kV doc pm an cdv ct us its h1 h2 => match us, its, h1, h2 with | [_, _], [_], _, _ => ⟨_, rfl, rfl⟩)
  cases v_unescaped
  obtain ⟨e_unescaped, w_unescaped, y_unescaped⟩ := F_unescaped.binds1 (ps := ["raw", "mark"]) 1 0 (by simp) (by rfl) (fun T kV doc pm an cdv ct us its h1 h2 => match us, its, h1, h2 with | [_], [_], _, _ => ⟨_, rfl, rfl⟩)
  have F_first_wrong_raw : L2.FunD K "first_wrong_raw" "first_wrong_raw" (defArgs s_first_wrong_raw) (defBody s_first_wrong_raw) (defScope s_first_wrong_raw) [.str ""] [] f_first_wrong_raw _ := ⟨⟨_, _, _, _, _, _, _, _, _, _, rfl, l_first_wrong_raw, c_first_wrong_raw, He.dflB_ok q1_dfl_first_wrong_raw, .inl rfl⟩, k_first_wrong_raw⟩
  obtain ⟨ds_first_wrong_raw, v_first_wrong_raw, b_first_wrong_raw⟩ := F_first_wrong_raw.binds1 (ps := ["raw", "mark"]) 2 1 (by simp) (by rfl) (fun T kV doc pm an cdv ct us its h1 h2 => match us, its, h1, h2 with | [_, _], [_], _, _ => ⟨_, rfl, rfl⟩)
  cases v_first_wrong_raw
  obtain ⟨e_first_wrong_raw, w_first_wrong_raw, y_first_wrong_raw⟩ := F_first_wrong_raw.binds1 (ps := ["raw", "mark"]) 1 0 (by simp) (by rfl) (fun T kV doc pm an cdv ct us its h1 h2 => match us, its, h1, h2 with | [_], [_], _, _ => ⟨_, rfl, rfl⟩)
  have F_is_between : L2.FunD K "is_between" "is_between" (defArgs s_is_between) (defBody s_is_between) (defScope s_is_between) [.non] [] f_is_between _ := ⟨⟨_, _, _, _, _, _, _, _, _, _, rfl, l_is_between, c_is_between, He.dflB_ok q1_dfl_is_between, .inl rfl⟩, k_is_between⟩
  obtain ⟨ds_is_between, v_is_between, b_is_between⟩ := F_is_between.binds1 (ps := ["value", "least", "most"]) 3 1 (by simp) (by rfl) (fun T kV doc pm an cdv ct us its h1 h2 => match us, its, h1, h2 with | [_, _, _], [_], _, _ => ⟨_, rfl, rfl⟩)
  cases v_is_between
  obtain ⟨e_is_between, w_is_between, y_is_between⟩ := F_is_between.binds1 (ps := ["value", "least", "most"]) 2 0 (by simp) (by rfl) (fun T kV doc pm an cdv ct us its h1 h2 => match us, its, h1, h2 with | [_, _], [_], _, _ => ⟨_, rfl, rfl⟩)
  have F_check_number : L2.FunD K "check_number" "check_number" (defArgs s_check_number) (defBody s_check_number) (defScope s_check_number) [.non] [] f_check_number _ := ⟨⟨_, _, _, _, _, _, _, _, _, _, rfl, l_check_number, c_check_number, He.dflB_ok q1_dfl_check_number, .inl rfl⟩, k_check_number⟩
  obtain ⟨ds_check_number, v_check_number, b_check_number⟩ := F_check_number.binds1 (ps := ["value", "least", "most"]) 3 1 (by simp) (by rfl) (fun T kV doc pm an cdv ct us its h1 h2 => match us, its, h1, h2 with | [_, _, _], [_], _, _ => ⟨_, rfl, rfl⟩)
  cases v_check_number
  obtain ⟨e_check_number, w_check_number, y_check_number⟩ := F_check_number.binds1 (ps := ["value", "least", "most"]) 2 0 (by simp) (by rfl) (fun T kV doc pm an cdv ct us its h1 h2 => match us, its, h1, h2 with | [_, _], [_], _, _ => ⟨_, rfl, rfl⟩)
  have F__law_mixed := fun_mk (st := s__law_mixed) l__law_mixed c__law_mixed k__law_mixed
  have B__law_mixed := F__law_mixed.binds (ps := ["number", "k"]) fun _ _ _ _ _ _ us hl => match us, hl with | [_, _], _ => rfl
  have F__law_stream := fun_mk (st := s__law_stream) l__law_stream c__law_stream k__law_stream
  have B__law_stream := F__law_stream.binds (ps := ["item", "k"]) fun _ _ _ _ _ _ us hl => match us, hl with | [_, _], _ => rfl
  have F__law_draw := fun_mk (st := s__law_draw) l__law_draw c__law_draw k__law_draw
  have B__law_draw := F__law_draw.binds (ps := ["stream", "top"]) fun _ _ _ _ _ _ us hl => match us, hl with | [_, _], _ => rfl
  have F__law_signs := fun_mk (st := s__law_signs) l__law_signs c__law_signs k__law_signs
  have B__law_signs := F__law_signs.binds (ps := []) fun _ _ _ _ _ _ us hl => match us, hl with | [], _ => rfl
  have F__law_pick := fun_mk (st := s__law_pick) l__law_pick c__law_pick k__law_pick
  have B__law_pick := F__law_pick.binds (ps := ["stream", "some"]) fun _ _ _ _ _ _ us hl => match us, hl with | [_, _], _ => rfl
  have F__law_told := fun_mk (st := s__law_told) l__law_told c__law_told k__law_told
  have B__law_told := F__law_told.binds (ps := ["call"]) fun _ _ _ _ _ _ us hl => match us, hl with | [_], _ => rfl
  have F__law_five := fun_mk (st := s__law_five) l__law_five c__law_five k__law_five
  have B__law_five := F__law_five.binds (ps := []) fun _ _ _ _ _ _ us hl => match us, hl with | [], _ => rfl
  have F__law_digits := fun_mk (st := s__law_digits) l__law_digits c__law_digits k__law_digits
  have B__law_digits := F__law_digits.binds (ps := ["code", "radix"]) fun _ _ _ _ _ _ us hl => match us, hl with | [_, _], _ => rfl
  have F__law_table := fun_mk (st := s__law_table) l__law_table c__law_table k__law_table
  have B__law_table := F__law_table.binds (ps := ["radix"]) fun _ _ _ _ _ _ us hl => match us, hl with | [_], _ => rfl
  have F__law_number_end := fun_mk (st := s__law_number_end) l__law_number_end c__law_number_end k__law_number_end
  have B__law_number_end := F__law_number_end.binds (ps := ["raw_so", "at", "tables"]) fun _ _ _ _ _ _ us hl => match us, hl with | [_, _, _], _ => rfl
  have F__law_reference_end := fun_mk (st := s__law_reference_end) l__law_reference_end c__law_reference_end k__law_reference_end
  have B__law_reference_end := F__law_reference_end.binds (ps := ["raw_so", "at", "tables"]) fun _ _ _ _ _ _ us hl => match us, hl with | [_, _, _], _ => rfl
  have F__law_read := fun_mk (st := s__law_read) l__law_read c__law_read k__law_read
  have B__law_read := F__law_read.binds (ps := ["raw_so", "edge", "tables"]) fun _ _ _ _ _ _ us hl => match us, hl with | [_, _, _], _ => rfl
  have F__law_piece := fun_mk (st := s__law_piece) l__law_piece c__law_piece k__law_piece
  have B__law_piece := F__law_piece.binds (ps := ["stream"]) fun _ _ _ _ _ _ us hl => match us, hl with | [_], _ => rfl
  have F__law_collected := fun_mk (st := s__law_collected) l__law_collected c__law_collected k__law_collected
  have B__law_collected := F__law_collected.binds (ps := ["raw_so", "edge"]) fun _ _ _ _ _ _ us hl => match us, hl with | [_, _], _ => rfl
  have F__law_right := fun_mk (st := s__law_right) l__law_right c__law_right k__law_right
  have B__law_right := F__law_right.binds (ps := ["raw_so", "edge", "tables"]) fun _ _ _ _ _ _ us hl => match us, hl with | [_, _, _], _ => rfl
  have F__law_taken_right := fun_mk (st := s__law_taken_right) l__law_taken_right c__law_taken_right k__law_taken_right
  have B__law_taken_right := F__law_taken_right.binds (ps := ["raw_so", "edge", "tables"]) fun _ _ _ _ _ _ us hl => match us, hl with | [_, _, _], _ => rfl
  have F__law_refused_right := fun_mk (st := s__law_refused_right) l__law_refused_right c__law_refused_right k__law_refused_right
  have B__law_refused_right := F__law_refused_right.binds (ps := ["raw_so", "odd"]) fun _ _ _ _ _ _ us hl => match us, hl with | [_, _], _ => rfl
  have BM : BaseT K mg "MarkupError" C_MarkupError := ⟨PySem.W.mg_of X G b_MarkupError, m1, m2, m3⟩
  have FI_IllFormed := fun_mk (st := s_IllFormed___init__) i3_IllFormed i4_IllFormed i5_IllFormed
  have OX_IllFormed : OexC K C_IllFormed := ⟨⟨_, _, _, _, _, _, _, _, _, _, _, _, _, _, _, o1_IllFormed, rfl⟩, o2_IllFormed, o3_IllFormed, o4_IllFormed, o5_IllFormed⟩
  have FI_InvalidText := fun_mk (st := s_InvalidText___init__) i3_InvalidText i4_InvalidText i5_InvalidText
  have OX_InvalidText : OexC K C_InvalidText := ⟨⟨_, _, _, _, _, _, _, _, _, _, _, _, _, _, _, o1_InvalidText, rfl⟩, o2_InvalidText, o3_InvalidText, o4_InvalidText, o5_InvalidText⟩
  have FI_InvalidKind := fun_mk (st := s_InvalidKind___init__) i3_InvalidKind i4_InvalidKind i5_InvalidKind
  have OX_InvalidKind : OexC K C_InvalidKind := ⟨⟨_, _, _, _, _, _, _, _, _, _, _, _, _, _, _, o1_InvalidKind, rfl⟩, o2_InvalidKind, o3_InvalidKind, o4_InvalidKind, o5_InvalidKind⟩
  have FI_InvalidNumber := fun_mk (st := s_InvalidNumber___init__) i3_InvalidNumber i4_InvalidNumber i5_InvalidNumber
  have OX_InvalidNumber : OexC K C_InvalidNumber := ⟨⟨_, _, _, _, _, _, _, _, _, _, _, _, _, _, _, o1_InvalidNumber, rfl⟩, o2_InvalidNumber, o3_InvalidNumber, o4_InvalidNumber, o5_InvalidNumber⟩
  have F_Cursor_take_text : L2.FunD K "take_text" "Cursor.take_text" (defArgs s_Cursor_take_text) (defBody s_Cursor_take_text) (defScope s_Cursor_take_text) [.str ""] [] f_Cursor_take_text _ := ⟨⟨_, _, _, _, _, _, _, _, _, _, rfl, w2_Cursor_take_text, w3_Cursor_take_text, He.dflB_ok q1_dfl_Cursor_take_text, .inl rfl⟩, w4_Cursor_take_text⟩
  obtain ⟨ds_Cursor_take_text, v_Cursor_take_text, b_Cursor_take_text⟩ := F_Cursor_take_text.binds1 (ps := ["self", "mark"]) 2 1 (by simp) (by rfl) (fun T kV doc pm an cdv ct us its h1 h2 => match us, its, h1, h2 with | [_, _], [_], _, _ => ⟨_, rfl, rfl⟩)
  cases v_Cursor_take_text
  obtain ⟨e_Cursor_take_text, h_Cursor_take_text, y_Cursor_take_text⟩ := F_Cursor_take_text.binds1 (ps := ["self", "mark"]) 1 0 (by simp) (by rfl) (fun T kV doc pm an cdv ct us its h1 h2 => match us, its, h1, h2 with | [_], [_], _, _ => ⟨_, rfl, rfl⟩)
  obtain ⟨T, e__law_right, e__law_refused_right⟩ : ∃ T : Tx l.prog w K mg base, (T.d__law_right.f = f__law_right ∧ T.d__law_right.fd = PySem.W.fnOf "_law_right" "_law_right" (defArgs s__law_right) (defBody s__law_right) (defScope s__law_right) .none kV__law_right dc__law_right pm__law_right an__law_right (.ref cL__law_right) ct__law_right) ∧ (T.d__law_refused_right.f = f__law_refused_right ∧ T.d__law_refused_right.fd = PySem.W.fnOf "_law_refused_right" "_law_refused_right" (defArgs s__law_refused_right) (defBody s__law_refused_right) (defScope s__law_refused_right) .none kV__law_refused_right dc__law_refused_right pm__law_refused_right an__law_refused_right (.ref cL__law_refused_right) ct__law_refused_right) := ⟨{
    d_shortened := ⟨_, _, F_shortened, PySem.W.mg_of X G a_shortened, B_shortened⟩
    d_value_of := ⟨_, _, F_value_of, PySem.W.mg_of X G a_value_of, B_value_of⟩
    d_is_code := ⟨_, _, F_is_code, PySem.W.mg_of X G a_is_code, B_is_code⟩
    d_is_number_part := ⟨_, _, F_is_number_part, PySem.W.mg_of X G a_is_number_part, B_is_number_part⟩
    d_character_of := ⟨_, _, F_character_of, PySem.W.mg_of X G a_character_of, B_character_of⟩
    d_spaced := ⟨_, _, F_spaced, PySem.W.mg_of X G a_spaced, B_spaced⟩
    d_check_text := ⟨_, _, F_check_text, PySem.W.mg_of X G a_check_text, B_check_text⟩
    d_check_raw := ⟨_, _, F_check_raw, PySem.W.mg_of X G a_check_raw, B_check_raw⟩
    d_number_at := ⟨_, _, F_number_at, PySem.W.mg_of X G a_number_at, B_number_at⟩
    d_reference_at := ⟨_, _, F_reference_at, PySem.W.mg_of X G a_reference_at, B_reference_at⟩
    d_units := ⟨_, _, F_units, PySem.W.mg_of X G a_units, b_units, _, w_units, y_units⟩
    d_unescaped := ⟨_, _, F_unescaped, PySem.W.mg_of X G a_unescaped, b_unescaped, _, w_unescaped, y_unescaped⟩
    d_first_wrong_raw := ⟨_, _, F_first_wrong_raw, PySem.W.mg_of X G a_first_wrong_raw, b_first_wrong_raw, _, w_first_wrong_raw, y_first_wrong_raw⟩
    d_is_between := ⟨_, _, F_is_between, PySem.W.mg_of X G a_is_between, b_is_between, _, w_is_between, y_is_between⟩
    d_check_number := ⟨_, _, F_check_number, PySem.W.mg_of X G a_check_number, b_check_number, _, w_check_number, y_check_number⟩
    d__law_mixed := ⟨_, _, F__law_mixed, PySem.W.mg_of X G a__law_mixed, B__law_mixed⟩
    d__law_stream := ⟨_, _, F__law_stream, PySem.W.mg_of X G a__law_stream, B__law_stream⟩
    d__law_draw := ⟨_, _, F__law_draw, PySem.W.mg_of X G a__law_draw, B__law_draw⟩
    d__law_signs := ⟨_, _, F__law_signs, PySem.W.mg_of X G a__law_signs, B__law_signs⟩
    d__law_pick := ⟨_, _, F__law_pick, PySem.W.mg_of X G a__law_pick, B__law_pick⟩
    d__law_told := ⟨_, _, F__law_told, PySem.W.mg_of X G a__law_told, B__law_told⟩
    d__law_five := ⟨_, _, F__law_five, PySem.W.mg_of X G a__law_five, B__law_five⟩
    d__law_digits := ⟨_, _, F__law_digits, PySem.W.mg_of X G a__law_digits, B__law_digits⟩
    d__law_table := ⟨_, _, F__law_table, PySem.W.mg_of X G a__law_table, B__law_table⟩
    d__law_number_end := ⟨_, _, F__law_number_end, PySem.W.mg_of X G a__law_number_end, B__law_number_end⟩
    d__law_reference_end := ⟨_, _, F__law_reference_end, PySem.W.mg_of X G a__law_reference_end, B__law_reference_end⟩
    d__law_read := ⟨_, _, F__law_read, PySem.W.mg_of X G a__law_read, B__law_read⟩
    d__law_piece := ⟨_, _, F__law_piece, PySem.W.mg_of X G a__law_piece, B__law_piece⟩
    d__law_collected := ⟨_, _, F__law_collected, PySem.W.mg_of X G a__law_collected, B__law_collected⟩
    d__law_right := ⟨_, _, F__law_right, PySem.W.mg_of X G a__law_right, B__law_right⟩
    d__law_taken_right := ⟨_, _, F__law_taken_right, PySem.W.mg_of X G a__law_taken_right, B__law_taken_right⟩
    d__law_refused_right := ⟨_, _, F__law_refused_right, PySem.W.mg_of X G a__law_refused_right, B__law_refused_right⟩
    n_isinstance := PySem.W.mg_none_of X G n_isinstance
    n_str := PySem.W.mg_none_of X G n_str
    n_int := PySem.W.mg_none_of X G n_int
    n_bool := PySem.W.mg_none_of X G n_bool
    n_len := PySem.W.mg_none_of X G n_len
    n_range := PySem.W.mg_none_of X G n_range
    n_any := PySem.W.mg_none_of X G n_any
    n_min := PySem.W.mg_none_of X G n_min
    n_ord := PySem.W.mg_none_of X G n_ord
    n_enumerate := PySem.W.mg_none_of X G n_enumerate
    n_list := PySem.W.mg_none_of X G n_list
    n_super := PySem.W.mg_none_of X G n_super
    n_repr := PySem.W.mg_none_of X G n_repr
    g_DIGITS := ⟨_, PySem.W.mg_of X G g_DIGITS, ⟨_, rfl⟩⟩
    g_HEXADECIMAL := ⟨_, PySem.W.mg_of X G g_HEXADECIMAL, ⟨_, rfl⟩⟩
    g_ORDERED := ⟨_, PySem.W.mg_of X G g_ORDERED, ⟨_, rfl⟩⟩
    g_SIGNS := ⟨_, PySem.W.mg_of X G g_SIGNS, ⟨_, rfl⟩⟩
    a_IllFormed := C_IllFormed
    i_IllFormed := I_IllFormed
    fd_IllFormed := _
    x_IllFormed := ⟨OX_IllFormed, PySem.W.mg_of X G b_IllFormed, i1_IllFormed, i2_IllFormed, ok_IllFormed___init__ BM FI_IllFormed i6_IllFormed, FI_IllFormed.binds (ps := ["self", "position"]) fun _ _ _ _ _ _ us hl => match us, hl with | [_, _], _ => rfl⟩
    a_InvalidText := C_InvalidText
    i_InvalidText := I_InvalidText
    fd_InvalidText := _
    x_InvalidText := ⟨OX_InvalidText, PySem.W.mg_of X G b_InvalidText, i1_InvalidText, i2_InvalidText, ok_InvalidText___init__ BM FI_InvalidText i6_InvalidText, FI_InvalidText.binds (ps := ["self", "index"]) fun _ _ _ _ _ _ us hl => match us, hl with | [_, _], _ => rfl⟩
    a_InvalidKind := C_InvalidKind
    i_InvalidKind := I_InvalidKind
    fd_InvalidKind := _
    x_InvalidKind := ⟨OX_InvalidKind, PySem.W.mg_of X G b_InvalidKind, i1_InvalidKind, i2_InvalidKind, ok_InvalidKind___init__ BM FI_InvalidKind i6_InvalidKind, FI_InvalidKind.binds (ps := ["self", "kind"]) fun _ _ _ _ _ _ us hl => match us, hl with | [_, _], _ => rfl⟩
    a_InvalidNumber := C_InvalidNumber
    i_InvalidNumber := I_InvalidNumber
    fd_InvalidNumber := _
    x_InvalidNumber := ⟨OX_InvalidNumber, PySem.W.mg_of X G b_InvalidNumber, i1_InvalidNumber, i2_InvalidNumber, ok_InvalidNumber___init__ BM FI_InvalidNumber i6_InvalidNumber, FI_InvalidNumber.binds (ps := ["self", "number"]) fun _ _ _ _ _ _ us hl => match us, hl with | [_, _], _ => rfl⟩
    a_FIVE := C_FIVE
    m_FIVE := PySem.W.mg_of X G b_FIVE
    kd_FIVE := ⟨_, _, ⟨f1_FIVE, f2_FIVE, q1_FIVE⟩, q1_kd⟩
    a_MarkupError := C_MarkupError
    m_MarkupError := PySem.W.mg_of X G b_MarkupError
    a_MarkupStateError := C_MarkupStateError
    m_MarkupStateError := PySem.W.mg_of X G b_MarkupStateError
    a_LimitError := C_LimitError
    m_LimitError := PySem.W.mg_of X G b_LimitError
    xc_IllFormed := ⟨q1_IllFormed, q2_IllFormed, q3_IllFormed, o3_IllFormed, q4_IllFormed, u1, u2, q5_IllFormed, q6_IllFormed⟩
    ex_IllFormed := xe_IllFormed
    fn_IllFormed := i6_IllFormed
    si_IllFormed := xs_IllFormed
    k1_IllFormed := xk1_IllFormed
    xc_InvalidKind := ⟨q1_InvalidKind, q2_InvalidKind, q3_InvalidKind, o3_InvalidKind, q4_InvalidKind, u1, u2, q5_InvalidKind, q6_InvalidKind⟩
    ex_InvalidKind := xe_InvalidKind
    fn_InvalidKind := i6_InvalidKind
    si_InvalidKind := xs_InvalidKind
    k1_InvalidKind := xk1_InvalidKind
    k2_InvalidKind := xk2_InvalidKind
    k3_InvalidKind := xk3_InvalidKind
    k4_InvalidKind := xk4_InvalidKind
    eo_IllFormed := xo_IllFormed
    C_Cursor := C_Cursor
    cl_Cursor := ⟨wc_pg, wc_hd, wc_po, wc_sa⟩
    mg_Cursor := PySem.W.mg_of X G b_Cursor
    na_own_text := wc_na_own_text
    na_begins := wc_na_begins
    na_spot := wc_na_spot
    f_Lines___init__ := f_Lines___init__
    fd_Lines___init__ := _
    F_Lines___init__ := fun_mk (st := s_Lines___init__) w2_Lines___init__ w3_Lines___init__ w4_Lines___init__
    b_Lines___init__ := (fun_mk (st := s_Lines___init__) w2_Lines___init__ w3_Lines___init__ w4_Lines___init__).binds (ps := ["self", "text"]) fun _ _ _ _ _ _ us hl => match us, hl with | [_, _], _ => rfl
    f_Cursor_offset := f_Cursor_offset
    fd_Cursor_offset := _
    F_Cursor_offset := fun_mk (st := s_Cursor_offset) w2_Cursor_offset w3_Cursor_offset w4_Cursor_offset
    b_Cursor_offset := (fun_mk (st := s_Cursor_offset) w2_Cursor_offset w3_Cursor_offset w4_Cursor_offset).binds (ps := ["self"]) fun _ _ _ _ _ _ us hl => match us, hl with | [_], _ => rfl
    p_Cursor_offset := p_Cursor_offset
    pr_Cursor_offset := ⟨w1_Cursor_offset, w6_Cursor_offset, w7_Cursor_offset, _, w8_Cursor_offset⟩
    f_Cursor_go_to := f_Cursor_go_to
    fd_Cursor_go_to := _
    F_Cursor_go_to := fun_mk (st := s_Cursor_go_to) w2_Cursor_go_to w3_Cursor_go_to w4_Cursor_go_to
    b_Cursor_go_to := (fun_mk (st := s_Cursor_go_to) w2_Cursor_go_to w3_Cursor_go_to w4_Cursor_go_to).binds (ps := ["self", "position"]) fun _ _ _ _ _ _ us hl => match us, hl with | [_, _], _ => rfl
    me_Cursor_go_to := ⟨w1_Cursor_go_to, w5_Cursor_go_to, w4_Cursor_go_to⟩
    f_Cursor_take_text := f_Cursor_take_text
    fd_Cursor_take_text := _
    F_Cursor_take_text := F_Cursor_take_text
    b_Cursor_take_text := b_Cursor_take_text
    ds_Cursor_take_text := _
    hd_Cursor_take_text := h_Cursor_take_text
    b1_Cursor_take_text := y_Cursor_take_text
    kb_Cursor_take_text := Mx.kb_of1 F_Cursor_take_text rfl fun _ _ _ _ _ _ _ _ _ _ => ⟨_, rfl, rfl⟩
    me_Cursor_take_text := ⟨w1_Cursor_take_text, w5_Cursor_take_text, w4_Cursor_take_text⟩
    f_Cursor___init__ := f_Cursor___init__
    fd_Cursor___init__ := _
    ci_Cursor___init__ := ⟨_, _, _, _, _, _, _, _, _, _, rfl, w2_Cursor___init__, w3_Cursor___init__, ⟨⟨_, rfl, rfl⟩, ⟨_, _, _, _, _, _, w6_Cursor___init__, w7_Cursor___init__, w8_Cursor___init__⟩, ⟨_, _, _, w9_Cursor___init__⟩, Option.isSome_iff_exists.mp wc_cls, PySem.W.mg_none_of X G n_super, wt_Cursor___init__, wo_Cursor___init__⟩⟩
    b_Cursor___init__ := .all fun us hl => match us, hl with | [_, _], _ => rfl
    mk_Cursor := ⟨wc_mk, w1_Cursor___init__, w5_Cursor___init__, wc_kp⟩
    mro_Cursor := wc_mro
    sup_Cursor := w1_Lines___init__
    tI_Lines := wy_Lines___init__
    fI_Lines := wf_Lines___init__
     }, ⟨rfl, rfl⟩, ⟨rfl, rfl⟩⟩
  have G__law_mixed := ok__law_mixed T
  have G__law_stream := ok__law_stream T G__law_mixed
  have G__law_draw := ok__law_draw T G__law_mixed
  have G__law_signs := ok__law_signs T
  have G__law_pick := ok__law_pick T G__law_draw
  have G_shortened := ok_shortened T
  have G_value_of := ok_value_of T
  have G_is_code := ok_is_code T
  have G_is_number_part := ok_is_number_part T G_shortened G_value_of G_is_code
  have G_character_of := ok_character_of T G_shortened G_value_of
  have G_spaced := ok_spaced T
  have G_check_text := ok_check_text T
  have G_check_raw := ok_check_raw T G_check_text
  have G_number_at := ok_number_at T G_character_of G_is_number_part
  have G_reference_at := ok_reference_at T G_number_at
  have G_units := ok_units T G_check_raw G_reference_at G_spaced
  have G_unescaped := ok_unescaped T G_units
  have G_first_wrong_raw := ok_first_wrong_raw T G_units
  have G_is_between := ok_is_between T
  have G_check_number := ok_check_number T G_is_between
  have G_Lines___init__ := ok_Lines___init__ T G_check_text
  have G_Cursor___init__ := ok_Cursor___init__ T G_Lines___init__
  have G_Cursor_offset := ok_Cursor_offset T
  have G_Cursor_go_to := ok_Cursor_go_to T G_check_number
  have G_Cursor_take_text := ok_Cursor_take_text T G_check_raw G_units
  have G__law_five := ok__law_five T
  have G__law_digits := ok__law_digits T
  have G__law_table := ok__law_table T G__law_signs G__law_digits
  have G__law_number_end := ok__law_number_end T
  have G__law_reference_end := ok__law_reference_end T G__law_number_end G__law_five
  have G__law_read := ok__law_read T G__law_reference_end
  have G__law_piece := ok__law_piece T G__law_draw G__law_signs G__law_pick G__law_digits G__law_five
  have G__law_collected := ok__law_collected T G_units
  have G__law_taken_right := ok__law_taken_right T G_Cursor_go_to G__law_read G_Cursor_take_text G_Cursor_offset G_Cursor___init__
  have G__law_right := ok__law_right T (cL := cL__law_right) (PL := P__law_right) (Tb := [(P__law_right, "_law_right.<locals>.<lambda>"), (P__law_refused_right, "_law_refused_right.<locals>.<lambda>")]) (by simp) hu__law_right ⟨⟨_, _, _, _, _, _, _, _, e__law_right.2, by rw [e__law_right.1, e__law_right.2]; exact l__law_right, c__law_right⟩⟩ (tabB (cL__law_right, P__law_right) (by simp)) G__law_read G__law_collected G_first_wrong_raw G_unescaped G__law_taken_right
  have G__law_refused_right := ok__law_refused_right T (cL := cL__law_refused_right) (PL := P__law_refused_right) (Tb := [(P__law_right, "_law_right.<locals>.<lambda>"), (P__law_refused_right, "_law_refused_right.<locals>.<lambda>")]) (by simp) hu__law_refused_right ⟨⟨_, _, _, _, _, _, _, _, e__law_refused_right.2, by rw [e__law_refused_right.1, e__law_refused_right.2]; exact l__law_refused_right, c__law_refused_right⟩⟩ (tabB (cL__law_refused_right, P__law_refused_right) (by simp)) G_Cursor_take_text G_Cursor_offset G_Cursor___init__
  exact ok_law T (Tb := [(P__law_right, "_law_right.<locals>.<lambda>"), (P__law_refused_right, "_law_refused_right.<locals>.<lambda>")]) (fun_mk (st := s_law) l_law c_law k_law) G__law_table G__law_stream G__law_draw G__law_piece G__law_right G__law_pick G__law_refused_right
end K7
open PySem PySem.W PyProof.Rows
set_option maxHeartbeats 0
theorem PySem.Challenge.cw_markstream_k07_whole_raw_texts_refused_holds : PySem.Challenge.rw_markstream_k07_whole_raw_texts_refused.Holds := by
  w_on; o_law; k_head; (case hw => w_witness2)
  k_fill
  refine Mx.walkG (l := PySem.Challenge.rw_markstream_k07_whole_raw_texts_refused) (n := 63) (k := 15) (x := "script") (CX := fun _ => L2.CX0) rfl (by decide) rfl ⟨⟨rfl, by decide, by decide⟩, rfl⟩ (fun w h Y => by first | exact PySem.W.km_in_of Y | exact PySem.W.kIn_of Y) ?F (fun _ _ _ _ _ z => z)
  case F =>
    rintro w mg mb fa h ⟨ls, mean, Tp⟩ Y KX G hmg
    refine' K7.all_mk (P__law_right := 553) (P__law_refused_right := 563) KX G hmg (PySem.W.codeHd_of_K KX ?tab__law_right) (PySem.W.km_tabs_of Y _ (by decide)) ?np__law_right (by decide +kernel) (PySem.W.codeHd_of_K KX ?tab__law_refused_right) (PySem.W.km_tabs_of Y _ (by decide)) ?np__law_refused_right (by decide +kernel) ?a_shortened ?l_shortened ?c_shortened ?k_shortened ?a_value_of ?l_value_of ?c_value_of ?k_value_of ?a_is_code ?l_is_code ?c_is_code ?k_is_code ?a_is_number_part ?l_is_number_part ?c_is_number_part ?k_is_number_part ?a_character_of ?l_character_of ?c_character_of ?k_character_of ?a_spaced ?l_spaced ?c_spaced ?k_spaced ?a_check_text ?l_check_text ?c_check_text ?k_check_text ?a_check_raw ?l_check_raw ?c_check_raw ?k_check_raw ?a_number_at ?l_number_at ?c_number_at ?k_number_at ?a_reference_at ?l_reference_at ?c_reference_at ?k_reference_at ?a_units ?l_units ?q1_dfl_units ?c_units ?k_units ?a_unescaped ?l_unescaped ?q1_dfl_unescaped ?c_unescaped ?k_unescaped ?a_first_wrong_raw ?l_first_wrong_raw ?q1_dfl_first_wrong_raw ?c_first_wrong_raw ?k_first_wrong_raw ?a_is_between ?l_is_between ?q1_dfl_is_between ?c_is_between ?k_is_between ?a_check_number ?l_check_number ?q1_dfl_check_number ?c_check_number ?k_check_number ?a__law_mixed ?l__law_mixed ?c__law_mixed ?k__law_mixed ?a__law_stream ?l__law_stream ?c__law_stream ?k__law_stream ?a__law_draw ?l__law_draw ?c__law_draw ?k__law_draw ?a__law_signs ?l__law_signs ?c__law_signs ?k__law_signs ?a__law_pick ?l__law_pick ?c__law_pick ?k__law_pick ?a__law_told ?l__law_told ?c__law_told ?k__law_told ?a__law_five ?l__law_five ?c__law_five ?k__law_five ?a__law_digits ?l__law_digits ?c__law_digits ?k__law_digits ?a__law_table ?l__law_table ?c__law_table ?k__law_table ?a__law_number_end ?l__law_number_end ?c__law_number_end ?k__law_number_end ?a__law_reference_end ?l__law_reference_end ?c__law_reference_end ?k__law_reference_end ?a__law_read ?l__law_read ?c__law_read ?k__law_read ?a__law_piece ?l__law_piece ?c__law_piece ?k__law_piece ?a__law_collected ?l__law_collected ?c__law_collected ?k__law_collected ?a__law_right ?l__law_right ?c__law_right ?k__law_right ?a__law_taken_right ?l__law_taken_right ?c__law_taken_right ?k__law_taken_right ?a__law_refused_right ?l__law_refused_right ?c__law_refused_right ?k__law_refused_right ?a_law ?l_law ?c_law ?k_law ?n_isinstance ?n_str ?n_int ?n_bool ?n_len ?n_range ?n_any ?n_min ?n_ord ?n_enumerate ?n_list ?n_super ?n_repr ?g_DIGITS ?g_HEXADECIMAL ?g_ORDERED ?g_SIGNS ?b_IllFormed ?b_InvalidText ?b_InvalidKind ?b_InvalidNumber ?b_MarkupError ?b_MarkupStateError ?b_LimitError ?b_Cursor ?m1 ?m2 ?m3 ?u1 ?u2 ?o1_IllFormed ?o2_IllFormed ?o3_IllFormed ?o4_IllFormed ?o5_IllFormed ?i1_IllFormed ?i2_IllFormed ?i3_IllFormed ?i4_IllFormed ?i5_IllFormed ?i6_IllFormed ?q1_IllFormed ?q2_IllFormed ?q3_IllFormed ?q4_IllFormed ?q5_IllFormed ?q6_IllFormed ?o1_InvalidText ?o2_InvalidText ?o3_InvalidText ?o4_InvalidText ?o5_InvalidText ?i1_InvalidText ?i2_InvalidText ?i3_InvalidText ?i4_InvalidText ?i5_InvalidText ?i6_InvalidText ?q1_InvalidText ?q2_InvalidText ?q3_InvalidText ?q4_InvalidText ?q5_InvalidText ?q6_InvalidText ?o1_InvalidKind ?o2_InvalidKind ?o3_InvalidKind ?o4_InvalidKind ?o5_InvalidKind ?i1_InvalidKind ?i2_InvalidKind ?i3_InvalidKind ?i4_InvalidKind ?i5_InvalidKind ?i6_InvalidKind ?q1_InvalidKind ?q2_InvalidKind ?q3_InvalidKind ?q4_InvalidKind ?q5_InvalidKind ?q6_InvalidKind ?o1_InvalidNumber ?o2_InvalidNumber ?o3_InvalidNumber ?o4_InvalidNumber ?o5_InvalidNumber ?i1_InvalidNumber ?i2_InvalidNumber ?i3_InvalidNumber ?i4_InvalidNumber ?i5_InvalidNumber ?i6_InvalidNumber ?q1_InvalidNumber ?q2_InvalidNumber ?q3_InvalidNumber ?q4_InvalidNumber ?q5_InvalidNumber ?q6_InvalidNumber ?xe_IllFormed ?xs_IllFormed ?xk1_IllFormed ?xe_InvalidKind ?xs_InvalidKind ?xk1_InvalidKind ?xk2_InvalidKind ?xk3_InvalidKind ?xk4_InvalidKind ?xo_IllFormed ?b_FIVE ?f1_FIVE ?f2_FIVE ?q1_FIVE ?q1_kd ?wc_pg ?wc_hd ?wc_po ?wc_sa ?wc_na_own_text ?wc_na_begins ?wc_na_spot ?wc_mk ?wc_kp ?wc_mro ?wc_cls ?w1_Cursor___init__ ?w2_Cursor___init__ ?w3_Cursor___init__ ?w5_Cursor___init__ ?w6_Cursor___init__ ?w7_Cursor___init__ ?w8_Cursor___init__ ?w9_Cursor___init__ ?wt_Cursor___init__ ?wo_Cursor___init__ ?w1_Lines___init__ ?w2_Lines___init__ ?w3_Lines___init__ ?w4_Lines___init__ ?w5_Lines___init__ ?wy_Lines___init__ ?wf_Lines___init__ ?w1_Cursor_offset ?w6_Cursor_offset ?w7_Cursor_offset ?w8_Cursor_offset ?w2_Cursor_offset ?w3_Cursor_offset ?w4_Cursor_offset ?w5_Cursor_offset ?w1_Cursor_go_to ?w2_Cursor_go_to ?w3_Cursor_go_to ?w4_Cursor_go_to ?w5_Cursor_go_to ?w1_Cursor_take_text ?w2_Cursor_take_text ?q1_dfl_Cursor_take_text ?w3_Cursor_take_text ?w4_Cursor_take_text ?w5_Cursor_take_text
    (case a_shortened => k_is)
    (case l_shortened => k_is)
    (case c_shortened => k_is)
    (case k_shortened => k_is)
    (case a_value_of => k_is)
    (case l_value_of => k_is)
    (case c_value_of => k_is)
    (case k_value_of => k_is)
    (case a_is_code => k_is)
    (case l_is_code => k_is)
    (case c_is_code => k_is)
    (case k_is_code => k_is)
    (case a_is_number_part => k_is)
    (case l_is_number_part => k_is)
    (case c_is_number_part => k_is)
    (case k_is_number_part => k_is)
    (case a_character_of => k_is)
    (case l_character_of => k_is)
    (case c_character_of => k_is)
    (case k_character_of => k_is)
    (case a_spaced => k_is)
    (case l_spaced => k_is)
    (case c_spaced => k_is)
    (case k_spaced => k_is)
    (case a_check_text => k_is)
    (case l_check_text => k_is)
    (case c_check_text => k_is)
    (case k_check_text => k_is)
    (case a_check_raw => k_is)
    (case l_check_raw => k_is)
    (case c_check_raw => k_is)
    (case k_check_raw => k_is)
    (case a_number_at => k_is)
    (case l_number_at => k_is)
    (case c_number_at => k_is)
    (case k_number_at => k_is)
    (case a_reference_at => k_is)
    (case l_reference_at => k_is)
    (case c_reference_at => k_is)
    (case k_reference_at => k_is)
    (case a_units => k_is)
    (case l_units => k_is)
    (case q1_dfl_units => kernel_rfl)
    (case c_units => k_is)
    (case k_units => k_is)
    (case a_unescaped => k_is)
    (case l_unescaped => k_is)
    (case q1_dfl_unescaped => kernel_rfl)
    (case c_unescaped => k_is)
    (case k_unescaped => k_is)
    (case a_first_wrong_raw => k_is)
    (case l_first_wrong_raw => k_is)
    (case q1_dfl_first_wrong_raw => kernel_rfl)
    (case c_first_wrong_raw => k_is)
    (case k_first_wrong_raw => k_is)
    (case a_is_between => k_is)
    (case l_is_between => k_is)
    (case q1_dfl_is_between => kernel_rfl)
    (case c_is_between => k_is)
    (case k_is_between => k_is)
    (case a_check_number => k_is)
    (case l_check_number => k_is)
    (case q1_dfl_check_number => kernel_rfl)
    (case c_check_number => k_is)
    (case k_check_number => k_is)
    (case a__law_mixed => k_is)
    (case l__law_mixed => k_is)
    (case c__law_mixed => k_is)
    (case k__law_mixed => k_is)
    (case a__law_stream => k_is)
    (case l__law_stream => k_is)
    (case c__law_stream => k_is)
    (case k__law_stream => k_is)
    (case a__law_draw => k_is)
    (case l__law_draw => k_is)
    (case c__law_draw => k_is)
    (case k__law_draw => k_is)
    (case a__law_signs => k_is)
    (case l__law_signs => k_is)
    (case c__law_signs => k_is)
    (case k__law_signs => k_is)
    (case a__law_pick => k_is)
    (case l__law_pick => k_is)
    (case c__law_pick => k_is)
    (case k__law_pick => k_is)
    (case a__law_told => k_is)
    (case l__law_told => k_is)
    (case c__law_told => k_is)
    (case k__law_told => k_is)
    (case a__law_five => k_is)
    (case l__law_five => k_is)
    (case c__law_five => k_is)
    (case k__law_five => k_is)
    (case a__law_digits => k_is)
    (case l__law_digits => k_is)
    (case c__law_digits => k_is)
    (case k__law_digits => k_is)
    (case a__law_table => k_is)
    (case l__law_table => k_is)
    (case c__law_table => k_is)
    (case k__law_table => k_is)
    (case a__law_number_end => k_is)
    (case l__law_number_end => k_is)
    (case c__law_number_end => k_is)
    (case k__law_number_end => k_is)
    (case a__law_reference_end => k_is)
    (case l__law_reference_end => k_is)
    (case c__law_reference_end => k_is)
    (case k__law_reference_end => k_is)
    (case a__law_read => k_is)
    (case l__law_read => k_is)
    (case c__law_read => k_is)
    (case k__law_read => k_is)
    (case a__law_piece => k_is)
    (case l__law_piece => k_is)
    (case c__law_piece => k_is)
    (case k__law_piece => k_is)
    (case a__law_collected => k_is)
    (case l__law_collected => k_is)
    (case c__law_collected => k_is)
    (case k__law_collected => k_is)
    (case a__law_right => k_is)
    (case l__law_right => k_is)
    (case c__law_right => k_is)
    (case k__law_right => k_is)
    (case a__law_taken_right => k_is)
    (case l__law_taken_right => k_is)
    (case c__law_taken_right => k_is)
    (case k__law_taken_right => k_is)
    (case a__law_refused_right => k_is)
    (case l__law_refused_right => k_is)
    (case c__law_refused_right => k_is)
    (case k__law_refused_right => k_is)
    (case a_law => k_is)
    (case l_law => k_is)
    (case c_law => k_is)
    (case k_law => k_is)
    (case n_isinstance => k_is)
    (case n_str => k_is)
    (case n_int => k_is)
    (case n_bool => k_is)
    (case n_len => k_is)
    (case n_range => k_is)
    (case n_any => k_is)
    (case n_min => k_is)
    (case n_ord => k_is)
    (case n_enumerate => k_is)
    (case n_list => k_is)
    (case n_super => k_is)
    (case n_repr => k_is)
    (case g_DIGITS => k_is)
    (case g_HEXADECIMAL => k_is)
    (case g_ORDERED => k_is)
    (case g_SIGNS => k_is)
    (case b_IllFormed => k_is)
    (case b_InvalidText => k_is)
    (case b_InvalidKind => k_is)
    (case b_InvalidNumber => k_is)
    (case b_MarkupError => k_is)
    (case b_MarkupStateError => k_is)
    (case b_LimitError => k_is)
    (case b_Cursor => k_is)
    (case m1 => k_is)
    (case m2 => k_is)
    (case m3 => k_is)
    (case u1 => k_is)
    (case u2 => k_is)
    (case o1_IllFormed => k_is)
    (case o2_IllFormed => k_is)
    (case o3_IllFormed => k_is)
    (case o4_IllFormed => k_is)
    (case o5_IllFormed => k_is)
    (case i1_IllFormed => k_is)
    (case i2_IllFormed => k_is)
    (case i3_IllFormed => k_is)
    (case i4_IllFormed => k_is)
    (case i5_IllFormed => k_is)
    (case i6_IllFormed => k_is)
    (case q1_IllFormed => kernel_rfl)
    (case q2_IllFormed => k_is)
    (case q3_IllFormed => k_is)
    (case q4_IllFormed => k_is)
    (case q5_IllFormed => k_is)
    (case q6_IllFormed => k_is)
    (case o1_InvalidText => k_is)
    (case o2_InvalidText => k_is)
    (case o3_InvalidText => k_is)
    (case o4_InvalidText => k_is)
    (case o5_InvalidText => k_is)
    (case i1_InvalidText => k_is)
    (case i2_InvalidText => k_is)
    (case i3_InvalidText => k_is)
    (case i4_InvalidText => k_is)
    (case i5_InvalidText => k_is)
    (case i6_InvalidText => k_is)
    (case q1_InvalidText => kernel_rfl)
    (case q2_InvalidText => k_is)
    (case q3_InvalidText => k_is)
    (case q4_InvalidText => k_is)
    (case q5_InvalidText => k_is)
    (case q6_InvalidText => k_is)
    (case o1_InvalidKind => k_is)
    (case o2_InvalidKind => k_is)
    (case o3_InvalidKind => k_is)
    (case o4_InvalidKind => k_is)
    (case o5_InvalidKind => k_is)
    (case i1_InvalidKind => k_is)
    (case i2_InvalidKind => k_is)
    (case i3_InvalidKind => k_is)
    (case i4_InvalidKind => k_is)
    (case i5_InvalidKind => k_is)
    (case i6_InvalidKind => k_is)
    (case q1_InvalidKind => kernel_rfl)
    (case q2_InvalidKind => k_is)
    (case q3_InvalidKind => k_is)
    (case q4_InvalidKind => k_is)
    (case q5_InvalidKind => k_is)
    (case q6_InvalidKind => k_is)
    (case o1_InvalidNumber => k_is)
    (case o2_InvalidNumber => k_is)
    (case o3_InvalidNumber => k_is)
    (case o4_InvalidNumber => k_is)
    (case o5_InvalidNumber => k_is)
    (case i1_InvalidNumber => k_is)
    (case i2_InvalidNumber => k_is)
    (case i3_InvalidNumber => k_is)
    (case i4_InvalidNumber => k_is)
    (case i5_InvalidNumber => k_is)
    (case i6_InvalidNumber => k_is)
    (case q1_InvalidNumber => kernel_rfl)
    (case q2_InvalidNumber => k_is)
    (case q3_InvalidNumber => k_is)
    (case q4_InvalidNumber => k_is)
    (case q5_InvalidNumber => k_is)
    (case q6_InvalidNumber => k_is)
    (case xe_IllFormed => kernel_rfl)
    (case xs_IllFormed => first | k_is | kernel_rfl)
    (case xk1_IllFormed => kernel_rfl)
    (case xe_InvalidKind => kernel_rfl)
    (case xs_InvalidKind => first | k_is | kernel_rfl)
    (case xk1_InvalidKind => kernel_rfl)
    (case xk2_InvalidKind => kernel_rfl)
    (case xk3_InvalidKind => kernel_rfl)
    (case xk4_InvalidKind => kernel_rfl)
    (case xo_IllFormed => first | k_is | kernel_rfl)
    (case b_FIVE => k_is)
    (case f1_FIVE => k_is)
    (case f2_FIVE => exact ⟨⟨_, _, rfl, rfl⟩, ⟨_, _, rfl, rfl⟩, ⟨_, _, rfl, rfl⟩, ⟨_, _, rfl, rfl⟩, ⟨_, _, rfl, rfl⟩, trivial⟩)
    (case q1_FIVE => kernel_rfl)
    (case q1_kd => kernel_rfl)
    (case wc_pg => first | k_is | kernel_rfl)
    (case wc_hd => first | k_is | kernel_rfl)
    (case wc_po => first | k_is | kernel_rfl)
    (case wc_sa => first | k_is | kernel_rfl)
    (case wc_na_own_text => first | k_is | kernel_rfl)
    (case wc_na_begins => first | k_is | kernel_rfl)
    (case wc_na_spot => first | k_is | kernel_rfl)
    (case wc_mk => first | k_is | kernel_rfl)
    (case wc_kp => first | k_is | kernel_rfl)
    (case wc_mro => first | k_is | kernel_rfl)
    (case wc_cls => first | k_is | kernel_rfl)
    (case w1_Cursor___init__ => first | k_is | kernel_rfl)
    (case w2_Cursor___init__ => first | k_is | kernel_rfl)
    (case w3_Cursor___init__ => first | k_is | kernel_rfl)
    (case w5_Cursor___init__ => first | k_is | kernel_rfl)
    (case w6_Cursor___init__ => first | k_is | kernel_rfl)
    (case w7_Cursor___init__ => first | rfl | kernel_rfl)
    (case w8_Cursor___init__ => first | kernel_rfl | rfl | decide +kernel)
    (case w9_Cursor___init__ => first | k_is | kernel_rfl)
    (case wt_Cursor___init__ => first | kernel_rfl | rfl | decide +kernel)
    (case wo_Cursor___init__ => first | k_is | kernel_rfl)
    (case w1_Lines___init__ => first | ks_is | kernel_rfl)
    (case w2_Lines___init__ => first | k_is | kernel_rfl)
    (case w3_Lines___init__ => first | k_is | kernel_rfl)
    (case w4_Lines___init__ => first | k_is | kernel_rfl)
    (case w5_Lines___init__ => first | k_is | kernel_rfl)
    (case wy_Lines___init__ => first | k_is | kernel_rfl)
    (case wf_Lines___init__ => first | k_is | kernel_rfl)
    (case w1_Cursor_offset => first | k_is | kernel_rfl)
    (case w6_Cursor_offset => first | k_is | kernel_rfl)
    (case w7_Cursor_offset => first | k_is | kernel_rfl)
    (case w8_Cursor_offset => first | k_is | kernel_rfl)
    (case w2_Cursor_offset => first | k_is | kernel_rfl)
    (case w3_Cursor_offset => first | k_is | kernel_rfl)
    (case w4_Cursor_offset => first | k_is | kernel_rfl)
    (case w5_Cursor_offset => first | k_is | kernel_rfl)
    (case w1_Cursor_go_to => first | k_is | kernel_rfl)
    (case w2_Cursor_go_to => first | k_is | kernel_rfl)
    (case w3_Cursor_go_to => first | k_is | kernel_rfl)
    (case w4_Cursor_go_to => first | k_is | kernel_rfl)
    (case w5_Cursor_go_to => first | k_is | kernel_rfl)
    (case w1_Cursor_take_text => first | k_is | kernel_rfl)
    (case w2_Cursor_take_text => first | k_is | kernel_rfl)
    (case q1_dfl_Cursor_take_text => kernel_rfl)
    (case w3_Cursor_take_text => first | k_is | kernel_rfl)
    (case w4_Cursor_take_text => first | k_is | kernel_rfl)
    (case w5_Cursor_take_text => first | k_is | kernel_rfl)
    (case np__law_right => kernel_rfl)
    (case tab__law_right => kernel_rfl)
    (case np__law_refused_right => kernel_rfl)
    (case tab__law_refused_right => kernel_rfl)
