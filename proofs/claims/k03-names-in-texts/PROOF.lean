import PyProof.Rows.All
import Wide.All
import OpenK.AllK
import Wide.FinOn
import HandS.ForMost
import HandS.ForExc
import HandS.Lambda
import HandS.IsInst
import HandS.Defaults
import HandS.ExcInit
import HandS.TryMany
import HandS.StrMore
import PyProof.ReprRoads
import PyProof.Draws
import KE.KExcIs
import HandS.EndTab
import HandS.Walk
import HandS.BoundDict
import HandS.Small
import KE.GoesMore
import PyProof.GenRules
import PyProof.GenQ
import HandS.GenList
import HandS.Exc
import HandS.Comp
import HandS.More
import KE.KDictWalk
import HandS.Set
import HandS.SetFor
import HandS.Sort
import HandS.Strs
import PyProof.Rows.SortStr
import KE.KSuper
import HandS.ReplaceDef
import HandS.ClsMeth
import HandS.HeadHook2
import HandS.FStr
import HandS.Star
import HandS.Property
import HandS.Flow
import KE.RegKSuper
import PySem.Challenge.RW_markstream_k03_names_in_texts
set_option Elab.async false
set_option linter.all false
set_option maxRecDepth 100000
set_option maxHeartbeats 4000000
namespace Mx
open PySem PySem.Spec PyProof.Rows L2

/-! ### promises that may lean on an empty list of guards (repr) -/
structure RmG (k : Nat) (A : Around) : Prop where
  r : Room k A
  g : A.guards = some []
theorem RmG.mono {j k : Nat} {A : Around} (h : RmG k A) (l : j ≤ k) : RmG j A := ⟨h.r.mono l, h.g⟩
theorem RmG.deeper {k : Nat} {A : Around} (h : RmG (k + 1) A) (env : Env) : RmG k (A.deeper env) := ⟨h.r.deeper env, h.g⟩

structure FnG (P : Program) (w : World) (K : PySem.W.Frag) (mg : Str → Option Value) (base : Heap) (CX : CXT) (k : Nat) (f : Addr) (fd : FuncData) (ps : List Str) (sp : Sp) : Prop where
  len : ∀ vs H Q E, sp vs H Q E → vs.length = ps.length
  run : ∀ (A : Around) (outer : List Env) (s : Shared) (H : Hp) (args : Args) (us : List Value) (vs : List V) (Q : VK) (E : XK),
    RmG k A → Env0 P w K mg base A outer s H → BindsTo s fd args (ps.zip us) → Vals vs us → sp vs H Q E →
    codeAny (model P w) A (.call (.ref f) args) (CR CX outer P w H s Q E) s
theorem FnG.of {P : Program} {w : World} {K : PySem.W.Frag} {mg : Str → Option Value} {base : Heap} {CX : CXT} {j k : Nat} {f : Addr} {fd : FuncData} {ps : List Str} {sp : Sp}
    (F : FnOk P w K mg base CX j f fd ps sp) (h : j ≤ k) : FnG P w K mg base CX k f fd ps sp :=
  ⟨F.len, fun A o s H as us vs Q E hr => F.run A o s H as us vs Q E (hr.r.mono h)⟩
theorem FnG.mono {P : Program} {w : World} {K : PySem.W.Frag} {mg : Str → Option Value} {base : Heap} {CX : CXT} {j k : Nat} {f : Addr} {fd : FuncData} {ps : List Str} {sp : Sp}
    (F : FnG P w K mg base CX j f fd ps sp) (h : j ≤ k) : FnG P w K mg base CX k f fd ps sp :=
  ⟨F.len, fun A o s H as us vs Q E hr => F.run A o s H as us vs Q E (hr.mono h)⟩

section
variable {X : Cx} {CX : CXT} {k : Nat} {f C : Addr} {fd : FuncData} {ps ks : List Str} {sp : Sp} {dvs : List V} {ds : List Value} {E : XK} {x m : Str} {p pos apos : Pos} {e o : Expr} {es : List Expr} {kws : List Keyword} {ta : TE} {t tk : TA}
  {g : List Value → List Value → List Value} {gV : List V → List V → List V}
/-- the answer of a callee's run, for the caller -/
theorem back {pins : List (Addr × Obj)} {σ : L2.St} {H : Hp} {s : Shared} {Q : VK} (hx : Passes CX X E) (I : Inv X pins σ H s) :
    ∀ (r : Result) (s' : Shared), CR CX X.stack X.prog X.w H s Q E r s' → (match r with | .ok (.ret u) => EP X pins σ Q u s' | .ok _ => False | .error e => X.xe e s')
  | .error _, _, h => hx _ _ _ _ _ _ I h
  | .ok (.ret _), _, h => I.after h
  | .ok .next, _, h => h
  | .ok .brk, _, h => h
  | .ok .cont, _, h => h
theorem runKW {pins : List (Addr × Obj)} {σ : L2.St} {H : Hp} {s : Shared} {Q : VK} {us ws : List Value} {vs zs : List V} (F : FnG X.prog X.w X.K X.mg X.base CX k f fd ps sp)
    (hr : RmG k X.A) (hb : KBinds X.K fd ps ks g gV) (hx : Passes CX X E) (I : Inv X pins σ H s) (r : Vals vs us) (rz : Vals zs ws) (h : sp (gV vs zs) H Q E) :
    wpAny (model X.prog X.w) X.A (call (.ref f) us (ks.zip ws)) (EP X pins σ Q) X.xe s := by
  have r2 := hb.rel r rz
  have hl : (g us ws).length = ps.length := r2.length.symm.trans (F.len _ _ _ _ h)
  refine wpAny_call (codeAny_mono (F.run _ _ _ _ _ _ _ _ _ hr I.env0 (hb.to s us ws I.kIn hl) r2 h) fun q s' hq => ?_)
  exact back hx I q s' hq
theorem runPos {pins : List (Addr × Obj)} {σ : L2.St} {H : Hp} {s : Shared} {Q : VK} {us : List Value} {vs : List V} (F : FnG X.prog X.w X.K X.mg X.base CX k f fd ps sp)
    (hr : RmG k X.A) (hb : Binds X.K fd ps ds) (hd : Vals dvs ds) (hx : Passes CX X E) (I : Inv X pins σ H s) (r : Vals vs us) (h : sp (vs ++ dvs) H Q E) :
    wpAny (model X.prog X.w) X.A (call (.ref f) us) (EP X pins σ Q) X.xe s := by
  have r2 : Vals (vs ++ dvs) (us ++ ds) := r.append hd
  have hl : (us ++ ds).length = ps.length := r2.length.symm.trans (F.len _ _ _ _ h)
  refine wpAny_call (codeAny_mono (F.run _ _ _ _ _ _ _ _ _ hr I.env0 (hb s us I.kIn hl) r2 h) fun q s' hq => ?_)
  exact back hx I q s' hq
/-- f(e, ..) of such a def -/
theorem pg_call (F : FnG X.prog X.w X.K X.mg X.base CX k f fd ps sp) (hr : RmG k X.A) (hg : Gl X x) (hm : X.mg x = some (.ref f)) (hk : PySem.W.keepIn X.K (.ref f) = true)
    (hb : Binds X.K fd ps ds) (hd : Vals dvs ds) (hx : Passes CX X E) (ha : PA X (e :: es) t) (hdb : (x == ("__debug__" : Str)) = false := by decide)
    (he : starEach (e :: es) X.env = (false, eval e X.env) :: starEach es X.env := by rfl) (hpl : (backTo pos (starEach es X.env)).any (·.1) = false := by rfl) :
    PE X (.Call (.Name x p) (e :: es) [] pos) (tCall sp dvs E t) :=
  ⟨fun pins s σ H Q I h => wpAny_Call_Name_kw (ld_glob I hg hm (PySem.W.callWith_K (h₀ := X.base) I.ok.mod.kin hk
    (thn (ha.run pos pins s σ H _ I h) fun us s1 ⟨vs, H1, I1, r, q⟩ => ⟨I1.kIn, runPos F hr hb hd hx I1 r q⟩) he hpl) hdb)⟩
theorem pg_call0 (F : FnG X.prog X.w X.K X.mg X.base CX k f fd ps sp) (hr : RmG k X.A) (hg : Gl X x) (hm : X.mg x = some (.ref f)) (hk : PySem.W.keepIn X.K (.ref f) = true)
    (hb : Binds X.K fd ps ds) (hd : Vals dvs ds) (hx : Passes CX X E) (hdb : (x == ("__debug__" : Str)) = false := by decide) : PE X (.Call (.Name x p) [] [] pos) (tCall sp dvs E tNil) :=
  ⟨fun pins s σ H Q I h => wpAny_Call_Name_kw (ld_glob I hg hm (PySem.W.callWith_K0 I.kIn hk (runPos (us := []) F hr hb hd hx I .nil h)) hdb)⟩
/-- f(k = v, ..), no positional argument -/
theorem pe_kw0 (F : FnOk X.prog X.w X.K X.mg X.base CX k f fd ps sp) (hr : Room k X.A) (hg : Gl X x) (hm : X.mg x = some (.ref f)) (hk : PySem.W.keepIn X.K (.ref f) = true)
    (hb : KBinds X.K fd ps ks g gV) (hx : Passes CX X E) (hkw : PK X kws tk) (hall : (backToKw pos (keywordEach kws X.env)).all (·.1.isSome) = true := by rfl)
    (hks : (backToKw pos (keywordEach kws X.env)).filterMap (·.1) = ks := by rfl) (hdb : (x == ("__debug__" : Str)) = false := by decide)
    (hpl : ((backTo pos (starEach [] X.env)).any (·.1) || (backToKw pos (keywordEach kws X.env)).any (·.1.isNone)) = false := by rfl) :
    PE X (.Call (.Name x p) [] kws pos) (tCallK sp gV E tNil tk) :=
  ⟨fun pins s σ H Q I h => wpAny_Call_Name_kw (ld_glob I hg hm (PySem.W.callWith_KW0 (h₀ := X.base) I.ok.mod.kin hk hall
    (thn (hkw.run pos pins s σ H _ I h) fun ws s1 ⟨zs, H1, I1, rz, q⟩ => ⟨I1.kIn, by rw [hks]; exact run_fnk F hr hb hx I1 .nil rz q⟩) hpl) hdb)⟩
end

section
variable {P : Program} {w : World} {K : PySem.W.Frag} {mg : Str → Option Value} {base : Heap}
/-- a def by its body, with the guards told -/
theorem okG {CX : CXT} {x qual : Str} {st : Stmt} {f : Addr} {fd : FuncData} {N ps : List Str} {k : Nat} {sp : Sp} (F : Fun K x qual st f fd) (S : FnScope N ps (defScope st)) (len : ∀ vs H Q E, sp vs H Q E → vs.length = ps.length)
    (hbody : ∀ (cdv : Value) (A : Around) (outer : List Env) (s : Shared) (H : Hp) (vs : List V) (Q : VK) (E : XK), RmG k (A.deeper (envOfC qual (defScope st) s.heap.objs.size f cdv)) → sp vs H Q E →
      ∃ t, PSs (cxOf CX P w K mg base N qual (defScope st) f cdv A outer s H E) (defBody st) t ∧ t { nx := fun _ H' => Q .non H', rt := Q } (start N vs) H) : FnG P w K mg base CX (k + 1) f fd ps sp := by
  obtain ⟨oc, od, kV, doc, pm, an, cdv, ct, osl, rfl, lk, hcd⟩ := F.ex
  refine ⟨len, fun A outer s H args us vs Q E hr e0 hb r hsp => ?_⟩
  have KX : K.In s.heap := e0.mod.kin.keeps fun b o e => (e0.bs b o e).1
  have hk : ((ps.zip us).all fun y => (defScope st).names.lookup y.1 == some .local || (defScope st).names.lookup y.1 == some .cell) = true := List.all_eq_true.mpr fun y hy => by
    rcases S.par y.1 (List.of_mem_zip (a := y.1) (b := y.2) hy).1 with q | q <;> rw [q] <;> rfl
  refine Att.call_fn KX (e0.mod.nolimit.keeps fun b o e => (e0.bs b o e).1) lk hcd hr.r.depth hb hk (fun s1 x => ?_) S.co S.gen S.kind
  obtain ⟨t, ht, hq⟩ := hbody cdv A outer s H vs Q E (hr.deeper _) hsp
  have I := inv_start (CX := CX) (E := E) (f := f) (cd := cdv) (qual := qual) (outer := outer) S hr.r.hd e0 (len _ _ _ _ hsp) r x
  refine wpAny_mono (ht.run [] s1 _ H _ I hq) (fun fl s' hs => ?_) fun _ _ hs => hs
  cases fl with
  | ret u =>
    obtain ⟨v, _, H', J, rv, q⟩ := hs
    exact ⟨v, H', J.os, J.bare, J.base, J.hok, rv, q⟩
  | next =>
    obtain ⟨_, H', J, q⟩ := hs
    exact ⟨.non, H', J.os, J.bare, J.base, J.hok, rfl, q⟩
  | brk => exact hs.elim fun _ h => h.elim fun _ h => False.elim h.2
  | cont => exact hs.elim fun _ h => h.elim fun _ h => False.elim h.2
end
end Mx

namespace Mx
open PySem PySem.Spec PyProof.Rows L2

/-! ### operators -/
/-- a list that may be read, its object told whole -/
def LsX (K : PySem.W.Frag) (H : Hp) (a : Addr) (xs : List V) : Prop := Rd H a (.lst xs) ∨
  ∃ (its : List Value) (n : Nat), K.lookup a = some { cls := .type "list", data := .seq its.toArray n } ∧ xs.length ≤ sizeLine ∧ Vals xs its
theorem LsX.of {K : PySem.W.Frag} {H : Hp} {a : Addr} {xs : List V} (h : H a = some (.lst xs)) : LsX K H a xs := .inl (.inl h)
theorem LsX.sq {K : PySem.W.Frag} {H : Hp} {a : Addr} {xs : List V} (h : LsX K H a xs) : SqL K H a xs := by
  rcases h with h | ⟨its, n, h, z, r⟩
  · exact .inl h
  · exact .inr ⟨_, its.toArray, n, h, rfl, rfl, rfl, by rw [List.size_toArray, ← r.length]; exact z, by simpa using r⟩
theorem LsX.at {X : Cx} {pins : List (Addr × Obj)} {σ : L2.St} {H : Hp} {s : Shared} {a : Addr} {xs : List V} (I : Inv X pins σ H s) (h : LsX X.K H a xs) :
    ∃ (its : List Value) (n : Nat), Vals xs its ∧ xs.length ≤ sizeLine ∧ s.heap.get? a = some { cls := .type "list", data := .seq its.toArray n } := by
  rcases h with h | ⟨its, n, h, z, r⟩
  · obtain ⟨z, its, n, r, e⟩ := h.ok I.hok
    exact ⟨its, n, r, z, e⟩
  · exact ⟨its, n, r, z, I.kIn _ _ h⟩
theorem LsX.keep {K : PySem.W.Frag} {H H' : Hp} {a : Addr} {xs : List V} (h : LsX K H a xs) (e : ∀ o, H a = some o → H' a = some o) : LsX K H' a xs := by
  rcases h with (h | ⟨o, h⟩) | h
  · exact .inl (.inl (e _ h))
  · exact .inl (.inr ⟨o, e _ h⟩)
  · exact .inr h
/-- two lists, read alone, one behind the other -/
def rCatR (K : PySem.W.Frag) : R2 := fun x y H Q => ∃ a b xs ys, x = .ref a ∧ y = .ref b ∧ LsX K H a xs ∧ LsX K H b ys ∧ xs.length + ys.length ≤ sizeLine ∧
  ∀ p, H p = none → Q (.ref p) (upd H p (.lst (xs ++ ys)))
theorem op_catR {X : Cx} : OpR X (binaryOp .Add) (rCatR X.K) := by
  intro pins s σ H x y v u Q I rx ry h
  obtain ⟨a, b, xs, ys, rfl, rfl, hA, hB, hz, q⟩ := h
  cases rx
  cases ry
  obtain ⟨ia, na, ra, za, ea⟩ := hA.at I
  obtain ⟨ib, nb, rb, zb, eb⟩ := hB.at I
  refine PySem.P.add_list ea eb ?_ (by rw [List.size_toArray, List.size_toArray, ← ra.length, ← rb.length]; exact hz)
  rw [show ia.toArray ++ ib.toArray = (ia ++ ib).toArray from by simp]
  exact ⟨.ref _, _, I.lnew (t' := s.toks) (ra.append rb) (by rw [List.length_append]; exact hz), rfl, q _ I.fresh⟩

/-! ### repr of data -/
def rRepr (K : PySem.W.Frag) : List V → Hp → VK → Prop := fun xs H Q => ∃ (a : Addr) (d : PyData), xs = [.ref a] ∧ Dp K H (.ref a) d ∧ d.showable = true ∧ d.hasDict = false ∧ d.depth ≤ 60 ∧ d.shown.length ≤ sizeLine ∧ Q (.str d.shown) H
theorem call_repr {X : Cx} {k : Nat} (hr : RmG k X.A) : CallR X (.builtin "repr") (rRepr X.K) := by
  intro pins s σ H vs us Q I r h
  obtain ⟨a, d, rfl, hd, h1, h2, h3, h4, q⟩ := h
  cases r with
  | cons ra rn =>
    cases rn
    cases ra
    obtain ⟨as, hr2⟩ := Dp.reads I d _ _ hd rfl
    have hu := hr.r.un
    refine repr_of_reads' hr2 h1 (PyData.noDict_hsm h2) hr.g (by omega) (fun _ _ e => e) (fun h' u tk hk => ?_) h4
    exact ⟨.str d.shown, H, I.kept hk, ⟨u, rfl⟩, q⟩

/-! ### enumerate of a text -/
def Itet (x : Str) : It :=
  ⟨fun i _ => i < x.cps.size, fun i H v H' => ∃ T c, v = .ref T ∧ H T = none ∧ x.cps[i]? = some c ∧ H' = upd H T (.tup [.int (i : Nat), .str ⟨#[c]⟩]), fun i _ => i = x.cps.size⟩
def IsEt (x : Str) (t : Tok) (e it : Addr) (i : Nat) (h : Heap) : Prop :=
  (∃ old, IsEnum h e it ((i : Nat) : Int) old) ∧ h.IsStrIter it (strIterType x) x t i ∧ e ≠ it
theorem drawsS {prog : Program} {w : World} {A : Around} (hh : A.handled = none) (it : Addr) (x : Str) (t : Tok) :
    Draws prog w A it [it] x.cps.size (fun i v => ∃ c u, x.cps[i]? = some c ∧ v = .str ⟨#[c]⟩ u) (fun i h => h.IsStrIter it (strIterType x) x t i) := by
  have z : strIterType x = "str_ascii_iterator" ∨ strIterType x = "str_iterator" := by
    unfold strIterType
    split <;> simp
  rcases z with e | e <;> rw [e]
  · exact Draws.strAscii hh it x t
  · exact Draws.strWide hh it x t
theorem turn_et {P : Program} {w : World} {K : PySem.W.Frag} {elts : List Expr} {kk : Nat} {tpos : Pos} (x : Str) (t : Tok) (e it : Addr) :
    Turn P w K (.Tuple elts kk tpos) (Itet x) [e, it] e (IsEt x t e it) where
  mem := by simp
  obj := fun i h st b hb => by
    obtain ⟨⟨old, he⟩, ⟨o, ho, hc, hd⟩, _⟩ := st
    rcases List.mem_cons.mp hb with z | z
    · exact ⟨_, z ▸ he, fun v q => by cases q⟩
    · exact ⟨o, (List.mem_singleton.mp z) ▸ ho, fun v q => by rw [hd] at q; cases q⟩
  keep := fun i h h' st k => ⟨let ⟨old, he⟩ := st.1; ⟨old, k e (by simp) _ he⟩, let ⟨o, ho, r⟩ := st.2.1; ⟨o, k it (by simp) _ ho, r⟩, st.2.2⟩
  item := by
    intro X hP hw hK hc i pins s σ H E I hf st hg
    subst hP hw hK
    obtain ⟨⟨old, he⟩, hit, hne⟩ := st
    have le : e < s.heap.objs.size := Heap.lt_size he
    have li : it < s.heap.objs.size := by obtain ⟨_, q, _⟩ := id hit; exact Heap.lt_size q
    have D := drawsS (prog := X.prog) (w := X.w) (A := X.A.in1) (I.ok.hd hc) it x t
    refine wpAny_pyNext_enum_itemD D he hit hg hne (by simpa using hne) fun z h' tk hz ho hit' hT hsz hk => ?_
    obtain ⟨c, u, hcx, rfl⟩ := hz
    refine ⟨_, rfl, wpAny_letOwnedTupleGo_enum (s := { s with heap := h', toks := tk + 1 }) ho fun h'' he' sb => ?_⟩
    have hT2 : h''.get? s.heap.objs.size = some { cls := .type "tuple", data := .seq #[.int i tk, .str ⟨#[c]⟩ u] } := (sb.2 _ (Nat.ne_of_gt le)).trans hT
    have new : ObjOk X.prog X.w (upd H s.heap.objs.size (.tup [.int (i : Nat), .str ⟨#[c]⟩])) h'' s.heap.objs.size (.tup [.int (i : Nat), .str ⟨#[c]⟩]) :=
      ⟨(by decide : 2 ≤ sizeLine), _, .cons ⟨_, rfl⟩ (.cons ⟨_, rfl⟩ .nil), _, hT2, rfl, _, rfl⟩
    have J : Inv X pins σ (upd H s.heap.objs.size (.tup [.int (i : Nat), .str ⟨#[c]⟩])) { s with heap := h'', toks := tk + 1 } :=
      I.turnedNew (ch := [e, it]) (fun b ob hb q => (sb.2 b (fun y => hb (by simp [y]))).trans (hk b ob (fun y => hb (by simp [y])) (fun y => hb (by simp [y])) q)) hf (Nat.le_refl _) new
    refine ⟨.ref s.heap.objs.size, _, J, rfl, ⟨_, c, rfl, I.hok.fresh (Nat.le_refl _), hcx, rfl⟩, ⟨⟨.str ⟨#[c]⟩ u, ?_⟩, ?_, hne⟩, fun b hb => ?_⟩
    · have e1 : ((i + 1 : Nat) : Int) = (i : Int) + 1 := by omega
      rw [e1]
      exact he'
    · obtain ⟨o, q, r⟩ := hit'
      exact ⟨o, (sb.2 it (Ne.symm hne)).trans q, r⟩
    · have lb : b < s.heap.objs.size := by
        rcases List.mem_cons.mp hb with z | z
        · exact z ▸ le
        · exact (List.mem_singleton.mp z) ▸ li
      rw [upd_ne (Nat.ne_of_lt lb)]
      exact (hf b hb).1
  done := by
    intro X hP hw hK hc i pins s σ H E I hf st hg
    subst hP hw hK
    obtain ⟨⟨old, he⟩, hit, hne⟩ := st
    have hg' : i = x.cps.size := hg
    subst hg'
    obtain ⟨f0, f1, f2, f3, f4, f5⟩ := hf it (by simp)
    exact wpAny_pyNext_enum_endD (St := fun i h => h.IsStrIter it (strIterType x) x t i) (drawsS (A := X.A.in1) (I.ok.hd hc) it x t) he hit fun h' eb => ⟨rfl, I.turned (t' := s.toks) (fun b o hb q => eb b o hb q) f0 f1 f3 f4 f5⟩
  self := fun A i s Q E st h => let ⟨⟨_, he⟩, _⟩ := st; wpAny_pyIter_enum he h
def iEt (ta : TA) : TI := fun σ H R => ta σ H fun vs H1 => ∃ x, vs = [.str x] ∧ R (Itet x) H1
theorem pi_enumT {X : Cx} {e : Expr} {ta : TA} {p pos tpos : Pos} {elts : List Expr} {kk : Nat} (hg : Gl X "enumerate") (hm : X.mg "enumerate" = none) (ha : PA X [e] ta)
    (hs : starEach [e] X.env = [(false, eval e X.env)] := by rfl) : PI X (.Tuple elts kk tpos) (.Call (.Name "enumerate" p) [e] [] pos) (iEt ta) := by
  refine ⟨fun pins s σ H R I h => Call_ (ld_blt I hg hm boot_enumerate (PyProof.Rows.callWith_type1 (thn (ha.run pos pins s σ H _ I h) fun us s1 ⟨vs, H1, I1, r1, q1⟩ => ?_) hs rfl))⟩
  obtain ⟨x, ex, q⟩ := q1
  subst ex
  cases r1 with
  | cons r rr =>
    cases rr
    obtain ⟨t, rfl⟩ := r
    refine call_enumerate_str fun h' he hit hsz hk => wpAny_pyIter_enum he ?_
    have I2 : Inv X pins σ H1 { s1 with heap := h' } := I1.kept (t' := s1.toks) hk
    refine ⟨s1.heap.objs.size + 1, [s1.heap.objs.size + 1, s1.heap.objs.size], _, _, H1, rfl, I2, turn_et x t (s1.heap.objs.size + 1) s1.heap.objs.size, ⟨⟨.none, he⟩, hit, Nat.succ_ne_self _⟩, fun b hb => ?_, q⟩
    have le : s1.heap.objs.size ≤ b := by
      rcases List.mem_cons.mp hb with z | z
      · rw [z]; exact Nat.le_add_right _ _
      · rw [List.mem_singleton.mp z]; exact Nat.le_refl _
    exact I1.fpOk le (I1.hok.fresh le)
end Mx

namespace Mx
open PySem PySem.Spec PyProof.Rows L2

/-! ### exceptions whose __init__ calls that of their base by its name -/
/-- a base class over ValueError, read by its name -/
structure BaseT (K : PySem.W.Frag) (mg : Str → Option Value) (bn : Str) (CM : Addr) : Prop where
  mgM : mg bn = some (.ref CM)
  rd : PySem.W.readsIn K CM (.type "type") = true
  ga : PySem.W.specialIn K (.ref CM) "__getattribute__" = some (some (.builtin "type.__getattribute__"))
  at_ : PySem.W.findCls K (.ref CM) (.type "type") "__init__" = some (.val (.builtin "ValueError.__init__"))
section
variable {X : Cx} {o e : Expr} {es : List Expr} {ta : TA} {p1 p2 pos : Pos}
theorem pe_minit {bn : Str} {CM : Addr} {pl : Sem Bool} (T : BaseT X.K X.mg bn CM) (hg : Gl X bn) (ha : PA X (e :: es) ta)
    (hc : eval (.Call (.Attribute (.Name bn p1) "__init__" p2) (e :: es) [] pos) X.env = (do
      let ov ← eval (.Name bn p1) X.env
      standAt p2.atName
      let (f, first) ← holding [ov] (getMethod ov "__init__" pl)
      callWith pos f first (backTo pos (starEach (e :: es) X.env)) (backToKw pos (keywordEach [] X.env))) := by rfl)
    (he : starEach (e :: es) X.env = (false, eval e X.env) :: starEach es X.env := by rfl) (hpl : (backTo pos (starEach es X.env)).any (·.1) = false := by rfl)
    (hdb : (bn == ("__debug__" : Str)) = false := by decide) :
    PE X (.Call (.Attribute (.Name bn p1) "__init__" p2) (e :: es) [] pos) (tVeI X.K ta) := by
  refine ⟨fun pins s σ H Q I h => PySem.W.methodCall_KW (ld_glob I hg T.mgM ?_ hdb) hc⟩
  refine PySem.W.method_cls I.kIn T.ga (PySem.W.cls_value I.kIn T.rd T.at_ (by decide +kernel) ?_)
  refine PyProof.Rows.callWith_method1 (thn (ha.run pos pins _ σ H _ (I.tok _) h) fun us s1 ⟨vs, H1, I1, r1, a, C, ws, ev, hl, Tc, ea, q⟩ => ?_) he hpl
  subst ev
  cases r1 with
  | @cons _ u0 _ ur ra rw' =>
    obtain rfl : u0 = Value.ref a := ra
    have hz : ur.length ≤ sizeLine := by
      rw [← Paired.length rw']
      exact Nat.le_trans hl (by decide)
    exact oinit_ok Tc I1 ea hz fun s' J => ⟨.non, H1, J, rfl, q⟩
end
/-- what __init__(self, f) keeps -/
def spXI (K : PySem.W.Frag) (C : Addr) (f : Str) : Sp := fun vs H Q _ => ∃ (a : Addr) (y : V), vs = [.ref a, y] ∧ OexC K C ∧ H a = some (exo a C none) ∧
  ∀ dx, H dx = none → dx ≠ a → Q .non (upd (upd H dx (exd dx [(f, y)])) a (exo a C (some dx)))
/-- the facts of such a class with one field -/
structure ExT (P : Program) (w : World) (K : PySem.W.Frag) (mg : Str → Option Value) (base : Heap) (cn f : Str) (C fI : Addr) (fd : FuncData) (ps : List Str) : Prop where
  oex : OexC K C
  mgC : mg cn = some (.ref C)
  iC : PySem.W.findIn K (.ref C) "__init__" = some (some (.ref fI))
  tI : PySem.W.typeIn K (.ref fI) = some (.type "function")
  ok : FnOk P w K mg base CX0 1 fI fd ps (spXI K C f)
  bI : Binds K fd ps []
/-- C(e): the exception's class, its own dict -/
def tXM (C : Addr) (f : Str) (ta : TA) : L2.St → Hp → XK → Prop := fun σ H Q => ta σ H fun vs H1 => ∃ y, vs = [y] ∧ ∀ d, H1 d = none → Q (.ref C) (some d) (upd H1 d (.xd [(f, y)]))
/-- arguments, the wish made weaker behind them -/
def aMono (ta : TA) : TA := fun σ H Q => ∃ Q0 : List V → Hp → Prop, ta σ H Q0 ∧ ∀ vs H1, Q0 vs H1 → Q vs H1
theorem pa_mono {X : Cx} {es : List Expr} {ta : TA} (ha : PA X es ta) : PA X es (aMono ta) :=
  ⟨fun pos pins s σ H Q I ⟨Q0, h, k⟩ => wpAny_mono (ha.run pos pins s σ H Q0 I h) (fun _ _ ⟨vs, H1, I1, r, q⟩ => ⟨vs, H1, I1, r, k _ _ q⟩) fun _ _ z => z⟩
theorem pmk_x {X : Cx} {e : Expr} {ta : TA} {p pos : Pos} {cn f : Str} {C fI : Addr} {fd : FuncData} {ps : List Str} (T : ExT X.prog X.w X.K X.mg X.base cn f C fI fd ps) (hr : Room 2 X.A) (hg : Gl X cn) (ha : PA X [e] ta)
    (hdb : (cn == ("__debug__" : Str)) = false := by decide) (he : starEach [e] X.env = (false, eval e X.env) :: starEach [] X.env := by rfl) (hpl : (backTo pos (starEach [] X.env)).any (·.1) = false := by rfl) :
    PMk X (.Call (.Name cn p) [e] [] pos) (tXM C f ta) := by
  intro pins s σ H Q I h
  refine pmk_oex T.oex T.iC T.tI T.ok hr T.bI .nil pass0 hg T.mgC (pa_mono ha) hdb he hpl pins s σ H Q I ⟨_, h, fun vs H1 hq => ?_⟩
  obtain ⟨y, rfl, hq⟩ := hq
  refine ⟨(by show 1 ≤ 1000; omega), fun a ha => ⟨a, y, rfl, T.oex, upd_same, fun dx hx hn => ⟨rfl, dx, [(f, y)], upd_same, ?_, ?_, ?_⟩⟩⟩
  · rw [upd_ne hn, upd_same]
  · rw [upd_ne hn] at hx
    exact hx
  · rw [upd_ne hn] at hx
    have e1 : upd (L2.del (upd (upd (upd H1 a (exo a C none)) dx (exd dx [(f, y)])) a (exo a C (some dx))) a) dx (.xd [(f, y)]) = upd H1 dx (.xd [(f, y)]) := by
      funext b
      by_cases h1 : b = dx
      · rw [h1, upd_same, upd_same]
      · rw [upd_ne h1, upd_ne h1]
        by_cases h2 : b = a
        · rw [h2, del_same, ha]
        · rw [del_ne h2, upd_ne h2, upd_ne h1, upd_ne h2]
    rw [e1]
    exact hq dx hx
end Mx

namespace Mx
open PySem PySem.Spec PyProof.Rows L2

/-! ### a caught exception that is kept -/
/-- the object at a is an exception of the class cls, its dict at d -/
def xoO (a : Addr) (cls : Value) (d : Option Addr) : HO := .ext fun h => ∃ o vs, h.get? a = some o ∧ o.cls = cls ∧ o.dict = d ∧ o.data = .fields vs
theorem xo_at {P : Program} {w : World} {H : Hp} {h : Heap} {a : Addr} {cls : Value} {d : Option Addr} (hok : HOk P w H h) (e : H a = some (xoO a cls d)) :
    ∃ o vs, h.get? a = some o ∧ o.cls = cls ∧ o.dict = d ∧ o.data = .fields vs := by
  have x : ObjOk P w H h a (.ext fun h => ∃ o vs, h.get? a = some o ∧ o.cls = cls ∧ o.dict = d ∧ o.data = .fields vs) := hok a _ e
  exact x.1
theorem track {X : Cx} {pins : List (Addr × Obj)} {σ : L2.St} {H : Hp} {s : Shared} {a : Addr} {o : Obj} {vs : Array Value} {cls : Value} {d : Option Addr} (I : Inv X pins σ H s) (ho : s.heap.get? a = some o) (hz : Zc cls d o) (hd : o.data = .fields vs)
    (na : H a = none) (n0 : X.s_0.heap.get? a = none) (nL : a ≠ X.env.locals) (np : ∀ p ∈ X.pn ++ pins, p.1 ≠ a) : Inv X pins σ (upd H a (xoO a cls d)) s := by
  have ne : ∀ {b : Addr} {u : HO}, H b = some u → b ≠ a := fun {b u} e => ne_of_none e na
  have n0' : ∀ {b : Addr} {o : Obj}, X.s_0.heap.get? b = some o → b ≠ a := fun {b o} e z => by rw [z, n0] at e; cases e
  refine ⟨I.ok, I.os, I.bare, ⟨I.base.keep, I.base.slot, fun b ob e n hx => ?_, I.base.there, fun b xs e => ?_, fun b ob u e => ?_, fun b ps e => ?_⟩, I.loc, I.cell, ?_, fun x c e => ?_, fun p hp => ?_, fun b u e => ?_, I.len⟩
  · rw [upd_ne (n0' e)]
    exact I.base.free b ob e n hx
  · have q := I.base.tups b xs e
    rw [upd_ne (ne q)]
    exact q
  · have q := I.base.frzs b ob u e
    rw [upd_ne (ne q)]
    exact q
  · obtain ⟨m, q⟩ := I.base.tbls b ps e
    exact ⟨m, by rw [upd_ne (ne q)]; exact q⟩
  · rw [upd_ne (Ne.symm nL)]
    exact I.free
  · have hc : c ≠ a := fun z => by
      obtain ⟨v, oc, q, hv⟩ := I.cell x c e
      rw [z, ho] at q
      cases q
      rw [hd] at hv
      cases hv
    rw [upd_ne hc]
    exact I.freeC x c e
  · obtain ⟨e, n, r⟩ := I.pin p hp
    exact ⟨e, by rw [upd_ne (np p hp)]; exact n, r⟩
  · by_cases hb : b = a
    · subst hb
      rw [upd_same] at e
      cases e
      exact ⟨⟨o, vs, ho, hz.1, hz.2, hd⟩, ⟨o, ho⟩, fun h1 h2 z k => let ⟨o', vs', q, r⟩ := z; ⟨o', vs', k _ q, r⟩⟩
    · rw [upd_ne hb] at e
      exact (I.hok b u e).stay (fun _ _ _ q => q) (fun c q => by rw [upd_ne (ne q)]; exact q) fun c xs q => by rw [upd_ne (ne q)]; exact q

/-- what 'except (x1, x2, x3) as n' wishes: behind its suite the exception is told -/
def wT (K : PySem.W.Frag) (cs : List Value) (i : Nat) (ts : Addr → Value → Option Addr → TS) (Wout : WX) (D : Ends) : WX := fun cls d σ H =>
  ∃ b, PySem.W.exmAny K cls cs = some b ∧ (b = true → ∀ a, H a = none → ts a cls d { nx := fun σ' H' => D.nx (σ'.set i none) (upd H' a (xoO a cls d)), rt := fun _ _ => False, bk := fun _ _ => False, ct := fun _ _ => False } (σ.set i (some (.ref a))) H) ∧
    (b = false → Wout cls d σ H)
/-- a class of the text by its name -/
structure Nm (X : Cx) (x : Str) (c : Value) : Prop where
  g : Gl X x
  m : X.mg x = some c
  d : (x == ("__debug__" : Str)) = false
theorem ps_try_t3 {X : Cx} {x1 x2 x3 n : Str} {c1 c2 c3 : Value} {i kk : Nat} {body suite : List Stmt} {b₀ : Stmt} {q1 q2 q3 tp pos pos' : Pos} {tb : WX → TS} {ts : Addr → Value → Option Addr → TS} {Wout : WX}
    (hs : X.stack = X.env :: X.outer) (hf : X.env.frame = some X.env.locals) (hex : X.ex = []) (hN : X.N.Nodup) (hi : X.N[i]? = some n) (hln : X.env.kindOf n = some .local) (n1 : Nm X x1 c1) (n2 : Nm X x2 c2) (n3 : Nm X x3 c3) (tk : Takes X Wout)
    (hb : ∀ (W : WX) (pn : List (Addr × Obj)) (xe : Value → Shared → Prop), Takes (X.tr pn xe) W → PassesOwn (model X.prog X.w) X.A X.env xe → PSs (X.tr pn xe) body (tb W))
    (hsu : ∀ (a : Addr) (oe : Obj) (cls : Value) (d : Option Addr) (pn : List (Addr × Obj)), Zc cls d oe → (∃ vs, oe.data = .fields vs) → PSs (X.suite a ((a, oe) :: pn)) (b₀ :: suite) (ts a cls d)) :
    PS X (.Try body [.ExceptHandler (some (.Tuple [.Name x1 q1, .Name x2 q2, .Name x3 q3] kk tp)) (some n) (b₀ :: suite) pos'] [] [] pos) (fun D σ H => tb (wT X.K [c1, c2, c3] i ts Wout D) D σ H) := by
  refine ⟨fun pins s σ H D I h => wpAny_Try_except ?_⟩
  have ok := I.ok
  have hfr : X.A.frames = some (X.env :: X.outer) := ok.frames.trans (by rw [hs])
  refine wpAny_mono ((hb (wT X.K [c1, c2, c3] i ts Wout D) (X.pn ++ pins) (fun e s₁ => wpAny (model X.prog X.w) X.A (noteFrame e X.env) (fun _ s₂ => wpAny (model X.prog X.w) X.A (setFlight e none) (fun _ s₃ =>
    wpAny (model X.prog X.w) X.A (handleBy e X.env [.ExceptHandler (some (.Tuple [.Name x1 q1, .Name x2 q2, .Name x3 q3] kk tp)) (some n) (b₀ :: suite) pos']) (SP X pins D) X.xe s₃) X.xe s₂) X.xe s₁) (fun u s' xx => ?_) PassesOwn.looking).run [] s σ H D (I.toTry _) h) (fun f s1 hsp => ?_) (fun _ _ z => z)
  · obtain ⟨a, B, sI, pins', σ', H', cls, d, rfl, J', nb, up, sky, na, os, ag, b, hb1, hyes, hno⟩ := xx
    have J : Inv X pins σ' H' sI := J'.ofTry ok
    rw [show (X.tr (X.pn ++ pins) _).stack = X.env :: X.outer from hs] at sky
    show wpAny (model X.prog X.w) X.A (noteFrame (.ref a) X.env) _ _ _
    refine Sky.land Zc.steady hfr hf sky fun h3 fl3 up3 => ?_
    have J3 : Inv X pins σ' H' { s' with heap := h3 } := J.landed nb fl3.1 (up.trans up3) os ag
    obtain ⟨oe3, vs3, he3, hz3, hd3⟩ := fl3.there
    have nfr : a ∉ frs X.stack := fun hm => by
      rw [hs] at hm
      obtain ⟨_, o', e', hnf⟩ := fl3.2.2.1.mem hm
      rw [he3] at e'
      cases e'
      exact hnf _ hd3
    have nL : a ≠ X.env.locals := fun z => nfr (by rw [hs]; exact List.mem_filterMap.mpr ⟨X.env, List.mem_cons_self, by rw [hf, z]⟩)
    have nF : a ∉ X.fs := fun hm => nfr (by
      rw [hs]
      obtain ⟨e, he, q⟩ := List.mem_filterMap.mp hm
      exact List.mem_filterMap.mpr ⟨e, List.mem_cons_of_mem _ he, q⟩)
    have nI : sI.heap.get? a = none := by
      cases e : sI.heap.get? a with
      | none => rfl
      | some o =>
        have z := nb a o e nfr
        rw [fl3.2.1] at z
        cases z
    have n0 : X.s_0.heap.get? a = none := by
      cases e : X.s_0.heap.get? a with
      | none => rfl
      | some o =>
        obtain ⟨o', z⟩ := J.base.there a o e (by rw [hex]; simp)
        rw [nI] at z
        cases z
    have np : ∀ p ∈ X.pn ++ pins, p.1 ≠ a := fun p hp z => by
      have q := (J.pin p hp).1
      rw [z, nI] at q
      cases q
    have S3 := J3.suite he3 hd3 na nL nF
    refine wpAny_handleBy_cons (codeAny_handlers_test ?_) (by intro q; cases q)
    have nm : ∀ {x : Str} {c : Value} {q : Pos} {s2 : Shared} {Q E : Value → Shared → Prop}, Nm X x c → Inv (X.suite a ((a, oe3) :: (X.pn ++ pins))) [] σ' H' s2 → Q c s2 → wpAny (model X.prog X.w) (X.A.mark (some (.ref a))) (eval (.Name x q) X.env) Q E s2 :=
      fun {x c q s2 Q E} nx S z => ld_glob (X := X.suite a ((a, oe3) :: (X.pn ++ pins))) S nx.g nx.m z nx.d
    refine PyProof.Rows.Tuple_ (PyProof.Rows.spliced_more (nm n1 S3 (PyProof.Rows.spliced_more (nm n2 S3 (PyProof.Rows.spliced_more (nm n3 S3 (PyProof.Rows.spliced_none ?_)))))))
    refine wpAny_newObj_type ?_
    have kp : ∀ b o, h3.get? b = some o → (h3.push { cls := .type "tuple", dict := none, data := .seq [c1, c2, c3].toArray }).get? b = some o := fun b o e => Heap.get?_push_of_some _ e
    have LT : PySem.W.Looks (model X.prog X.w) (h3.push { cls := .type "tuple", dict := none, data := .seq [c1, c2, c3].toArray }) (typeOf (.ref a)) cls := fun A Q E s k q => wpAny_typeOf_ref (k _ _ (kp _ _ he3)) (by rw [hz3.1]; exact q)
    have LM := PySem.W.exm_tup3 (M := model X.prog X.w) (J3.kIn.keeps kp) LT (Heap.get?_push_size h3 rfl) hb1
    refine LM.here ?_
    have fl5 : HandSPX.FlyingZ B (X.env :: X.outer) a (Zc cls d) (h3.push { cls := .type "tuple", dict := none, data := .seq [c1, c2, c3].toArray }) := by
      obtain ⟨k1, k2, k3, oe, vs, T, oT, ts', he, hz, hd, h1, hr0, hr1, hr2, hr3⟩ := id fl3
      exact ⟨fun b o e => kp _ _ (k1 b o e), k2, Heap.FunFrames.of_keeps (fun b o e _ => ⟨o, kp b o e, rfl⟩) k3, oe, vs, T, oT, ts', kp _ _ he, hz, hd, h1, hr0, hr1, kp _ _ hr2, hr3⟩
    have up5 := (up.trans up3).trans (Heap.UpToSlots.of_keeps kp)
    cases b with
    | true =>
      refine codeAny_handlers_suite_as (HandSPX.lands_againZ fl5 fun h4 fl4 up4 => ?_)
      have J4 : Inv X pins σ' H' { s' with heap := h4 } := J.landed nb fl4.1 (up5.trans up4) os ag
      obtain ⟨oe4, vs4, he4, hz4, hd4⟩ := fl4.there
      refine store_ok (X := X.suite a ((a, oe4) :: (X.pn ++ pins))) (v := .ref a) (J4.suite he4 hd4 na nL nF) hN hi (.inl hln) rfl (fun s5 S5 => ?_) (.inr hln)
      refine wpAny_mono ((hsu a oe4 cls d (X.pn ++ pins) hz4 ⟨_, hd4⟩).run [] s5 _ H' _ S5 (hyes rfl a na)) (fun f s6 hsp => ?_) (fun _ _ z => False.elim z)
      cases f with
      | next =>
        obtain ⟨σ6, H6, S6, q6⟩ := hsp
        have p6 := S6.pin (a, oe4) (List.mem_append_left _ List.mem_cons_self)
        have I6 : Inv X ((a, oe4) :: pins) σ6 H6 s6 := (S6.unsuite ok).pins_of fun p hp => by
          rcases List.mem_cons.mp hp with e | h
          · rw [e]; exact p6
          · exact (S6.unsuite ok).pin p (List.mem_append_right _ h)
        exact gone_ok I6 hN hi hln fun s7 J7 => by
          have p7 := J7.pin (a, oe4) (List.mem_append_right _ List.mem_cons_self)
          have K7 : Inv X pins (σ6.set i none) H6 s7 := J7.pins_of fun p hp => J7.pin p (List.mem_append_right _ (List.mem_cons_of_mem _ hp))
          exact ⟨_, _, track K7 p7.1 hz4 hd4 p7.2.1 n0 nL np, q6⟩
      | brk => exact hsp.elim fun _ h => h.elim fun _ h => h.2.elim
      | cont => exact hsp.elim fun _ h => h.elim fun _ h => h.2.elim
      | ret u => exact hsp.elim fun _ h => h.elim fun _ h => h.elim fun _ h => h.2.2.elim
    | false =>
      show wpAny _ X.A (handleBy (.ref a) X.env []) _ _ _
      refine wpAny_handleBy_nil ?_
      obtain ⟨k1, k2, k3, oe, vs, T, oT, ts', he, hz, hd, h1, hr⟩ := id fl5
      unfold PySem.passOn
      refine wpAny_bind (wpAny_field he hd h1 ?_)
      rw [if_neg (show ¬ ((Value.ref T == Value.none) = true) from by simp)]
      have fin : ∀ {s5 : Shared}, s5 = { s' with heap := h3.push { cls := .type "tuple", dict := none, data := .seq [c1, c2, c3].toArray } } →
          wpAny (model X.prog X.w) X.A (setFlight (.ref a) X.env.frame) (fun _ s4 => wpAny (model X.prog X.w) X.A (throw (.ref a) : Sem Flow) (SP X pins D) X.xe s4) X.xe s5 := by
        intro s5 e5
        rw [hf, e5]
        exact HandSPX.setFlight_upZ fl5 fun h4 hh4 up4 => wpAny_throw (tk _ _ ⟨a, B, sI, pins, σ', H', cls, d, rfl, J, nb, up5.trans up4, .inr (.inr (by rw [hs]; exact hh4)), na, os, ag, hno rfl⟩)
      first
        | exact wpAny_bind (wpAny_pure (wpAny_bind (fin rfl)))
        | exact wpAny_bind (fin rfl)
  · cases f with
    | next =>
      obtain ⟨σ', H', J', q⟩ := hsp
      exact wpAny_execs_nil ⟨σ', H', J'.ofTry ok, q⟩
    | brk =>
      obtain ⟨σ', H', J', q⟩ := hsp
      exact ⟨σ', H', J'.ofTry ok, q⟩
    | cont =>
      obtain ⟨σ', H', J', q⟩ := hsp
      exact ⟨σ', H', J'.ofTry ok, q⟩
    | ret u =>
      obtain ⟨v, σ', H', J', r, q⟩ := hsp
      exact ⟨v, σ', H', J'.ofTry ok, r, q⟩
end Mx

namespace Mx
open PySem PySem.Spec PyProof.Rows L2

/-! ### a kept exception asked: isinstance, its fields -/
structure XcC (K : PySem.W.Frag) (C : Addr) : Prop where
  cl : (PySem.W.clsIn K C).isSome = true
  ga : PySem.W.findIn K (.ref C) "__getattribute__" = some (some (.builtin "BaseException.__getattribute__"))
  gt : PySem.W.findIn K (.ref C) "__getattr__" = some none
  sub : PySem.W.subIn K (.ref C) (.type "BaseException") = some true
  ha : PySem.W.findIn K (.ref C) "__class__" = some (some (.builtin "object.__class__"))
  hn : PySem.W.specialIn K (.builtin "object.__class__") "__get__" = some (some (.builtin "getset_descriptor.__get__"))
  tk : PySem.W.takesIn K (.builtin "object.__class__") = some true
  hm : PySem.W.mroIn K C (.type "object") = some true
  hd : PySem.W.hasDictIn K C = true
/-- an exception of the class at C, its fields -/
def XoAt (H : Hp) (a C : Addr) (fs : List (Str × V)) : Prop := ∃ d, H a = some (xoO a (.ref C) (some d)) ∧ H d = some (.xd fs)
theorem xo_inst {X : Cx} {pins : List (Addr × Obj)} {σ : L2.St} {H : Hp} {s : Shared} {a C : Addr} {fs : List (Str × V)} (I : Inv X pins σ H s) (h : XoAt H a C fs) :
    ∃ (ox od : Obj) (mA : Str → Option Value), PySem.W.InstAt s.heap a ox C (some od) ∧ (∀ f, PySem.W.lookIn f od = some (mA f)) ∧ ∀ f, RelO (fs.lookup f) (mA f) := by
  obtain ⟨d, h1, h2⟩ := h
  obtain ⟨o, vs, e1, e2, e3, e4⟩ := xo_at I.hok h1
  obtain ⟨mA, hns, hr⟩ : ObjOk X.prog X.w H s.heap d (.xd fs) := I.hok d _ h2
  obtain ⟨od, ho, hl⟩ := lookIn_ns hns
  exact ⟨o, od, mA, ⟨e1, e2, by unfold PySem.W.notCls; rw [e4] <;> rfl, by rw [e3]; exact ho⟩, hl, hr⟩
def rIsiX (K : PySem.W.Frag) : List V → Hp → VK → Prop := fun xs H Q => ∃ (a C : Addr) (fs : List (Str × V)) (c : V) (u : Value) (b : Bool), xs = [.ref a, c] ∧ ClsV c u ∧ XoAt H a C fs ∧ XcC K C ∧ PySem.W.kitOne K (.ref C) u = some b ∧ Q (.bl b) H
theorem call_isiX {X : Cx} : CallR X (.builtin "isinstance") (rIsiX X.K) := by
  intro pins s σ H xs us Q I r h
  obtain ⟨a, C, fs, c, u, b, rfl, k, hx, T, e, q⟩ := h
  obtain ⟨u1, u2, rfl, r1, r2⟩ := vals2 r
  have e2 := k.eq r2
  subst e2
  cases (show u1 = Value.ref a from r1)
  obtain ⟨ox, od, mA, J, _, _⟩ := xo_inst I hx
  exact PySem.W.kia_one (PySem.W.kitx_exc T.cl T.ga T.gt T.sub T.ha T.hn T.tk T.hm) I.kIn J e (fun z => by cases z) fun tk => ⟨.bl b, H, I.tok tk, rfl, q⟩
/-- e.f of a kept exception -/
def tXo (K : PySem.W.Frag) (f : Str) (te : TE) : TE := fun σ H Q => te σ H fun x H1 => ∃ (a C : Addr) (fs : List (Str × V)) (v : V), x = .ref a ∧ XoAt H1 a C fs ∧ XcC K C ∧ PySem.W.findIn K (.ref C) f = some none ∧ fs.lookup f = some v ∧ Q v H1
theorem pe_xo {X : Cx} {e : Expr} {te : TE} {pos : Pos} {f : Str} (he : PE X e te) (hb : attributeBase e f X.env (eval e X.env) = eval e X.env := by rfl) : PE X (.Attribute e f pos) (tXo X.K f te) := by
  refine ⟨fun pins s σ H Q I h => attr_of hb (thn (he.run pins s σ H _ I h) fun u s1 hh => ?_)⟩
  obtain ⟨x, H1, I1, rx, a, C, fs, v, ex, hx, T, hno, l, q⟩ := hh
  subst ex
  cases (show u = Value.ref a from rx)
  obtain ⟨ox, od, mA, J, hl, hr⟩ := xo_inst I1 hx
  obtain ⟨u, hu, ru⟩ := RelO.some_of (v := v) (o := mA f) (by rw [← l]; exact hr f)
  exact HandSPX.exc_get I1.kIn J T.ga T.gt T.sub (PySem.W.findObj_own T.hd hno rfl (by rw [hl, hu])) (handed_of ru) ⟨v, H1, I1.tok _, ru, q⟩
end Mx

namespace Mx
open PySem PySem.Spec PyProof.Rows L2

/-- a def of the module: where it stands, its name, its parameters -/
structure DefT (K : PySem.W.Frag) (mg : Str → Option Value) (x : Str) (st : Stmt) (ps : List Str) : Type where
  f : Addr
  fd : FuncData
  F : Fun K x x st f fd
  m : mg x = some (.ref f)
  b : Binds K fd ps []

/-! ### heaps: all but a stays -/
def Kp (a : Addr) (H H' : Hp) : Prop := ∀ b o, b ≠ a → H b = some o → H' b = some o
theorem Kp.refl (a : Addr) (H : Hp) : Kp a H H := fun _ _ _ h => h
theorem Kp.trans {a : Addr} {H H1 H2 : Hp} (x : Kp a H H1) (y : Kp a H1 H2) : Kp a H H2 := fun b o n h => y b o n (x b o n h)
theorem Kp.upd {a : Addr} {H H1 : Hp} {o : HO} (x : Kp a H H1) : Kp a H (upd H1 a o) := fun b u n h => by rw [upd_ne n]; exact x b u n h
theorem Kp.new {a p : Addr} {H H1 : Hp} {o : HO} (x : Kp a H H1) (h : H1 p = none) : Kp a H (L2.upd H1 p o) := fun b u n e => by
  have q := x b u n e
  rw [upd_ne (ne_of_none q h)]
  exact q
theorem Kp.of {a : Addr} {H H1 : Hp} (x : Same H H1) : Kp a H H1 := fun b o _ h => x b o h
theorem Same.new {p : Addr} {H H1 : Hp} {o : HO} (x : Same H H1) (h : H1 p = none) : Same H (L2.upd H1 p o) := fun b u e => by
  have q := x b u e
  rw [upd_ne (ne_of_none q h)]
  exact q
/-! ### the law's draws: a stream is a list of three ints at a, the second counts -/
def StAt (a : Addr) (c : Int) (H : Hp) : Prop := ∃ x m n : Int, H a = some (.lst [.int x, .int n, .int m]) ∧ 0 ≤ n ∧ n ≤ c
theorem StAt.mono {a : Addr} {c d : Int} {H : Hp} (h : StAt a c H) (l : c ≤ d) : StAt a d H := let ⟨x, m, n, e, h1, h2⟩ := h; ⟨x, m, n, e, h1, by omega⟩
theorem StAt.same {a : Addr} {c : Int} {H H' : Hp} (h : StAt a c H) (e : Same H H') : StAt a c H' := let ⟨x, m, n, q, h1, h2⟩ := h; ⟨x, m, n, e _ _ q, h1, h2⟩
/-- a constant of the module -/
theorem pe_gc {X : Cx} {x : Str} {pos : Pos} {v : V} (hg : Gl X x) (h : ∃ u, X.mg x = some u ∧ RelV v u) (hd : (x == ("__debug__" : Str)) = false := by decide) : PE X (.Name x pos) (tC v) :=
  let ⟨_, e, r⟩ := h
  pe_glob hg e r hd
/-! ### a for over enumerate of a text -/
theorem for_et {x : Str} {g : TG} {tb : TS} {D : Ends} {σ : L2.St} {H : Hp} (Pv : Nat → L2.St → Hp → Prop) (h0 : Pv 0 σ H)
    (hs : ∀ (i c : Nat) (T : Addr) σ H, x.cps[i]? = some c → H T = none → Pv i σ H → g (.ref T) σ (upd H T (.tup [.int (i : Nat), .str ⟨#[c]⟩])) fun σ2 H2 => tb { D with nx := Pv (i + 1), ct := Pv (i + 1), bk := D.nx } σ2 H2)
    (hd : ∀ σ H, Pv x.cps.size σ H → D.nx σ H) :
    ∃ W : Nat → Nat → L2.St → Hp → Prop, (∃ m, W 0 m σ H) ∧ ∀ i m σ H, W i m σ H →
      ((Itet x).stop i H ∧ D.nx σ H) ∨ ((Itet x).go i H ∧ ∃ N : L2.St → Hp → Prop, (∀ σ' H', N σ' H' → ∃ m', m' < m ∧ W (i + 1) m' σ' H') ∧ ∀ v H', (Itet x).yld i H v H' → g v σ H' fun σ2 H2 => tb { D with nx := N, ct := N, bk := D.nx } σ2 H2) := by
  refine ⟨fun i m σ H => m = x.cps.size - i ∧ i ≤ x.cps.size ∧ Pv i σ H, ⟨x.cps.size, by simp, Nat.zero_le _, h0⟩, ?_⟩
  rintro i m σ H ⟨rfl, hi, p⟩
  by_cases hlt : i < x.cps.size
  · refine .inr ⟨hlt, Pv (i + 1), fun σ' H' p' => ⟨x.cps.size - (i + 1), by omega, rfl, hlt, p'⟩, fun v H' y => ?_⟩
    obtain ⟨T, c, rfl, hT, hc, rfl⟩ := y
    exact hs i c T σ H hc hT p
  · have e : i = x.cps.size := by omega
    subst e
    exact .inl ⟨rfl, hd σ H p⟩
/-! ### places -/
theorem at_int {α : Type} {xs : List α} {r : Int} (r0 : 0 ≤ r) (r1 : r < (xs.length : Int)) : ∃ (i : Nat) (x : α), xs[i]? = some x ∧ atI xs r = some x ∧ (i : Int) = r := by
  have h : r.toNat < xs.length := by omega
  obtain ⟨n, rfl⟩ := Int.eq_ofNat_of_zero_le r0
  have h2 : n < xs.length := by omega
  exact ⟨n, xs[n], List.getElem?_eq_getElem h2, atI_nat (List.getElem?_eq_getElem h2), rfl⟩
theorem at_text {z : Str} {r : Int} (r0 : 0 ≤ r) (r1 : r < (z.cps.size : Int)) : ∃ cp : Nat, cp ∈ z.cps.toList ∧ atI z.cps.toList r = some cp := by
  obtain ⟨i, x, h, e, _⟩ := at_int (xs := z.cps.toList) r0 (by simpa using r1)
  exact ⟨x, List.mem_of_getElem? h, e⟩
theorem size_add (x y : Str) : (x ++ y).cps.size = x.cps.size + y.cps.size := by
  show (x.cps ++ y.cps).size = _
  simp
theorem itT {c : Bool} {A B : Prop} (h : c = true) (a : A) : if c = true then A else B := by rw [if_pos h]; exact a
theorem itF {c : Bool} {A B : Prop} (h : c = false) (b : B) : if c = true then A else B := by rw [if_neg (by rw [h]; decide)]; exact b
theorem dVi {i j : Int} (h : i = j) : decide (V.int i = V.int j) = true := by subst h; simp
theorem dViN {i j : Int} (h : ¬ i = j) : decide (V.int i = V.int j) = false := by
  refine decide_eq_false fun e => ?_
  injection e with e
  exact h e
theorem notT {b : Bool} (h : b = false) : (!b) = true := by rw [h]; rfl
theorem notF {b : Bool} (h : b = true) : (!b) = false := by rw [h]; rfl
theorem mem_add {x y : Str} {c : Nat} (h : c ∈ (x ++ y).cps.toList) : c ∈ x.cps.toList ∨ c ∈ y.cps.toList := by
  have e : (x ++ y).cps.toList = x.cps.toList ++ y.cps.toList := by rw [Str.cps_append, Array.toList_append]
  rw [e] at h
  exact List.mem_append.mp h
/-! ### readings without a question -/
theorem tC_ {v : V} {σ : L2.St} {H : Hp} {Q : VK} (h : Q v H) : tC v σ H Q := h
theorem tNext_ {D : Ends} {σ : L2.St} {H : Hp} (h : D.nx σ H) : tNext D σ H := h
theorem tYes_ {σ : L2.St} {H : Hp} {Q : Bool → Hp → Prop} (h : Q true H) : tYes σ H Q := h
theorem tNil_ {σ : L2.St} {H : Hp} {Q : List V → Hp → Prop} (h : Q [] H) : tNil σ H Q := h
end Mx

namespace Mx
open PySem PySem.Spec PyProof.Rows L2
/-! ### comprehensions that pick -/
def picked {α : Type} (n : Nat) (f : Nat → Bool) (y : Nat → α) : List α := ((List.range n).filter f).map y
theorem picked_zero {α : Type} (f : Nat → Bool) (y : Nat → α) : picked 0 f y = [] := rfl
theorem picked_yes {α : Type} {n : Nat} {f : Nat → Bool} (y : Nat → α) (h : f n = true) : picked (n + 1) f y = picked n f y ++ [y n] := by
  unfold picked
  rw [List.range_succ, List.filter_append, List.map_append, List.filter_cons, if_pos h]
  rfl
theorem picked_no {α : Type} {n : Nat} {f : Nat → Bool} (y : Nat → α) (h : f n = false) : picked (n + 1) f y = picked n f y := by
  unfold picked
  rw [List.range_succ, List.filter_append, List.map_append, List.filter_cons, if_neg (by rw [h]; decide)]
  simp
theorem picked_len {α : Type} (n : Nat) (f : Nat → Bool) (y : Nat → α) : (picked n f y).length ≤ n := by
  unfold picked
  rw [List.length_map]
  have := List.length_filter_le f (List.range n)
  rw [List.length_range] at this
  exact this
theorem picked_map {α β : Type} (n : Nat) (f : Nat → Bool) (y : Nat → α) (g : α → β) : picked n f (fun i => g (y i)) = (picked n f y).map g := by
  unfold picked
  rw [List.map_map]
  rfl
theorem picked_empty {α : Type} (n : Nat) (f : Nat → Bool) (y : Nat → α) : (picked n f y).isEmpty = !(List.range n).any f := by
  unfold picked
  rw [Bool.eq_iff_iff]
  simp
theorem picked_mem {α : Type} {n : Nat} {f : Nat → Bool} {y : Nat → α} {v : α} (h : v ∈ picked n f y) : ∃ i, i < n ∧ f i = true ∧ v = y i := by
  unfold picked at h
  obtain ⟨i, hi, e⟩ := List.mem_map.mp h
  have := List.mem_filter.mp hi
  exact ⟨i, List.mem_range.mp this.1, this.2, e.symm⟩
theorem picked_in {α : Type} {n i : Nat} {f : Nat → Bool} {y : Nat → α} (hi : i < n) (hf : f i = true) : y i ∈ picked n f y := by
  unfold picked
  exact List.mem_map.mpr ⟨i, List.mem_filter.mpr ⟨List.mem_range.mpr hi, hf⟩, rfl⟩
theorem picked_all {α : Type} (n : Nat) (y : Nat → α) : picked n (fun _ => true) y = (List.range n).map y := by
  unfold picked
  rw [List.filter_eq_self.mpr (fun _ _ => rfl)]
theorem range_getD {α : Type} (l : List α) (d : α) : (List.range l.length).map (fun i => l.getD i d) = l := by
  refine List.ext_getElem? fun i => ?_
  rw [List.getElem?_map]
  by_cases h : i < l.length
  · rw [List.getElem?_range h, Option.map_some, List.getD_eq_getElem?_getD, List.getElem?_eq_getElem h]
    rfl
  · rw [List.getElem?_eq_none (by rw [List.length_range]; omega), List.getElem?_eq_none (by omega)]
    rfl
theorem picked_filter {α : Type} (l : List α) (d : α) (p : α → Bool) : picked l.length (fun i => p (l.getD i d)) (fun i => l.getD i d) = l.filter p := by
  unfold picked
  have e := List.filter_map (f := fun i => l.getD i d) (p := p) (l := List.range l.length)
  rw [range_getD] at e
  exact e.symm
theorem Kp.same {D : Addr} {H H' : Hp} (h : Kp D H H') (hD : H D = none) : Same H H' := fun b o e => h b o (fun z => by rw [z, hD] at e; cases e) e
section
variable {J : It} {n : Nat} {G : Hp → Prop} {Y : Nat → Hp → V → Hp → Prop}
/-- [te for g in J if tt]: turn i is kept where f i, and gives y i; all that was stays -/
theorem lc_flt (w : Walk J n G Y) {g : TG} {tt : TT} {te : TE} {vs : List Nat} {σ : L2.St} {H1 : Hp} {D : Addr} {Qd : Hp → Prop} (f : Nat → Bool) (y : Nat → V) (hD : H1 D = none) (hn : n ≤ 1000000)
    (hG : ∀ H, Same H1 H → G H) (hY : ∀ i H x H', Y i H x H' → Same H H')
    (hs : ∀ i x H H' (Nx : V → Hp → Prop) (Mx : Hp → Prop), i < n → Same H1 H → Y i H x H' → (f i = true → ∀ H4, Same H' H4 → Nx (y i) H4) → (f i = false → ∀ H3, Same H' H3 → Mx H3) →
      g x (wipe σ vs) H' fun σ2 H2 => wipe σ2 vs = wipe σ vs ∧ tt σ2 H2 fun b H3 => if b = true then te σ2 H3 Nx else Mx H3)
    (hd : ∀ H, Same H1 H → H D = some (.lst (picked n f y)) → Qd H) :
    ∃ W : Nat → Nat → Hp → Prop, (∃ m, W 0 m (upd H1 D (.lst []))) ∧ ∀ i m H, W i m H →
      (J.stop i H ∧ Qd H) ∨ (J.go i H ∧ ∃ Nx : Hp → Prop, (∀ H', Nx H' → ∃ m', m' < m ∧ W (i + 1) m' H') ∧ ∀ x H', J.yld i H x H' → g x (wipe σ vs) H' fun σ2 H2 => wipe σ2 vs = wipe σ vs ∧ tt σ2 H2 fun b H3 =>
        if b = true then te σ2 H3 fun y H4 => ∃ acc, H4 D = some (.lst acc) ∧ acc.length < sizeLine ∧ Nx (upd H4 D (.lst (acc ++ [y]))) else Nx H3) := by
  refine lc_it w (fun i H => i ≤ n ∧ Kp D H1 H ∧ H D = some (.lst (picked i f y))) ⟨Nat.zero_le _, (Kp.refl _ _).upd, upd_same⟩ (fun i H _ p => hG H (p.2.1.same hD)) ?_ (fun H p => hd H (p.2.1.same hD) p.2.2)
  rintro i x H H' hi ⟨_, kp, e⟩ yy
  have sm := hY i H x H' yy
  refine hs i x H H' _ _ hi (kp.same hD) yy (fun hf H4 s4 => ?_) (fun hf H3 s3 => ?_)
  · refine ⟨_, s4 _ _ (sm _ _ e), ?_, hi, ?_, ?_⟩
    · have := picked_len i f y
      unfold sizeLine
      omega
    · exact ((kp.trans (Kp.of sm)).trans (Kp.of s4)).upd
    · rw [upd_same, picked_yes y hf]
  · exact ⟨hi, (kp.trans (Kp.of sm)).trans (Kp.of s3), by rw [picked_no y hf]; exact s3 _ _ (sm _ _ e)⟩
end
/-! ### exceptions told with the slots' number; readings made weaker -/
theorem takes_len {X : Cx} {W : WX} (tk : Takes X W) : Takes X (fun cls d σ H => σ.length = X.N.length → W cls d σ H) :=
  fun u s' ⟨a, B, sI, pins, σ, H, cls, d, e, I, nb, up, sky, na, os, ag, w⟩ => tk u s' ⟨a, B, sI, pins, σ, H, cls, d, e, I, nb, up, sky, na, os, ag, w I.len⟩
def eMono (te : TE) : TE := fun σ H Q => ∃ Q0 : VK, te σ H Q0 ∧ ∀ v H1, Q0 v H1 → Q v H1
theorem pe_mono {X : Cx} {e : Expr} {te : TE} (h : PE X e te) : PE X e (eMono te) :=
  ⟨fun pins s σ H Q I ⟨Q0, hh, k⟩ => wpAny_mono (h.run pins s σ H Q0 I hh) (fun _ _ ⟨v, H1, I1, r, q⟩ => ⟨v, H1, I1, r, k _ _ q⟩) fun _ _ z => z⟩
theorem cutV_mem {xs : List V} {lo hi : Option Int} {x : V} (h : x ∈ cutV xs lo hi) : x ∈ xs := List.mem_of_mem_drop (List.mem_of_mem_take h)
theorem cutV_front (xs : List V) (n : Nat) : (cutV xs none (some (n : Int))).length ≤ n := by
  unfold cutV
  rw [List.length_take, HT.sIx_nat]
  have : HT.sIx xs.length 0 none = 0 := rfl
  omega
theorem ints_mem {ns : List Int} {x : V} (h : x ∈ ns.map V.int ++ [.int 0]) : ∃ z, x = .int z := by
  rcases List.mem_append.mp h with h | h
  · obtain ⟨z, _, rfl⟩ := List.mem_map.mp h
    exact ⟨z, rfl⟩
  · exact ⟨0, List.mem_singleton.mp h⟩
/-! ### lists of texts as data -/
theorem dp_strsAll {K : PySem.W.Frag} {H : Hp} : ∀ l : List Str, DpAll K H (l.map V.str) (l.map PyData.str)
  | [] => .nil
  | z :: l => .cons (.str z) (dp_strsAll l)
theorem dp_strs {K : PySem.W.Frag} {H : Hp} {a : Addr} {l : List Str} (h : SqL K H a (l.map V.str)) : Dp K H (.ref a) (.list (l.map PyData.str)) := .lst h (dp_strsAll l)
theorem lay_strs : ∀ l : List Str, (∀ z ∈ l, ∀ c ∈ z.cps.toList, c < 0x110000) → PyData.canLayAll0 (l.map PyData.str) = true ∧ PyData.depthAll (l.map PyData.str) = 0
  | [], _ => ⟨rfl, rfl⟩
  | z :: l, h => by
    obtain ⟨h1, h2⟩ := lay_strs l fun y hy => h y (List.mem_cons_of_mem _ hy)
    refine ⟨?_, ?_⟩
    · show (z.cps.all (· < 0x110000) && PyData.canLayAll0 (l.map PyData.str)) = true
      rw [h1, Bool.and_true]
      rw [Array.all_eq_true]
      intro i hi
      exact decide_eq_true (h z List.mem_cons_self _ (by simp))
    · show max 0 (PyData.depthAll (l.map PyData.str)) = 0
      rw [h2]
      rfl
theorem shaped_strs {l : List Str} (h : ∀ z ∈ l, ∀ c ∈ z.cps.toList, c < 0x110000) : SeqAt.shaped (.list (l.map PyData.str)) = true := by
  obtain ⟨h1, h2⟩ := lay_strs l h
  show (PyData.canLayAll0 _ && decide (PyData.depthAll _ + 1 ≤ 64)) = true
  rw [h1, h2]
  rfl
theorem eqv_nil : ∀ l : List Str, PyData.eqv (.list (l.map PyData.str)) (.list []) = l.isEmpty
  | [] => rfl
  | _ :: _ => rfl
/-- a list of texts against the empty list -/
theorem eq_nil {K : PySem.W.Frag} {H : Hp} {a b : Addr} {l : List Str} {Q : VK} (ha : SqL K H a (l.map V.str)) (hb : SqL K H b []) (h : ∀ z ∈ l, ∀ c ∈ z.cps.toList, c < 0x110000) (q : Q (.bl l.isEmpty) H) : rEqD K (.ref a) (.ref b) H Q :=
  ⟨_, _, dp_strs ha, .lst hb .nil, shaped_strs h, rfl, by rw [eqv_nil]; exact q⟩
end Mx

namespace Mx
open PySem PySem.Spec PyProof.Rows L2
/-! ### heaps of a law that makes lambdas: all but tables stays, the tables keep their word -/
def Go (Tb : List (Addr × Str)) (H H' : Hp) : Prop := LamX.ExtN H H' ∧ (LamX.Tabs Tb H → LamX.Tabs Tb H')
theorem Go.refl (Tb : List (Addr × Str)) (H : Hp) : Go Tb H H := ⟨LamX.ExtN.refl H, id⟩
theorem Go.trans {Tb : List (Addr × Str)} {H H1 H2 : Hp} (x : Go Tb H H1) (y : Go Tb H1 H2) : Go Tb H H2 := ⟨x.1.trans y.1, fun t => y.2 (x.2 t)⟩
theorem Go.same {Tb : List (Addr × Str)} {H H' : Hp} (x : Same H H') : Go Tb H H' := ⟨.of x, fun t => t.ext x⟩
theorem Go.new {Tb : List (Addr × Str)} {H H1 : Hp} {p : Addr} {o : HO} (x : Go Tb H H1) (h : H1 p = none) : Go Tb H (L2.upd H1 p o) := x.trans (.same (Same.new (Same.refl _) h))
theorem Go.kp {Tb : List (Addr × Str)} {H0 H H' : Hp} {a : Addr} {c : Int} (x : Go Tb H0 H) (n : H0 a = none) (st : StAt a c H) (k : Kp a H H') : Go Tb H0 H' := by
  obtain ⟨u, m, v, e, _, _⟩ := st
  refine ⟨fun b o h1 h2 => k b o (ne_of_none h1 n) (x.1 b o h1 h2), fun t p hp => ?_⟩
  obtain ⟨ps, e1, e2, e3⟩ := x.2 t p hp
  refine ⟨ps, k _ _ (fun z => by rw [z, e] at e1; cases e1) e1, e2, fun pos cv h => ?_⟩
  obtain ⟨c', rfl, e5⟩ := e3 pos cv h
  exact ⟨c', rfl, k _ _ (fun z => by rw [z, e] at e5; unfold LamX.CodeO at e5; cases e5) e5⟩
theorem Go.lst {Tb : List (Addr × Str)} {H H' : Hp} {p : Addr} {xs : List V} (x : Go Tb H H') (h : H p = some (.lst xs)) : H' p = some (.lst xs) := x.1 p _ h fun ps z => by cases z
theorem Go.tup {Tb : List (Addr × Str)} {H H' : Hp} {p : Addr} {xs : List V} (x : Go Tb H H') (h : H p = some (.tup xs)) : H' p = some (.tup xs) := x.1 p _ h fun ps z => by cases z
theorem TyOf_go {K : PySem.W.Frag} {H H' : Hp} {x : V} {t : Value} (g : LamX.ExtN H H') (h : TyOf K H x t) : TyOf K H' x t := by
  cases h with
  | non => exact .non
  | bl y => exact .bl y
  | int i => exact .int i
  | str y => exact .str y
  | flt y => exact .flt y
  | lst e => exact .lst (g _ _ e fun ps z => by cases z)
  | frz e => exact .frz (g _ _ e fun ps z => by cases z)
  | tup e => exact .tup (g _ _ e fun ps z => by cases z)
  | dK e => exact .dK (g _ _ e fun ps z => by cases z)
  | dT e => exact .dT (g _ _ e fun ps z => by cases z)
  | ins e a b c d f => exact .ins (g _ _ e fun ps z => by cases z) a b c d f
theorem TyX_go {K : PySem.W.Frag} {H H' : Hp} {x : V} {t : Value} (g : LamX.ExtN H H') (h : TyX K H x t) : TyX K H' x t := by
  cases h with
  | base b => exact .base (TyOf_go g b)
  | byt y => exact .byt y
  | set e => exact .set (g _ _ e fun ps z => by cases z)
  | kList e c => exact .kList e c
  | kTuple e c => exact .kTuple e c
  | kDict e c => exact .kDict e c
  | fTuple e => exact .fTuple (g _ _ e fun ps z => by cases z)
  | fDict e => exact .fDict (g _ _ e fun ps z => by cases z)
theorem picked_none {α : Type} (n : Nat) (y : Nat → α) : picked n (fun _ => false) y = [] := by
  unfold picked
  simp
/-! ### the law's def: its code object told, guards told -/
structure FunC (K : PySem.W.Frag) (x : Str) (st : Stmt) (f : Addr) (fd : FuncData) (c : Addr) : Prop where
  ex : ∃ (oc : Value) (od : Option Addr) (kV doc pm : Value) (an : Option Addr) (ct : Value) (osl : Array (Option Value)),
    fd = PySem.W.fnOf x x (defArgs st) (defBody st) (defScope st) .none kV doc pm an (.ref c) ct ∧ K.lookup f = some ⟨oc, od, .func fd, osl⟩ ∧ PySem.W.codeIn K (.ref c) x = true
section
variable {P : Program} {w : World} {K : PySem.W.Frag} {mg : Str → Option Value} {base : Heap}
theorem okGC {CX : CXT} {x : Str} {st : Stmt} {f c : Addr} {fd : FuncData} {N ps : List Str} {k : Nat} {sp : Sp} (F : FunC K x st f fd c) (S : FnScope N ps (defScope st)) (len : ∀ vs H Q E, sp vs H Q E → vs.length = ps.length)
    (body : ∀ (A : Around) (outer : List Env) (s : Shared) (H : Hp) (vs : List V) (Q : VK) (E : XK), RmG k (A.deeper (envOfC x (defScope st) s.heap.objs.size f (.ref c))) → sp vs H Q E →
      ∃ t, PSs (cxOf CX P w K mg base N x (defScope st) f (.ref c) A outer s H E) (defBody st) t ∧ t { nx := fun _ H' => Q .non H', rt := Q } (start N vs) H) : FnG P w K mg base CX (k + 1) f fd ps sp := by
  obtain ⟨oc, od, kV, doc, pm, an, ct, osl, rfl, look, code⟩ := F.ex
  constructor
  · exact len
  intro A outer s H args us vs Q E room e0 binds rel want
  have names : ((ps.zip us).all fun y => (defScope st).names.lookup y.1 == some .local || (defScope st).names.lookup y.1 == some .cell) = true := by
    rw [List.all_eq_true]
    rintro ⟨n, u⟩ mem
    rcases S.par n (List.of_mem_zip mem).1 with q | q <;> simp [q]
  have inK : K.In s.heap := e0.mod.kin.keeps fun b o z => (e0.bs b o z).1
  have limit : s.heap.NoLimit := e0.mod.nolimit.keeps fun b o z => (e0.bs b o z).1
  refine Att.call_fn inK limit look code room.r.depth binds names (fun s1 entered => ?_) S.co S.gen S.kind
  obtain ⟨t, term, read⟩ := body A outer s H vs Q E (room.deeper _) want
  have begin_ := inv_start (CX := CX) (E := E) (f := f) (cd := .ref c) (qual := x) (outer := outer) S room.r.hd e0 (len _ _ _ _ want) rel entered
  refine wpAny_mono (term.run [] s1 _ H _ begin_ read) (fun flow s2 out => ?_) fun _ _ z => z
  match flow, out with
  | .ret u, ⟨v, _, H2, J, r, q⟩ => exact ⟨v, H2, J.os, J.bare, J.base, J.hok, r, q⟩
  | .next, ⟨_, H2, J, q⟩ => exact ⟨.non, H2, J.os, J.bare, J.base, J.hok, rfl, q⟩
  | .brk, ⟨_, _, _, q⟩ => exact q.elim
  | .cont, ⟨_, _, _, q⟩ => exact q.elim
end
/-- keywords (and positional arguments) of a def without defaults -/
theorem kb_of {K : PySem.W.Frag} {x qual : Str} {st : Stmt} {f : Addr} {fd : FuncData} {ps ks : List Str} (F : Fun K x qual st f fd)
    (h : ∀ (kV doc pm : Value) (an : Option Addr) (cdv ct : Value) (us ws : List Value), (us ++ ws).length = ps.length → bindArgs (PySem.W.fnOf x qual (defArgs st) (defBody st) (defScope st) .none kV doc pm an cdv ct) ⟨us, ks.zip ws⟩ = pure (ps.zip (us ++ ws))) :
    KBinds K fd ps ks (fun us ws => us ++ ws) (fun vs zs => vs ++ zs) := by
  obtain ⟨oc, od, kV, doc, pm, an, cdv, ct, osl, rfl, look, code⟩ := F.ex
  exact ⟨fun s us ws _ hl => .of_eq (h kV doc pm an cdv ct us ws hl), fun a b => a.append b⟩
/-! ### the head: a script, tables of code objects -/
/-- what is tracked when the law is called: the tables (empty), and the script if K does not tell it -/
def lawH (K : PySem.W.Frag) (ts : List Addr) (a : Addr) (o : Obj) (xs : List V) : Hp := fun b =>
  if b ∈ ts then some (.tbl #[]) else if b = a then (if (K.lookup a).isNone = true then some (.frz o (.lst xs)) else none) else none
section
variable {K : PySem.W.Frag} {ts : List Addr} {a b : Addr} {o : Obj} {xs : List V}
theorem lawH_tab (h : b ∈ ts) : lawH K ts a o xs b = some (.tbl #[]) := if_pos h
theorem lawH_kinds {u : HO} (h : lawH K ts a o xs b = some u) : (b ∈ ts ∧ u = .tbl #[]) ∨ (b = a ∧ K.lookup a = none ∧ u = .frz o (.lst xs)) := by
  unfold lawH at h
  split at h
  · rename_i m
    exact .inl ⟨m, (Option.some.inj h).symm⟩
  · split at h
    · rename_i e
      split at h
      · rename_i n
        exact .inr ⟨e, Option.isNone_iff_eq_none.mp n, (Option.some.inj h).symm⟩
      · cases h
    · cases h
end
section
variable {P : Program} {w : World} {K : PySem.W.Frag} {mg mb : Str → Option Value} {CX : CXT} {k : Nat} {fa a : Addr} {cs : List (Addr × Addr)} {fd : FuncData} {x : Str} {sp : Sp} {s : Shared} {vs : List Value} {ns : List Int}
theorem lawRun (inK : K.In s.heap) (glob : s.heap.Ns mainGlobals mg) (blt : s.heap.Ns builtinsNs mb) (boot : ∀ y : Str, y ≠ "__name__" → mb y = bootBuiltins y) (limit : s.heap.NoLimit) (gens : s.gens = #[])
    (tabs : ∀ p ∈ cs, s.heap.get? p.2 = some { cls := .none, data := .fields #[] }) (notK : ∀ p ∈ cs, K.lookup p.2 = none) (heads : ∀ p ∈ cs, PySem.W.CodeHd s.heap p.1 p.2)
    (main : ∃ (bm : Addr) (ob : Obj), mg "__builtins__" = some (.ref bm) ∧ bm ≠ builtinsNs ∧ s.heap.get? bm = some ob ∧ ob.cls = .type "module" ∧ ob.dict = some builtinsNs ∧ ob.data = .plain)
    (script : s.heap.get? a = some { cls := .type "list", data := .seq vs.toArray }) (whole : IntsAre vs ns) (short : ns.length ≤ sizeLine) (room : RmG k callerA)
    (F : ∀ base : Heap, K.In base → base.Ns mainGlobals mg → (∀ p ∈ cs, LamX.TabB base mg p.1 p.2) → FnG P w K mg base CX k fa fd [x] sp) (bind : ∀ (s : Shared) (u : Value), BindsTo s fd ⟨[u], []⟩ [(x, u)])
    (want : ∀ H : Hp, (∀ p ∈ cs, H p.2 = some (.tbl #[])) → LsX K H a (ns.map V.int) → sp [.ref a] H (fun v _ => v = .bl true) fun _ _ _ => False)
    (none_ : ∀ H e s', CX [] H s (fun _ _ _ => False) e s' → False) :
    codeAny (model P w) callerA (.call (.ref fa) ⟨[.ref a], []⟩) (fun r s' => r = .ok (.ret (.bool true)) ∧ OldK s.heap s'.heap ∧ s'.os = s.os ∧ AllBare s'.gens) s := by
  have rel : Vals (ns.map V.int) vs := vals_ints whole
  have isTab : ∀ b ∈ cs.map Prod.snd, s.heap.get? b = some { cls := .none, data := .fields #[] } := by
    intro b mem
    obtain ⟨p, hp, rfl⟩ := List.mem_map.mp mem
    exact tabs p hp
  have ofTab : ∀ p ∈ cs, p.2 ∈ cs.map Prod.snd := fun p hp => List.mem_map_of_mem hp
  generalize hH : lawH K (cs.map Prod.snd) a { cls := .type "list", data := .seq vs.toArray } (ns.map V.int) = H
  have tracked : ∀ {b : Addr} {u : HO}, H b = some u → (b ∈ cs.map Prod.snd ∧ u = .tbl #[]) ∨ (b = a ∧ K.lookup a = none ∧ u = .frz { cls := .type "list", data := .seq vs.toArray } (.lst (ns.map V.int))) := fun {b u} e => lawH_kinds (by rw [hH]; exact e)
  have atTab : ∀ p ∈ cs, H p.2 = some (.tbl #[]) := fun p hp => by rw [← hH]; exact lawH_tab (ofTab p hp)
  -- an object that is neither a list nor an empty table is not tracked
  have plain : ∀ {b : Addr} {o : Obj}, s.heap.get? b = some o → o ≠ { cls := .none, data := .fields #[] } → o ≠ { cls := .type "list", data := .seq vs.toArray } → H b = none := by
    intro b o e n1 n2
    cases q : H b with
    | none => rfl
    | some u =>
      rcases tracked q with ⟨m, _⟩ | ⟨rfl, _⟩
      · exact absurd (Option.some.inj (e.symm.trans (isTab b m))) n1
      · exact absurd (Option.some.inj (e.symm.trans script)) n2
  have below : ∀ {b : Addr} {o : Obj}, s.heap.get? b = some o → o ≠ { cls := .none, data := .fields #[] } → o ≠ { cls := .type "list", data := .seq vs.toArray } → (hidT s.heap H).get? b = some o := fun e n1 n2 => hidT_get e (plain e n1 n2)
  have spaces : ∀ {b : Addr} {m : Str → Option Value}, s.heap.Ns b m → (hidT s.heap H).Ns b m := by
    rintro b m ⟨o, es, ep, e, d, r⟩
    exact ⟨o, es, ep, below e (fun z => by rw [z] at d; cases d) (fun z => by rw [z] at d; cases d), d, r⟩
  have inB : K.In (hidT s.heap H) := by
    intro b o e
    refine hidT_get (inK b o e) ?_
    cases q : H b with
    | none => rfl
    | some u =>
      rcases tracked q with ⟨m, _⟩ | ⟨rfl, n, _⟩
      · obtain ⟨p, hp, rfl⟩ := List.mem_map.mp m
        rw [notK p hp] at e
        cases e
      · rw [n] at e
        cases e
  have mod : L2.Mod K mg (hidT s.heap H) := ⟨inB, spaces glob, ⟨mb, spaces blt, boot⟩, let ⟨mc, l1, l2⟩ := limit; ⟨mc, spaces l1, l2⟩⟩
  have bases : ∀ p ∈ cs, LamX.TabB (hidT s.heap H) mg p.1 p.2 := by
    intro p hp
    have tp := tabs p hp
    constructor
    · obtain ⟨o, us, file, tf, flags, tg, inF, text, tt, e1, r1, r2, r3, rest⟩ := heads p hp
      refine ⟨o, us, file, tf, flags, tg, inF, text, tt, below e1 (fun z => ?_) (fun z => ?_), r1, r2, r3, rest⟩
      · rw [z] at r2
        cases r2
        simp at r3
      · rw [z] at r2
        cases r2
    · obtain ⟨bm, ob, b1, b2, b3, b4, b5, b6⟩ := main
      refine ⟨bm, ob, b1, b2, fun z => ?_, fun z => ?_, below b3 (fun z => by rw [z] at b6; cases b6) (fun z => by rw [z] at b6; cases b6), b4, b5, b6⟩
      · obtain ⟨o, es, ep, e, d, _⟩ := glob
        rw [z, e] at b3
        obtain rfl := Option.some.inj b3
        rw [d] at b6
        cases b6
      · rw [z, tp] at b3
        obtain rfl := Option.some.inj b3
        cases b6
    · intro z
      obtain ⟨o, es, ep, e, d, _⟩ := glob
      rw [z, tp] at e
      obtain rfl := Option.some.inj e
      cases d
  have reads : LsX K H a (ns.map V.int) := by
    cases q : K.lookup a with
    | some o =>
      have e1 := Option.some.inj ((inK a o q).symm.trans script)
      exact .inr ⟨vs, 0, by rw [q, e1], by rw [List.length_map]; exact short, rel⟩
    | none =>
      refine .inl (.inr ⟨{ cls := .type "list", data := .seq vs.toArray }, ?_⟩)
      have no : a ∉ cs.map Prod.snd := fun m => by
        have z := (isTab a m).symm.trans script
        cases Option.some.inj z
      rw [← hH]
      unfold lawH
      rw [if_neg no, if_pos rfl, if_pos (by rw [q]; rfl)]
  have hok : HOk P w H s.heap := by
    intro b u e
    rcases tracked e with ⟨m, rfl⟩ | ⟨rfl, _, rfl⟩
    · exact isTab b m
    · exact ⟨script, by rw [List.length_map]; exact short, vs, _, rel, script⟩
  have e0 : Env0 P w K mg (hidT s.heap H) callerA [] s H := ⟨rfl, mod, fun b o e => of_hidT e, Nat.le_of_eq (hidT_size _ _), trivial, (fun b m => by cases m), hok, .of_eq gens⟩
  refine codeAny_mono ((F _ inB (spaces glob) bases).run callerA [] s H ⟨[.ref a], []⟩ [.ref a] [.ref a] _ _ room e0 (bind s (.ref a)) (.cons rfl .nil) (want H atTab reads)) ?_
  intro r s' out
  match r, out with
  | .error e, z => exact (none_ H e s' z).elim
  | .ok .next, z => exact z.elim
  | .ok .brk, z => exact z.elim
  | .ok .cont, z => exact z.elim
  | .ok (.ret u), ⟨v, H', os, bare, un, hok', r', (q : v = .bl true)⟩ =>
    subst q
    have u1 : u = Value.bool true := r'
    subst u1
    have grown : ∀ b ∈ cs.map Prod.snd, ∃ more : Array Value, s'.heap.get? b = some { cls := .none, data := .fields more } := by
      intro b mem
      obtain ⟨p, hp, rfl⟩ := List.mem_map.mp mem
      obtain ⟨more, z⟩ := un.tbls p.2 #[] (atTab p hp)
      exact ⟨_, hok' _ _ z⟩
    have stays : ∀ b o, b ∉ cs.map Prod.snd → s.heap.get? b = some o → s'.heap.get? b = some o := by
      intro b o no e
      cases t : H b with
      | none => exact un.keep b o e t (fun z => by cases z) (fun z => by cases z)
      | some u =>
        rcases tracked t with ⟨m, _⟩ | ⟨rfl, _, rfl⟩
        · exact absurd m no
        · have z1 := (hok _ _ t).1
          have z2 := (hok' _ _ (un.frzs _ _ _ t)).1
          rw [← e]
          exact z2.trans z1.symm
    refine ⟨rfl, ⟨fun b o e => ?_, fun b o e => ?_⟩, os, bare⟩
    · by_cases mem : b ∈ cs.map Prod.snd
      · obtain ⟨more, z⟩ := grown b mem
        obtain ⟨p, hp, rfl⟩ := List.mem_map.mp mem
        obtain rfl := Option.some.inj (e.symm.trans (tabs p hp))
        exact .inr (.inl ⟨((heads p hp).tab (tabs p hp)).isCodeTable, rfl, #[], more, rfl, by rw [Array.empty_append]; exact z⟩)
      · exact .inl (stays b o mem e)
    · by_cases mem : b ∈ cs.map Prod.snd
      · obtain ⟨more, z⟩ := grown b mem
        exact ⟨_, z⟩
      · exact ⟨o, stays b o mem e⟩
end
/-- what is known of the law's promise behind the top -/
def LawG (l : PySem.W.OpenLaw) (w : World) (K : PySem.W.Frag) (CX : CXT) (k n : Nat) (x : Str) (mg : Str → Option Value) (fa : Addr) (h : Heap) : Prop :=
  ∃ (fd : FuncData) (cs : List (Addr × Addr)) (sp : Sp), (∀ p ∈ cs, h.get? p.2 = some { cls := .none, data := .fields #[] }) ∧ (∀ p ∈ cs, K.lookup p.2 = none) ∧ (∀ p ∈ cs, PySem.W.CodeHd h p.1 p.2) ∧ (∀ (s : Shared) (u : Value), BindsTo s fd ⟨[u], []⟩ [(x, u)]) ∧
    (∀ (H : Hp) (a : Addr) (ns : List Int), ns.length ≤ n → (∀ z ∈ ns, Builtin.Int.intBits z ≤ 1048576) → (∀ p ∈ cs, H p.2 = some (.tbl #[])) → LsX K H a (ns.map V.int) → sp [.ref a] H (fun v _ => v = .bl true) fun _ _ _ => False) ∧
    ∀ base : Heap, K.In base → base.Ns mainGlobals mg → (∀ p ∈ cs, LamX.TabB base mg p.1 p.2) → FnG l.prog w K mg base CX k fa fd [x] sp
theorem walkG {l : PySem.W.OpenLaw} {n k : Nat} {q : Program} {loose : List Str} {XP : (Str → Option Value) → Heap → Prop} {YP : World → Heap → Prop} {d : DefRec} {K : Params → PySem.W.Frag} {CX : World → CXT} {x : Str}
    (most : l.most = some n) (fits : n ≤ sizeLine) (bare : d.params.defaults = []) (room : RmG k callerA) (hY : ∀ (w : World) (h : Heap), YP w h → (K w.params).In h)
    (F : ∀ (w : World) (mg mb : Str → Option Value) (fa : Addr) (h : Heap), (∃ ls mean, PyProof.Rows.Top q ls mean mg mb h) → YP w h → (K w.params).In h → h.Ns mainGlobals mg → mg d.name = some (.ref fa) → LawG l w (K w.params) (CX w) k n x mg fa h)
    (none_ : ∀ (w : World) (H : Hp) (s : Shared) (e : Value) (s' : Shared), CX w [] H s (fun _ _ _ => False) e s' → False) :
    PySem.W.WalkO q loose XP YP l.row.toRowW d [] (fun f vs => PySem.call f vs) := by
  refine Att.attach_callB most bare ?_
  intro w s0 s mg mb fa o pm cd doc a vs ns G Y ho hd hcd hm script whole len bits gens
  have inK := hY w _ Y
  obtain ⟨fd, cs, sp, tabs, notK, heads, bind, want, run⟩ := F w mg mb fa _ ⟨_, _, G.T⟩ Y inK G.T.g hm
  exact lawRun inK G.T.g G.T.b G.T.builtins G.T.nolimit gens tabs notK heads G.T.bmain script whole (Nat.le_trans len fits) room run bind (fun H t r => want H a ns len bits t r) fun H e s' => none_ w H s e s'
end Mx

namespace Mx
open PySem PySem.Spec PyProof.Rows L2
/-! ### d.setdefault(k, v), called as a method -/
def tDSet (td ty tx : TE) : TE := fun σ H Q => td σ H fun x H1 => ∃ a, x = .ref a ∧ IsD H1 a ∧ ty σ H1 fun y H2 => tx σ H2 fun z H3 => rSetd (.ref a) [y, z] H3 Q
section
variable {X : Cx} {o e f : Expr} {apos cpos : Pos} {td ty tx : TE}
theorem pe_dset2 (ho : PE X o td) (he : PE X e ty) (hf : PE X f tx) (m : M2 X o "setdefault" apos e f cpos) : PE X (.Call (.Attribute o "setdefault" apos) [e, f] [] cpos) (tDSet td ty tx) := by
  constructor
  intro pins s σ H Q I h
  refine wpAny_Call_method m.base m.few m.line PySem.F.plainAttrs_dict PySem.F.slot_dict_setdefault PySem.F.type_dict_setdefault (thn (ho.run pins s σ H _ I h) ?_)
  rintro u s1 ⟨x, H1, I1, rx, a, rfl, d, q1⟩
  obtain rfl : u = Value.ref a := rx
  obtain ⟨t1, t2, _⟩ := isD_at I1 d
  refine ⟨t1, t2, ?_⟩
  rw [m.trees]
  refine Calls.callWith_builtin rfl (Calls.evalArgs_plain (Calls.spliced_cons (thn (he.run pins s1 σ H1 _ I1 q1) ?_)))
  rintro iv s2 ⟨y, H2, I2, ry, q2⟩
  refine Calls.spliced_cons (thn (hf.run pins s2 σ H2 _ I2 q2) ?_)
  rintro fv s3 ⟨z, H3, I3, rz, b, kvs, k, v, eb, ev, ea, hl, w1, w2⟩
  cases eb
  cases ev
  refine Calls.spliced_nil ?_
  obtain ⟨fits, notMods, vs0, rel, dd⟩ := dk_of I3.hok ea
  have small : vs0.length ≤ sizeLine := by rw [← rel.length]; exact fits
  refine call_meetsIn PySem.F.slot_dict_setdefault dd.typeIs PySem.F.entry_dict_setdefault (PySem.F.args_dict_setdefault_3 _ _ _) (kt_meets_setdefault (mixKind X.prog X.w) _ (kV_is ry) notMods _) ⟨vs0, dd, small, ?_, ?_⟩
  · intro u hu
    have there := rel.val k
    rw [hu] at there
    match hv : valV kvs k, there with
    | some x, there => exact ⟨x, H3, I3.tok _, there, w1 x hv⟩
    | none, there => exact there.elim
  · intro hn h' dd' hs
    have there := rel.val k
    rw [hn] at there
    match hv : valV kvs k, there with
    | some x, there => exact there.elim
    | none, there =>
      have grows : (putK kvs k z).length ≤ sizeLine := by have := length_putK kvs k z; omega
      exact ⟨z, _, d_write (t' := s3.toks + 1) I3 (by rw [ea]; exact True.intro) hs (let ⟨q, _, _, hq, _⟩ := dd'; ⟨q, hq⟩) (dk_new grows notMods (rel.put k rz) dd'), rz, w2 hv⟩
end
/-- a def with one default: where it stands, its name, its parameters, the default -/
structure DefD (K : PySem.W.Frag) (mg : Str → Option Value) (x : Str) (st : Stmt) (ps : List Str) (dv : V) : Type where
  f : Addr
  fd : FuncData
  F : FunD K x x (defArgs st) (defBody st) (defScope st) [dv] [] f fd
  m : mg x = some (.ref f)
  b : Binds K fd ps []
  ds : List Value
  hd : Vals [dv] ds
  b1 : Binds K fd ps ds
/-! ### a sign, n times -/
theorem rep_fold (c : Nat) : ∀ (m : Nat) (acc : Array Nat), ((List.replicate m (#[c] : Array Nat)).foldl (· ++ ·) acc).toList = acc.toList ++ List.replicate m c
  | 0, acc => by simp
  | m + 1, acc => by
    rw [List.replicate_succ, List.foldl_cons, rep_fold c m (acc ++ #[c]), List.replicate_succ]
    simp
theorem mul_one (c : Nat) (n : Int) (h : 0 ≤ n) : TL.tl (Txt.mul ⟨#[c]⟩ n) = List.replicate n.toNat c := by
  unfold Txt.mul
  by_cases h1 : n < 1
  · rw [if_pos h1]
    have : n = 0 := by omega
    subst this
    rfl
  · rw [if_neg h1]
    by_cases h2 : n = 1
    · subst h2
      rfl
    · rw [if_neg (by simp [Str.length]; exact h2)]
      show ((List.replicate n.toNat (#[c] : Array Nat)).foldl (· ++ ·) #[]).toList = _
      rw [rep_fold]
      rfl
theorem mul_ok (c : Nat) (n : Int) (h : 0 ≤ n) (h2 : n ≤ 1000) : MulOk ⟨#[c]⟩ n := by
  refine ⟨?_, ?_, ?_⟩
  · rw [decide_eq_false (by omega), decide_eq_false (by omega)]
    rfl
  · intro h1 _ h3
    have h4 : ((2 : Int) ^ 63 - 1) / n ≥ 1 := (Int.le_ediv_iff_mul_le (by omega)).mpr (by omega)
    have h5 : (((⟨#[c]⟩ : Str).length : Nat) : Int) = 1 := rfl
    omega
  · intro _ _
    exact short24 (by show 1 * n.toNat ≤ 16777216; omega)
theorem op_strMul {X : Cx} : OpR X (binaryOp .Mult) (fun x y H Q => ∃ (c : Nat) (n : Int), x = .str ⟨#[c]⟩ ∧ y = .int n ∧ (0 ≤ n ∧ n ≤ 1000) ∧ ∀ z : Str, TL.tl z = List.replicate n.toNat c → Q (.str z) H) := by
  intro pins s σ H x y v u Q I rx ry h
  obtain ⟨c, n, rfl, rfl, ⟨h1, h2⟩, q⟩ := h
  obtain ⟨t, rfl⟩ := rx
  obtain ⟨t', rfl⟩ := ry
  exact SB.mul (mul_ok c n h1 h2) fun t2 tk => ⟨.str _, H, I.tok _, ⟨_, rfl⟩, q _ (mul_one c n h1)⟩
end Mx

namespace Mx
open PySem PySem.Spec PyProof.Rows L2
/-! ### what stands, carried by rules that a tactic can chain backwards -/
section
variable {Tb : List (Addr × Str)} {H H0 H1 H' : Hp} {p q a : Addr} {o u : HO} {xs : List V} {c d : Int} {kvs : List (Key × V)}
theorem lk_new (hp : H p = none) (h : H q = some u) : upd H p o q = some u := by rw [upd_ne (ne_of_none h hp)]; exact h
theorem lk_ne (n : q ≠ p) (h : H q = some u) : upd H p o q = some u := by rw [upd_ne n]; exact h
theorem lk_same (s : Same H H') (h : H q = some u) : H' q = some u := s _ _ h
theorem lk_go_lst (g : Go Tb H H') (h : H q = some (.lst xs)) : H' q = some (.lst xs) := g.lst h
theorem lk_go_tup (g : Go Tb H H') (h : H q = some (.tup xs)) : H' q = some (.tup xs) := g.tup h
theorem lk_go_dK (g : Go Tb H H') (h : H q = some (.dK kvs)) : H' q = some (.dK kvs) := g.1 q _ h fun ps z => by cases z
theorem lk_kp (k : Kp a H H') (n : q ≠ a) (h : H q = some u) : H' q = some u := k _ _ n h
theorem lk_kp_tup (k : Kp a H H') (st : StAt a c H) (h : H q = some (.tup xs)) : H' q = some (.tup xs) := k _ _ (fun z => by obtain ⟨_, _, _, e, _⟩ := st; rw [z, e] at h; cases h) h
theorem lk_kp_dK (k : Kp a H H') (st : StAt a c H) (h : H q = some (.dK kvs)) : H' q = some (.dK kvs) := k _ _ (fun z => by obtain ⟨_, _, _, e, _⟩ := st; rw [z, e] at h; cases h) h
theorem ne_st (hp : H p = none) (st : StAt a c H) : p ≠ a := fun e => by
  obtain ⟨_, _, _, e2, _⟩ := st
  rw [e, e2] at hp
  cases hp
theorem st_new (hp : H p = none) (st : StAt a c H) : StAt a c (upd H p o) := st.same (Same.new (Same.refl _) hp)
theorem st_same (s : Same H H') (st : StAt a c H) : StAt a c H' := st.same s
theorem st_go (g : Go Tb H H') (st : StAt a c H) : StAt a c H' := let ⟨x, m, n, e, h1, h2⟩ := st; ⟨x, m, n, g.lst e, h1, h2⟩
theorem fr_new (hp : H p = none) (s : Same H0 H) : Same H0 (L2.upd H p o) := Same.new s hp
theorem fr_same (s : Same H H') (t : Same H0 H) : Same H0 H' := t.trans s
theorem go_new (hp : H p = none) (s : Go Tb H0 H) : Go Tb H0 (upd H p o) := s.new hp
theorem go_same (s : Same H H') (t : Go Tb H0 H) : Go Tb H0 H' := t.trans (.same s)
theorem go_go (s : Go Tb H H') (t : Go Tb H0 H) : Go Tb H0 H' := t.trans s
theorem go_kp (k : Kp a H H') (n : H0 a = none) (st : StAt a c H) (t : Go Tb H0 H) : Go Tb H0 H' := t.kp n st k
theorem go_set (n : H0 a = none) (h : H a = some (.lst xs)) (t : Go Tb H0 H) : Go Tb H0 (L2.upd H a o) := by
  refine ⟨fun b u h1 h2 => ?_, fun tb p hp => ?_⟩
  · rw [upd_ne (ne_of_none h1 n)]
    exact t.1 b u h1 h2
  · obtain ⟨ps, e1, e2, e3⟩ := t.2 tb p hp
    refine ⟨ps, ?_, e2, fun pos cv hc => ?_⟩
    · rw [upd_ne (fun z => by rw [z, h] at e1; cases e1)]
      exact e1
    · obtain ⟨c', rfl, e5⟩ := e3 pos cv hc
      refine ⟨c', rfl, ?_⟩
      rw [upd_ne (fun z => by rw [z, h] at e5; unfold LamX.CodeO at e5; cases e5)]
      exact e5
theorem fr_set (n : H0 a = none) (t : Same H0 H) : Same H0 (L2.upd H a o) := fun b u h1 => by
  rw [upd_ne (ne_of_none h1 n)]
  exact t b u h1
theorem none_same (t : Same H0 H) (n : H a = none) : H0 a = none := by
  cases e : H0 a with
  | none => rfl
  | some u => rw [t _ _ e] at n; cases n
theorem kp_new (hp : H p = none) (s : Kp a H0 H) : Kp a H0 (L2.upd H p o) := s.new hp
theorem kp_same (s : Same H H') (t : Kp a H0 H) : Kp a H0 H' := t.trans (.of s)
theorem kp_kp (s : Kp a H H') (t : Kp a H0 H) : Kp a H0 H' := t.trans s
theorem kp_upd (s : Kp a H0 H) : Kp a H0 (L2.upd H a o) := s.upd
end
theorem Go.tabs {Tb : List (Addr × Str)} {H0 H : Hp} (g : Go Tb H0 H) (t : LamX.Tabs Tb H0) : LamX.Tabs Tb H := g.2 t
theorem tCut {t u : TS} {D : Ends} {σ : L2.St} {H : Hp} (R : L2.St → Hp → Prop) (key : ∀ σ' H', R σ' H' → u D σ' H') (go : (∀ σ' H', R σ' H' → u D σ' H') → t { D with nx := u D } σ H) : tSeq t u D σ H := go key
theorem tCutIf {c : TT} {x y u : TS} {D : Ends} {σ : L2.St} {H : Hp} (R : L2.St → Hp → Prop) (key : ∀ σ' H', R σ' H' → u D σ' H') (go : (∀ σ' H', R σ' H' → u D σ' H') → tIfS c x y { D with nx := u D } σ H) : tSeq (tIfS c x y) u D σ H := go key
theorem str_ext {x y : Str} (h : x.cps.toList = y.cps.toList) : x = y := by
  cases x
  cases y
  congr 1
  exact Array.toList_inj.mp h
/-! ### data -/
theorem lay_str {z : Str} (h : ∀ c ∈ z.cps.toList, c < 0x110000) : PyData.canLay0 (.str z) = true := by
  rw [PyData.canLay0]
  show z.cps.all (fun c => decide (c < 0x110000)) = true
  rw [Array.all_eq_true]
  intro i hi
  exact decide_eq_true (h _ (Array.getElem_mem_toList hi))
theorem lay_str8 {z : Str} (h : ∀ c ∈ z.cps.toList, c < 128) : PyData.canLay0 (.str z) = true := lay_str fun c hc => Nat.lt_trans (h c hc) (by decide)
theorem lay_sign {c : Nat} (h : c < 128) : PyData.canLay0 (.str ⟨#[c]⟩) = true := lay_str8 fun d hd => by rw [List.mem_singleton.mp hd]; exact h
theorem lay_l (xs : List PyData) : PyData.canLay0 (.list xs) = PyData.canLayAll0 xs := by rw [PyData.canLay0]
theorem lay_t (xs : List PyData) : PyData.canLay0 (.tuple xs) = PyData.canLayAll0 xs := by rw [PyData.canLay0]
theorem lay_i (i : Int) : PyData.canLay0 (.int i) = true := by rw [PyData.canLay0]
theorem lay_b (i : Bool) : PyData.canLay0 (.bool i) = true := by rw [PyData.canLay0]
theorem lay_n : PyData.canLay0 .none = true := by rw [PyData.canLay0]
theorem lay_c (x : PyData) (xs : List PyData) : PyData.canLayAll0 (x :: xs) = (PyData.canLay0 x && PyData.canLayAll0 xs) := by rw [PyData.canLayAll0]
theorem lay_e : PyData.canLayAll0 [] = true := by rw [PyData.canLayAll0]
theorem eqv_same {d : PyData} (h : SeqAt.shaped d = true) : PyData.eqv d d = true := SeqAt.eqv_refl d (SeqAt.canLay_of_shaped h)
end Mx

namespace Mx
open PySem PySem.Spec PyProof.Rows L2
/-! ### enumerate of a tuple -/
theorem meets_enumT (l : Addr) (items : Array Value) :
    Meets (Builtin.«enumerate.__new__» ⟨[.type "enumerate", .ref l], []⟩) (fun _ R s => s.heap.IsTuple l items ∧
      R (.ok (.ret (.ref (s.heap.push { cls := .type "tuple_iterator", data := .fields #[.ref l, .int 0 0] }).objs.size)))
        { s with heap := (s.heap.push { cls := .type "tuple_iterator", data := .fields #[.ref l, .int 0 0] }).push { cls := .type "enumerate", data := .fields #[.none, .bool false, .ref s.heap.objs.size, rawInt 0, .none, .none] } }) :=
  .of_wp fun prog w A R s h => by
    obtain ⟨hp, g, d, tk, os⟩ := s; obtain ⟨hL, h⟩ := h
    have hsub := sub_enumerate
    obtain ⟨o, ho, hc, n, hd⟩ := id hL
    wp_walk using AutoSeq1.wpAny_loadPart' ho
    refine wpAny_stack_any fun st => wpAny_pure ?_
    split
    · rename_i c _ _ _ _ _
      cases (c == Value.type "enumerate")
      · wp_walk using AutoSeq1.wpAny_loadPart' ho, wpAny_pyIter_tuple hL
        exact ⟨_, rfl, h⟩
      · wp_walk using AutoSeq1.wpAny_loadPart' ho, wpAny_pyIter_tuple hL
        exact ⟨_, rfl, h⟩
    · wp_walk using AutoSeq1.wpAny_loadPart' ho, wpAny_pyIter_tuple hL
      exact ⟨_, rfl, h⟩
theorem call_enumT {prog : Program} {w : World} {A : Around} {E : Value → Shared → Prop} {s : Shared} {l : Addr} {items : Array Value} {Q : Value → Shared → Prop} (hL : s.heap.IsTuple l items)
    (h : ∀ h', IsEnum h' (s.heap.objs.size + 1) s.heap.objs.size 0 .none → h'.IsTupleIter s.heap.objs.size l 0 → h'.objs.size = s.heap.objs.size + 2 →
      (∀ b o, s.heap.get? b = some o → h'.get? b = some o) → Q (.ref (s.heap.objs.size + 1)) { s with heap := h' }) :
    wpAny (model prog w) A (call (.type "enumerate") [.ref l]) Q E s := by
  refine callType_new F.called_enumerate (by decide) (F.typeCall_enumerate_1 _) (F.newCall_enumerate_1 _) (fun obj => F.args_object_init_2 obj _) F.entry_enumerate_new
    (meets_enumT l items) ⟨hL, ?_⟩
  have hz : (s.heap.push { cls := .type "tuple_iterator", data := .fields #[.ref l, .int 0 0] }).objs.size = s.heap.objs.size + 1 := Heap.size_push ..
  show _ ∧ _
  rw [hz]
  have he : IsEnum ((s.heap.push { cls := .type "tuple_iterator", data := .fields #[.ref l, .int 0 0] }).push
      { cls := .type "enumerate", data := .fields #[.none, .bool false, .ref s.heap.objs.size, rawInt 0, .none, .none] }) (s.heap.objs.size + 1) s.heap.objs.size 0 .none := by
    have := Heap.get?_push_size (s.heap.push { cls := .type "tuple_iterator", data := .fields #[.ref l, .int 0 0] })
      (o := { cls := .type "enumerate", data := .fields #[.none, .bool false, .ref s.heap.objs.size, rawInt 0, .none, .none] }) rfl
    rw [hz] at this; exact this
  refine ⟨⟨_, he, rfl⟩, h _ he ⟨_, Heap.get?_push_of_some _ (Heap.get?_push_size _ rfl), rfl, rfl⟩ (by rw [Heap.size_push, hz]) fun b o x => Heap.get?_push_of_some _ (Heap.get?_push_of_some _ x)⟩
def Itu (K : PySem.W.Frag) (a : Addr) : It :=
  ⟨fun i H => ∃ (xs : List V) (x : V), SqT K H a xs ∧ xs[i]? = some x, fun i H v H' => ∃ T x, v = .ref T ∧ H T = none ∧ H' = upd H T (.tup [.int (i : Nat), x]) ∧ ∀ xs, SqT K H a xs → xs[i]? = some x, fun i H => ∃ xs : List V, SqT K H a xs ∧ xs.length = i⟩
theorem turn_enumT {P : Program} {w : World} {K : PySem.W.Frag} {elts : List Expr} {kk : Nat} {tpos : Pos} (a e it : Addr) :
    Turn P w K (.Tuple elts kk tpos) (Itu K a) [e, it] e (fun i h => (∃ old, IsEnum h e it ((i : Nat) : Int) old) ∧ h.IsTupleIter it a i ∧ e ≠ it) where
  mem := by simp
  obj := fun i h st b hb => by
    obtain ⟨⟨old, he⟩, ⟨o, ho, hc, hd⟩, _⟩ := st
    have e' : b = e ∨ b = it := by simpa using hb
    rcases e' with z | z
    · rw [z]; exact ⟨_, he, fun v q => nomatch q⟩
    · rw [z]; exact ⟨o, ho, fun v q => by rw [hd] at q; cases q⟩
  keep := fun i h h' st k => let ⟨⟨old, he⟩, hi, hne⟩ := st; ⟨⟨old, k e (by simp) _ he⟩, hi.at fun o q => k it (by simp) o q, hne⟩
  item := by
    intro X hP hw hK hc i pins s σ H E I hf st hg
    subst hP hw hK
    obtain ⟨⟨old, he⟩, hit, hne⟩ := st
    obtain ⟨xs, x, hq, hx⟩ := hg
    obtain ⟨its, rv, p, hz⟩ := I.tuple hq
    have p' : s.heap.IsTuple a its.toArray := p
    obtain ⟨u, hu, ru⟩ := rv.get hx
    have hel : e < s.heap.objs.size := Heap.lt_size he
    have hil : it < s.heap.objs.size := by obtain ⟨_, q, _⟩ := hit; exact Heap.lt_size q
    have hea : e ≠ a := fun z => by
      obtain ⟨o, ho, hcl, _⟩ := p'
      have he' := he
      unfold IsEnum at he'
      rw [z, ho] at he'
      obtain rfl := Option.some.inj he'
      injection hcl with hcl; exact absurd hcl (by decide)
    have hai : a ≠ it := fun z => by
      obtain ⟨o, ho, hcl, _⟩ := p'
      obtain ⟨o2, ho2, hc2, _⟩ := hit
      rw [← z, ho] at ho2
      obtain rfl := Option.some.inj ho2
      rw [hcl] at hc2
      injection hc2 with hc2; exact absurd hc2 (by decide)
    have D := Draws.tuple (prog := X.prog) (w := X.w) (A := X.A.in1) (I.ok.hd hc) it a hai its.toArray
    have hi : i < its.toArray.size := by
      have := (List.getElem?_eq_some_iff.mp hu).1
      simpa using this
    refine wpAny_pyNext_enum_itemD D he ⟨hit, p'⟩ hi hne (by simp [hne, hea]) fun z h' tk hz2 ho hst hT hsz hk => ?_
    have ezu : z = u := by
      have hz3 : its[i]? = some z := by simpa using hz2
      exact Option.some.inj (hz3.symm.trans hu)
    subst ezu
    refine ⟨_, rfl, wpAny_letOwnedTupleGo_enum (s := { s with heap := h', toks := tk + 1 }) ho fun h'' he' sb => ?_⟩
    have hT2 : h''.get? s.heap.objs.size = some { cls := .type "tuple", data := .seq #[.int i tk, z] } := (sb.2 _ (Nat.ne_of_gt hel)).trans hT
    have new : ObjOk X.prog X.w (upd H s.heap.objs.size (.tup [.int (i : Nat), x])) h'' s.heap.objs.size (.tup [.int (i : Nat), x]) :=
      ⟨by show 2 ≤ sizeLine; decide, [.int i tk, z], .cons ⟨_, rfl⟩ (.cons ru .nil), ⟨_, hT2, rfl, _, rfl⟩⟩
    have I1 : Inv X pins σ (upd H s.heap.objs.size (.tup [.int (i : Nat), x])) { s with heap := h'', toks := tk + 1 } :=
      I.turnedNew (ch := [e, it]) (fun b ob hb q => (sb.2 b (fun z => hb (by simp [z]))).trans (hk b ob (fun z => hb (by simp [z])) (fun z => hb (by simp [z])) q)) hf (Nat.le_refl _) new
    refine ⟨.ref s.heap.objs.size, _, I1, rfl, ⟨_, x, rfl, I.hok.fresh (Nat.le_refl _), rfl, fun ys hy => by rw [I.tuple_inj hy hq]; exact hx⟩, ⟨⟨z, ?_⟩, hst.1.at fun o q => (sb.2 it (Ne.symm hne)).trans q, hne⟩, fun b hb => ?_⟩
    · have e1 : ((i + 1 : Nat) : Int) = (i : Int) + 1 := by omega
      rw [e1]; exact he'
    · have hb' : b < s.heap.objs.size := by
        have e' : b = e ∨ b = it := by simpa using hb
        rcases e' with z | z
        · rw [z]; exact hel
        · rw [z]; exact hil
      rw [upd_ne (Nat.ne_of_lt hb')]
      exact (hf b hb).1
  done := by
    intro X hP hw hK hc i pins s σ H E I hf st hg
    subst hP hw hK
    obtain ⟨⟨old, he⟩, hit, hne⟩ := st
    obtain ⟨xs, hq, hx⟩ := hg
    obtain ⟨its, rv, p, hz⟩ := I.tuple hq
    have p' : s.heap.IsTuple a its.toArray := p
    have hai : a ≠ it := fun z => by
      obtain ⟨o, ho, hcl, _⟩ := p'
      obtain ⟨o2, ho2, hc2, _⟩ := hit
      rw [← z, ho] at ho2
      obtain rfl := Option.some.inj ho2
      rw [hcl] at hc2
      injection hc2 with hc2; exact absurd hc2 (by decide)
    have D := Draws.tuple (prog := X.prog) (w := X.w) (A := X.A.in1) (I.ok.hd hc) it a hai its.toArray
    obtain ⟨f0, f1, f2, f3, f4, f5⟩ := hf it (by simp)
    have hl := rv.length
    have hi : its.toArray.size = i := by rw [List.size_toArray, ← hl, hx]
    subst hi
    exact wpAny_pyNext_enum_endD D he ⟨hit, p'⟩ fun h' eb => ⟨rfl, I.turned (t' := s.toks) (fun b o hb q => eb b o hb q) f0 f1 f3 f4 f5⟩
  self := fun A i s Q E st h => let ⟨⟨_, he⟩, _⟩ := st; wpAny_pyIter_enum he h
def iEnumT (K : PySem.W.Frag) (ta : TA) : TI := fun σ H R => ta σ H fun vs H1 => ∃ a xs, vs = [.ref a] ∧ SqT K H1 a xs ∧ R (Itu K a) H1
theorem pi_enumTup {X : Cx} {e : Expr} {ta : TA} {p pos tpos : Pos} {elts : List Expr} {kk : Nat} (hg : Gl X "enumerate") (hm : X.mg "enumerate" = none) (ha : PA X [e] ta) (hs : starEach [e] X.env = [(false, eval e X.env)] := by rfl) :
    PI X (.Tuple elts kk tpos) (.Call (.Name "enumerate" p) [e] [] pos) (iEnumT X.K ta) := by
  refine ⟨fun pins s σ H R I h => ?_⟩
  refine Call_ (ld_blt I hg hm boot_enumerate (PyProof.Rows.callWith_type1 (thn (ha.run pos pins s σ H _ I h) fun us s1 ⟨vs, H1, I1, r1, q1⟩ => ?_) hs rfl))
  obtain ⟨a, xs, ex, hq, q⟩ := q1
  subst ex
  cases r1 with
  | cons r rr =>
    cases rr
    cases r
    obtain ⟨its, rv, p', hz⟩ := I1.tuple hq
    have p2 : s1.heap.IsTuple a its.toArray := p'
    refine call_enumT p2 fun h' he hit hsz hk => wpAny_pyIter_enum he ?_
    have I2 : Inv X pins σ H1 { s1 with heap := h' } := I1.kept (t' := s1.toks) hk
    refine ⟨s1.heap.objs.size + 1, [s1.heap.objs.size + 1, s1.heap.objs.size], _, _, H1, rfl, I2, turn_enumT a (s1.heap.objs.size + 1) s1.heap.objs.size, ⟨⟨.none, he⟩, hit, Nat.succ_ne_self _⟩, fun b hb => ?_, q⟩
    have e' : b = s1.heap.objs.size + 1 ∨ b = s1.heap.objs.size := by simpa using hb
    have hle : s1.heap.objs.size ≤ b := by
      rcases e' with z | z
      · rw [z]; exact Nat.le_add_right _ _
      · rw [z]; exact Nat.le_refl _
    exact I1.fpOk hle (I1.hok.fresh hle)
/-- for i, x in enumerate(t): a tuple that stands still -/
theorem for_eu {K : PySem.W.Frag} {a : Addr} {xs : List V} {g : TG} {tb : TS} {D : Ends} {σ : L2.St} {H : Hp} (Pv : Nat → L2.St → Hp → Prop) (h0 : Pv 0 σ H) (hl : ∀ i σ H, Pv i σ H → SqT K H a xs)
    (hs : ∀ (i : Nat) (x : V) (T : Addr) σ H, xs[i]? = some x → H T = none → Pv i σ H → g (.ref T) σ (upd H T (.tup [.int (i : Nat), x])) fun σ2 H2 => tb { D with nx := Pv (i + 1), ct := Pv (i + 1), bk := D.nx } σ2 H2)
    (hd : ∀ σ H, Pv xs.length σ H → D.nx σ H) :
    ∃ W : Nat → Nat → L2.St → Hp → Prop, (∃ m, W 0 m σ H) ∧ ∀ i m σ H, W i m σ H →
      ((Itu K a).stop i H ∧ D.nx σ H) ∨ ((Itu K a).go i H ∧ ∃ N : L2.St → Hp → Prop, (∀ σ' H', N σ' H' → ∃ m', m' < m ∧ W (i + 1) m' σ' H') ∧ ∀ v H', (Itu K a).yld i H v H' → g v σ H' fun σ2 H2 => tb { D with nx := N, ct := N, bk := D.nx } σ2 H2) := by
  refine ⟨fun i m σ H => m = xs.length - i ∧ i ≤ xs.length ∧ Pv i σ H, ⟨xs.length, by simp, Nat.zero_le _, h0⟩, ?_⟩
  rintro i m σ H ⟨rfl, hi, p⟩
  have hl' := hl i σ H p
  by_cases hlt : i < xs.length
  · have e : xs[i]? = some xs[i] := List.getElem?_eq_getElem hlt
    refine .inr ⟨⟨xs, xs[i], hl', e⟩, Pv (i + 1), fun σ' H' p' => ⟨xs.length - (i + 1), by omega, rfl, hlt, p'⟩, fun v H' y => ?_⟩
    obtain ⟨T, x, rfl, hT, rfl, hx⟩ := y
    exact hs i x T σ H (hx xs hl') hT p
  · have e : i = xs.length := by omega
    subst e
    exact .inl ⟨⟨xs, hl', rfl⟩, hd σ H p⟩
end Mx

namespace Mx
open PySem PySem.Spec PyProof.Rows L2
/-! ### data with dicts, read and shown -/
mutual
inductive Rs (h : Heap) : Value → PyData → Prop
  | none : Rs h .none .none
  | bool (b) : Rs h (.bool b) (.bool b)
  | int (i t) : Rs h (.int i t) (.int i)
  | str (x t) : Rs h (.str x t) (.str x)
  | list {a : Addr} {o : Obj} {vs : Array Value} {n : Nat} {xs : List PyData} : h.get? a = some o → o.cls = .type "list" → o.data = .seq vs n → RsAll h vs.toList xs → Rs h (.ref a) (.list xs)
  | tuple {a : Addr} {o : Obj} {vs : Array Value} {n : Nat} {xs : List PyData} : h.get? a = some o → o.cls = .type "tuple" → o.data = .seq vs n → RsAll h vs.toList xs → Rs h (.ref a) (.tuple xs)
  | dict {a : Addr} {o : Obj} {es : Array DictEntry} {n : Nat} {kvs : List (PyData × PyData)} : h.get? a = some o → o.cls = .type "dict" → o.data = .dict es n → (a == sysModules) = false → RsAll h (es.toList.map (·.key)) (kvs.map (·.1)) →
      RsAll h (es.toList.map (·.val)) (kvs.map (·.2)) → Rs h (.ref a) (.dict kvs)
inductive RsAll (h : Heap) : List Value → List PyData → Prop
  | nil : RsAll h [] []
  | cons {v : Value} {vs : List Value} {d : PyData} {ds : List PyData} : Rs h v d → RsAll h vs ds → RsAll h (v :: vs) (d :: ds)
end
mutual
theorem Rs.reads {h : Heap} : ∀ {v : Value} {d : PyData}, Rs h v d → ∃ as, Reads h v d as
  | _, _, .none => ⟨_, .none⟩
  | _, _, .bool b => ⟨_, .bool b⟩
  | _, _, .int i t => ⟨_, .int i t⟩
  | _, _, .str x t => ⟨_, .str x t⟩
  | _, _, .list a b c d => let ⟨_, r⟩ := RsAll.reads d; ⟨_, .list a b c r⟩
  | _, _, .tuple a b c d => let ⟨_, r⟩ := RsAll.reads d; ⟨_, .tuple a b c r⟩
  | _, _, .dict a b c _ d e => let ⟨_, r⟩ := RsAll.reads d; let ⟨_, q⟩ := RsAll.reads e; ⟨_, .dict a b c r q⟩
theorem RsAll.reads {h : Heap} : ∀ {vs : List Value} {ds : List PyData}, RsAll h vs ds → ∃ as, ReadsAll h vs ds as
  | _, _, .nil => ⟨_, .nil⟩
  | _, _, .cons a b => let ⟨_, r⟩ := Rs.reads a; let ⟨_, q⟩ := RsAll.reads b; ⟨_, .cons r q⟩
end
section
variable {prog : Program} {w : World} {h₀ : Heap}
mutual
theorem Rs.shown : ∀ {v : Value} {d : PyData}, Rs h₀ v d → d.showable = true → d.shown.length ≤ sizeLine → ∃ bs, ReadAtMost h₀ d.depth bs ∧ ReprK prog w bs h₀ d.depth v d.shown
  | _, _, .none, _, _ => ⟨[], (fun _ h => nomatch h), by simp only [PyData.shown]; exact .of_is ReprIs.none _ _ _⟩
  | _, _, .bool b, _, _ => ⟨[], (fun _ h => nomatch h), by simp only [PyData.shown]; exact .of_is (ReprIs.bool b) _ _ _⟩
  | _, _, .int i t, hs, _ => ⟨[], (fun _ h => nomatch h), by simp only [PyData.shown]; exact .of_is (ReprIs.int t (by simpa [PyData.showable] using hs)) _ _ _⟩
  | _, _, .str x t, _, hz => ⟨[], (fun _ h => nomatch h), by simp only [PyData.shown]; exact .of_is (ReprIs.str x t (by simpa only [PyData.shown] using hz)) _ _ _⟩
  | _, _, .list (a := a) (vs := vs) (xs := xs) h1 h2 h3 h4, hs, hz => by
    have hz' : (listText (PyData.shownAll xs)).length ≤ sizeLine := by simpa only [PyData.shown] using hz
    obtain ⟨bs, hb, hk⟩ := RsAll.shown h4 (by simpa [PyData.showable] using hs) (fun t ht => Nat.le_trans (listText_mem_le ht) hz')
    obtain ⟨as, r⟩ := Rs.reads (.list h1 h2 h3 h4)
    have hna : a ∉ bs := not_mem_of_deeper r (by simp only [PyData.depth]; omega) hb
    refine ⟨a :: bs, ReadAtMost.cons r (by simp only [PyData.depth]; omega) hb, ?_⟩
    simp only [PyData.depth, PyData.shown]
    obtain ⟨l⟩ := vs
    cases l with
    | nil =>
      have h4' : RsAll h₀ [] xs := h4
      cases h4'
      simp only [PyData.shownAll, listText_nil]
      exact ReprK.listEmpty h1 h2 h3
    | cons x l => exact ReprK.list h1 h2 h3 hna (by simpa using hk.length_eq) (fun i y e => hk.item i y (by simpa using e))
  | _, _, .tuple (a := a) (xs := xs) h1 h2 h3 h4, hs, hz => by
    have hz' : (tupleText (PyData.shownAll xs)).length ≤ sizeLine := by simpa only [PyData.shown] using hz
    obtain ⟨bs, hb, hk⟩ := RsAll.shown h4 (by simpa [PyData.showable] using hs) (fun t ht => Nat.le_trans (tupleText_mem_le ht) hz')
    obtain ⟨as, r⟩ := Rs.reads (.tuple h1 h2 h3 h4)
    have hna : a ∉ bs := not_mem_of_deeper r (by simp only [PyData.depth]; omega) hb
    refine ⟨a :: bs, ReadAtMost.cons r (by simp only [PyData.depth]; omega) hb, ?_⟩
    simp only [PyData.depth, PyData.shown]
    exact ReprK.tuple h1 h2 h3 hna hk
  | _, _, .dict (a := a) (es := es) (kvs := kvs) h1 h2 h3 h6 h4 h5, hs, hz => by
    have hz' : (dictText (PyData.shownKv kvs)).length ≤ sizeLine := by simpa only [PyData.shown] using hz
    obtain ⟨hs1, hs2⟩ := PyData.showableKv_split kvs (by simpa [PyData.showable] using hs)
    obtain ⟨b1, hb1, k1⟩ := RsAll.shown h4 hs1 (fun t ht => let ⟨p, hp, hl⟩ := PyData.shownKv_key_le kvs t ht; Nat.le_trans hl (Nat.le_trans (dictText_mem_le hp) hz'))
    obtain ⟨b2, hb2, k2⟩ := RsAll.shown h5 hs2 (fun t ht => let ⟨p, hp, hl⟩ := PyData.shownKv_val_le kvs t ht; Nat.le_trans hl (Nat.le_trans (dictText_mem_le hp) hz'))
    obtain ⟨as, r⟩ := Rs.reads (.dict h1 h2 h3 h6 h4 h5)
    have hb : ReadAtMost h₀ (PyData.depthKv kvs) (b1 ++ b2) := (hb1.mono (PyData.depthAll_keys_le kvs)).append (hb2.mono (PyData.depthAll_vals_le kvs))
    have hna : a ∉ b1 ++ b2 := not_mem_of_deeper r (by simp only [PyData.depth]; omega) hb
    refine ⟨a :: (b1 ++ b2), ReadAtMost.cons r (by simp only [PyData.depth]; omega) hb, ?_⟩
    simp only [PyData.depth, PyData.shown, PyData.shownKv_eq]
    exact ReprK.dict h1 h2 h3 h6 hna (ReprEntriesK.of_two es.toList _ _
      (k1.more_le (fun b hb => List.mem_append_left _ hb) (PyData.depthAll_keys_le kvs)) (k2.more_le (fun b hb => List.mem_append_right _ hb) (PyData.depthAll_vals_le kvs)))
theorem RsAll.shown : ∀ {vs : List Value} {ds : List PyData}, RsAll h₀ vs ds → PyData.showableAll ds = true → (∀ t ∈ PyData.shownAll ds, t.length ≤ sizeLine) →
    ∃ bs, ReadAtMost h₀ (PyData.depthAll ds) bs ∧ ReprAllK prog w bs h₀ (PyData.depthAll ds) vs (PyData.shownAll ds)
  | _, _, .nil, _, _ => ⟨[], (fun _ h => nomatch h), by simp only [PyData.shownAll]; exact .nil⟩
  | _, _, .cons (d := d) (ds := ds) r rs, hs, hz => by
    have hs' : d.showable = true ∧ PyData.showableAll ds = true := by simpa [PyData.showableAll] using hs
    obtain ⟨b1, hb1, k1⟩ := Rs.shown r hs'.1 (hz _ (by simp only [PyData.shownAll]; exact List.mem_cons_self ..))
    obtain ⟨b2, hb2, k2⟩ := RsAll.shown rs hs'.2 (fun t ht => hz t (by simp only [PyData.shownAll]; exact List.mem_cons_of_mem _ ht))
    refine ⟨b1 ++ b2, ?_, ?_⟩
    · intro b hm
      simp only [PyData.depthAll]
      rcases List.mem_append.mp hm with hm | hm
      · obtain ⟨d', as', r', hd'⟩ := hb1 b hm
        exact ⟨d', as', r', Nat.le_trans hd' (Nat.le_max_left _ _)⟩
      · obtain ⟨d', as', r', hd'⟩ := hb2 b hm
        exact ⟨d', as', r', Nat.le_trans hd' (Nat.le_max_right _ _)⟩
    · simp only [PyData.depthAll, PyData.shownAll]
      exact .cons ((k1.more fun b hb => List.mem_append_left _ hb).level_le (Nat.le_max_left _ _)) (k2.more_le (fun b hb => List.mem_append_right _ hb) (Nat.le_max_right _ _))
end
/-- repr of a list of data -/
theorem repr_list {a : Addr} {xs : List PyData} {A : Around} {E : Value → Shared → Prop} {s : Shared} {Q : Value → Shared → Prop} (r : Rs s.heap (.ref a) (.list xs)) (hs : (PyData.list xs).showable = true) (hg : A.guards = some []) (hu : A.units + ((PyData.list xs).depth + 1) < cLine)
    (hQ : ∀ h' u tk, (∀ b o, s.heap.get? b = some o → h'.get? b = some o) → Q (.str (PyData.list xs).shown u) { s with heap := h', toks := tk })
    (hsz : (PyData.list xs).shown.length ≤ sizeLine) : wpAny (model prog w) A (call (.builtin "repr") [.ref a]) Q E s := by
  generalize hd : PyData.list xs = d at r hs hu hQ hsz
  cases r with
  | tuple => cases hd
  | dict => cases hd
  | list h1 h2 h3 h4 =>
    rename_i o vs n xs'
    cases hd
    have hz' : (listText (PyData.shownAll xs)).length ≤ sizeLine := by simpa only [PyData.shown] using hsz
    obtain ⟨bs, hb, hk⟩ := RsAll.shown (prog := prog) (w := w) h4 (by simpa [PyData.showable] using hs) (fun t ht => Nat.le_trans (listText_mem_le ht) hz')
    obtain ⟨as, r⟩ := Rs.reads (.list h1 h2 h3 h4)
    have hna : a ∉ bs := not_mem_of_deeper r (by simp only [PyData.depth]; omega) hb
    refine call_repr_slot (by omega) ⟨o, h1, h2⟩ F.slot_list_repr.toG ?_
    have hu' : A.in1.units + (PyData.list xs).depth < cLine := by show A.units + 1 + _ < cLine; omega
    simp only [PyData.depth] at hu'
    have hQ' : ∀ h' u tk, (∀ b o, s.heap.get? b = some o → h'.get? b = some o) → ∃ x t, Value.str (PyData.list xs).shown u = .str x t ∧ Q (.str (PyData.list xs).shown u) { s with heap := h', toks := tk } := fun h' u tk k => ⟨_, _, rfl, hQ h' u tk k⟩
    simp only [PyData.shown] at hQ'
    obtain ⟨l⟩ := vs
    cases l with
    | nil =>
      have h4' : RsAll s.heap [] xs := h4
      cases h4'
      simp only [PyData.shownAll, listText_nil] at hQ'
      exact call_list_repr_empty ⟨o, h1, h2⟩ h1 h3 (hQ' s.heap _ _ fun _ _ e => e)
    | cons x l => exact call_list_reprK h1 h2 h3 hna (by simpa using hk.length_eq) (fun i y e => hk.item i y (by simpa using e)) hg (fun b _ => Clear.nil b) hu' (fun _ _ e => e) hQ' hz'
end
/-! ### the same over the abstract heap -/
def keyD : Key → PyData
  | .inl i => .int i
  | .inr x => .str x
mutual
inductive Dx (K : PySem.W.Frag) (H : Hp) : V → PyData → Prop
  | non : Dx K H .non .none
  | bl (b : Bool) : Dx K H (.bl b) (.bool b)
  | int (i : Int) : Dx K H (.int i) (.int i)
  | str (x : Str) : Dx K H (.str x) (.str x)
  | lst {a : Addr} {xs : List V} {ds : List PyData} : SqL K H a xs → DxAll K H xs ds → Dx K H (.ref a) (.list ds)
  | tup {a : Addr} {xs : List V} {ds : List PyData} : SqT K H a xs → DxAll K H xs ds → Dx K H (.ref a) (.tuple ds)
  | dct {a : Addr} {kvs : List (Key × V)} {ds : List (PyData × PyData)} : Rd H a (.dK kvs) → DxKv K H kvs ds → Dx K H (.ref a) (.dict ds)
inductive DxAll (K : PySem.W.Frag) (H : Hp) : List V → List PyData → Prop
  | nil : DxAll K H [] []
  | cons {v : V} {vs : List V} {d : PyData} {ds : List PyData} : Dx K H v d → DxAll K H vs ds → DxAll K H (v :: vs) (d :: ds)
inductive DxKv (K : PySem.W.Frag) (H : Hp) : List (Key × V) → List (PyData × PyData) → Prop
  | nil : DxKv K H [] []
  | cons {k : Key} {v : V} {vs : List (Key × V)} {d : PyData} {ds : List (PyData × PyData)} : Dx K H v d → DxKv K H vs ds → DxKv K H ((k, v) :: vs) ((keyD k, d) :: ds)
end
theorem rs_keys {P : Program} {w : World} {h : Heap} {K : PySem.W.Frag} {H : Hp} : ∀ {kvs : List (Key × V)} {ds : List (PyData × PyData)} {es : List DictEntry} {vs : List (Key × Value)}, DxKv K H kvs ds → Pairs (mixKind P w) es vs → KV kvs vs → RsAll h (es.map (·.key)) (ds.map (·.1))
  | _, _, _, _, .nil, p, r => by cases r; cases p; exact .nil
  | _, _, _, _, .cons (k := k) _ q, p, r => by
    cases r with
    | cons r1 r2 =>
      cases p with
      | cons p1 p2 p3 =>
        refine .cons ?_ (rs_keys q p3 r2)
        have hk := p1
        rw [← r1.1] at hk
        rcases keyIs_shape hk with ⟨i, t, e1, e2⟩ | ⟨x, t, e1, e2⟩
        · dsimp only at e1 e2 ⊢
          rw [e2, e1]
          exact .int i t
        · dsimp only at e1 e2 ⊢
          rw [e2, e1]
          exact .str x t
section
variable {X : Cx} {pins : List (Addr × Obj)} {σ : L2.St} {H : Hp} {s : Shared}
mutual
theorem Dx.rs (I : Inv X pins σ H s) : ∀ {v : V} {d : PyData} {u : Value}, Dx X.K H v d → RelV v u → Rs s.heap u d
  | _, _, _, .non, r => by cases r; exact .none
  | _, _, _, .bl b, r => by cases r; exact .bool b
  | _, _, _, .int i, r => by obtain ⟨t, rfl⟩ := r; exact .int i t
  | _, _, _, .str x, r => by obtain ⟨t, rfl⟩ := r; exact .str x t
  | _, _, _, .lst hs ha, r => by
    cases r
    obtain ⟨its, rv, ⟨o, n, ho, hc, _, hd⟩, _⟩ := I.list hs
    exact .list ho hc hd (DxAll.rs I ha rv)
  | _, _, _, .tup hs ha, r => by
    cases r
    obtain ⟨its, rv, ⟨o, ho, hc, n, hd⟩, _⟩ := I.tuple hs
    exact .tuple ho hc hd (DxAll.rs I ha rv)
  | _, _, _, .dct hs ha, r => by
    cases r
    obtain ⟨hz, hsm, vs, rel, o, es, ep, ho, hx, hd, _, ps, _⟩ := dk_rd I.hok hs
    exact .dict ho hx.1 hd hsm (rs_keys ha ps rel) (DxKv.rs I ha rel ps)
theorem DxAll.rs (I : Inv X pins σ H s) : ∀ {vs : List V} {ds : List PyData} {us : List Value}, DxAll X.K H vs ds → Vals vs us → RsAll s.heap us ds
  | _, _, _, .nil, r => by cases r; exact .nil
  | _, _, _, .cons h1 h2, r => by
    cases r with
    | cons r1 r2 => exact .cons (Dx.rs I h1 r1) (DxAll.rs I h2 r2)
theorem DxKv.rs (I : Inv X pins σ H s) : ∀ {kvs : List (Key × V)} {ds : List (PyData × PyData)} {vs : List (Key × Value)} {es : List DictEntry}, DxKv X.K H kvs ds → KV kvs vs → Pairs (mixKind X.prog X.w) es vs → RsAll s.heap (es.map (·.val)) (ds.map (·.2))
  | _, _, _, _, .nil, r, p => by cases r; cases p; exact .nil
  | _, _, _, _, .cons h1 h2, r, p => by
    cases r with
    | cons r1 r2 =>
      cases p with
      | cons p1 p2 p3 => exact .cons (by dsimp only; rw [p2]; exact Dx.rs I h1 r1.2) (DxKv.rs I h2 r2 p3)
end
end
def rReprX (K : PySem.W.Frag) : List V → Hp → VK → Prop := fun xs H Q => ∃ (a : Addr) (ds : List PyData), xs = [.ref a] ∧ Dx K H (.ref a) (.list ds) ∧ (PyData.list ds).showable = true ∧ (PyData.list ds).depth ≤ 60 ∧ (PyData.list ds).shown.length ≤ sizeLine ∧ Q (.str (PyData.list ds).shown) H
theorem call_reprX {X : Cx} {k : Nat} (hr : RmG k X.A) : CallR X (.builtin "repr") (rReprX X.K) := by
  intro pins s σ H vs us Q I r h
  obtain ⟨a, ds, rfl, hd, h1, h3, h4, q⟩ := h
  cases r with
  | cons ra rn =>
    cases rn
    cases ra
    have hu := hr.r.un
    refine repr_list (Dx.rs I hd rfl) h1 hr.g (by omega) (fun h' u tk hk => ?_) h4
    exact ⟨.str (PyData.list ds).shown, H, I.kept hk, ⟨u, rfl⟩, q⟩
/-! ### frames -/
section
variable {Tb : List (Addr × Str)} {K : PySem.W.Frag} {H H' : Hp}
theorem rd_ext {a : Addr} {u : HO} (g : LamX.ExtN H H') (n : ∀ ps, u ≠ .tbl ps) (h : Rd H a u) : Rd H' a u := by
  rcases h with h | ⟨o, h⟩
  · exact .inl (g _ _ h n)
  · exact .inr ⟨o, g _ _ h fun ps z => by cases z⟩
theorem sql_ext {a : Addr} {xs : List V} (g : LamX.ExtN H H') (h : SqL K H a xs) : SqL K H' a xs := h.imp (rd_ext g fun ps z => by cases z) id
theorem sqt_ext {a : Addr} {xs : List V} (g : LamX.ExtN H H') (h : SqT K H a xs) : SqT K H' a xs := h.imp (rd_ext g fun ps z => by cases z) id
mutual
theorem Dx.ext (g : LamX.ExtN H H') : ∀ {v : V} {d : PyData}, Dx K H v d → Dx K H' v d
  | _, _, .non => .non
  | _, _, .bl b => .bl b
  | _, _, .int i => .int i
  | _, _, .str x => .str x
  | _, _, .lst h r => .lst (sql_ext g h) (DxAll.ext g r)
  | _, _, .tup h r => .tup (sqt_ext g h) (DxAll.ext g r)
  | _, _, .dct h r => .dct (rd_ext g (fun ps z => by cases z) h) (DxKv.ext g r)
theorem DxAll.ext (g : LamX.ExtN H H') : ∀ {v : List V} {d : List PyData}, DxAll K H v d → DxAll K H' v d
  | _, _, .nil => .nil
  | _, _, .cons a b => .cons (Dx.ext g a) (DxAll.ext g b)
theorem DxKv.ext (g : LamX.ExtN H H') : ∀ {v : List (Key × V)} {d : List (PyData × PyData)}, DxKv K H v d → DxKv K H' v d
  | _, _, .nil => .nil
  | _, _, .cons a b => .cons (Dx.ext g a) (DxKv.ext g b)
end
mutual
theorem Dp.ext (g : LamX.ExtN H H') : ∀ {v : V} {d : PyData}, Dp K H v d → Dp K H' v d
  | _, _, .non => .non
  | _, _, .bl b => .bl b
  | _, _, .int i => .int i
  | _, _, .str x => .str x
  | _, _, .lst h r => .lst (sql_ext g h) (DpAll.ext g r)
  | _, _, .tup h r => .tup (sqt_ext g h) (DpAll.ext g r)
theorem DpAll.ext (g : LamX.ExtN H H') : ∀ {v : List V} {d : List PyData}, DpAll K H v d → DpAll K H' v d
  | _, _, .nil => .nil
  | _, _, .cons a b => .cons (Dp.ext g a) (DpAll.ext g b)
end
mutual
theorem Dx.dp : ∀ {v : V} {d : PyData}, Dp K H v d → Dx K H v d
  | _, _, .non => .non
  | _, _, .bl b => .bl b
  | _, _, .int i => .int i
  | _, _, .str x => .str x
  | _, _, .lst h r => .lst h (DxAll.dp r)
  | _, _, .tup h r => .tup h (DxAll.dp r)
theorem DxAll.dp : ∀ {v : List V} {d : List PyData}, DpAll K H v d → DxAll K H v d
  | _, _, .nil => .nil
  | _, _, .cons a b => .cons (Dx.dp a) (DxAll.dp b)
end
theorem dp_go {v : V} {d : PyData} (h : Dp K H v d) (g : Go Tb H H') : Dp K H' v d := Dp.ext g.1 h
theorem dp_same {v : V} {d : PyData} (h : Dp K H v d) (g : Same H H') : Dp K H' v d := Dp.ext (.of g) h
theorem dx_go {v : V} {d : PyData} (h : Dx K H v d) (g : Go Tb H H') : Dx K H' v d := Dx.ext g.1 h
theorem ty_go {v : V} {t : Value} (h : TyX K H v t) (g : Go Tb H H') : TyX K H' v t := TyX_go g.1 h
end
theorem vals_rev : ∀ {vs : List V} {us : List Value}, Vals vs us → Vals vs.reverse us.reverse
  | _, _, .nil => .nil
  | _, _, .cons r t => by rw [List.reverse_cons, List.reverse_cons]; exact (vals_rev t).append (.cons r .nil)
end Mx

namespace Mx
open PySem PySem.Spec PyProof.Rows L2
section
variable {Tb : List (Addr × Str)} {H H0 H1 H2 H' : Hp} {p q a : Addr} {o u : HO} {xs : List V}
theorem go_set2 (h : H a = some (.lst xs)) (n : H2 a = none) (g : Go Tb H0 H2) (t : Go Tb H0 H) : Go Tb H0 (L2.upd H a o) := by
  refine ⟨fun b u h1 h2 => ?_, fun tb p hp => ?_⟩
  · have hb : b ≠ a := fun z => by
      have e := g.1 b u h1 h2
      rw [z, n] at e
      cases e
    rw [upd_ne hb]
    exact t.1 b u h1 h2
  · obtain ⟨ps, e1, e2, e3⟩ := t.2 tb p hp
    refine ⟨ps, ?_, e2, fun pos cv hc => ?_⟩
    · rw [upd_ne (fun z => by rw [z, h] at e1; cases e1)]
      exact e1
    · obtain ⟨c', rfl, e5⟩ := e3 pos cv hc
      refine ⟨c', rfl, ?_⟩
      rw [upd_ne (fun z => by rw [z, h] at e5; unfold LamX.CodeO at e5; cases e5)]
      exact e5
theorem fr_set2 (n : H2 a = none) (g : Same H0 H2) (t : Same H0 H) : Same H0 (L2.upd H a o) := fun b u h1 => by
  have hb : b ≠ a := fun z => by
    have e := g b u h1
    rw [z, n] at e
    cases e
  rw [upd_ne hb]
  exact t b u h1
theorem lk_neN (n : H2 p = none) (h2 : H2 q = some u) (h : H q = some u) : upd H p o q = some u := lk_ne (ne_of_none h2 n) h
theorem lk_neN' (n : H2 q = none) (h2 : H2 p = some (.lst xs)) (h : H q = some u) : upd H p o q = some u := lk_ne (fun z => ne_of_none h2 n z.symm) h
def NT (u : HO) : Prop := ∀ ps, u ≠ .tbl ps
theorem nt_lst {xs : List V} : NT (.lst xs) := fun ps z => by cases z
theorem nt_tup {xs : List V} : NT (.tup xs) := fun ps z => by cases z
theorem nt_dK {xs : List (Key × V)} : NT (.dK xs) := fun ps z => by cases z
theorem nt_xd {xs : List (Str × V)} : NT (.xd xs) := fun ps z => by cases z
theorem nt_ins {C dx : Addr} {xs : List (Str × V)} : NT (.ins C dx xs) := fun ps z => by cases z
def NL (u : HO) : Prop := ∀ xs, u ≠ .lst xs
theorem nl_tup {xs : List V} : NL (.tup xs) := fun ps z => by cases z
theorem nl_dK {xs : List (Key × V)} : NL (.dK xs) := fun ps z => by cases z
theorem nl_xd {xs : List (Str × V)} : NL (.xd xs) := fun ps z => by cases z
theorem nl_ins {C dx : Addr} {xs : List (Str × V)} : NL (.ins C dx xs) := fun ps z => by cases z
theorem lk_go (g : Go Tb H H') (n : NT u) (h : H q = some u) : H' q = some u := g.1 _ _ h n
theorem lk_kp_nl {c : Int} (k : Kp a H H') (st : StAt a c H) (n : NL u) (h : H q = some u) : H' q = some u := k _ _ (fun z => by obtain ⟨_, _, _, e, _⟩ := st; rw [z, e] at h; exact n _ (Option.some.inj h).symm) h
theorem en_new (hp : H p = none) (t : LamX.ExtN H0 H) : LamX.ExtN H0 (L2.upd H p o) := t.trans (.of (Same.new (Same.refl _) hp))
theorem en_same (s : Same H H') (t : LamX.ExtN H0 H) : LamX.ExtN H0 H' := t.trans (.of s)
theorem en_go (s : Go Tb H H') (t : LamX.ExtN H0 H) : LamX.ExtN H0 H' := t.trans s.1
theorem en_set2 (n : H2 a = none) (g : LamX.ExtN H0 H2) (t : LamX.ExtN H0 H) : LamX.ExtN H0 (L2.upd H a o) := fun b u h1 h2 => by
  have hb : b ≠ a := fun z => by
    have e := g b u h1 h2
    rw [z, n] at e
    cases e
  rw [upd_ne hb]
  exact t b u h1 h2
theorem en_kp (k : Kp a H H') (n : H2 a = none) (g : LamX.ExtN H0 H2) (t : LamX.ExtN H0 H) : LamX.ExtN H0 H' := fun b u h1 h2 => by
  have hb : b ≠ a := fun z => by
    have e := g b u h1 h2
    rw [z, n] at e
    cases e
  exact k b u hb (t b u h1 h2)
theorem dp_ext {K : PySem.W.Frag} {v : V} {d : PyData} (h : Dp K H v d) (g : LamX.ExtN H H') : Dp K H' v d := Dp.ext g h
theorem dx_ext {K : PySem.W.Frag} {v : V} {d : PyData} (h : Dx K H v d) (g : LamX.ExtN H H') : Dx K H' v d := Dx.ext g h
theorem ty_ext {K : PySem.W.Frag} {v : V} {t : Value} (h : TyX K H v t) (g : LamX.ExtN H H') : TyX K H' v t := TyX_go g h
/-- what is new since H0 in H1 stands in H -/
def New (H0 H1 H : Hp) : Prop := ∀ b u, H0 b = none → H1 b = some u → NT u → H b = some u
/-- data that leans on what is new alone -/
def Dn (K : PySem.W.Frag) (H0 H1 : Hp) (v : V) (d : PyData) : Prop := ∀ H, New H0 H1 H → Dp K H v d
theorem dn_use {K : PySem.W.Frag} {v : V} {d : PyData} (h : Dn K H0 H1 v d) (g : New H0 H1 H) : Dp K H v d := h H g
theorem nw_refl : New H0 H1 H1 := fun _ _ _ h _ => h
theorem nw_new (hp : H p = none) (t : New H0 H1 H) : New H0 H1 (L2.upd H p o) := fun b u h1 h2 h3 => lk_new hp (t b u h1 h2 h3)
theorem nw_same (s : Same H H') (t : New H0 H1 H) : New H0 H1 H' := fun b u h1 h2 h3 => s _ _ (t b u h1 h2 h3)
theorem nw_go (s : Go Tb H H') (t : New H0 H1 H) : New H0 H1 H' := fun b u h1 h2 h3 => s.1 _ _ (t b u h1 h2 h3) h3
theorem nw_set (h : H0 a = some (.lst xs)) (t : New H0 H1 H) : New H0 H1 (L2.upd H a o) := fun b u h1 h2 h3 => lk_ne (fun z => by rw [z, h] at h1; cases h1) (t b u h1 h2 h3)
theorem nw_set2 (n : H2 a = none) (g : New H0 H1 H2) (t : New H0 H1 H) : New H0 H1 (L2.upd H a o) := fun b u h1 h2 h3 => lk_ne (fun z => by
  have e := g b u h1 h2 h3
  rw [z, n] at e
  cases e) (t b u h1 h2 h3)
theorem nw_kp {c : Int} (k : Kp a H H') (st : StAt a c H0) (t : New H0 H1 H) : New H0 H1 H' := fun b u h1 h2 h3 => k b u (ne_st h1 st) (t b u h1 h2 h3)
theorem lsx_ext {K : PySem.W.Frag} {xs : List V} (h : LsX K H a xs) (g : LamX.ExtN H H') : LsX K H' a xs := h.imp (rd_ext g fun ps z => by cases z) id
theorem st_ne {c : Int} (n : a ≠ p) (st : StAt a c H) : StAt a c (L2.upd H p o) := let ⟨x, m, v, e, h1, h2⟩ := st; ⟨x, m, v, lk_ne n e, h1, h2⟩
theorem tabs_new (hp : H p = none) (t : LamX.Tabs Tb H) : LamX.Tabs Tb (L2.upd H p o) := t.ext (Same.new (Same.refl _) hp)
theorem tabs_same (s : Same H H') (t : LamX.Tabs Tb H) : LamX.Tabs Tb H' := t.ext s
theorem tabs_go (s : Go Tb H H') (t : LamX.Tabs Tb H) : LamX.Tabs Tb H' := s.2 t
theorem tabs_set (h : H a = some (.lst xs)) (t : LamX.Tabs Tb H) : LamX.Tabs Tb (L2.upd H a o) := by
  intro p hp
  obtain ⟨ps, e1, e2, e3⟩ := t p hp
  refine ⟨ps, ?_, e2, fun pos cv hc => ?_⟩
  · rw [upd_ne (fun z => by rw [z, h] at e1; cases e1)]
    exact e1
  · obtain ⟨c', rfl, e5⟩ := e3 pos cv hc
    refine ⟨c', rfl, ?_⟩
    rw [upd_ne (fun z => by rw [z, h] at e5; unfold LamX.CodeO at e5; cases e5)]
    exact e5
theorem tabs_kp {c : Int} (k : Kp a H H') (st : StAt a c H) (t : LamX.Tabs Tb H) : LamX.Tabs Tb H' := by
  intro p hp
  obtain ⟨u, m, v, e, _, _⟩ := st
  obtain ⟨ps, e1, e2, e3⟩ := t p hp
  refine ⟨ps, k _ _ (fun z => by rw [z, e] at e1; cases e1) e1, e2, fun pos cv h => ?_⟩
  obtain ⟨c', rfl, e5⟩ := e3 pos cv h
  exact ⟨c', rfl, k _ _ (fun z => by rw [z, e] at e5; unfold LamX.CodeO at e5; cases e5) e5⟩
end
theorem shaped_ti (x : Str) (hx : PyData.canLay0 (.str x) = true) (k : Int) : SeqAt.shaped (.tuple [.str x, .int k]) = true := by
  simp only [SeqAt.shaped, lay_t, lay_c, lay_e, lay_i, hx, PyData.depth, PyData.depthAll, Bool.and_true, Bool.true_and]
  rfl
theorem shaped_l2 {d e : PyData} (sd : SeqAt.shaped d = true) (se : SeqAt.shaped e = true) (hd : d.depth ≤ 60) (he : e.depth ≤ 60) : SeqAt.shaped (.list [d, e]) = true := by
  have a1 := SeqAt.canLay_of_shaped sd
  have a2 := SeqAt.canLay_of_shaped se
  simp only [SeqAt.shaped, lay_l, lay_c, lay_e, a1, a2, PyData.depth, PyData.depthAll, Bool.and_true, Bool.true_and]
  exact decide_eq_true (by omega)
/-- keywords of a def with one default, each of its two parameters told: the keywords in the other order -/
theorem kb_ofD {K : PySem.W.Frag} {x qual : Str} {st : Stmt} {f : Addr} {fd : FuncData} {ps ks : List Str} {dv : V} (F : FunD K x qual (defArgs st) (defBody st) (defScope st) [dv] [] f fd)
    (h : ∀ (T : Addr) (kV doc pm : Value) (an : Option Addr) (cdv ct : Value) (us ws its : List Value), us.length + ws.length = ps.length → its.length = 1 →
      ∃ k, bindArgs (PySem.W.fnOf x qual (defArgs st) (defBody st) (defScope st) (.ref T) kV doc pm an cdv ct) ⟨us, ks.zip ws⟩ = seqItems? (.ref T) >>= k ∧ k (some its.toArray) = pure (ps.zip (us ++ ws.reverse))) :
    KBinds K fd ps ks (fun us ws => us ++ ws.reverse) (fun vs zs => vs ++ zs.reverse) := by
  obtain ⟨oc, od, dV, kV, doc, pm, an, cdv, ct, osl, rfl, lk, hcd, hD, hK⟩ := F.ex
  rcases hD with ⟨e, _⟩ | ⟨_, T, o, its, m, rfl, lT, oT, rT⟩
  · exact absurd e (by simp)
  · refine ⟨fun s us ws X hl => ?_, fun a b => a.append (vals_rev b)⟩
    rw [List.length_append, List.length_reverse] at hl
    obtain ⟨k, e1, e2⟩ := h T kV doc pm an cdv ct us ws its hl rT.length.symm
    refine BindsTo.of_looks fun M => ?_
    rw [e1]
    exact looks_items X lT oT (.of_pure e2)
end Mx

namespace Gx
open PySem
open Sem (wp)

/-! ### a generator that sleeps stays as it is, whatever its consumer does -/
/-- the same to the eye, but it cannot be woken -/
def asleep : GenState → GenState
  | .suspended _ l c p fs cl => .suspended (fun _ => .unsupported "") l c p fs cl
  | x => x
def IsSusp (x : GenState) : Prop := ∃ k l c p fs cl, x = .suspended k l c p fs cl
theorem asleep_seen (x : GenState) : (asleep x).seen = x.seen := by cases x <;> rfl
theorem asleep_bare (x : GenState) : (asleep x).bare = x.bare := by cases x <;> rfl
/-- T is G, but where O says so a true sleeper stands in the place of one that cannot be woken -/
structure Hid (O : Nat → Option GenState) (G T : Array GenState) : Prop where
  size : T.size = G.size
  slept : ∀ i gs, O i = some gs → IsSusp gs ∧ T[i]? = some gs ∧ G[i]? = some (asleep gs)
  awake : ∀ i, O i = none → T[i]? = G[i]?
  whole : ∀ i k l c p fs cl, O i = none → G[i]? = some (.suspended k l c p fs cl) → splitAtGen fs = none
def EndW (e : End) : Prop := ∀ v g l k c p fs, e = .susp v g l k c p fs → splitAtGen fs = none
section
variable {O : Nat → Option GenState} {G T : Array GenState} {g : Nat} {x : GenState}
theorem Hid.lt (h : Hid O G T) {gs : GenState} (e : O g = some gs) : g < G.size := by
  obtain ⟨_, _, q⟩ := h.slept g gs e
  exact (Array.getElem?_eq_some_iff.mp q).1
theorem Hid.set (h : Hid O G T) (hg : O g = none) (hx : ∀ k l c p fs cl, x = .suspended k l c p fs cl → splitAtGen fs = none) : Hid O (G.setIfInBounds g x) (T.setIfInBounds g x) where
  size := by simp [h.size]
  slept := fun i gs e => by
    have n : g ≠ i := fun z => by rw [z, e] at hg; cases hg
    obtain ⟨a, b, c⟩ := h.slept i gs e
    exact ⟨a, by rw [Array.getElem?_setIfInBounds_ne n]; exact b, by rw [Array.getElem?_setIfInBounds_ne n]; exact c⟩
  awake := fun i e => by
    by_cases n : g = i
    · subst n
      rw [Array.getElem?_setIfInBounds, Array.getElem?_setIfInBounds, if_pos rfl, if_pos rfl, h.size]
    · rw [Array.getElem?_setIfInBounds_ne n, Array.getElem?_setIfInBounds_ne n]
      exact h.awake i e
  whole := fun i k l c p fs cl e q => by
    by_cases n : g = i
    · subst n
      rw [Array.getElem?_setIfInBounds, if_pos rfl] at q
      split at q
      · exact hx k l c p fs cl (Option.some.inj q)
      · cases q
    · rw [Array.getElem?_setIfInBounds_ne n] at q
      exact h.whole i k l c p fs cl e q
theorem Hid.push (h : Hid O G T) (hx : ¬ IsSusp x) : Hid O (G.push x) (T.push x) where
  size := by simp [h.size]
  slept := fun i gs e => by
    have n := h.lt e
    obtain ⟨a, b, c⟩ := h.slept i gs e
    exact ⟨a, by rw [Array.getElem?_push_lt (by rw [h.size]; exact n), ← b, Array.getElem?_eq_getElem], by rw [Array.getElem?_push_lt n, ← c, Array.getElem?_eq_getElem]⟩
  awake := fun i e => by
    rw [Array.getElem?_push, Array.getElem?_push, h.size, h.awake i e]
  whole := fun i k l c p fs cl e q => by
    rw [Array.getElem?_push] at q
    split at q
    · exact absurd ⟨_, _, _, _, _, _, Option.some.inj q⟩ hx
    · exact h.whole i k l c p fs cl e q
end
theorem no_run {M : Model} {Γ : Ctx} {p : Pos} {t : Sem Fin} {fs : List Frame} {s s' : Shared} {e : End} (h : Runs M Γ p t fs s e s') : ∀ w, t ≠ .unsupported w := by
  induction h <;> intro w z <;> first | (cases z; done) | skip
  all_goals first | (rename_i ih _; exact ih w z) | (rename_i ih; exact ih w z) | (rename_i ih _ _; exact ih w z)
theorem endW_ret (r : Result) : EndW (.ret r) := fun _ _ _ _ _ _ _ z => by cases z
theorem endW_state {e : End} (h : EndW e) : ∀ k l c p fs cl, e.genState = .suspended k l c p fs cl → splitAtGen fs = none := by
  intro k l c p fs cl z
  cases e with
  | ret r => cases z
  | susp v g l' k' c' p' fs' =>
    injection z with _ _ _ _ z5 _
    subst z5
    exact h _ _ _ _ _ _ _ rfl
theorem sim {M : Model} {O : Nat → Option GenState} {Γ : Ctx} {p : Pos} {t : Sem Fin} {fs : List Frame} {s s' : Shared} {e : End} (h : Runs M Γ p t fs s e s') :
    splitAtGen fs = none → ∀ T, Hid O s.gens T → ∃ T', Runs M Γ p t fs { s with gens := T } e { s' with gens := T' } ∧ Hid O s'.gens T' ∧ EndW e := by
  induction h with
  | done => exact fun _ T hT => ⟨T, .done, hT, endW_ret _⟩
  | raise => exact fun _ T hT => ⟨T, .raise, hT, endW_ret _⟩
  | again q _ ih => exact fun f T hT => let ⟨T', a, b, c⟩ := ih f T hT; ⟨T', .again q a, b, c⟩
  | rule _ ih => exact fun f T hT => let ⟨T', a, b, c⟩ := ih f T hT; ⟨T', .rule a, b, c⟩
  | «at» _ ih => exact fun f T hT => let ⟨T', a, b, c⟩ := ih f T hT; ⟨T', .at a, b, c⟩
  | load q _ ih => exact fun f T hT => let ⟨T', a, b, c⟩ := ih f T hT; ⟨T', .load q a, b, c⟩
  | update q _ ih => exact fun f T hT => let ⟨T', a, b, c⟩ := ih f T hT; ⟨T', .update q a, b, c⟩
  | loadIfAlive _ ih => exact fun f T hT => let ⟨T', a, b, c⟩ := ih f T hT; ⟨T', .loadIfAlive a, b, c⟩
  | point _ ih => exact fun f T hT => let ⟨T', a, b, c⟩ := ih f T hT; ⟨T', .point a, b, c⟩
  | alloc _ ih => exact fun f T hT => let ⟨T', a, b, c⟩ := ih f T hT; ⟨T', .alloc a, b, c⟩
  | fresh _ ih => exact fun f T hT => let ⟨T', a, b, c⟩ := ih f T hT; ⟨T', .fresh a, b, c⟩
  | ask _ ih => exact fun f T hT => let ⟨T', a, b, c⟩ := ih f T hT; ⟨T', .ask a, b, c⟩
  | choose q _ ih => exact fun f T hT => let ⟨T', a, b, c⟩ := ih f T hT; ⟨T', .choose q a, b, c⟩
  | os _ ih => exact fun f T hT => let ⟨T', a, b, c⟩ := ih f T hT; ⟨T', .os a, b, c⟩
  | handled _ ih => exact fun f T hT => let ⟨T', a, b, c⟩ := ih f T hT; ⟨T', .handled a, b, c⟩
  | @genState g st Γ p k s e s' q _ ih =>
    intro f T hT
    obtain ⟨T', a, b, c⟩ := ih f T hT
    cases o : O g with
    | none => exact ⟨T', .genState (by rw [hT.awake g o]; exact q) a, b, c⟩
    | some gs =>
      obtain ⟨_, h1, h2⟩ := hT.slept g gs o
      rw [q] at h2
      have e2 := Option.some.inj h2
      rw [e2, asleep_seen] at a
      exact ⟨T', .genState h1 a, b, c⟩
  | stack _ ih => exact fun f T hT => let ⟨T', a, b, c⟩ := ih f T hT; ⟨T', .stack a, b, c⟩
  | thread _ ih => exact fun f T hT => let ⟨T', a, b, c⟩ := ih f T hT; ⟨T', .thread a, b, c⟩
  | @newGen Γ p k s e s' c _ ih =>
    intro f T hT
    obtain ⟨T', a, b, c⟩ := ih f (T.push _) (hT.push (by rintro ⟨_, _, _, _, _, _, z⟩; cases z))
    refine ⟨T', .newGen ?_, b, c⟩
    show Runs _ _ _ (k T.size) _ _ _ _
    rw [hT.size]
    exact a
  | call _ _ ih1 ih2 =>
    intro f T hT
    obtain ⟨T1, a1, b1, _⟩ := ih1 rfl T hT
    obtain ⟨T2, a2, b2, c2⟩ := ih2 f T1 b1
    exact ⟨T2, .call a1 a2, b2, c2⟩
  | callSusp _ ih =>
    intro f T hT
    obtain ⟨T1, a1, b1, c1⟩ := ih rfl T hT
    refine ⟨T1, .callSusp a1, b1, fun _ _ _ _ _ _ fs z => ?_⟩
    injection z with _ _ _ _ _ _ z7
    rw [← z7, splitAtGen_append_none _ (c1 _ _ _ _ _ _ _ rfl)]
    rfl
  | yield => exact fun f T hT => ⟨T, .yield, hT, fun _ _ _ _ _ _ fs z => by injection z with _ _ _ _ _ _ z7; rw [← z7]; rfl⟩
  | @resumeFresh Γ p g l k s c e₁ s₁ e s' q r1 q2 r2 ih1 ih2 =>
    intro f T hT
    have o : O g = none := by
      cases o : O g with
      | none => rfl
      | some gs =>
        obtain ⟨⟨_, _, _, _, _, _, rfl⟩, _, h2⟩ := hT.slept g gs o
        rw [q] at h2
        cases h2
    obtain ⟨T1, a1, b1, c1⟩ := ih1 rfl (T.setIfInBounds g .running) (hT.set o (fun _ _ _ _ _ _ z => by cases z))
    obtain ⟨T2, a2, b2, c2⟩ := ih2 f (T1.setIfInBounds g e₁.genState) (b1.set o (endW_state c1))
    exact ⟨T2, .resumeFresh (by rw [hT.awake g o]; exact q) a1 q2 a2, b2, c2⟩
  | @resumeSuspended Γ p g r l k s k₀ l₀ c₀ p₀ fs cl e₁ s₁ e s' q r1 q2 r2 ih1 ih2 =>
    intro f T hT
    cases o : O g with
    | some gs =>
      obtain ⟨⟨_, _, _, _, _, _, rfl⟩, _, h2⟩ := hT.slept g gs o
      rw [q] at h2
      have e2 := Option.some.inj h2
      injection e2 with e3 _ _ _ _ _
      exact absurd (show k₀ r = .unsupported "" by rw [e3]) (no_run r1 _)
    | none =>
      obtain ⟨T1, a1, b1, c1⟩ := ih1 (hT.whole g _ _ _ _ _ _ o q) (T.setIfInBounds g .running) (hT.set o (fun _ _ _ _ _ _ z => by cases z))
      obtain ⟨T2, a2, b2, c2⟩ := ih2 f (T1.setIfInBounds g e₁.genState) (b1.set o (endW_state c1))
      exact ⟨T2, .resumeSuspended (by rw [hT.awake g o]; exact q) a1 q2 a2, b2, c2⟩
  | @resumeJustStarted g v Γ p k s e s' l c q n _ ih =>
    intro f T hT
    have o : O g = none := by
      cases o : O g with
      | none => rfl
      | some gs =>
        obtain ⟨⟨_, _, _, _, _, _, rfl⟩, _, h2⟩ := hT.slept g gs o
        rw [q] at h2
        cases h2
    obtain ⟨T', a, b, c⟩ := ih f T hT
    exact ⟨T', .resumeJustStarted (by rw [hT.awake g o]; exact q) n a, b, c⟩
  | @resumeThrowFresh g Γ p k e s' x l s c q _ ih =>
    intro f T hT
    have o : O g = none := by
      cases o : O g with
      | none => rfl
      | some gs =>
        obtain ⟨⟨_, _, _, _, _, _, rfl⟩, _, h2⟩ := hT.slept g gs o
        rw [q] at h2
        cases h2
    obtain ⟨T', a, b, c⟩ := ih f (T.setIfInBounds g .finished) (hT.set o (fun _ _ _ _ _ _ z => by cases z))
    exact ⟨T', .resumeThrowFresh (by rw [hT.awake g o]; exact q) a, b, c⟩
  | @resumeRunning g Γ p k s e s' r l q _ ih =>
    intro f T hT
    have o : O g = none := by
      cases o : O g with
      | none => rfl
      | some gs =>
        obtain ⟨⟨_, _, _, _, _, _, rfl⟩, _, h2⟩ := hT.slept g gs o
        rw [q] at h2
        cases h2
    obtain ⟨T', a, b, c⟩ := ih f T hT
    exact ⟨T', .resumeRunning (by rw [hT.awake g o]; exact q) a, b, c⟩
  | @resumeFinished g Γ p k s e s' r l q _ ih =>
    intro f T hT
    have o : O g = none := by
      cases o : O g with
      | none => rfl
      | some gs =>
        obtain ⟨⟨_, _, _, _, _, _, rfl⟩, _, h2⟩ := hT.slept g gs o
        rw [q] at h2
        cases h2
    obtain ⟨T', a, b, c⟩ := ih f T hT
    exact ⟨T', .resumeFinished (by rw [hT.awake g o]; exact q) a, b, c⟩
  | segRet _ _ ih1 ih2 =>
    intro f T hT
    have f2 : splitAtGen _ = none := Option.map_eq_none_iff.mp f
    obtain ⟨T1, a1, b1, _⟩ := ih1 rfl T hT
    obtain ⟨T2, a2, b2, c2⟩ := ih2 f2 T1 b1
    exact ⟨T2, .segRet a1 a2, b2, c2⟩
  | segGen _ _ _ _ => exact fun f => by cases f
  | segSuspOut q _ ih =>
    intro f T hT
    obtain ⟨T1, a1, b1, c1⟩ := ih rfl T hT
    refine ⟨T1, .segSuspOut q a1, b1, fun _ _ _ _ _ _ fs z => ?_⟩
    injection z with _ _ _ _ _ _ z7
    rw [← z7, splitAtGen_append_none _ (c1 _ _ _ _ _ _ _ rfl), q]
    rfl
  | segSuspGen q _ _ _ _ _ => exact fun f => by rw [q] at f; cases f
end Gx
namespace Gx
open PySem
open Sem (wp)
section
variable {M : Model} {O : Nat → Option GenState} {T : Array GenState}
theorem awake_of {s : Shared} {g : Nat} (hT : Hid O s.gens T) {x : GenState} (q : s.gens[g]? = some x) (hx : ¬ IsSusp x) : O g = none := by
  cases o : O g with
  | none => rfl
  | some gs =>
    obtain ⟨⟨_, _, _, _, _, _, rfl⟩, _, h2⟩ := hT.slept g gs o
    rw [q] at h2
    exact absurd ⟨_, _, _, _, _, _, Option.some.inj h2⟩ hx
open Classical in
theorem wakes_sim {Γ : Ctx} {p : Pos} {g : Nat} {r : Resume} {s s' : Shared} {res : GenResult} (h : Wakes M Γ p g r s res s') (hT : Hid O s.gens T) :
    ∃ T', Wakes M Γ p g r { s with gens := T } res { s' with gens := T' } ∧ Hid O s'.gens T' := by
  have run : Runs M Γ p (.resume g r [] fun z => if z = res then (.pure (.done .next) : Sem PySem.Fin) else .unsupported "") [] s (.ret (.ok .next)) s' :=
    (Sem.runs_resume_iff M Γ).mpr ⟨res, s', h, by rw [if_pos rfl]; exact .done⟩
  obtain ⟨T', a, b, _⟩ := sim run rfl T hT
  obtain ⟨res2, s2, h2, r2⟩ := (Sem.runs_resume_iff M Γ).mp a
  by_cases e : res2 = res
  · subst e
    rw [if_pos rfl] at r2
    cases r2
    exact ⟨T', h2, b⟩
  · rw [if_neg e] at r2
    exact absurd rfl (no_run r2 "")
theorem wp_sim {α : Type} (M : Model) (Γ : Ctx) (O : Nat → Option GenState) (t : Sem α) : ∀ (Q : α → Pos → Shared → Prop) (E : Value → Pos → Shared → Prop) (p : Pos) (s : Shared) (T : Array GenState), Hid O s.gens T → wp M Γ t Q E p s →
    wp M Γ t (fun a p' s' => ∃ s1 T', s' = { s1 with gens := T' } ∧ Hid O s1.gens T' ∧ Q a p' s1) (fun e p' s' => ∃ s1 T', s' = { s1 with gens := T' } ∧ Hid O s1.gens T' ∧ E e p' s1) p { s with gens := T } := by
  induction t with
  | pure a => intro Q E p s T hT h; exact ⟨s, T, rfl, hT, h⟩
  | raise e => intro Q E p s T hT h; exact ⟨s, T, rfl, hT, h⟩
  | unsupported _ => intro Q E p s T _ h; exact h
  | finish _ => intro Q E p s T _ h; exact h
  | rule _ k ih => intro Q E p s T hT h; exact ih () Q E p s T hT h
  | «at» p' k ih => intro Q E p s T hT h; exact ih () Q E p' s T hT h
  | load a _ k ih => intro Q E p s T hT h; obtain ⟨o, ho, h⟩ := h; exact ⟨o, ho, ih o Q E p s T hT h⟩
  | update a _ f k ih => intro Q E p s T hT h; exact ⟨h.1, ih () Q E p { s with heap := s.heap.update a f } T hT h.2⟩
  | loadIfAlive a k ih => intro Q E p s T hT h; exact ih _ Q E p s T hT h
  | point _ k ih => intro Q E p s T hT h; exact ih () Q E p s T hT h
  | register _ _ => intro Q E p s T _ h; exact h
  | alloc o k ih => intro Q E p s T hT h; exact ih s.heap.objs.size Q E p { s with heap := s.heap.push o } T hT h
  | fresh k ih => intro Q E p s T hT h; exact ih s.toks Q E p { s with toks := s.toks + 1 } T hT h
  | ask k ih => intro Q E p s T hT h; exact ih _ Q E p s T hT h
  | choose src m k ih => intro Q E p s T hT h; exact ⟨h.1, ih _ Q E p { s with drawn := s.drawn.bump src } T hT h.2⟩
  | os q _ k ih => intro Q E p s T hT h; exact ih (Os.step s.os q).2 Q E p { s with os := (Os.step s.os q).1 } T hT h
  | call c hd _ _ k ih =>
    intro Q E p s T hT h
    obtain ⟨r, s', hr, h⟩ := h
    obtain ⟨T1, a1, b1, _⟩ := sim hr rfl T hT
    exact ⟨r, _, a1, ih r Q E p s' T1 b1 h⟩
  | handled own k ih => intro Q E p s T hT h; exact ih _ Q E p s T hT h
  | genState g k ih =>
    intro Q E p s T hT h
    obtain ⟨st, hs, h⟩ := h
    cases o : O g with
    | none => exact ⟨st, by show T[g]? = _; rw [hT.awake g o]; exact hs, ih _ Q E p s T hT h⟩
    | some gs =>
      obtain ⟨_, h1, h2⟩ := hT.slept g gs o
      rw [hs] at h2
      have e2 := Option.some.inj h2
      rw [e2, asleep_seen] at h
      exact ⟨gs, h1, ih _ Q E p s T hT h⟩
  | newGen c k ih =>
    intro Q E p s T hT h
    have z := ih s.gens.size Q E p { s with gens := s.gens.push (.fresh c) } (T.push (.fresh c)) (hT.push (by rintro ⟨_, _, _, _, _, _, z⟩; cases z)) h
    show wp M Γ (k T.size) _ _ _ _
    rw [hT.size]
    exact z
  | resume g r _ k ih =>
    intro Q E p s T hT h
    obtain ⟨res, s', hw, h⟩ := h
    obtain ⟨T1, a1, b1⟩ := wakes_sim hw hT
    exact ⟨res, _, a1, ih res Q E p s' T1 b1 h⟩
  | yield _ _ _ _ => intro Q E p s T _ h; exact h
  | stack k ih => intro Q E p s T hT h; exact ih _ Q E p s T hT h
  | fork _ _ => intro Q E p s T _ h; exact h
  | thread k ih => intro Q E p s T hT h; exact ih _ Q E p s T hT h
  | await _ _ _ _ _ => intro Q E p s T _ h; exact h
end
/-- all that sleeps -/
def sleepers (T : Array GenState) : Nat → Option GenState := fun i => match T[i]? with
  | some (.suspended k l c p fs cl) => some (.suspended k l c p fs cl)
  | _ => none
theorem sleepers_some {T : Array GenState} {i : Nat} {gs : GenState} (h : sleepers T i = some gs) : IsSusp gs ∧ T[i]? = some gs := by
  unfold sleepers at h
  split at h
  · rename_i q
    have := Option.some.inj h
    subst this
    exact ⟨⟨_, _, _, _, _, _, rfl⟩, q⟩
  · cases h
theorem sleepers_of {T : Array GenState} {i : Nat} {gs : GenState} (q : T[i]? = some gs) (h : IsSusp gs) : sleepers T i = some gs := by
  obtain ⟨_, _, _, _, _, _, rfl⟩ := h
  unfold sleepers
  rw [q]
theorem hid_all (T : Array GenState) : Hid (sleepers T) (T.map asleep) T where
  size := by simp
  slept := fun i gs e => by
    obtain ⟨a, b⟩ := sleepers_some e
    exact ⟨a, b, by rw [Array.getElem?_map, b]; rfl⟩
  awake := fun i e => by
    rw [Array.getElem?_map]
    cases q : T[i]? with
    | none => rfl
    | some x =>
      cases x with
      | suspended => rw [sleepers_of q ⟨_, _, _, _, _, _, rfl⟩] at e; cases e
      | _ => rfl
  whole := fun i k l c p fs cl e q => by
    rw [Array.getElem?_map] at q
    cases q1 : T[i]? with
    | none => rw [q1] at q; cases q
    | some x =>
      rw [q1] at q
      cases x with
      | suspended => rw [sleepers_of q1 ⟨_, _, _, _, _, _, rfl⟩] at e; cases e
      | _ => cases q
/-- what a run leaves of those who slept through it -/
structure Woke (G G1 T1 : Array GenState) (T : Array GenState) : Prop where
  kept : ∀ (g : Nat) (x : GenState), T[g]? = some x → IsSusp x → T1[g]? = some x
  bare : PyProof.Rows.AllBare T → PyProof.Rows.AllBare G1 → PyProof.Rows.AllBare T1
theorem woke_of {G1 T1 T : Array GenState} (h : Hid (sleepers T) G1 T1) : Woke (T.map asleep) G1 T1 T where
  kept := fun g x q hx => (h.slept g x (sleepers_of q hx)).2.1
  bare := fun bT bG y hy => by
    obtain ⟨i, hi, e⟩ := Array.mem_iff_getElem.mp hy
    have q : T1[i]? = some y := by rw [Array.getElem?_eq_getElem hi, e]
    cases o : sleepers T i with
    | some gs =>
      obtain ⟨_, h1, _⟩ := h.slept i gs o
      rw [q] at h1
      rw [Option.some.inj h1]
      exact bT gs (Array.mem_of_getElem? (sleepers_some o).2)
    | none =>
      rw [h.awake i o] at q
      exact bG y (Array.mem_of_getElem? q)
theorem bare_asleep {T : Array GenState} (h : PyProof.Rows.AllBare T) : PyProof.Rows.AllBare (T.map asleep) := fun y hy => by
  obtain ⟨x, hx, rfl⟩ := Array.mem_map.mp hy
  rw [asleep_bare]
  exact h x hx
/-- THE RULE: what is shown where none of the sleepers can be woken holds as it is, and they sleep on -/
theorem wpAny_hidden {α : Type} {M : Model} {A : Around} {m : Sem α} {Q : α → Shared → Prop} {E : Value → Shared → Prop} {s : Shared} (h : wpAny M A m Q E { s with gens := s.gens.map asleep }) :
    wpAny M A m (fun a s' => ∃ s1 T1, s' = { s1 with gens := T1 } ∧ Woke (s.gens.map asleep) s1.gens T1 s.gens ∧ Q a s1) (fun e s' => ∃ s1 T1, s' = { s1 with gens := T1 } ∧ Woke (s.gens.map asleep) s1.gens T1 s.gens ∧ E e s1) s := fun Γ p hΓ => by
  have z := wp_sim M Γ (sleepers s.gens) m _ _ p _ s.gens (hid_all s.gens) (h Γ p hΓ)
  refine Sem.wp_mono M Γ m (fun a p' s' ⟨s1, T1, e, b, q⟩ => ⟨s1, T1, e, woke_of b, q⟩) (fun a p' s' ⟨s1, T1, e, b, q⟩ => ⟨s1, T1, e, woke_of b, q⟩) p s z
end Gx

namespace Gx
open PySem PySem.Spec PyProof.Rows L2 GenW

/-! ### a stretch of a generator's run: from its waking to where it sleeps or ends -/
def Sg (M : Model) (A : Around) (c : Code) (t : Sem PySem.Fin) (fs : List Frame) (s : Shared) (Φ : End → Shared → Prop) : Prop :=
  ∀ Γ p, Γ.code = c → Γ.Woken A → ∃ e s', Runs M Γ p t fs s e s' ∧ e.quiet = true ∧ Φ e s'
section
variable {M : Model} {A : Around} {c : Code} {fs : List Frame} {s : Shared} {Φ : End → Shared → Prop} {α : Type}
theorem sg_wrap {m : Sem α} {K : α → Sem PySem.Fin} {J : Value → Sem PySem.Fin} {gd : Bool → Bool} {lv : List Value → List Value}
    (h : wpAny M (A.over c fs) m (fun a s' => Sg M A c (K a) fs s' Φ) (fun x s' => Sg M A c (J x) fs s' Φ) s) : Sg M A c (m.wrap K J gd lv) fs s Φ := by
  intro Γ p hc hΓ
  subst hc
  obtain ⟨e, s', hr, hq, hf⟩ := runs_wrap_of_wp (Φ := fun e s' => e.quiet = true ∧ Φ e s') K J gd lv m (h (Γ.over fs) p (hΓ.over fs)) (fun a p' s' h' => h' Γ p' rfl hΓ) fun x p' s' h' => h' Γ p' rfl hΓ
  exact ⟨e, s', hr, hq, hf⟩
theorem sg_at {q : Pos} {k : Unit → Sem PySem.Fin} (h : Sg M A c (k ()) fs s Φ) : Sg M A c (.at q k) fs s Φ :=
  sg_wrap (m := standAt q) (K := k) (J := .raise) (gd := id) (lv := id) (wpAny_standAt h)
theorem sg_point {l : List Value} {k : Unit → Sem PySem.Fin} (h : Sg M A c (k ()) fs s Φ) : Sg M A c (.point l k) fs s Φ :=
  sg_wrap (m := point) (K := k) (J := .raise) (gd := id) (lv := fun _ => l) (wpAny_point h)
theorem sg_call {c' : Code} {h : Option Value} {g : Bool} {l : List Value} {k : Result → Sem PySem.Fin} (hc : ∀ p, Sg M A c' (M.den c') (.ret k h g l c p [] :: fs) s Φ) : Sg M A c (.call c' h g l k) fs s Φ := by
  intro Γ p e hΓ
  subst e
  obtain ⟨e, s', hr, hq⟩ := hc p (Γ.goto c') p rfl (hΓ.goto c')
  exact ⟨e, s', runs_call_seg hr, hq⟩
theorem sg_leaf {k : Result → Sem PySem.Fin} {h : Option Value} {g : Bool} {l kp : List Value} {c₁ : Code} {p₁ : Pos} (r : Result) (hk : Sg M A c₁ (k r) fs s Φ) : Sg M A c (leafOf r) (.ret k h g l c₁ p₁ kp :: fs) s Φ := by
  intro Γ p e hΓ
  subst e
  obtain ⟨e, s', hr, hq⟩ := hk (Γ.goto c₁) p₁ rfl (hΓ.goto c₁)
  exact ⟨e, s', Runs.pop r hr, hq⟩
theorem sg_again {c' : Code} (q : c'.quiet = true) (hc : Sg M A c' (M.den c') fs s Φ) : Sg M A c (.pure (.again c')) fs s Φ := by
  intro Γ p e hΓ
  subst e
  obtain ⟨e, s', hr, hq⟩ := hc (Γ.goto c') p rfl (hΓ.goto c')
  exact ⟨e, s', Runs.head (c₁ := c') (fun _ _ x => .again q x) hr, hq⟩
theorem sg_end (r : Result) (h : Φ (.ret r) s) : Sg M A c (leafOf r) [] s Φ := fun Γ p e hΓ => ⟨.ret r, s, Runs.leaf r, rfl, h⟩
theorem sg_yield {v : Value} {l : List Value} {k : Resume → Sem PySem.Fin} (hfs : splitAtGen fs = none) (hg : fs.any Frame.guarded = false) (h : ∀ p, Φ (.susp v false l k c p fs) s) : Sg M A c (.yield v false l k) fs s Φ := by
  intro Γ p e hΓ
  subst e
  exact ⟨_, s, Runs.yield' fs hfs, by simp [End.quiet, hg], h p⟩
end
/-! ### who runs, what is promised -/
/-- a generator that was made: its def, its caller's place, where its names stand, what stays of its own object -/
structure GX where
  P : Program
  w : World
  K : PySem.W.Frag
  mg : Str → Option Value
  base : Heap
  N : List Str
  qual : Str
  scope : Scope
  f : Addr
  cd : Value
  A : Around
  outer : List Env
  L : Addr
  pn : List (Addr × Obj)
def GX.env (C : GX) : Env := envOfC C.qual C.scope C.L C.f C.cd
/-- xp: what its consumer pins while it runs -/
def GX.X (C : GX) (xp : List (Addr × Obj)) (s0 : Shared) (H0 : Hp) (E : XK) : Cx where
  prog := C.P
  w := C.w
  K := C.K
  mg := C.mg
  base := C.base
  A := C.A.deeper C.env
  N := C.N
  s_0 := s0
  H_0 := H0
  env := C.env
  outer := C.outer
  stack := C.env :: C.outer
  ex := []
  fn := fun _ => true
  calm := true
  pn := C.pn ++ xp
  xe := fun e s' => wpAny (model C.P C.w) (C.A.deeper C.env) (leaving C.env e) (fun _ s'' => CX C.P C.w C.outer H0 s0 E e s'' ∧ ∀ p ∈ C.pn ++ xp, s''.heap.get? p.1 = some p.2) (fun _ _ => False) s'
theorem takes_g {C : GX} {xp : List (Addr × Obj)} {s0 : Shared} {H0 : Hp} {E : XK} : Takes (C.X xp s0 H0 E) (fun cls d _ H' => E cls d H') := fun u s' x =>
  XE.leaveG (W := fun cls d _ H' => E cls d H') (E := E) rfl rfl rfl (fun _ _ _ _ h => h) x
theorem owns_g {C : GX} {xp : List (Addr × Obj)} {s0 : Shared} {H0 : Hp} {E : XK} : PassesOwn (model C.P C.w) (C.X xp s0 H0 E).A (C.X xp s0 H0 E).env (C.X xp s0 H0 E).xe :=
  passes_of (X := C.X xp s0 H0 E) (K := fun e s'' => CX C.P C.w C.outer H0 s0 E e s'' ∧ ∀ p ∈ C.pn ++ xp, s''.heap.get? p.1 = some p.2) (E₁ := fun _ _ => False) rfl
/-- what is wanted of a stretch: of an item, of the end, of an exception -/
structure Wish (τ : Type) where
  yd : V → τ → Hp → Prop
  dn : Hp → Prop
  ex : XK
/-- a generator's promise: where it stands (τ), what it will meet from there, what must be kept while it sleeps -/
structure GSpec where
  τ : Type
  W : τ → Hp → Wish τ → Prop
  Fr : τ → Hp → Hp → Prop
abbrev AslT (τ : Type) := τ → (Resume → Sem PySem.Fin) → Code → List Frame → List (Addr × Obj) → Hp → Prop
/-- the end of a stretch -/
def Phi (C : GX) (τ : Type) (go : AslT τ) (xp : List (Addr × Obj)) (s0 : Shared) (H0 : Hp) (Q : Wish τ) (e : End) (s1 : Shared) : Prop :=
  match e with
  | .ret (.ok fl) => (fl = .ret .none ∨ fl = .next) ∧ ∃ H', s1.os = s0.os ∧ AllBare s1.gens ∧ Un (frs C.outer) [] H0 H' s0.heap s1.heap ∧ HOk C.P C.w H' s1.heap ∧ (∀ p ∈ C.pn ++ xp, s1.heap.get? p.1 = some p.2 ∧ H' p.1 = none) ∧ Q.dn H'
  | .ret (.error x) => CX C.P C.w C.outer H0 s0 Q.ex x s1 ∧ ∀ p ∈ C.pn ++ xp, s1.heap.get? p.1 = some p.2
  | .susp v _ _ k c _ fs => ∃ x t H' pl, RelV x v ∧ s1.os = s0.os ∧ AllBare s1.gens ∧ Un (frs C.outer) [] H0 H' s0.heap s1.heap ∧ HOk C.P C.w H' s1.heap ∧ (∀ p ∈ C.pn ++ xp ++ pl, s1.heap.get? p.1 = some p.2 ∧ H' p.1 = none) ∧
      (∀ p ∈ pl, C.L ≤ p.1 ∧ (∀ v, p.2.data ≠ .cell v) ∧ ∀ q ∈ xp, p.1 ≠ q.1) ∧ Q.yd x t H' ∧ go t k c fs pl H'
/-- how it is woken -/
structure Wk (C : GX) (pl xp : List (Addr × Obj)) (s : Shared) (H : Hp) (s0 : Shared) : Prop where
  os : s.os = s0.os
  bare : AllBare s.gens
  sz : s0.heap.objs.size ≤ C.L
  bsz : C.base.objs.size ≤ s0.heap.objs.size
  sub : ∀ b o, s0.heap.get? b = some o → s.heap.get? b = some o
  bs : ∀ b o, C.base.get? b = some o → s0.heap.get? b = some o ∧ H b = none
  funs : s0.heap.FunFrames C.base C.outer
  frf : ∀ b ∈ frs C.outer, H b = none
  xok : ∀ p ∈ xp, p.1 ≠ C.L ∧ p.1 ∉ frs C.outer ∧ ∀ v, p.2.data ≠ .cell v
  dis : ∀ p ∈ pl, ∀ q ∈ xp, p.1 ≠ q.1
  pins : ∀ p ∈ C.pn ++ xp ++ pl, s.heap.get? p.1 = some p.2 ∧ H p.1 = none
  hok : HOk C.P C.w H s.heap
def Asl (C : GX) (S : GSpec) : Nat → AslT S.τ
  | 0 => fun _ _ _ _ _ _ => True
  | n + 1 => fun t k c fs pl H => ∀ (xp : List (Addr × Obj)) (s s0 : Shared) (H2 : Hp) (Q : Wish S.τ), Wk C pl xp s H2 s0 → S.Fr t H H2 → S.W t H2 Q → Sg (model C.P C.w) C.A c (k (.send .none)) fs s (Phi C S.τ (Asl C S n) xp s0 H2 Q)
/-! ### statements of a generator -/
structure GE (τ : Type) where
  nx : L2.St → Hp → Wish τ → Prop
  rt : V → Hp → Wish τ → Prop
  bk : L2.St → Hp → Wish τ → Prop := fun _ _ _ => False
  ct : L2.St → Hp → Wish τ → Prop := fun _ _ _ => False
abbrev TG2 (τ : Type) := GE τ → L2.St → Hp → Wish τ → Prop
def GE.at {τ : Type} (D : GE τ) (Q : Wish τ) : Ends := { nx := fun σ H => D.nx σ H Q, rt := fun v H => D.rt v H Q, bk := fun σ H => D.bk σ H Q, ct := fun σ H => D.ct σ H Q }
/-- the generator's own iterators -/
def IpOk (C : GX) (ip xp : List (Addr × Obj)) : Prop := ∀ p ∈ ip, C.L ≤ p.1 ∧ ∀ q ∈ xp, p.1 ≠ q.1
structure GCo (C : GX) (c : Code) (fs : List Frame) (gd : Bool → Bool) : Prop where
  over : C.A.over c fs = C.A.deeper C.env
  split : splitAtGen fs = none
  guard : fs.any Frame.guarded = false
  gd : gd false = false
structure GK2 (C : GX) (S : GSpec) (ip : List (Addr × Obj)) (c : Code) (fs : List Frame) (K : Flow → Sem PySem.Fin) (J : Value → Sem PySem.Fin) (D : GE S.τ) : Prop where
  ok : ∀ (n : Nat) (xp : List (Addr × Obj)) (s0 : Shared) (H0 : Hp) (Q : Wish S.τ) (s : Shared) (f : Flow), IpOk C ip xp → SP (C.X xp s0 H0 Q.ex) ip (D.at Q) f s → Sg (model C.P C.w) C.A c (K f) fs s (Phi C S.τ (Asl C S n) xp s0 H0 Q)
  exc : ∀ (n : Nat) (xp : List (Addr × Obj)) (s0 : Shared) (H0 : Hp) (Q : Wish S.τ) (e : Value) (s : Shared), (C.X xp s0 H0 Q.ex).xe e s → Sg (model C.P C.w) C.A c (J e) fs s (Phi C S.τ (Asl C S n) xp s0 H0 Q)
structure GSt (C : GX) (S : GSpec) (st : Stmt) (t : TG2 S.τ) : Prop where
  run : ∀ (n : Nat) (ip xp : List (Addr × Obj)) (s0 : Shared) (H0 : Hp) (Q : Wish S.τ) (c : Code) (fs : List Frame) (K : Flow → Sem PySem.Fin) (J : Value → Sem PySem.Fin) (gd : Bool → Bool) (lv : List Value → List Value) (s : Shared) (σ : L2.St) (H : Hp) (D : GE S.τ),
    GCo C c fs gd → IpOk C ip xp → GK2 C S ip c fs K J D → Inv (C.X xp s0 H0 Q.ex) ip σ H s → t D σ H Q → Sg (model C.P C.w) C.A c ((exec st C.env).wrap K J gd lv) fs s (Phi C S.τ (Asl C S n) xp s0 H0 Q)
structure GSts (C : GX) (S : GSpec) (st : List Stmt) (t : TG2 S.τ) : Prop where
  run : ∀ (n : Nat) (ip xp : List (Addr × Obj)) (s0 : Shared) (H0 : Hp) (Q : Wish S.τ) (c : Code) (fs : List Frame) (K : Flow → Sem PySem.Fin) (J : Value → Sem PySem.Fin) (gd : Bool → Bool) (lv : List Value → List Value) (s : Shared) (σ : L2.St) (H : Hp) (D : GE S.τ),
    GCo C c fs gd → IpOk C ip xp → GK2 C S ip c fs K J D → Inv (C.X xp s0 H0 Q.ex) ip σ H s → t D σ H Q → Sg (model C.P C.w) C.A c ((execs st C.env).wrap K J gd lv) fs s (Phi C S.τ (Asl C S n) xp s0 H0 Q)
section
variable {C : GX} {S : GSpec} {st : Stmt} {rest : List Stmt}
/-- a statement that hands out nothing -/
def tPl {τ : Type} (t : XK → TS) : TG2 τ := fun D σ H Q => t Q.ex (D.at Q) σ H
theorem g_ps {t : XK → TS} (h : ∀ (xp : List (Addr × Obj)) (s0 : Shared) (H0 : Hp) (E : XK), PS (C.X xp s0 H0 E) st (t E)) : GSt C S st (tPl t) := by
  refine ⟨fun n ip xp s0 H0 Q c fs K J gd lv s σ H D g hi k I ht => sg_wrap ?_⟩
  rw [g.over]
  exact wpAny_mono ((h xp s0 H0 Q.ex).run ip s σ H (D.at Q) I ht) (fun f s' hs => k.ok n xp s0 H0 Q s' f hi hs) fun x s' hx => k.exc n xp s0 H0 Q x s' hx
theorem g_pss {t : XK → TS} (h : ∀ (xp : List (Addr × Obj)) (s0 : Shared) (H0 : Hp) (E : XK), PSs (C.X xp s0 H0 E) rest (t E)) : GSts C S rest (tPl t) := by
  refine ⟨fun n ip xp s0 H0 Q c fs K J gd lv s σ H D g hi k I ht => sg_wrap ?_⟩
  rw [g.over]
  exact wpAny_mono ((h xp s0 H0 Q.ex).run ip s σ H (D.at Q) I ht) (fun f s' hs => k.ok n xp s0 H0 Q s' f hi hs) fun x s' hx => k.exc n xp s0 H0 Q x s' hx
def tNil2 {τ : Type} : TG2 τ := fun D σ H Q => D.nx σ H Q
theorem g_nil : GSts C S [] tNil2 := ⟨fun n ip xp s0 H0 Q c fs K J gd lv s σ H D g hi k I ht => k.ok n xp s0 H0 Q s .next hi ⟨σ, H, I, ht⟩⟩
def tThen {τ : Type} (t u : TG2 τ) : TG2 τ := fun D σ H Q => t { D with nx := fun σ' H' Q' => u D σ' H' Q' } σ H Q
theorem g_cons {t u : TG2 S.τ} (a : GSt C S st t) (b : GSts C S rest u) : GSts C S (st :: rest) (tThen t u) := by
  refine ⟨fun n ip xp s0 H0 Q c fs K J gd lv s σ H D g hi k I ht => ?_⟩
  rw [execs_cons_wrap]
  refine a.run n ip xp s0 H0 Q c fs _ J gd lv s σ H { D with nx := fun σ' H' Q' => u D σ' H' Q' } g hi ⟨fun n' xp' s0' H0' Q' s' f hi' hs => ?_, k.exc⟩ I ht
  cases f with
  | next =>
    obtain ⟨σ', H', I', q⟩ := hs
    exact b.run n' ip xp' s0' H0' Q' c fs K J gd lv s' σ' H' D g hi' k I' q
  | brk => exact k.ok n' xp' s0' H0' Q' s' .brk hi' hs
  | cont => exact k.ok n' xp' s0' H0' Q' s' .cont hi' hs
  | ret u => exact k.ok n' xp' s0' H0' Q' s' (.ret u) hi' hs
/-- if with an item within -/
def tIf2 {τ : Type} (tc : XK → TT) (t u : TG2 τ) : TG2 τ := fun D σ H Q => tc Q.ex σ H fun b H1 => if b = true then t D σ H1 Q else u D σ H1 Q
theorem g_if {c : Expr} {a b : List Stmt} {pos : Pos} {tc : XK → TT} {t u : TG2 S.τ} (hc : ∀ (xp : List (Addr × Obj)) (s0 : Shared) (H0 : Hp) (E : XK), PT (C.X xp s0 H0 E) c (tc E)) (ha : GSts C S a t) (hb : GSts C S b u) : GSt C S (.If c a b pos) (tIf2 tc t u) := by
  refine ⟨fun n ip xp s0 H0 Q cc fs K J gd lv s σ H D g hi k I ht => ?_⟩
  rw [exec_If]
  show Sg _ _ _ (.at pos fun _ => ((isTrue c C.env (eval c C.env)) >>= fun d => if d = true then execs a C.env else execs b C.env).wrap K J gd lv) _ _ _
  refine sg_at ?_
  rw [Sem.bind_eq_wrap', Sem.wrap_wrap]
  refine sg_wrap ?_
  rw [g.over]
  refine wpAny_mono ((hc xp s0 H0 Q.ex).run ip s σ H _ I ht) (fun d s' ⟨H1, I1, q1⟩ => ?_) fun x s' hx => k.exc n xp s0 H0 Q x s' hx
  cases d with
  | true => exact ha.run n ip xp s0 H0 Q cc fs K J gd lv s' σ H1 D g hi k I1 q1
  | false => exact hb.run n ip xp s0 H0 Q cc fs K J gd lv s' σ H1 D g hi k I1 q1
/-! ### it sleeps and is woken -/
theorem rebase {ip xp xp2 : List (Addr × Obj)} {s0 s02 s s2 : Shared} {H0 H H2 : Hp} {E E2 : XK} {σ : L2.St} {lo : Obj} (nc : C.env.cells = []) (I : Inv (C.X xp s0 H0 E) ip σ H s) (hlo : s.heap.get? C.L = some lo) (wk : Wk C ((C.L, lo) :: ip) xp2 s2 H2 s02) : Inv (C.X xp2 s02 H2 E2) ip σ H2 s2 := by
  have no : ∀ {x : Str} {c : Addr}, C.env.cells.lookup x = some c → False := fun {x c} h => by rw [nc] at h; cases h
  have hp := wk.pins (C.L, lo) (List.mem_append_right _ List.mem_cons_self)
  refine ⟨⟨I.ok.mod, I.ok.kind, I.ok.glob, I.ok.blt, wk.sz, I.ok.inj, I.ok.has, fun x c _ h => (no h).elim, I.ok.hd, I.ok.frames, I.ok.stk, fun b z => absurd (show b ∈ ([] : List Addr) from z) (by simp), wk.bs, wk.bsz, fun b o _ z => absurd (show b ∈ ([] : List Addr) from z) (by simp),
      fun b z => absurd (show b ∈ ([] : List Addr) from z) (by simp), wk.funs, wk.frf⟩,
    wk.os, wk.bare, ⟨fun b o e _ _ _ => wk.sub b o e, fun b o e _ _ _ => ⟨o.slots, wk.sub b o e⟩, fun _ _ _ n _ => n, fun b o e _ => ⟨o, wk.sub b o e⟩, fun _ _ q => q, fun _ _ _ q => q, fun b ps q => ⟨#[], by rw [Array.append_empty]; exact q⟩⟩,
    ?_, fun x c h => (no h).elim, hp.2, fun x c h => (no h).elim, fun p hm => ?_, wk.hok, I.len⟩
  · obtain ⟨m, ⟨o, es, ep, ho, r⟩, hl⟩ := I.loc
    have e : o = lo := by
      have ho' : s.heap.get? C.L = some o := ho
      rw [hlo] at ho'
      exact (Option.some.inj ho').symm
    subst e
    refine ⟨m, ⟨o, es, ep, hp.1, r⟩, fun i x v h1 h2 h3 => ?_⟩
    obtain ⟨u, ru, l⟩ := hl i x v h1 h2 h3
    refine ⟨u, ru, ?_⟩
    rcases l with l | ⟨_, c, hc, _⟩
    · exact .inl l
    · exact (no hc).elim
  · rcases List.mem_append.mp hm with z | z
    · rcases List.mem_append.mp z with y | y
      · obtain ⟨_, _, a3, a4, a5⟩ := I.pin p (List.mem_append_left _ (List.mem_append_left _ y))
        have q := wk.pins p (List.mem_append_left _ (List.mem_append_left _ y))
        exact ⟨q.1, q.2, a3, a4, a5⟩
      · have q := wk.pins p (List.mem_append_left _ (List.mem_append_right _ y))
        obtain ⟨a3, a4, a5⟩ := wk.xok p y
        exact ⟨q.1, q.2, a3, a4, a5⟩
    · obtain ⟨_, _, a3, a4, a5⟩ := I.pin p (List.mem_append_right _ z)
      have q := wk.pins p (List.mem_append_right _ (List.mem_cons_of_mem _ z))
      exact ⟨q.1, q.2, a3, a4, a5⟩
def tYd (S : GSpec) (te : XK → TE) : TG2 S.τ := fun D σ H Q => te Q.ex σ H fun x H1 => ∃ t, Q.yd x t H1 ∧ ∀ H2 Q2, S.Fr t H1 H2 → S.W t H2 Q2 → D.nx σ H2 Q2
theorem g_yield {e : Expr} {yp pos : Pos} {te : XK → TE} (nc : C.env.cells = []) (he : ∀ (xp : List (Addr × Obj)) (s0 : Shared) (H0 : Hp) (E : XK), PE (C.X xp s0 H0 E) e (te E)) (hco : C.scope.isCoroutine = false) (hin : interactive C.env = false := by rfl) : GSt C S (.Expr (.Yield (some e) yp) pos) (tYd S te) := by
  refine ⟨fun n ip xp s0 H0 Q c fs K J gd lv s σ H D g hi k I ht => ?_⟩
  rw [exec_Expr C.env _ pos hin rfl]
  show Sg _ _ _ (.at pos fun _ => ((eval e C.env >>= fun v => (standAt yp >>= fun _ => yieldOut C.env v)) >>= fun x => dropValue (.Yield (some e) yp) pos x).wrap K J gd lv) _ _ _
  have hy : ∀ v, yieldOut C.env v = yieldValue v := fun v => by
    have e2 : C.env.scope.isCoroutine = false := hco
    simp only [yieldOut, e2, Bool.false_eq_true, if_false]
  simp only [hy]
  refine sg_at ?_
  rw [Sem.bind_eq_wrap', Sem.bind_eq_wrap', Sem.wrap_wrap, Sem.wrap_wrap]
  refine sg_wrap ?_
  rw [g.over]
  refine wpAny_mono ((he xp s0 H0 Q.ex).run ip s σ H _ I ht) (fun v s' hv => ?_) fun x s' hx => k.exc n xp s0 H0 Q x s' hx
  obtain ⟨x, H1, I1, rv, t, hyd, hnx⟩ := hv
  obtain ⟨m, hn, _⟩ := I1.loc
  obtain ⟨lo, es, ep, hlo, hdat, _⟩ := id hn
  have hlo' : s'.heap.get? C.L = some lo := hlo
  refine sg_at ?_
  show Sg _ _ _ (.yield v (gd false) (lv []) _) _ _ _
  rw [g.gd]
  refine sg_yield g.split g.guard fun p => ?_
  refine ⟨x, t, H1, (C.L, lo) :: ip, rv, I1.os, I1.bare, I1.base, I1.hok, fun p hp => ?_, fun p hp => ?_, hyd, ?_⟩
  · rcases List.mem_append.mp hp with z | z
    · have q := I1.pin p (List.mem_append_left _ z)
      exact ⟨q.1, q.2.1⟩
    · rcases List.mem_cons.mp z with z | z
      · rw [z]
        exact ⟨hlo', I1.free⟩
      · have q := I1.pin p (List.mem_append_right _ z)
        exact ⟨q.1, q.2.1⟩
  · rcases List.mem_cons.mp hp with z | z
    · rw [z]
      exact ⟨Nat.le_refl _, (fun v q => by rw [hdat] at q; cases q), fun q hq e => (I1.pin q (List.mem_append_left _ (List.mem_append_right _ hq))).2.2.1 e.symm⟩
    · exact ⟨(hi p z).1, (I1.pin p (List.mem_append_right _ z)).2.2.2.2, (hi p z).2⟩
  · cases n with
    | zero => trivial
    | succ n =>
      intro xp2 s2 s02 H2 Q2 wk fr hw
      exact k.ok n xp2 s02 H2 Q2 s2 .next (fun p hp => ⟨(hi p hp).1, wk.dis p (List.mem_cons_of_mem _ hp)⟩) ⟨σ, H2, rebase nc I1 hlo' wk, hnx H2 Q2 fr hw⟩
/-! ### while -/
def tWh2 {τ : Type} (c : XK → TT) (tb : TG2 τ) : TG2 τ := fun D σ H Q => ∃ W : Nat → L2.St → Hp → Wish τ → Prop, (∃ m, W m σ H Q) ∧ ∀ m σ H Q, W m σ H Q →
  c Q.ex σ H fun b H1 => if b = true then ∃ N : L2.St → Hp → Wish τ → Prop, (∀ σ' H' Q', N σ' H' Q' → ∃ m', m' < m ∧ W m' σ' H' Q') ∧ tb { D with nx := N, ct := N, bk := D.nx } σ H1 Q else D.nx σ H1 Q
/-- the loop's code over the frame it came from -/
theorem gco_loop {c c' : Code} {fs : List Frame} {gd : Bool → Bool} {k : Result → Sem PySem.Fin} {l kp : List Value} {p : Pos} (g : GCo C c fs gd) (hw : c'.weight = 0) (hu : c'.cUnits = 0) : GCo C c' (.ret k none (gd false) l c p kp :: fs) id where
  over := (over_loop hw hu).trans g.over
  split := by
    show (splitAtGen fs).map _ = none
    rw [g.split]
    rfl
  guard := by
    show (gd false || fs.any Frame.guarded) = false
    rw [g.gd, g.guard]
    rfl
  gd := rfl
theorem sg_While {M : Model} {A : Around} {Φ : End → Shared → Prop} {c : Code} {fs : List Frame} {s : Shared} {K : Flow → Sem PySem.Fin} {J : Value → Sem PySem.Fin} {gd : Bool → Bool} {lv : List Value → List Value} {env : Env} {test : Expr} {body : List Stmt} {pos : Pos}
    (h : ∀ p, Sg M A (.whileLoop test body [] env) (M.den (.whileLoop test body [] env)) (.ret (fun r => ((match r with | .ok f => (.pure f : Sem Flow) | .error e => .raise e).onRaise (cameBack env)).wrap K J gd lv) none (gd false) (lv []) c p [] :: fs) s Φ) :
    Sg M A c ((exec (.While test body [] pos) env).wrap K J gd lv) fs s Φ := sg_at (sg_call h)
/-- behind a turn -/
def afterTurn (test : Expr) (body : List Stmt) (env : Env) : Flow → Sem PySem.Fin := fun f => match f with
  | .next | .cont => .pure (.again (.whileLoop test body [] env))
  | .brk => .pure (.done .next)
  | .ret v => .pure (.done (.ret v))
def turnLeft (env : Env) : Value → Sem PySem.Fin := fun x => (do noteFrame x env; theTreesLotGoes x : Sem Unit).wrap (fun _ => .raise x) .raise id id
theorem sg_whileLoop {P : Program} {w : World} {A : Around} {Φ : End → Shared → Prop} {fs : List Frame} {s : Shared} {env : Env} {test : Expr} {body : List Stmt}
    (h : wpAny (model P w) (A.over (.whileLoop test body [] env) fs) (isTrue test env (eval test env)) (fun b s' =>
        if b = true then Sg (model P w) A (.whileLoop test body [] env) ((execs body env).wrap (afterTurn test body env) (turnLeft env) id id) fs s' Φ
        else Sg (model P w) A (.whileLoop test body [] env) (.pure (.done .next)) fs s' Φ)
      (fun x s' => Sg (model P w) A (.whileLoop test body [] env) (turnLeft env x) fs s' Φ) s) :
    Sg (model P w) A (.whileLoop test body [] env) ((model P w).den (.whileLoop test body [] env)) fs s Φ := by
  show Sg _ A _ ((whileTurn test body [] env).onRaise (fun x => do noteFrame x env; theTreesLotGoes x)) fs s Φ
  unfold whileTurn
  rw [Sem.onRaise_eq_wrap, Sem.bind_eq_wrap', Sem.wrap_wrap]
  have lf : ∀ x, ((do noteFrame x env; theTreesLotGoes x : Sem Unit).bind fun _ => (.raise x : Sem PySem.Fin)) = turnLeft env x := fun x => Sem.bind_eq_wrap _ _
  refine sg_wrap (wpAny_mono h (fun b s' hb => ?_) fun x s' hx => ?_)
  · cases b with
    | true =>
      rw [if_pos rfl] at hb
      show Sg _ A _ (Sem.wrap _ _ _ _ (if true = true then _ else _)) fs s' Φ
      rw [if_pos rfl, Sem.bind_eq_wrap', Sem.wrap_wrap]
      rw [Sem.wrap_congr (execs body env) _ _ (K' := afterTurn test body env) (H' := turnLeft env) (fun f => by cases f <;> rfl) (fun e => by first | exact lf e | (show ((do noteFrame e env; theTreesLotGoes e : Sem Unit).bind fun _ => (.raise e : Sem PySem.Fin)) = _; exact lf e))]
      exact hb
    | false =>
      rw [if_neg Bool.false_ne_true] at hb
      exact hb
  · rw [← lf] at hx
    exact hx
theorem g_while {test : Expr} {body : List Stmt} {pos : Pos} {tc : XK → TT} {tb : TG2 S.τ} (hc : ∀ (xp : List (Addr × Obj)) (s0 : Shared) (H0 : Hp) (E : XK), PT (C.X xp s0 H0 E) test (tc E)) (hb : GSts C S body tb) : GSt C S (.While test body [] pos) (tWh2 tc tb) := by
  refine ⟨fun n ip xp s0 H0 Q c fs K J gd lv s σ H D g hi k I ht => ?_⟩
  obtain ⟨W, ⟨m0, w0⟩, turn⟩ := ht
  refine sg_While fun p => ?_
  have gl := gco_loop (k := fun r => ((match r with | .ok f => (.pure f : Sem Flow) | .error e => .raise e).onRaise (cameBack C.env)).wrap K J gd lv) (c' := .whileLoop test body [] C.env) (l := lv []) (kp := []) (p := p) g rfl rfl
  -- an exception leaves the loop's code
  have left : ∀ (n : Nat) (xp : List (Addr × Obj)) (s0 : Shared) (H0 : Hp) (Q : Wish S.τ) (e : Value) (s : Shared), cameBackBy (model C.P C.w) (C.A.deeper C.env) C.env (C.X xp s0 H0 Q.ex).xe e s →
      Sg (model C.P C.w) C.A c (((Sem.raise e : Sem Flow).onRaise (cameBack C.env)).wrap K J gd lv) fs s (Phi C S.τ (Asl C S n) xp s0 H0 Q) := fun n xp s0 H0 Q e s h => by
    show Sg _ _ _ (((cameBack C.env e).bind fun _ => (Sem.raise e : Sem Flow)).wrap K J gd lv) _ _ _
    rw [Sem.bind_eq_wrap, Sem.wrap_wrap]
    refine sg_wrap ?_
    rw [g.over]
    exact wpAny_mono h (fun _ s' hx => k.exc n xp s0 H0 Q e s' hx) fun x s' hx => k.exc n xp s0 H0 Q x s' hx
  have ee : ∀ (n : Nat) (xp : List (Addr × Obj)) (s0 : Shared) (H0 : Hp) (Q : Wish S.τ) (x : Value) (s : Shared), (C.X xp s0 H0 Q.ex).xe x s →
      Sg (model C.P C.w) C.A (.whileLoop test body [] C.env) (turnLeft C.env x) (.ret (fun r => ((match r with | .ok f => (.pure f : Sem Flow) | .error e => .raise e).onRaise (cameBack C.env)).wrap K J gd lv) none (gd false) (lv []) c p [] :: fs) s (Phi C S.τ (Asl C S n) xp s0 H0 Q) := fun n xp s0 H0 Q x s hx => by
    refine sg_wrap ?_
    rw [gl.over]
    refine wpAny_bind (wpAny_mono (owns_g (C := C) (xp := xp) (s0 := s0) (H0 := H0) (E := Q.ex) x s hx) (fun _ s'' hcb => wpAny_theTreesLotGoes ?_) fun y s'' hcb => ?_)
    · exact sg_leaf (.error x) (left n xp s0 H0 Q x s'' hcb)
    · exact sg_leaf (.error y) (left n xp s0 H0 Q y s'' hcb)
  have loop : ∀ (m : Nat) (n : Nat) (xp : List (Addr × Obj)) (s0 : Shared) (H0 : Hp) (Q : Wish S.τ) (s : Shared) (σ : L2.St) (H : Hp), W m σ H Q → IpOk C ip xp → Inv (C.X xp s0 H0 Q.ex) ip σ H s →
      Sg (model C.P C.w) C.A (.whileLoop test body [] C.env) ((model C.P C.w).den (.whileLoop test body [] C.env)) (.ret (fun r => ((match r with | .ok f => (.pure f : Sem Flow) | .error e => .raise e).onRaise (cameBack C.env)).wrap K J gd lv) none (gd false) (lv []) c p [] :: fs) s (Phi C S.τ (Asl C S n) xp s0 H0 Q) := by
    intro m
    induction m using Nat.strongRecOn with
    | ind m ih =>
      intro n xp s0 H0 Q s σ H w hi I
      refine sg_whileLoop ?_
      rw [gl.over]
      refine wpAny_mono ((hc xp s0 H0 Q.ex).run ip s σ H _ I (turn m σ H Q w)) (fun b s' hb' => ?_) fun x s' hx => ee n xp s0 H0 Q x s' hx
      obtain ⟨H2, I2, q2⟩ := hb'
      cases b with
      | true =>
        rw [if_pos rfl] at q2 ⊢
        obtain ⟨N, hN, q2⟩ := q2
        refine hb.run n ip xp s0 H0 Q _ _ _ _ id id s' σ H2 { D with nx := N, ct := N, bk := D.nx } gl hi ⟨fun n' xp' s0' H0' Q' s3 f hi' hs => ?_, fun n' xp' s0' H0' Q' x s3 hx => ee n' xp' s0' H0' Q' x s3 hx⟩ I2 q2
        cases f with
        | next =>
          obtain ⟨σ3, H3, I3, n3⟩ := hs
          obtain ⟨m', hm, w3⟩ := hN σ3 H3 Q' n3
          exact sg_again rfl (ih m' hm n' xp' s0' H0' Q' s3 σ3 H3 w3 hi' I3)
        | cont =>
          obtain ⟨σ3, H3, I3, n3⟩ := hs
          obtain ⟨m', hm, w3⟩ := hN σ3 H3 Q' n3
          exact sg_again rfl (ih m' hm n' xp' s0' H0' Q' s3 σ3 H3 w3 hi' I3)
        | brk => exact sg_leaf (.ok .next) (k.ok n' xp' s0' H0' Q' s3 .next hi' hs)
        | ret v => exact sg_leaf (.ok (.ret v)) (k.ok n' xp' s0' H0' Q' s3 (.ret v) hi' hs)
      | false =>
        rw [if_neg Bool.false_ne_true] at q2 ⊢
        exact sg_leaf (.ok .next) (k.ok n xp s0 H0 Q s' .next hi ⟨σ, H2, I2, q2⟩)
  exact loop m0 n xp s0 H0 Q s σ H w0 hi I
end
end Gx

namespace Gx
open PySem PySem.Spec PyProof.Rows L2 GenW

/-! ### the heap as far as the generator's call -/
def cutH (h : Heap) (L : Addr) : Heap := { h with objs := h.objs.extract 0 L }
def cutS (s : Shared) (L : Addr) : Shared := { s with heap := cutH s.heap L }
theorem cut_get {h : Heap} {L b : Nat} : (cutH h L).get? b = if b < L then h.get? b else none := by
  unfold cutH Heap.get?
  simp only [Array.getElem?_extract]
  by_cases e : b < L
  · rw [if_pos e]
    have q : (if b < min L h.objs.size - 0 then h.objs[0 + b]? else none) = h.objs[b]? := by
      by_cases e2 : b < h.objs.size
      · rw [if_pos (by simp only [Nat.sub_zero]; exact Nat.lt_min.mpr ⟨e, e2⟩), Nat.zero_add]
      · rw [if_neg (by simp only [Nat.sub_zero]; exact fun z => e2 (Nat.lt_min.mp z).2), Array.getElem?_eq_none (Nat.le_of_not_lt e2)]
    rw [q]
  · rw [if_neg e, if_neg (by simp only [Nat.sub_zero]; exact fun z => e (Nat.lt_min.mp z).1)]
theorem cut_some {h : Heap} {L b : Addr} {o : Obj} (e : (cutH h L).get? b = some o) : b < L ∧ h.get? b = some o := by
  rw [cut_get] at e
  split at e
  · rename_i q
    exact ⟨q, e⟩
  · cases e
theorem cut_of {h : Heap} {L b : Addr} {o : Obj} (e : h.get? b = some o) (l : b < L) : (cutH h L).get? b = some o := by
  rw [cut_get, if_pos l]
  exact e
theorem cut_size (h : Heap) (L : Nat) : (cutH h L).objs.size ≤ L := by
  unfold cutH
  simp only [Array.size_extract]
  omega
theorem cut_size_of {h : Heap} {L : Nat} (e : L ≤ h.objs.size) : (cutH h L).objs.size = L := by
  unfold cutH
  simp only [Array.size_extract]
  omega
/-- what is younger than L -/
def young (h : Heap) (L : Addr) : List Addr := (List.range h.objs.size).filter fun b => decide (L ≤ b)
theorem young_mem {h : Heap} {L b : Addr} : b ∈ young h L ↔ b < h.objs.size ∧ L ≤ b := by
  unfold young
  rw [List.mem_filter, List.mem_range, decide_eq_true_eq]
theorem not_young {h : Heap} {L b : Addr} {o : Obj} (e : h.get? b = some o) (n : b ∉ young h L) : b < L := by
  by_cases q : b < L
  · exact q
  · exact absurd (young_mem.mpr ⟨Heap.lt_size e, Nat.le_of_not_lt q⟩) n
theorem un_young {fs : List Addr} {H H' : Hp} {h h' : Heap} {L : Addr} (u : Un fs [] H H' (cutH h L) h') : Un fs (young h L) H H' h h' where
  keep := fun b o e n hf hy => u.keep b o (cut_of e (not_young e hy)) n hf (by simp)
  slot := fun b o e n hf hy => u.slot b o (cut_of e (not_young e hy)) n hf (by simp)
  free := fun b o e n hy => u.free b o (cut_of e (not_young e hy)) n (by simp)
  there := fun b o e hy => u.there b o (cut_of e (not_young e hy)) (by simp)
  tups := u.tups
  frzs := u.frzs
  tbls := u.tbls
/-- a consumer's state, all of whose own is older than L -/
structure Old (X : Cx) (pins : List (Addr × Obj)) (L : Addr) : Prop where
  s0 : X.s_0.heap.objs.size ≤ L
  loc : X.env.locals < L
  cel : ∀ x c, X.env.cells.lookup x = some c → c < L
  pin : ∀ p ∈ X.pn ++ pins, p.1 < L
theorem Old.of {X : Cx} {pins : List (Addr × Obj)} {σ : L2.St} {H : Hp} {s : Shared} (I : Inv X pins σ H s) : Old X pins s.heap.objs.size :=
  ⟨I.sz, I.lt, fun x c e => by
    obtain ⟨v, o, ho, _⟩ := I.cell x c e
    exact Heap.lt_size ho, fun p hp => Heap.lt_size (I.pin p hp).1⟩
theorem Old.ch {X : Cx} {pins : List (Addr × Obj)} {L : Addr} {h : Heap} (o : Old X pins L) : ∀ b ∈ young h L, (b ∈ X.ex ∨ X.s_0.heap.objs.size ≤ b) ∧ b ≠ X.env.locals ∧ (∀ x c, X.env.cells.lookup x = some c → c ≠ b) ∧ ∀ p ∈ X.pn ++ pins, p.1 ≠ b := fun b hb => by
  have hl := (young_mem.mp hb).2
  exact ⟨.inr (Nat.le_trans o.s0 hl), Nat.ne_of_gt (Nat.lt_of_lt_of_le o.loc hl), fun x c e => Nat.ne_of_lt (Nat.lt_of_lt_of_le (o.cel x c e) hl), fun p hp => Nat.ne_of_lt (Nat.lt_of_lt_of_le (o.pin p hp) hl)⟩
section
variable {X : Cx} {pins : List (Addr × Obj)} {σ : L2.St} {H H' : Hp} {s s' : Shared} {L : Addr}
/-- behind a stretch, the consumer's state -/
theorem after (I : Inv X pins σ H s) (o : Old X pins L) (os : s'.os = s.os) (hb : AllBare s'.gens) (u : Un (frs X.stack) [] H H' (cutH s.heap L) s'.heap) (hok : HOk X.prog X.w H' s'.heap) : Inv X pins σ H' s' :=
  I.call' (ch := young s.heap L) os (un_young u) hok hb o.ch
/-- an exception out of a stretch is in the consumer's air -/
theorem xe_stretch {W : WX} {E : XK} (I : Inv X pins σ H s) (ol : Old X pins L) (hW : ∀ cls d H', E cls d H' → W cls d σ H') {u : Value} (c : CX X.prog X.w X.stack H (cutS s L) E u s') : XE X W u s' := by
  obtain ⟨a, B, H', cls, d, rfl, fl, hok, ub, na, os, ag, hE⟩ := c
  obtain ⟨G, g1, g2⟩ := restrict s'.heap fun b => (B.get? b).isSome || decide (b ∈ frs X.stack)
  have st : B.StaysIn s'.heap := fl.1
  have gB : ∀ b o, B.get? b = some o → G.get? b = some o := fun b o e => by
    rw [g1 b (by simp [e])]
    exact st b o e
  have gF : ∀ b, b ∈ frs X.stack → G.get? b = s'.heap.get? b := fun b hb => g1 b (by simp [hb])
  have og : ∀ b o, G.get? b = some o → s'.heap.get? b = some o ∧ ((B.get? b).isSome = true ∨ b ∈ frs X.stack) := fun b o e => by
    cases q : ((B.get? b).isSome || decide (b ∈ frs X.stack)) with
    | false => rw [g2 b q] at e; cases e
    | true =>
      rw [g1 b q] at e
      exact ⟨e, by simpa [Bool.or_eq_true] using q⟩
  refine ⟨a, B, { s with heap := G, gens := s'.gens, drawn := s'.drawn, toks := s'.toks }, pins, σ, H', cls, d, rfl, ?_, fun b o e hb => ?_, Heap.UpToSlots.of_keeps fun b o e => (og b o e).1, .inr (.inl fl), na, os, ag, hW _ _ _ hE⟩
  · refine after I ol rfl ag ⟨fun b o e n hb _ => gB b o (ub.keep b o e n hb), fun b o e n hb _ => ?_, fun b o e n _ => ub.free b o e n, fun b o e _ => ?_, ub.tups, ub.frzs, ub.tbls⟩ (hok.kept gB)
    · obtain ⟨sl, q⟩ := ub.slot b o e hb
      exact ⟨sl, by rw [gF b hb]; exact q⟩
    · by_cases hb : b ∈ frs X.stack
      · obtain ⟨sl, q⟩ := ub.slot b o e hb
        exact ⟨_, by rw [gF b hb]; exact q⟩
      · obtain ⟨o', q⟩ := ub.there b o e hb
        exact ⟨o', gB b o' q⟩
  · obtain ⟨e', h⟩ := og b o e
    rcases h with h | h
    · obtain ⟨o', q⟩ := Option.isSome_iff_exists.mp h
      have z := st b o' q
      rw [e'] at z
      cases z
      exact q
    · exact absurd h hb
end
/-! ### the first waking -/
def AslF (C : GX) (S : GSpec) (n : Nat) (t0 : S.τ) (c : Code) (pl : List (Addr × Obj)) : Prop := ∀ (xp : List (Addr × Obj)) (s s0 : Shared) (H2 : Hp) (Q : Wish S.τ), Wk C pl xp s H2 s0 → S.W t0 H2 Q →
  Sg (model C.P C.w) C.A c ((model C.P C.w).den c) [] s (Phi C S.τ (Asl C S n) xp s0 H2 Q)
/-- what a call of a generator def gives -/
def GMade2 (P : Program) (w : World) (K : PySem.W.Frag) (mg : Str → Option Value) (base : Heap) (k : Nat) (outer : List Env) (s : Shared) (S : GSpec) (t0 : S.τ) (u : Value) (s' : Shared) : Prop :=
  ∃ (a : Addr) (g : Nat) (c : Code) (go lo : Obj) (N : List Str) (qual : Str) (scope : Scope) (f : Addr) (cd : Value), u = .ref a ∧ s.heap.objs.size < a ∧ (∀ h : Heap, h.get? a = some go → h.IsGen a g) ∧ (∀ v, go.data ≠ .cell v) ∧ (∀ v, lo.data ≠ .cell v) ∧
    s'.heap.get? a = some go ∧ s'.heap.get? s.heap.objs.size = some lo ∧ s'.gens[g]? = some (.fresh c) ∧ s'.os = s.os ∧ AllBare s'.gens ∧ (∀ b o, s.heap.get? b = some o → s'.heap.get? b = some o) ∧
    ∀ A : Around, Room k A → A.frames = some outer → ∀ n, AslF ⟨P, w, K, mg, base, N, qual, scope, f, cd, A, outer, s.heap.objs.size, [(a, go)]⟩ S n t0 c [(s.heap.objs.size, lo)]
structure GFn2 (P : Program) (w : World) (K : PySem.W.Frag) (mg : Str → Option Value) (base : Heap) (k : Nat) (f : Addr) (fd : FuncData) (ps : List Str) (S : GSpec) (start : List V → S.τ) : Prop where
  run : ∀ (A : Around) (outer : List Env) (s : Shared) (H : Hp) (args : Args) (us : List Value) (vs : List V), Room k A → Env0 P w K mg base A outer s H → BindsTo s fd args (ps.zip us) → Vals vs us → vs.length = ps.length →
    codeAny (model P w) A (.call (.ref f) args) (fun r s' => match r with | .ok (.ret u) => GMade2 P w K mg base k outer s S (start vs) u s' | _ => False) s
theorem sg_func {P : Program} {w : World} {A : Around} {Φ : End → Shared → Prop} {fs : List Frame} {s : Shared} {env : Env} {body : List Stmt}
    (h : Sg (model P w) A (.func body env) ((execs body env).wrap (fun f => .pure (.done (.ret (match f with | .ret v => v | _ => .none)))) (fun e => (leaving env e).wrap (fun _ => .raise e) .raise id id) id id) fs s Φ) :
    Sg (model P w) A (.func body env) ((model P w).den (.func body env)) fs s Φ := by
  show Sg _ A _ (.point [] fun _ => ((execs body env).onRaise (leaving env)) >>= _) fs s Φ
  refine sg_point ?_
  rw [Sem.onRaise_eq_wrap, Sem.bind_eq_wrap', Sem.wrap_wrap]
  rw [Sem.wrap_congr (execs body env) _ _ (K' := fun f => .pure (.done (.ret (match f with | .ret v => v | _ => .none)))) (H' := fun e => (leaving env e).wrap (fun _ => .raise e) .raise id id) (fun f => by cases f <;> rfl)
    (fun e => by rw [Sem.bind_eq_wrap, Sem.wrap_wrap]; rfl)]
  exact h
theorem rebase0 {C : GX} {xp : List (Addr × Obj)} {s0 s02 s s2 : Shared} {H0 H H2 : Hp} {E E2 : XK} {σ : L2.St} {lo : Obj} (nc : C.env.cells = []) (I : Inv (({ C with pn := [] } : GX).X [] s0 H0 E) [] σ H s) (hlo : s.heap.get? C.L = some lo)
    (hpn : ∀ p ∈ C.pn, p.1 ≠ C.L ∧ p.1 ∉ frs C.outer ∧ ∀ v, p.2.data ≠ .cell v) (wk : Wk C [(C.L, lo)] xp s2 H2 s02) : Inv (C.X xp s02 H2 E2) [] σ H2 s2 := by
  have no : ∀ {x : Str} {c : Addr}, C.env.cells.lookup x = some c → False := fun {x c} h => by rw [nc] at h; cases h
  have hp := wk.pins (C.L, lo) (List.mem_append_right _ List.mem_cons_self)
  refine ⟨⟨I.ok.mod, I.ok.kind, I.ok.glob, I.ok.blt, wk.sz, I.ok.inj, I.ok.has, fun x c _ h => (no h).elim, I.ok.hd, I.ok.frames, I.ok.stk, fun b z => absurd (show b ∈ ([] : List Addr) from z) (by simp), wk.bs, wk.bsz, fun b o _ z => absurd (show b ∈ ([] : List Addr) from z) (by simp),
      fun b z => absurd (show b ∈ ([] : List Addr) from z) (by simp), wk.funs, wk.frf⟩,
    wk.os, wk.bare, ⟨fun b o e _ _ _ => wk.sub b o e, fun b o e _ _ _ => ⟨o.slots, wk.sub b o e⟩, fun _ _ _ n _ => n, fun b o e _ => ⟨o, wk.sub b o e⟩, fun _ _ q => q, fun _ _ _ q => q, fun b ps q => ⟨#[], by rw [Array.append_empty]; exact q⟩⟩,
    ?_, fun x c h => (no h).elim, hp.2, fun x c h => (no h).elim, fun p hm => ?_, wk.hok, I.len⟩
  · obtain ⟨m, ⟨o, es, ep, ho, r⟩, hl⟩ := I.loc
    have e : o = lo := by
      have ho' : s.heap.get? C.L = some o := ho
      rw [hlo] at ho'
      exact (Option.some.inj ho').symm
    subst e
    refine ⟨m, ⟨o, es, ep, hp.1, r⟩, fun i x v h1 h2 h3 => ?_⟩
    obtain ⟨u, ru, l⟩ := hl i x v h1 h2 h3
    refine ⟨u, ru, ?_⟩
    rcases l with l | ⟨_, c, hc, _⟩
    · exact .inl l
    · exact (no hc).elim
  · rcases List.mem_append.mp hm with z | z
    · rcases List.mem_append.mp z with y | y
      · have q := wk.pins p (List.mem_append_left _ (List.mem_append_left _ y))
        obtain ⟨a1, a2, a3⟩ := hpn p y
        exact ⟨q.1, q.2, a1, a2, a3⟩
      · have q := wk.pins p (List.mem_append_left _ (List.mem_append_right _ y))
        obtain ⟨a1, a2, a3⟩ := wk.xok p y
        exact ⟨q.1, q.2, a1, a2, a3⟩
    · cases z
/-- THE RULE: a generator def, by its body -/
theorem gfn2_of {P : Program} {w : World} {K : PySem.W.Frag} {mg : Str → Option Value} {base : Heap} {k : Nat} {f : Addr} {name qual : Str} {params : Arguments} {body : List Stmt} {scope : Scope} {dV kV doc pm cdv ct oc : Value} {an od : Option Addr}
    {osl : Array (Option Value)} {N ps : List Str} {S : GSpec} {start : List V → S.τ} (lk : K.lookup f = some ⟨oc, od, .func (PySem.W.fnOf name qual params body scope dV kV doc pm an cdv ct), osl⟩) (hcd : PySem.W.codeIn K cdv qual = true) (Sc : GScope N ps scope)
    (nc : ∀ n, cellsFrom n scope.names [] = [])
    (hbody : ∀ (A : Around) (outer : List Env) (L : Addr) (pn : List (Addr × Obj)), Room k (A.deeper (envOfC qual scope L f cdv)) → ∃ t : TG2 S.τ, GSts ⟨P, w, K, mg, base, N, qual, scope, f, cdv, A, outer, L, pn⟩ S body t ∧
      ∀ vs H Q, vs.length = ps.length → S.W (start vs) H Q → t { nx := fun _ H' Q' => Q'.dn H', rt := fun v H' Q' => v = .non ∧ Q'.dn H' } (L2.start N vs) H Q) :
    GFn2 P w K mg base (k + 1) f (PySem.W.fnOf name qual params body scope dV kV doc pm an cdv ct) ps S start := by
  refine ⟨fun A outer s H args us vs hr e0 hb r hl => ?_⟩
  have KX : K.In s.heap := e0.mod.kin.keeps fun b o e => (e0.bs b o e).1
  have lim : s.heap.NoLimit := e0.mod.nolimit.keeps fun b o e => (e0.bs b o e).1
  have hkind : ∀ y ∈ ps.zip us, scope.names.lookup y.1 = some .local ∨ (scope.names.lookup y.1 = some .cell ∧ ((cellsFrom (s.heap.objs.size + 1) scope.names []).lookup y.1).isSome = true) := fun ⟨x, v⟩ hy => by
    rcases Sc.par x (List.of_mem_zip hy).1 with q | q
    · exact .inl q
    · exact .inr ⟨q, PySem.W.cellsFrom_some _ _ _ (.inl q)⟩
  refine codeAny_call_generator hr.depth (KX _ _ lk) rfl Sc.co Sc.gen rfl (PySem.W.codeRec_of KX hcd) (hb _ _ _ _ ?_)
  refine wpAny_newFunctionEnv_cells Sc.kind hkind fun env he s1 x => ?_
  subst he
  have lim1 : s1.heap.NoLimit := lim.keeps x.toInCall.keep
  refine ⟨lim1, ?_⟩
  obtain ⟨h1, tk, es1, hk1⟩ := x.done
  have os1 : s1.os = s.os := by rw [es1]
  have gen1 : s1.gens = s.gens := by rw [es1]
  have lt1 : s.heap.objs.size < s1.heap.objs.size := x.toInCall.ns.lt
  have kp1 : ∀ b o, s.heap.get? b = some o → s1.heap.get? b = some o := x.toInCall.keep
  obtain ⟨lo, les, lep, hlo, hlod, _⟩ := id x.toInCall.ns
  have hlo' : s1.heap.get? s.heap.objs.size = some lo := hlo
  have main : ∀ (go : Obj) (nm qn : Value) (tk2 : Nat), go.cls = .type "generator" → go.data = .fields #[.int s1.gens.size 0, nm, qn] → go.slots = #[] → (∀ h : Heap, (h.push go).get? h.objs.size = some go) →
      GMade2 P w K mg base (k + 1) outer s S (start vs) (.ref s1.heap.objs.size) { s1 with gens := s1.gens.push (.fresh (.func body (envOfC qual scope s.heap.objs.size f cdv))), toks := tk2, heap := s1.heap.push go } := by
    intro go nm qn tk2 hgc hgd0 hgs hgp
    refine ⟨s1.heap.objs.size, s1.gens.size, _, go, lo, N, qual, scope, f, cdv, rfl, lt1, fun h e => ⟨go, nm, qn, e, hgc, hgd0, hgs⟩, (fun v q => by rw [hgd0] at q; cases q), (fun v q => by rw [hlod] at q; cases q), hgp _, Heap.get?_push_of_some _ hlo', Array.getElem?_push_size .., os1, ?_,
      fun b o e => Heap.get?_push_of_some _ (kp1 b o e), ?_⟩
    · exact AllBare.push (by rw [gen1]; exact e0.bare) rfl
    intro Aw hrw hfr n xp s2 s02 H2 Q wk hw
    have e0w : Env0 P w K mg base Aw outer s H := ⟨hfr, e0.mod, e0.bs, e0.bsz, e0.funs, e0.frf, e0.hok, e0.bare⟩
    obtain ⟨t, ht, hq⟩ := hbody Aw outer s.heap.objs.size [(s1.heap.objs.size, go)] (hrw.deeper _)
    have I1 : Inv (gcxOf P w K mg base N qual scope f cdv Aw outer s H (fun _ _ _ => False) []) [] (L2.start N vs) H s1 := inv_startG Sc hrw.hd e0w hl r x
    have J1 : Inv (({ P := P, w := w, K := K, mg := mg, base := base, N := N, qual := qual, scope := scope, f := f, cd := cdv, A := Aw, outer := outer, L := s.heap.objs.size, pn := [] } : GX).X [] s H (fun _ _ _ => False)) [] (L2.start N vs) H s1 := I1
    have I2 := rebase0 (C := ⟨P, w, K, mg, base, N, qual, scope, f, cdv, Aw, outer, s.heap.objs.size, [(s1.heap.objs.size, go)]⟩) (E2 := Q.ex) (nc _) J1 hlo' (fun p hp => by
      rw [List.mem_singleton.mp hp]
      exact ⟨Nat.ne_of_gt lt1, I1.nofs (Nat.le_refl _), fun v q => by rw [hgd0] at q; cases q⟩) wk
    refine sg_func ?_
    refine ht.run n [] xp s02 H2 Q _ [] _ _ id id s2 (L2.start N vs) H2 _ ⟨over_func, rfl, rfl, rfl⟩ (fun p hp => by cases hp) ⟨fun n' xp' s0' H0' Q' s' fl hi' hs => ?_, fun n' xp' s0' H0' Q' e s' hx => ?_⟩ I2 (hq vs H2 Q hl hw)
    · cases fl with
      | next =>
        obtain ⟨σ', H', I', q⟩ := hs
        exact sg_end (.ok (.ret .none)) ⟨.inl rfl, H', I'.os, I'.bare, I'.base, I'.hok, fun p hp => ⟨(I'.pin p (List.mem_append_left _ hp)).1, (I'.pin p (List.mem_append_left _ hp)).2.1⟩, q⟩
      | brk => obtain ⟨_, _, _, q⟩ := hs; exact False.elim q
      | cont => obtain ⟨_, _, _, q⟩ := hs; exact False.elim q
      | ret u =>
        obtain ⟨v, σ', H', I', rv, ev, q⟩ := hs
        subst ev
        have eu : u = Value.none := rv
        subst eu
        exact sg_end (.ok (.ret .none)) ⟨.inl rfl, H', I'.os, I'.bare, I'.base, I'.hok, fun p hp => ⟨(I'.pin p (List.mem_append_left _ hp)).1, (I'.pin p (List.mem_append_left _ hp)).2.1⟩, q⟩
    · refine sg_wrap ?_
      rw [over_func]
      exact wpAny_mono hx (fun _ s'' q => sg_end (.error e) q) fun _ _ q => q.elim
  exact main _ _ _ _ rfl rfl rfl fun h => Heap.get?_push_size _ rfl
end Gx

namespace Gx
open PySem PySem.Spec PyProof.Rows L2 GenW

/-! ### waking: next -/
/-- it can be woken, for Φ -/
def Ready (M : Model) (A : Around) (gs : GenState) (s : Shared) (Φ : End → Shared → Prop) : Prop :=
  (∃ c, gs = .fresh c ∧ Sg M A c (M.den c) [] s Φ) ∨ (∃ k l c p fs cl, gs = .suspended k l c p fs cl ∧ Sg M A c (k (.send .none)) fs s Φ)
theorem resume2 {M : Model} {A : Around} {Φ : End → Shared → Prop} {E : Value → Shared → Prop} {s : Shared} {g : Nat} {gs : GenState} {l : List Value} {α : Type} {k : GenResult → Sem α} {Q : α → Shared → Prop} (hg : s.gens[g]? = some gs)
    (hgo : Ready M A gs (s.setGen g .running) Φ) (h : ∀ e s1, e.quiet = true → Φ e s1 → wpAny M A (k e.result) Q E (s1.setGen g e.genState)) : wpAny M A (.resume g (.send .none) l k) Q E s := by
  intro Γ p hΓ
  rw [Sem.wp_resume]
  rcases hgo with ⟨c, rfl, z⟩ | ⟨k₀, l₀, c₀, p₀, fs₀, cl, rfl, z⟩
  · obtain ⟨e, s1, hr, hq, hf⟩ := z (Γ.wake c p) p rfl (hΓ.wake c p)
    exact ⟨_, _, by unfold Wakes; rw [hg]; exact ⟨e, s1, hr, hq, rfl, rfl⟩, h e s1 hq hf Γ p hΓ⟩
  · obtain ⟨e, s1, hr, hq, hf⟩ := z (Γ.wake c₀ p) p₀ rfl (hΓ.wake c₀ p)
    exact ⟨_, _, by unfold Wakes; rw [hg]; exact ⟨e, s1, hr, hq, rfl, rfl⟩, h e s1 hq hf Γ p hΓ⟩
theorem next2 {P : Program} {w : World} {A : Around} {E : Value → Shared → Prop} {s : Shared} {a : Addr} {g : Nat} {gs : GenState} {Φ : End → Shared → Prop} {Q : Option Value → Shared → Prop} (hh : A.handled = none)
    (hl : s.heap.NoLimit) (hroom : A.depth < recursionLimit) (hg : s.heap.IsGen a g) (hgs : s.gens[g]? = some gs) (hgo : Ready (model P w) A.in1 gs (s.setGen g .running) Φ)
    (hY : ∀ v gd l k c p fs s1, Φ (.susp v gd l k c p fs) s1 → (End.susp v gd l k c p fs).quiet = true → Q (some v) (s1.setGen g (End.susp v gd l k c p fs).genState))
    (hP : ∀ fl s1, Φ (.ret (.ok fl)) s1 → (fl = .ret .none ∨ fl = .next) ∧ ∀ h', (∀ b o, s1.heap.get? b = some o → h'.get? b = some o) → Q none { s1.setGen g .finished with heap := h' })
    (hE : ∀ e s1, Φ (.ret (.error e)) s1 → s1.heap.IsGen a g ∧ NotStop (model P w) e s1.heap ∧ E e (s1.setGen g .finished)) :
    wpAny (model P w) A (pyNext (.ref a)) Q E s := by
  unfold pyNext
  refine wpAny_bind (wpAny_attempt (wpAny_callSpecial?_slot (name := Str.ofString "__next__") hg.typeIs slot_gen_next (wpAny_call_entry slot_gen_next hg.typeIs entry_gen_next ?_ (args_gen_next _))))
  show wpAny _ A.in1 (Builtin.Generator.genWake (.ref a) (.send .none)) _ _ s
  unfold Builtin.Generator.genWake
  refine wpAny_bind (wpAny_holding (wpAny_genNumber hg (wpAny_bind (wpAny_genState hgs ?_))))
  have alive : gs.status = .fresh ∨ gs.status = .suspended := by
    rcases hgo with ⟨c, rfl, _⟩ | ⟨_, _, _, _, _, _, rfl, _⟩
    · exact .inl rfl
    · exact .inr rfl
  have go : ∀ {Q2 : Value → Shared → Prop} {E2 : Value → Shared → Prop} {k : GenResult → Sem Value}, (∀ e s1, e.quiet = true → Φ e s1 → wpAny (model P w) A.in1 (k e.result) Q2 E2 (s1.setGen g e.genState)) → wpAny (model P w) A.in1 (.resume g (.send .none) [] k) Q2 E2 s := fun h => resume2 hgs hgo h
  rcases alive with q | q
  all_goals
    rw [q]
    refine wpAny_bind (wpAny_roomToWake hl hroom ?_)
    show wpAny _ A.in1 (.resume g (.send .none) [] _) _ _ s
    refine resume2 hgs hgo fun e s1 hq hf => ?_
    cases e with
    | susp v gd l k c p fs => exact wpAny_pure ⟨v, rfl, wpAny_pure (hY v gd l k c p fs s1 hf hq)⟩
    | ret r =>
      cases r with
      | ok fl =>
        obtain ⟨hr, hp⟩ := hP fl s1 hf
        have hres : End.result (.ret (.ok fl)) = .returned .none := by rcases hr with hr | hr <;> rw [hr] <;> rfl
        first | rw [hres] | simp only [hres]
        show wpAny _ A.in1 (newExc (.type "StopIteration") [] >>= _) _ _ _
        refine wpAny_bind ?_
        simp only [newExc, newTuple]
        refine wpAny_bind (wpAny_newObj_type ?_ (by size_fits))
        refine wpAny_bind (m := firstArgMember _ _) (wpAny_of_eq (a := Value.none) (by first | rfl | (simp only [firstArgMember]; rfl)) ?_)
        refine wpAny_newObj_type ?_ (by size_fits)
        simp only [raiseNew]
        refine wpAny_bind (wpAny_bind (wpAny_handled ?_))
        first | rw [show A.in1.handled = none from hh] | rw [hh]
        refine wpAny_throw ?_
        refine wpAny_bind (wpAny_isInstance (T := "StopIteration") (b := true) ⟨_, Heap.get?_push_size _ rfl, rfl⟩ isSubtype_stop ?_)
        exact wpAny_pure (hp _ fun b o hb => Heap.get?_push_of_some _ (Heap.get?_push_of_some _ hb))
      | error e =>
        obtain ⟨hg1, hns, hq2⟩ := hE e s1 hf
        obtain ⟨o, nm, qn, ho, hc, hd, hsl⟩ := hg1
        show wpAny _ A.in1 (Builtin.Generator.genLeft (.ref a) e) _ _ _
        unfold Builtin.Generator.genLeft Builtin.Generator.madeByALambda
        refine wpAny_bind (wpAny_bind (wpAny_load (o := o) ho (wpAny_pure ?_)))
        refine wpAny_bind (hns _ _ _ _ rfl ?_)
        rw [Bool.and_false, if_neg Bool.false_ne_true]
        unfold Builtin.Generator.genEscaped
        first
          | refine wpAny_bind (hns _ _ _ _ rfl ?_)
          | refine wpAny_bind (wpAny_pure (wpAny_bind (hns _ _ _ _ rfl ?_)))
        rw [if_pos (show (!false) = true from rfl)]
        first
          | refine wpAny_throw ?_
          | refine wpAny_bind (wpAny_throw ?_)
        refine wpAny_bind (hns _ _ _ _ rfl ?_)
        rw [if_neg Bool.false_ne_true]
        exact wpAny_throw hq2
/-! ### a for over a generator -/
theorem mem_frs {env : Env} {l : List Env} {F : Addr} (h : env.frame = some F) : F ∈ frs (env :: l) := by
  unfold frs
  rw [List.filterMap_cons, h]
  exact List.mem_cons_self
theorem mem_frs_tail {env : Env} {l : List Env} {F : Addr} (h : F ∈ frs l) : F ∈ frs (env :: l) := by
  unfold frs at *
  rw [List.filterMap_cons]
  split
  · exact h
  · exact List.mem_cons_of_mem _ h
theorem funs_cut {base h : Heap} {L : Addr} : ∀ {l : List Env}, h.FunFrames base l → (∀ b ∈ frs l, b < L) → (cutH h L).FunFrames base l
  | [], _, _ => trivial
  | _ :: _, ⟨hk, ⟨F, o, hf, hb, ho, hd⟩, hr⟩, hl => ⟨hk, ⟨F, o, hf, hb, cut_of ho (hl F (mem_frs hf)), hd⟩, funs_cut hr fun b hb => hl b (mem_frs_tail hb)⟩
theorem inv_gens {X : Cx} {pins : List (Addr × Obj)} {σ : L2.St} {H : Hp} {s : Shared} {G : Array GenState} (I : Inv X pins σ H s) (h : AllBare G) : Inv X pins σ H { s with gens := G } :=
  ⟨I.ok, I.os, h, I.base, I.loc, I.cell, I.free, I.freeC, I.pin, I.hok, I.len⟩
theorem letGo_gen {M : Model} {A : Around} {E : Value → Shared → Prop} {s : Shared} {target : Expr} {a : Addr} {g : Nat} {v : Value} {Q : Unit → Shared → Prop} (hg : s.heap.IsGen a g) (h : Q () s) : wpAny M A (letOwnedTupleGo target (.ref a) v) Q E s := by
  obtain ⟨o, nm, qn, ho, hc, hd, _⟩ := hg
  have main : wpAny M A (do
      let (.ref r, .ref b) := ((.ref a : Value), v) | return
      let o ← load r
      match o.cls, o.data with
      | .type n, .fields vs =>
        if ["enumerate", "zip", "dict_itemiterator", "dict_reverseitemiterator", "odict_iterator", "itertools.zip_longest", "itertools.pairwise"].contains n && vs[0]? == some (rawInt b) then
          rule "for.unpacks-the-owned-tuple"
          updateField r 0 .none
      | _, _ => pure ()) Q E s := by
    cases v with
    | ref b =>
      refine wpAny_bind (wpAny_load ho ?_)
      rw [hc, hd]
      have e : (["enumerate", "zip", "dict_itemiterator", "dict_reverseitemiterator", "odict_iterator", "itertools.zip_longest", "itertools.pairwise"].contains "generator") = false := by decide
      simp only [e, Bool.false_and, Bool.false_eq_true, if_false]
      exact wpAny_pure h
    | _ => exact wpAny_pure h
  unfold letOwnedTupleGo
  cases target <;> first | exact wpAny_pure h | exact main
/-- an expression whose value is a generator that has not begun -/
structure PGen2 (X : Cx) (S : GSpec) (k : Nat) (e : Expr) (tg : L2.St → Hp → (S.τ → Hp → Prop) → Prop) : Prop where
  run : ∀ (pins : List (Addr × Obj)) (s : Shared) (σ : L2.St) (H : Hp) (R : S.τ → Hp → Prop), Inv X pins σ H s → tg σ H R →
    wpAny (model X.prog X.w) X.A (eval e X.env) (fun u s' => ∃ H1 sc t0, Inv X pins σ H1 sc ∧ GMade2 X.prog X.w X.K X.mg X.base k X.stack sc S t0 u s' ∧ R t0 H1) X.xe s
/-- what a turn wishes -/
def wTurn (S : GSpec) (K : PySem.W.Frag) (g : TG) (tb : TS) (Wx : WX) (D : Ends) (Iv : Nat → S.τ → L2.St → Hp → Prop) (m : Nat) (σ : L2.St) : Wish S.τ where
  yd := fun x t2 H2 => ∃ N : L2.St → Hp → Prop, (∀ σ3 H3, N σ3 H3 → S.Fr t2 H2 H3 ∧ ∃ m', m' < m ∧ Iv m' t2 σ3 H3) ∧ g x σ H2 fun σ2 H3 => tb { D with nx := N, ct := N, bk := D.nx } σ2 H3
  dn := fun H2 => D.nx σ H2
  ex := fun cls d H2 => PySem.W.subIn K cls (.type "StopIteration") = some false ∧ Wx cls d σ H2
def tForG (S : GSpec) (K : PySem.W.Frag) (tg : L2.St → Hp → (S.τ → Hp → Prop) → Prop) (g : TG) (tb : TS) (Wx : WX) : TS := fun D σ H => tg σ H fun t0 H1 => ∃ Iv : Nat → S.τ → L2.St → Hp → Prop, (∃ m, Iv m t0 σ H1) ∧
  ∀ m t σ' H', Iv m t σ' H' → S.W t H' (wTurn S K g tb Wx D Iv m σ')
section
variable {X : Cx} {S : GSpec} {k : Nat} {tg : L2.St → Hp → (S.τ → Hp → Prop) → Prop} {g : TG} {tb : TS} {Wx : WX}
theorem ps_forG {tgt iter : Expr} {body : List Stmt} {pos : Pos} (hp : PassesOwn (model X.prog X.w) X.A X.env X.xe) (hc : X.calm = true) (tk : Takes X Wx) (hr : Room (k + 1) X.A) (he : PGen2 X S k iter tg) (hg : PG X.nox tgt g) (hb : PSs X.nox body tb)
    (hs : ∀ x, foldedSetIterable iter X.env x = pure x := by intro _; rfl) : PS X (.For tgt iter body [] pos) (tForG S X.K tg g tb Wx) := by
  refine ⟨fun pins s σ H D I h => ?_⟩
  refine wpAny_For (thn (he.run pins s σ H _ I h) fun u s1 h1 => ?_) hs
  obtain ⟨H1, sc, t0, Ic, ⟨a, gn, c, go, lo, N, qual, scope, f, cd, rfl, hLa, isg, dgo, dlo, hgo, hlo, hgs, hos, hbare, hkp, wake⟩, Iv, ⟨m0, w0⟩, turn⟩ := h1
  refine wpAny_pyIter_gen (isg _ hgo) ?_
  have old : Old X pins sc.heap.objs.size := Old.of Ic
  obtain ⟨L, hL⟩ : ∃ L, L = sc.heap.objs.size := ⟨_, rfl⟩
  rw [← hL] at old hLa hlo wake
  have rmA : Room k X.A.in1 := hr.in1
  have wake2 := wake X.A.in1 rmA Ic.ok.frames
  obtain ⟨C, hC⟩ : ∃ C : GX, C = ⟨X.prog, X.w, X.K, X.mg, X.base, N, qual, scope, f, cd, X.A.in1, X.stack, L, [(a, go)]⟩ := ⟨_, rfl⟩
  rw [← hC] at wake2
  have frl : ∀ b ∈ frs X.stack, b < L := fun b hb => by
    rcases List.mem_cons.mp (Ic.stkSub b hb) with z | z
    · rw [z]; exact old.loc
    · obtain ⟨_, o, e, _⟩ := Ic.ok.funs.mem z
      exact Nat.lt_of_lt_of_le (Heap.lt_size e) old.s0
  -- a generator's pin is none of ours
  have gp : ∀ {p : Addr × Obj} {s2 : Shared} {H2 : Hp}, s2.heap.get? p.1 = some p.2 → H2 p.1 = none → L ≤ p.1 → (∀ v, p.2.data ≠ .cell v) → s2.heap.get? p.1 = some p.2 ∧ H2 p.1 = none ∧ p.1 ≠ X.env.locals ∧ p.1 ∉ X.fs ∧ ∀ v, p.2.data ≠ .cell v := fun {p s2 H2} h1 h2 h3 h4 =>
    ⟨h1, h2, Nat.ne_of_gt (Nat.lt_of_lt_of_le old.loc h3), fun z => by
      obtain ⟨_, o, e, _⟩ := Ic.ok.funs.mem z
      exact absurd (Nat.lt_of_lt_of_le (Heap.lt_size e) (Nat.le_trans old.s0 h3)) (Nat.lt_irrefl _), h4⟩
  have I1 : Inv X pins σ H1 s1 := Ic.call' (ch := []) hos (Un.kept hkp) (Ic.hok.kept hkp) hbare fun b z => absurd z (by simp)
  refine codeAny_forLoop_any (fun n s' => ∃ (t : S.τ) (σ' : L2.St) (H' : Hp) (gs : GenState) (pl : List (Addr × Obj)), Inv X pins σ' H' s' ∧ (∀ p ∈ (a, go) :: pl, s'.heap.get? p.1 = some p.2 ∧ H' p.1 = none ∧ L ≤ p.1 ∧ ∀ v, p.2.data ≠ .cell v) ∧ s'.gens[gn]? = some gs ∧ Iv n t σ' H' ∧
    ∃ i, n ≤ i ∧ ∀ (s2 s0 : Shared) (Q : Wish S.τ), Wk C pl [] s2 H' s0 → S.W t H' Q → Ready (model X.prog X.w) X.A.in1 gs s2 (Phi C S.τ (Asl C S i) [] s0 H' Q)) ?_ m0 ?_
  case refine_2 =>
    refine ⟨t0, σ, H1, .fresh c, [(L, lo)], I1, fun p hp => ?_, hgs, w0, m0, Nat.le_refl _, fun s2 s0 Q wk hw => .inl ⟨c, rfl, ?_⟩⟩
    · rcases List.mem_cons.mp hp with z | z
      · rw [z]
        exact ⟨hgo, Ic.hok.fresh (by rw [← hL]; exact Nat.le_of_lt hLa), Nat.le_of_lt hLa, dgo⟩
      · rw [List.mem_singleton.mp z]
        exact ⟨hlo, Ic.hok.fresh (by rw [← hL]; exact Nat.le_refl _), Nat.le_refl _, dlo⟩
    · have z := wake2 m0 [] s2 s0 H1 Q wk hw
      rw [hC] at z ⊢
      exact z
  rintro n s3 ⟨t, σ3, H3, gs, pl, I3, hpin, hgs3, w3, i, hni, ready⟩
  have isg3 : s3.heap.IsGen a gn := isg _ (hpin (a, go) List.mem_cons_self).1
  have szL : L ≤ s3.heap.objs.size := Nat.le_of_lt (Nat.lt_of_lt_of_le (Nat.lt_of_le_of_lt (Nat.le_refl _) hLa) (Nat.le_of_lt (Heap.lt_size (hpin (a, go) List.mem_cons_self).1)))
  have wk : Wk C pl [] (s3.setGen gn .running) H3 (cutS s3 L) := by
    rw [hC]
    refine ⟨rfl, allBare_setGen I3.bare rfl, cut_size _ _, ?_, fun b o e => (cut_some e).2, fun b o e => ⟨cut_of (I3.bs b o e).1 ?_, (I3.bs b o e).2⟩, funs_cut I3.stack frl, I3.stkFree, fun p hp => absurd hp (by simp), fun p _ q hq => absurd hq (by simp), fun p hp => ?_, I3.hok⟩
    · show X.base.objs.size ≤ (cutH s3.heap L).objs.size
      rw [cut_size_of szL]
      exact Nat.le_trans I3.ok.bsz old.s0
    · exact Nat.lt_of_lt_of_le (Heap.lt_size e) (Nat.le_trans I3.ok.bsz old.s0)
    · have hm : p ∈ (a, go) :: pl := hp
      exact ⟨(hpin p hm).1, (hpin p hm).2.1⟩
  refine wpAny_passesOwn hp (wpAny_gsz (n := gn + 1) (Array.getElem?_eq_some_iff.mp hgs3).1 (next2 (I3.ok.hd hc) I3.nolimit (by have := hr.dp; omega) isg3 hgs3 (ready _ _ _ wk (turn n t σ3 H3 w3)) ?_ ?_ ?_))
  · -- an item
    rintro v gd l kk cc pp ff s4 ⟨x, t2, H4, pl2, rv, os, bare, un, hok, pins2, plok, ⟨NN, hN, step⟩, asl⟩ hq
    intro hsz
    subst hC
    have I4 : Inv X pins σ3 H4 s4 := after I3 old os bare un hok
    obtain ⟨gs4, hg4⟩ : ∃ y, y = (End.susp v gd l kk cc pp ff).genState := ⟨_, rfl⟩
    rw [← hg4] at hsz ⊢
    have susp4 : IsSusp gs4 := by rw [hg4]; exact ⟨_, _, _, _, _, _, rfl⟩
    have bare4 : gs4.bare = true := by rw [hg4]; exact End.bare_of_quiet hq
    have hlt : gn < s4.gens.size := by
      rw [setGen_size] at hsz
      exact hsz
    have I5 : Inv X pins σ3 H4 (s4.setGen gn gs4) := inv_gens I4 (allBare_setGen bare bare4)
    have at5 : (s4.setGen gn gs4).gens[gn]? = some gs4 := setGen_at hlt
    have pall : ∀ p ∈ (a, go) :: pl2, s4.heap.get? p.1 = some p.2 ∧ H4 p.1 = none ∧ L ≤ p.1 ∧ ∀ v, p.2.data ≠ .cell v := fun p hm => by
      refine ⟨(pins2 p hm).1, (pins2 p hm).2, ?_⟩
      rcases List.mem_cons.mp hm with z | z
      · rw [z]
        exact ⟨Nat.le_of_lt hLa, dgo⟩
      · exact ⟨(plok p z).1, (plok p z).2.1⟩
    have I5p : Inv X (pins ++ (a, go) :: pl2) σ3 H4 (s4.setGen gn gs4) := I5.pins_of fun p hm => by
      rcases List.mem_append.mp hm with z | z
      · exact I5.pin p (List.mem_append_right _ z)
      · obtain ⟨h1, h2, h3, h4⟩ := pall p z
        exact gp (s2 := s4.setGen gn gs4) h1 h2 h3 h4
    refine wpAny_passesOwn hp (letGo_gen (g := gn) (isg _ (pall (a, go) List.mem_cons_self).1) ?_)
    refine wpAny_passesOwn hp (wpAny_mono (wpAny_hidden (hg.run _ { s4.setGen gn gs4 with gens := (s4.setGen gn gs4).gens.map asleep } σ3 H4 x v _ ((inv_gens I5p (bare_asleep I5.bare)).wish _) rv step)) (fun _ s6 h6 => ?_) fun _ _ h6 => ?_)
    · obtain ⟨s6h, T1, e6, wk6, σ6, H6, I6, q6⟩ := h6
      subst e6
      have at6 : T1[gn]? = some gs4 := wk6.kept gn gs4 at5 susp4
      have bare6 : AllBare T1 := wk6.bare I5.bare I6.bare
      have J6 : Inv X (pins ++ (a, go) :: pl2) σ6 H6 { s6h with gens := T1 } := inv_gens I6.unwish bare6
      refine wpAny_passesOwn hp (wpAny_mono (wpAny_hidden (hb.run _ { s6h with gens := T1.map asleep } σ6 H6 _ ((inv_gens J6 (bare_asleep bare6)).wish _) q6)) (fun f s7 h7 => ?_) fun _ _ h7 => ?_)
      · obtain ⟨s7h, T2, e7, wk7, sp7⟩ := h7
        subst e7
        have at7 : T2[gn]? = some gs4 := wk7.kept gn gs4 at6 susp4
        have back : ∀ {σ7 : L2.St} {H7 : Hp}, Inv X.nox (pins ++ (a, go) :: pl2) σ7 H7 s7h → Inv X (pins ++ (a, go) :: pl2) σ7 H7 { s7h with gens := T2 } := fun I7 => inv_gens I7.unwish (wk7.bare bare6 I7.bare)
        have drop : ∀ {σ7 : L2.St} {H7 : Hp} {s : Shared}, Inv X (pins ++ (a, go) :: pl2) σ7 H7 s → Inv X pins σ7 H7 s := fun I7 => I7.pins_of fun p hm => I7.pin p (List.mem_append_right _ (List.mem_append_left _ hm))
        have again : ∀ {σ7 : L2.St} {H7 : Hp}, Inv X.nox (pins ++ (a, go) :: pl2) σ7 H7 s7h → NN σ7 H7 → ∃ m, m < n ∧ ∃ (t : S.τ) (σ' : L2.St) (H' : Hp) (gs : GenState) (pl : List (Addr × Obj)), Inv X pins σ' H' { s7h with gens := T2 } ∧
            (∀ p ∈ (a, go) :: pl, s7h.heap.get? p.1 = some p.2 ∧ H' p.1 = none ∧ L ≤ p.1 ∧ ∀ v, p.2.data ≠ .cell v) ∧ T2[gn]? = some gs ∧ Iv m t σ' H' ∧
            ∃ i, m ≤ i ∧ ∀ (s2 s0 : Shared) (Q : Wish S.τ), Wk _ pl [] s2 H' s0 → S.W t H' Q → Ready (model X.prog X.w) X.A.in1 gs s2 (Phi _ S.τ (Asl _ S i) [] s0 H' Q) := fun {σ7 H7} I7 n7 => by
          obtain ⟨fr, m', hm, iv⟩ := hN σ7 H7 n7
          have J7 := back I7
          refine ⟨m', hm, t2, σ7, H7, gs4, pl2, drop J7, fun p hpm => ?_, at7, iv, ?_⟩
          · have z := J7.pin p (List.mem_append_right _ (List.mem_append_right _ hpm))
            exact ⟨z.1, z.2.1, (pall p hpm).2.2⟩
          · cases i with
            | zero => omega
            | succ i' => exact ⟨i', by omega, fun s2 s0 Q wk hw => .inr ⟨kk, _, cc, _, ff, _, hg4, asl [] s2 s0 H7 Q wk fr hw⟩⟩
        cases f with
        | next => obtain ⟨σ7, H7, I7, n7⟩ := sp7; exact again I7 n7
        | cont => obtain ⟨σ7, H7, I7, n7⟩ := sp7; exact again I7 n7
        | brk => obtain ⟨σ7, H7, I7, q7⟩ := sp7; exact ⟨σ7, H7, drop (back I7), q7⟩
        | ret v => obtain ⟨x7, σ7, H7, I7, r7, q7⟩ := sp7; exact ⟨x7, σ7, H7, drop (back I7), r7, q7⟩
      · obtain ⟨_, _, _, _, z⟩ := h7
        exact z.elim
    · obtain ⟨_, _, _, _, z⟩ := h6
      exact z.elim
  · -- the end
    rintro fl s4 ⟨hfl, H4, os, bare, un, hok, pins2, dn⟩
    rw [hC] at un hok pins2
    refine ⟨hfl, fun h' k2 _ => ?_⟩
    have I4 : Inv X pins σ3 H4 s4 := after I3 old os bare un hok
    have I5 := inv_gens (G := (s4.setGen gn .finished).gens) I4 (allBare_setGen bare rfl)
    have I6 := I5.kept (t' := s4.toks) k2
    exact wpAny_execs_nil ⟨σ3, H4, I6, dn⟩
  · -- an exception
    rintro e s4 ⟨cx, pinned⟩
    rw [hC] at cx pinned
    refine ⟨isg _ (pinned (a, go) List.mem_cons_self), notStop_of (K := X.K) (fun cls d H q => q.1) ?_ cx, fun _ => ?_⟩
    · obtain ⟨b1, B, H5, cls, d, _, fl, _, ub, _⟩ := id cx
      exact I3.ok.mod.kin.keeps fun b o eb => fl.1 b o (ub.keep b o (cut_of (I3.bs b o eb).1 (Nat.lt_of_lt_of_le (Heap.lt_size eb) (Nat.le_trans I3.ok.bsz old.s0))) (I3.bs b o eb).2 fun hm => by
        obtain ⟨z, _⟩ := I3.stack.mem hm
        rw [eb] at z
        cases z)
    · obtain ⟨b1, B, H5, cls, d, z1, fl, z2, ub, z3, z4, z5, z6⟩ := cx
      refine tk _ _ (xe_stretch (s' := s4.setGen gn .finished) (E := fun cls d H => PySem.W.subIn X.K cls (.type "StopIteration") = some false ∧ Wx cls d σ3 H) I3 old (fun cls d H' q => q.2) ⟨b1, B, H5, cls, d, z1, fl, z2, ub, z3, z4, allBare_setGen z5 rfl, z6⟩)
end
end Gx

namespace Gx
open PySem PySem.Spec PyProof.Rows L2 GenW

/-! ### generators made by a call -/
section
variable {X : Cx} {S : GSpec} {start : List V → S.τ} {k : Nat} {f : Addr} {fd : FuncData} {ps : List Str} {dvs : List V} {ds : List Value} {x : Str} {p pos' : Pos}
theorem run_gfn2 {pins : List (Addr × Obj)} {σ : L2.St} {H : Hp} {s : Shared} {us : List Value} {vs : List V} {R : S.τ → Hp → Prop} {E1 : Value → Shared → Prop} (F : GFn2 X.prog X.w X.K X.mg X.base k f fd ps S start) (hr : Room k X.A) (hb : Binds X.K fd ps ds) (hd : Vals dvs ds)
    (I : Inv X pins σ H s) (r : Vals vs us) (hl : (vs ++ dvs).length = ps.length) (h : R (start (vs ++ dvs)) H) :
    wpAny (model X.prog X.w) X.A (call (.ref f) us) (fun u s' => ∃ H1 sc t0, Inv X pins σ H1 sc ∧ GMade2 X.prog X.w X.K X.mg X.base k X.stack sc S t0 u s' ∧ R t0 H1) E1 s := by
  have r2 : Vals (vs ++ dvs) (us ++ ds) := r.append hd
  have hl2 : (us ++ ds).length = ps.length := by rw [← r2.length]; exact hl
  refine wpAny_call (codeAny_mono (F.run X.A X.stack s H ⟨us, []⟩ (us ++ ds) (vs ++ dvs) hr I.env0 (hb s us I.kIn hl2) r2 hl) fun r s' hq => ?_)
  cases r with
  | error e => exact False.elim hq
  | ok fl =>
    cases fl with
    | ret u => exact ⟨H, s, _, I, hq, h⟩
    | next => exact False.elim hq
    | brk => exact False.elim hq
    | cont => exact False.elim hq
def tCall2 (S : GSpec) (start : List V → S.τ) (n : Nat) (dvs : List V) (t : TA) : L2.St → Hp → (S.τ → Hp → Prop) → Prop := fun σ H R => t σ H fun vs H1 => (vs ++ dvs).length = n ∧ R (start (vs ++ dvs)) H1
/-- f(e, ..) of a generator def -/
theorem pgen2_call {e : Expr} {es : List Expr} {t : TA} (F : GFn2 X.prog X.w X.K X.mg X.base k f fd ps S start) (hr : Room k X.A) (hg : Gl X x) (hm : X.mg x = some (.ref f)) (hk : PySem.W.keepIn X.K (.ref f) = true) (hb : Binds X.K fd ps ds) (hd : Vals dvs ds)
    (ha : PA X (e :: es) t) (hdb : (x == ("__debug__" : Str)) = false := by decide) (he : starEach (e :: es) X.env = (false, eval e X.env) :: starEach es X.env := by rfl) (hpl : (backTo pos' (starEach es X.env)).any (·.1) = false := by rfl) :
    PGen2 X S k (.Call (.Name x p) (e :: es) [] pos') (tCall2 S start ps.length dvs t) := by
  refine ⟨fun pins s σ H R I h => ?_⟩
  refine wpAny_Call_Name_kw (ld_glob I hg hm ?_ hdb)
  refine PySem.W.callWith_K (h₀ := X.base) I.ok.mod.kin hk (thn (ha.run pos' pins s σ H _ I h) fun us s1 ⟨vs, H1, I1, r, hl, q⟩ => ⟨I1.kIn, ?_⟩) he hpl
  exact run_gfn2 F hr hb hd I1 r hl q
end
/-! ### list(g) -/
section
variable {X : Cx} {S : GSpec} {k : Nat} {tg : L2.St → Hp → (S.τ → Hp → Prop) → Prop} {Wx : WX}
/-- what a turn of list(g) wishes: ys is out -/
def wList (S : GSpec) (K : PySem.W.Frag) (Wx : WX) (σ : L2.St) (Q : VK) (Iv : Nat → S.τ → List V → Hp → Prop) (m : Nat) (ys : List V) : Wish S.τ where
  yd := fun x t2 H2 => ys.length < sizeLine ∧ S.Fr t2 H2 H2 ∧ ∃ m', m' < m ∧ Iv m' t2 (ys ++ [x]) H2
  dn := fun H2 => ∀ p, H2 p = none → Q (.ref p) (upd H2 p (.lst ys))
  ex := fun cls d H2 => PySem.W.subIn K cls (.type "StopIteration") = some false ∧ Wx cls d σ H2
def tListG2 (S : GSpec) (K : PySem.W.Frag) (tg : L2.St → Hp → (S.τ → Hp → Prop) → Prop) (Wx : WX) : TE := fun σ H Q => tg σ H fun t0 H1 => ∃ Iv : Nat → S.τ → List V → Hp → Prop, (∃ m, Iv m t0 [] H1) ∧ ∀ m t ys H', Iv m t ys H' → S.W t H' (wList S K Wx σ Q Iv m ys)
/-- list.extend.loop over a generator -/
theorem drain2 {pins : List (Addr × Obj)} {σ : L2.St} {C : GX} {A : Around} {Q : VK} {Iv : Nat → S.τ → List V → Hp → Prop} {R : Result → Shared → Prop} {Sx a L : Addr} {gn : Nat} {go : Obj} {N : List Str} {qual : Str} {scope : Scope} {f : Addr} {cd : Value}
    (hC : C = ⟨X.prog, X.w, X.K, X.mg, X.base, N, qual, scope, f, cd, A.in1.in1, X.stack, L, [(a, go)]⟩) (hh : A.handled = none) (hd : A.depth < recursionLimit) (old : Old X pins L) (frl : ∀ b ∈ frs X.stack, b < L) (hLa : L < a) (hLS : L < Sx) (hSa : Sx ≠ a) (dgo : ∀ v, go.data ≠ .cell v)
    (isg : ∀ h : Heap, h.get? a = some go → h.IsGen a gn) (tk : Takes X Wx) (turn : ∀ m t ys H', Iv m t ys H' → S.W t H' (wList S X.K Wx σ Q Iv m ys))
    (hend : ∀ s' ys H' acc c, Inv X pins σ H' s' → s'.heap.get? Sx = some (lstObj acc c) → Vals ys acc.toList → H' Sx = none → ys.length ≤ sizeLine → (∀ p, H' p = none → Q (.ref p) (upd H' p (.lst ys))) → R (.ok (.ret .none)) s') (hexc : ∀ e s', X.xe e s' → R (.error e) s') :
    ∀ (n : Nat) (s : Shared) (t : S.τ) (ys : List V) (H' : Hp) (gs : GenState) (pl : List (Addr × Obj)) (acc : Array Value) (c : Nat), Iv n t ys H' → ys.length ≤ sizeLine → Inv X pins σ H' s → s.heap.get? Sx = some (lstObj acc c) → Vals ys acc.toList → H' Sx = none →
      (∀ p ∈ (a, go) :: pl, s.heap.get? p.1 = some p.2 ∧ H' p.1 = none ∧ L ≤ p.1 ∧ (∀ v, p.2.data ≠ .cell v) ∧ p.1 ≠ Sx) → s.gens[gn]? = some gs →
      (∃ i, n ≤ i ∧ ∀ (xp : List (Addr × Obj)) (s2 s0 : Shared) (Q : Wish S.τ), Wk C pl xp s2 H' s0 → S.W t H' Q → Ready (model X.prog X.w) A.in1.in1 gs s2 (Phi C S.τ (Asl C S i) xp s0 H' Q)) →
      codeAny (model X.prog X.w) A (.builtin "list.extend.loop" ⟨[.ref Sx, .ref a, .none], []⟩) R s := by
  intro n
  induction n using Nat.strongRecOn with
  | ind n ih =>
    rintro s t ys H' gs pl acc c w hle I hS hv hSn hpin hgs ⟨i, hni, ready⟩
    have isg3 : s.heap.IsGen a gn := isg _ (hpin (a, go) List.mem_cons_self).1
    have szL : L ≤ s.heap.objs.size := Nat.le_of_lt (Nat.lt_trans hLa (Heap.lt_size (hpin (a, go) List.mem_cons_self).1))
    have wk : Wk C pl [(Sx, lstObj acc c)] (s.setGen gn .running) H' (cutS s L) := by
      rw [hC]
      refine ⟨rfl, allBare_setGen I.bare rfl, cut_size _ _, ?_, fun b o e => (cut_some e).2, fun b o e => ⟨cut_of (I.bs b o e).1 ?_, (I.bs b o e).2⟩, funs_cut I.stack frl, I.stkFree, fun p hp => ?_, fun p hp q hq => ?_, fun p hp => ?_, I.hok⟩
      · show X.base.objs.size ≤ (cutH s.heap L).objs.size
        rw [cut_size_of szL]
        exact Nat.le_trans I.ok.bsz old.s0
      · exact Nat.lt_of_lt_of_le (Heap.lt_size e) (Nat.le_trans I.ok.bsz old.s0)
      · rw [List.mem_singleton.mp hp]
        exact ⟨Nat.ne_of_gt hLS, fun z => absurd (Nat.lt_trans hLS (frl _ z)) (Nat.lt_irrefl _), fun v q => by cases q⟩
      · rw [List.mem_singleton.mp hq]
        exact (hpin p (List.mem_cons_of_mem _ hp)).2.2.2.2
      · have hm : p = (a, go) ∨ p = (Sx, lstObj acc c) ∨ p ∈ pl := by simpa using hp
        rcases hm with z | z | z
        · rw [z]
          exact ⟨(hpin (a, go) List.mem_cons_self).1, (hpin (a, go) List.mem_cons_self).2.1⟩
        · rw [z]
          exact ⟨hS, hSn⟩
        · exact ⟨(hpin p (List.mem_cons_of_mem _ z)).1, (hpin p (List.mem_cons_of_mem _ z)).2.1⟩
    refine codeAny_builtin F.entry_extend_loop ?_
    rw [Around.under_plainId F.plain_extend_loop _]
    show wpAny _ A.in1 (pyNext (.ref a) >>= _) _ _ s
    refine wpAny_bind (wpAny_gsz (n := gn + 1) (Array.getElem?_eq_some_iff.mp hgs).1 (next2 (A := A.in1) hh I.nolimit hd isg3 hgs (ready _ _ _ _ wk (turn n t ys H' w)) ?_ ?_ ?_))
    · -- an item
      rintro v gd l kk cc pp ff s4 ⟨x, t2, H4, pl2, rv, os, bare, un, hok, pins2, plok, ⟨hlt9, fr, m', hm, iv⟩, asl⟩ hq
      subst hC
      intro hsz
      have I4 : Inv X pins σ H4 s4 := after I old os bare un hok
      obtain ⟨gs4, hg4⟩ : ∃ y, y = (End.susp v gd l kk cc pp ff).genState := ⟨_, rfl⟩
      rw [← hg4] at hsz ⊢
      have bare4 : gs4.bare = true := by rw [hg4]; exact End.bare_of_quiet hq
      have hlt : gn < s4.gens.size := by
        rw [setGen_size] at hsz
        exact hsz
      have atS := pins2 (Sx, lstObj acc c) (List.mem_append_left _ (List.mem_append_right _ List.mem_cons_self))
      have hS4 : s4.heap.get? Sx = some (lstObj acc c) := atS.1
      have hasz : acc.size = ys.length := by
        have e1 := hv.length
        have e2 : acc.toList.length = acc.size := by simp
        omega
      have hasz' : acc.size < sizeLine := by omega
      show wpAny _ A.in1 (updateSeq Sx (·.push v) >>= _) _ _ _
      refine wpAny_bind ?_
      refine wpAny_updateSeq (s := s4.setGen gn gs4) hS4 rfl (wpAny_pure ⟨plainId_quiet F.plain_extend_loop _, ?_⟩) (Nat.le_of_lt hasz') (by show (acc.push v).size ≤ sizeLine + 1; rw [Array.size_push]; omega)
      have keep3 : ∀ b o, b ≠ Sx → s4.heap.get? b = some o → (s4.heap.update Sx (Obj.mapSeq (·.push v))).get? b = some o := fun b o hbS e => (Heap.get?_update_other _ _ (Ne.symm hbS)).trans e
      have I5 : Inv X pins σ H4 (s4.setGen gn gs4) := inv_gens I4 (allBare_setGen bare bare4)
      have I6 : Inv X pins σ H4 { s4.setGen gn gs4 with heap := s4.heap.update Sx (Obj.mapSeq (·.push v)), toks := (s4.setGen gn gs4).toks } := I5.turned (it := Sx) (t' := (s4.setGen gn gs4).toks) keep3 atS.2 (Nat.ne_of_gt (Nat.lt_trans old.loc hLS)) (.inr (Nat.le_of_lt (Nat.lt_of_le_of_lt old.s0 hLS)))
        (fun x c e => Nat.ne_of_lt (Nat.lt_trans (old.cel x c e) hLS)) fun p hp => Nat.ne_of_lt (Nat.lt_trans (old.pin p hp) hLS)
      have hS6 : (s4.heap.update Sx (Obj.mapSeq (·.push v))).get? Sx = some (Obj.mapSeq (·.push v) (lstObj acc c)) := Heap.get?_update_self _ hS4 rfl
      refine ih m' hm _ t2 (ys ++ [x]) H4 gs4 pl2 (acc.push v) _ iv (by rw [List.length_append]; exact hlt9) I6 hS6 (by rw [Array.toList_push]; exact hv.append (.cons rv .nil)) atS.2 (fun p hp => ?_) (setGen_at hlt) ?_
      · rcases List.mem_cons.mp hp with z | z
        · rw [z]
          have q := pins2 (a, go) (List.mem_append_left _ (List.mem_append_left _ List.mem_cons_self))
          exact ⟨keep3 _ _ (Ne.symm hSa) q.1, q.2, Nat.le_of_lt hLa, dgo, Ne.symm hSa⟩
        · have q := pins2 p (List.mem_append_right _ z)
          have nS : p.1 ≠ Sx := (plok p z).2.2 (Sx, lstObj acc c) List.mem_cons_self
          exact ⟨keep3 _ _ nS q.1, q.2, (plok p z).1, (plok p z).2.1, nS⟩
      · cases i with
        | zero => omega
        | succ i' => exact ⟨i', by omega, fun xp s2 s0 Q wk hw => .inr ⟨kk, _, cc, _, ff, _, hg4, asl xp s2 s0 H4 Q wk fr hw⟩⟩
    · -- the end
      rintro fl s4 ⟨hfl, H4, os, bare, un, hok, pins2, dn⟩
      rw [hC] at un hok pins2
      refine ⟨hfl, fun h' k2 _ => ?_⟩
      have I4 : Inv X pins σ H4 s4 := after I old os bare un hok
      have atS := pins2 (Sx, lstObj acc c) (List.mem_append_right _ List.mem_cons_self)
      have I6 := (inv_gens (G := (s4.setGen gn .finished).gens) I4 (allBare_setGen bare rfl)).kept (t' := s4.toks) k2
      exact wpAny_pure (hend _ ys H4 acc c I6 (k2 _ _ atS.1) hv atS.2 hle dn)
    · -- an exception
      rintro e s4 ⟨cx, pinned⟩
      rw [hC] at cx pinned
      refine ⟨isg _ (pinned (a, go) List.mem_cons_self), notStop_of (K := X.K) (fun cls d H q => q.1) ?_ cx, fun _ => hexc _ _ ?_⟩
      · obtain ⟨b1, B, H5, cls, d, _, fl, _, ub, _⟩ := id cx
        exact I.ok.mod.kin.keeps fun b o eb => fl.1 b o (ub.keep b o (cut_of (I.bs b o eb).1 (Nat.lt_of_lt_of_le (Heap.lt_size eb) (Nat.le_trans I.ok.bsz old.s0))) (I.bs b o eb).2 fun hm => by
          obtain ⟨z, _⟩ := I.stack.mem hm
          rw [eb] at z
          cases z)
      · obtain ⟨b1, B, H5, cls, d, z1, fl, z2, ub, z3, z4, z5, z6⟩ := cx
        exact tk _ _ (xe_stretch (s' := s4.setGen gn .finished) (E := fun cls d H => PySem.W.subIn X.K cls (.type "StopIteration") = some false ∧ Wx cls d σ H) I old (fun cls d H' q => q.2) ⟨b1, B, H5, cls, d, z1, fl, z2, ub, z3, z4, allBare_setGen z5 rfl, z6⟩)
end
end Gx

namespace Gx
open PySem PySem.Spec PyProof.Rows L2 GenW

/-- a young list of ours is tracked -/
theorem adopt {X : Cx} {pins : List (Addr × Obj)} {σ : L2.St} {H : Hp} {s : Shared} {L Sx : Addr} {acc : Array Value} {c : Nat} {ys : List V} (J : Inv X pins σ H s) (old : Old X pins L) (hl : L ≤ Sx) (e : s.heap.get? Sx = some (lstObj acc c)) (r : Vals ys acc.toList) (hn : H Sx = none) (hz : ys.length ≤ sizeLine) :
    Inv X pins σ (upd H Sx (.lst ys)) s := by
  have nt : ∀ {b : Addr} {u : HO}, H b = some u → b ≠ Sx := fun q => ne_of_none q hn
  refine J.call' (ch := [Sx]) rfl ⟨fun b o q _ _ _ => q, fun b o q _ _ _ => ⟨o.slots, q⟩, fun b o q n hx => ?_, fun b o q _ => ⟨o, q⟩, fun b xs q => ?_, fun b o u q => ?_, fun b ps q => ?_⟩ (fun b u q => ?_) J.bare fun b hb => ?_
  · rw [upd_ne (fun z => hx (by rw [z]; exact List.mem_singleton.mpr rfl))]
    exact n
  · rw [upd_ne (nt q)]; exact q
  · rw [upd_ne (nt q)]; exact q
  · exact ⟨#[], by rw [upd_ne (nt q), Array.append_empty]; exact q⟩
  · by_cases hb : b = Sx
    · subst hb
      rw [upd_same] at q
      cases q
      exact ⟨hz, acc.toList, c, r, by rw [e]⟩
    · rw [upd_ne hb] at q
      exact (J.hok b u q).stay (fun _ _ _ z => z) (fun d z => by rw [upd_ne (nt z)]; exact z) fun d xs z => by rw [upd_ne (nt z)]; exact z
  · rw [List.mem_singleton.mp hb]
    exact ⟨.inr (Nat.le_trans old.s0 hl), Nat.ne_of_gt (Nat.lt_of_lt_of_le old.loc hl), fun x c e => Nat.ne_of_lt (Nat.lt_of_lt_of_le (old.cel x c e) hl), fun p hp => Nat.ne_of_lt (Nat.lt_of_lt_of_le (old.pin p hp) hl)⟩
section
variable {X : Cx} {S : GSpec} {k : Nat} {tg : L2.St → Hp → (S.τ → Hp → Prop) → Prop} {Wx : WX}
/-- list(g), the generator told -/
theorem pe_listG2 {e : Expr} {nm : Str} {p pos : Pos} (tk : Takes X Wx) (hr : Room (k + 3) X.A) (h : PGen2 X S k e tg) (hg : Gl X nm) (hmg : X.mg nm = none) (hv : bootBuiltins nm = some (.type "list")) (hnm : nm ≠ "__name__" := by decide) (hdb : (nm == ("__debug__" : Str)) = false := by decide)
    (he : starEach [e] X.env = (false, eval e X.env) :: starEach [] X.env := by rfl) : PE X (.Call (.Name nm p) [e] [] pos) (tListG2 S X.K tg Wx) := by
  refine ⟨fun pins s σ H Q I hq => ?_⟩
  refine wpAny_Call_Name_kw (ld_blt I hg hmg hv ?_ hnm hdb)
  refine PyProof.Rows.callWith_type1 ?_ he rfl
  rw [he]
  show wpAny _ _ (spliced ((false, eval e X.env) :: backTo pos (starEach [] X.env))) _ _ s
  refine Calls.spliced_cons (thn (h.run pins s σ H _ I hq) fun u s1 h1 => ?_)
  refine Calls.spliced_nil ?_
  obtain ⟨H1, sc, t0, Ic, ⟨a, gn, c, go, lo, N, qual, scope, f, cd, rfl, hLa, isg, dgo, dlo, hgo, hlo, hgs, hos, hbare, hkp, wake⟩, Iv, ⟨m0, w0⟩, turn⟩ := h1
  have old : Old X pins sc.heap.objs.size := Old.of Ic
  obtain ⟨L, hL⟩ : ∃ L, L = sc.heap.objs.size := ⟨_, rfl⟩
  rw [← hL] at old hLa hlo wake
  have frl : ∀ b ∈ frs X.stack, b < L := fun b hb => by
    rcases List.mem_cons.mp (Ic.stkSub b hb) with z | z
    · rw [z]; exact old.loc
    · obtain ⟨_, o, e, _⟩ := Ic.ok.funs.mem z
      exact Nat.lt_of_lt_of_le (Heap.lt_size e) old.s0
  have I1 : Inv X pins σ H1 s1 := Ic.call' (ch := []) hos (Un.kept hkp) (Ic.hok.kept hkp) hbare fun b z => absurd z (by simp)
  have ha2 : a < s1.heap.objs.size := Heap.lt_size hgo
  have hSa : s1.heap.objs.size ≠ a := Nat.ne_of_gt ha2
  -- the call of list, up to its loop
  refine callType_codes (Q₁ := fun obj s₁ => obj = .ref s1.heap.objs.size ∧ s₁ = { s1 with heap := s1.heap.push { cls := .type "list", data := .seq #[] } }) F.called_list (F.typeCall_list_1 _) F.entry_list_init (code_list_new _ ⟨rfl, rfl⟩) fun obj s₁ h₁ => ?_
  obtain ⟨rfl, rfl⟩ := h₁
  have hS : (s1.heap.push { cls := .type "list", data := .seq #[] }).get? s1.heap.objs.size = some { cls := .type "list", data := .seq #[] } := Heap.get?_push_size _ rfl
  refine ⟨⟨_, hS, rfl⟩, F.args_list_init_2 _ _, ?_⟩
  show wpAny _ X.A.in1.in1 (do let old ← Builtin.List.listItems (.ref s1.heap.objs.size); Builtin.List.listUpdate (.ref s1.heap.objs.size) (fun _ => #[]); letGo old.toList.reverse; Builtin.List.listExtendWith (.ref s1.heap.objs.size) (.ref a) .none) _ _ _
  refine wpAny_bind ?_
  unfold Builtin.List.listItems
  refine wpAny_bind (wpAny_seqItems hS rfl (wpAny_pure ?_))
  show wpAny _ X.A.in1.in1 (updateSeq s1.heap.objs.size (fun _ => #[]) >>= fun _ => letGo (#[] : Array Value).toList.reverse >>= fun _ => Builtin.List.listExtendWith (.ref s1.heap.objs.size) (.ref a) .none) _ _ _
  refine wpAny_bind (wpAny_updateSeq hS rfl ?_)
  have hS2 := Heap.get?_update_self (Obj.mapSeq (fun _ => (#[] : Array Value))) hS rfl
  refine wpAny_bind (wpAny_letGo ?_)
  unfold Builtin.List.listExtendWith
  have up : ∀ (h : Heap) (f : Obj → Obj), (∀ b o, s1.heap.get? b = some o → h.get? b = some o) → ∀ b o, s1.heap.get? b = some o → (h.update s1.heap.objs.size f).get? b = some o := fun h f q b o e =>
    (Heap.get?_update_other _ _ (Ne.symm (Nat.ne_of_lt (Heap.lt_size e)))).trans (q b o e)
  have k1 : ∀ b o, s1.heap.get? b = some o → (s1.heap.push { cls := .type "list", data := .seq #[] }).get? b = some o := fun b o e => Heap.get?_push_of_some _ e
  have k2 := up _ (Obj.mapSeq (fun _ => (#[] : Array Value))) k1
  have gty : ∀ {h : Heap}, (∀ b o, s1.heap.get? b = some o → h.get? b = some o) → h.IsGen a gn := fun {h} q => isg _ (q _ _ hgo)
  refine wpAny_bind (wpAny_typeOf (Heap.IsGen.typeIs (s := { s1 with heap := _ }) (gty k2)) ?_)
  have e1 : Builtin.List.listSameRef (.ref s1.heap.objs.size) (.ref a) = false := by simp [Builtin.List.listSameRef, hSa]
  have e2 : (Value.type "generator" == Value.type "list") = false := by decide
  have e3 : (Value.type "generator" == Value.type "tuple") = false := by decide
  simp only [e1, e2, e3, Bool.or_false, Bool.false_eq_true, if_false]
  refine wpAny_bind (wpAny_pyIter_gen (s := { s1 with heap := _ }) (gty k2) ?_)
  refine wpAny_bind (wpAny_holding ?_)
  unfold Builtin.List.listLengthHint
  refine wpAny_bind (wpAny_specialOf (Heap.IsGen.typeIs (s := { s1 with heap := _ }) (gty k2)) F.gen_no_len ?_)
  show wpAny _ X.A.in1.in1 (specialOf (Value.ref a) (Str.ofString "__length_hint__") >>= _) _ _ _
  refine wpAny_bind (wpAny_specialOf (Heap.IsGen.typeIs (s := { s1 with heap := _ }) (gty k2)) F.gen_no_hint ?_)
  refine wpAny_pure ?_
  show wpAny _ X.A.in1.in1 (rule "list.extend.makes-room" >>= fun _ => Builtin.List.listTouch (.ref s1.heap.objs.size) >>= fun _ =>
    again (.builtin "list.extend.loop" ⟨[.ref s1.heap.objs.size, .ref a, .none], []⟩)) _ _ _
  refine wpAny_bind (wpAny_rule ?_)
  refine wpAny_bind ?_
  show wpAny _ X.A.in1.in1 (updateSeq s1.heap.objs.size (·.push .none) >>= fun _ => updateSeq s1.heap.objs.size (·.pop)) _ _ _
  refine wpAny_bind (wpAny_updateSeq hS2 rfl ?_)
  have hS3 := Heap.get?_update_self (Obj.mapSeq (·.push Value.none)) hS2 rfl
  refine wpAny_updateSeq (hz := by seq_fits) hS3 rfl ?_
  have hS4 := Heap.get?_update_self (Obj.mapSeq (·.pop)) hS3 rfl
  have k4 := up _ (Obj.mapSeq (·.pop)) (up _ (Obj.mapSeq (·.push Value.none)) k2)
  refine wpAny_pure ⟨plainId_quiet F.plain_extend_loop _, ?_⟩
  have I4 := I1.kept (t' := s1.toks) k4
  have wake2 := wake X.A.in1.in1.in1 ⟨hr.hd, by have := hr.dp; show X.A.depth + 3 * k + 5 < _; omega, by have := hr.un; show X.A.units + 1 + 1 + 1 + 16 * k + 200 < _; omega⟩ Ic.ok.frames
  refine drain2 (X := X) (Wx := Wx) (Q := Q) (Iv := Iv) (A := X.A.in1) (L := L) (gn := gn) (N := N) (qual := qual) (scope := scope) (f := f) (cd := cd) rfl hr.hd (by have := hr.dp; show X.A.depth < _; omega) old frl hLa (Nat.lt_trans hLa ha2) hSa dgo isg tk turn
    (fun s' ys H' acc c2 J hSs hvs hn hle hdn => ?_) (fun e s' hx => hx) m0 _ t0 [] H1 (.fresh c) [(L, lo)] #[] _ w0 (Nat.zero_le _) I4 hS4 .nil (I1.hok.fresh (Nat.le_refl _)) (fun p hp => ?_) hgs ⟨m0, Nat.le_refl _, fun xp s2 s0 Q wk hw => .inl ⟨c, rfl, wake2 m0 xp s2 s0 H1 Q wk hw⟩⟩
  · refine ⟨rfl, .ref s1.heap.objs.size, upd H' s1.heap.objs.size (.lst ys), ?_, rfl, hdn _ hn⟩
    exact adopt J old (Nat.le_of_lt (Nat.lt_trans hLa ha2)) hSs hvs hn hle
  · rcases List.mem_cons.mp hp with z | z
    · rw [z]
      exact ⟨k4 _ _ hgo, Ic.hok.fresh (by rw [← hL]; exact Nat.le_of_lt hLa), Nat.le_of_lt hLa, dgo, Ne.symm hSa⟩
    · rw [List.mem_singleton.mp z]
      exact ⟨k4 _ _ hlo, Ic.hok.fresh (by rw [← hL]; exact Nat.le_refl _), Nat.le_refl _, dlo, Nat.ne_of_lt (Nat.lt_trans hLa ha2)⟩
end
end Gx

namespace Gx
open PySem PySem.Spec PyProof.Rows L2 GenW

/-! ### [.. for .. in g], nothing raised within -/
/-- a state whose frame's names are younger than L, and pinned -/
structure Old2 (X : Cx) (L : Addr) : Prop where
  s0 : X.s_0.heap.objs.size ≤ L
  cel : ∀ x c, X.env.cells.lookup x = some c → c < L
  pn : X.pn = []
theorem after2 {X : Cx} {σ : L2.St} {H H' : Hp} {s s' : Shared} {L : Addr} {lo : Obj} (I : Inv X [] σ H s) (o : Old2 X L) (hlo : s.heap.get? X.env.locals = some lo) (hlo' : s'.heap.get? X.env.locals = some lo) (hfl : X.env.locals ∉ frs X.stack) (hfn : H' X.env.locals = none) (os : s'.os = s.os) (hb : AllBare s'.gens)
    (u : Un (frs X.stack) [] H H' (cutH s.heap L) s'.heap) (hok : HOk X.prog X.w H' s'.heap) : Inv X [] σ H' s' := by
  refine I.call' (ch := (young s.heap L).filter fun b => decide (b ≠ X.env.locals)) os ⟨fun b ob e n hf hy => ?_, fun b ob e n hf hy => ?_, fun b ob e n hy => ?_, fun b ob e hy => ?_, u.tups, u.frzs, u.tbls⟩ hok hb fun b hb => ?_
  · by_cases z : b = X.env.locals
    · subst z
      rw [hlo] at e
      cases e
      exact hlo'
    · exact u.keep b ob (cut_of e (not_young e fun q => hy (List.mem_filter.mpr ⟨q, by simpa using z⟩))) n hf (by simp)
  · have z : b ≠ X.env.locals := fun z => hfl (by rw [← z]; exact hf)
    exact u.slot b ob (cut_of e (not_young e fun q => hy (List.mem_filter.mpr ⟨q, by simpa using z⟩))) n hf (by simp)
  · by_cases z : b = X.env.locals
    · rw [z]
      exact hfn
    · exact u.free b ob (cut_of e (not_young e fun q => hy (List.mem_filter.mpr ⟨q, by simpa using z⟩))) n (by simp)
  · by_cases z : b = X.env.locals
    · exact ⟨lo, by rw [z]; exact hlo'⟩
    · exact u.there b ob (cut_of e (not_young e fun q => hy (List.mem_filter.mpr ⟨q, by simpa using z⟩))) (by simp)
  · obtain ⟨h1, h2⟩ := List.mem_filter.mp hb
    have hl := (young_mem.mp h1).2
    refine ⟨.inr (Nat.le_trans o.s0 hl), by simpa using h2, fun x c e => Nat.ne_of_lt (Nat.lt_of_lt_of_le (o.cel x c e) hl), fun p hp => ?_⟩
    rw [o.pn] at hp
    cases hp
/-- what a turn of such a comprehension wishes -/
def wLc (S : GSpec) (g : TG) (tt : TT) (te : TE) (vs : List Nat) (σ : L2.St) (Q : VK) (D : Addr) (Iv : Nat → S.τ → Hp → Prop) (m : Nat) : Wish S.τ where
  yd := fun x t2 H2 => ∃ Nx : Hp → Prop, (∀ H3, Nx H3 → S.Fr t2 H2 H3 ∧ ∃ m', m' < m ∧ Iv m' t2 H3) ∧ g x (wipe σ vs) H2 fun σ2 H3 => wipe σ2 vs = wipe σ vs ∧ tt σ2 H3 fun b H4 =>
    if b = true then te σ2 H4 fun y H5 => ∃ acc, H5 D = some (.lst acc) ∧ acc.length < sizeLine ∧ Nx (upd H5 D (.lst (acc ++ [y]))) else Nx H4
  dn := fun H2 => Q (.ref D) H2
  ex := fun _ _ _ => False
def tLcG (S : GSpec) (tg : L2.St → Hp → (S.τ → Hp → Prop) → Prop) (g : TG) (tt : TT) (te : TE) (vs : List Nat) : TE := fun σ H Q => tg σ H fun t0 H1 => ∀ D, H1 D = none → ∃ Iv : Nat → S.τ → Hp → Prop, (∃ m, Iv m t0 (upd H1 D (.lst []))) ∧
  (∀ m t H', Iv m t H' → S.W t H' (wLc S g tt te vs σ Q D Iv m))
section
variable {X : Cx} {S : GSpec} {k : Nat} {tg : L2.St → Hp → (S.τ → Hp → Prop) → Prop}
theorem pe_lcG {elt tgt iter : Expr} {ifs : List Expr} {scope : Scope} {own : List (Str × Nat)} {pos : Pos} {g : TG} {tt : TT} {te : TE} (hc : X.calm = true) (hN : X.N.Nodup) (hr : Room (k + 1) X.A) (hi : PGen2 X S k iter tg) (ok : BlkOk X.N X.env.scope scope own) (hcl : ∀ n acc, cellsFrom n scope.names acc = acc)
    (hg : ∀ (s : Shared) (H : Hp) (C : Addr) (cl : List (Str × Addr)) (fp : List Addr), PG (X.blk s H scope (compEnvC scope cl C X.env) fp) tgt g) (ht : ∀ (s : Shared) (H : Hp) (C : Addr) (cl : List (Str × Addr)) (fp : List Addr), PTs (X.blk s H scope (compEnvC scope cl C X.env) fp) ifs tt)
    (he : ∀ (s : Shared) (H : Hp) (C : Addr) (cl : List (Str × Addr)) (fp : List Addr), PE (X.blk s H scope (compEnvC scope cl C X.env) fp) elt te) (hs : ∀ x, foldedSetIterable iter X.env x = pure x := by intro _; rfl) :
    PE X (.ListComp elt [⟨tgt, iter, ifs, 0⟩] scope pos) (tLcG S tg g tt te (own.map (·.2))) := by
  refine ⟨fun pins s σ H Q I h => ?_⟩
  rw [eval_ListComp]
  have hfree : ∀ y ∈ scope.names, y.2 = .free → ∃ c, X.env.cells.lookup y.1 = some c := fun y hy e => by
    rcases ok.free y hy e with k | k
    · exact I.ok.has _ (.inl k)
    · exact I.ok.has _ (.inr k)
  refine wpAny_comprehension_free (use := none) rfl hs (closure_ok hfree) ok.kind (fun y hy e => by rw [ok.uniq y hy, e]) (thn (hi.run pins s σ H _ I h) fun u s1 h1 => ?_)
  obtain ⟨H1, sc, t0, Ic, ⟨a, gn, c, go, lo, N, qual, fscope, f, cd, rfl, hLa, isg, dgo, dlo, hgo, hlo, hgs, hos, hbare, hkp, wake⟩, q⟩ := h1
  refine wpAny_pyIter_gen (isg _ hgo) ?_
  refine wpAny_newObj_type (newEnv_comp ?_) (by show 0 ≤ sizeLine; decide)
  have old : Old X pins sc.heap.objs.size := Old.of Ic
  obtain ⟨L, hL⟩ : ∃ L, L = sc.heap.objs.size := ⟨_, rfl⟩
  rw [← hL] at old hLa hlo wake
  have frl : ∀ b ∈ frs X.stack, b < L := fun b hb => by
    rcases List.mem_cons.mp (Ic.stkSub b hb) with z | z
    · rw [z]; exact old.loc
    · obtain ⟨_, o, e, _⟩ := Ic.ok.funs.mem z
      exact Nat.lt_of_lt_of_le (Heap.lt_size e) old.s0
  have I1 : Inv X pins σ H1 s1 := Ic.call' (ch := []) hos (Un.kept hkp) (Ic.hok.kept hkp) hbare fun b z => absurd z (by simp)
  have ha2 : a < s1.heap.objs.size := Heap.lt_size hgo
  generalize hD : s1.heap.objs.size = D
  have hDn : H1 D = none := I1.hok.fresh (Nat.le_of_eq hD)
  obtain ⟨Iv, ⟨m0, w0⟩, turn⟩ := q D hDn
  generalize hs3 : ({ s1 with heap := s1.heap.push { cls := .type "list", data := .seq ([] : List Value).toArray } } : Shared) = s3
  have I3 : Inv X pins σ (upd H1 D (.lst [])) s3 := by
    rw [← hs3]
    refine I1.laid (t' := s1.toks) (fun b o e => Heap.get?_push_of_some _ e) (Nat.le_of_eq hD) ⟨Nat.zero_le _, [], 0, .nil, ?_⟩
    rw [← hD]
    exact Heap.get?_push_size _ rfl
  have h3 : s3.heap = s1.heap.push { cls := .type "list", data := .seq ([] : List Value).toArray } := by rw [← hs3]
  have g3 : s3.gens = s1.gens := by rw [← hs3]
  have o3 : s3.os = s1.os := by rw [← hs3]
  have kp13 : ∀ b o, s1.heap.get? b = some o → s3.heap.get? b = some o := fun b o e => by rw [h3]; exact Heap.get?_push_of_some _ e
  have I4 := block_start (fp := []) I3 ok hN (fun b hb => nomatch hb)
  have cel : cellsFrom (s3.heap.objs.size + 1) scope.names (cloFrom X.env.cells scope.names []) = cloFrom X.env.cells scope.names [] := hcl _ _
  have pg := hg sc H1 s3.heap.objs.size (cellsFrom (s3.heap.objs.size + 1) scope.names (cloFrom X.env.cells scope.names [])) []
  have pt := ht sc H1 s3.heap.objs.size (cellsFrom (s3.heap.objs.size + 1) scope.names (cloFrom X.env.cells scope.names [])) []
  have pe := he sc H1 s3.heap.objs.size (cellsFrom (s3.heap.objs.size + 1) scope.names (cloFrom X.env.cells scope.names [])) []
  show codeAny _ _ (.compStart (.ListComp elt [⟨tgt, iter, ifs, 0⟩] scope pos) 0 (.ref a) (.ref D) (compEnvC scope (cellsFrom (s3.heap.objs.size + 1) scope.names (cloFrom X.env.cells scope.names [])) s3.heap.objs.size X.env)) (compPost (model X.prog X.w) X.A X.xe none _ (.ref D) s3.heap.objs.size) { s3 with heap := pushCells (s3.heap.push { cls := .type "dict", data := .dict #[] }) scope.names }
  have kp34 : ∀ b o, s3.heap.get? b = some o → (pushCells (s3.heap.push { cls := .type "dict", data := .dict #[] }) scope.names).get? b = some o := fun b o e => pushCells_keeps _ _ _ _ (Heap.get?_push_of_some _ e)
  have cO : ∀ x c, (compEnvC scope (cellsFrom (s3.heap.objs.size + 1) scope.names (cloFrom X.env.cells scope.names [])) s3.heap.objs.size X.env).cells.lookup x = some c → c < L := fun x c e => by
    have e : (cellsFrom (s3.heap.objs.size + 1) scope.names (cloFrom X.env.cells scope.names [])).lookup x = some c := e
    rw [cel] at e
    rcases cloFrom_mem (PySem.mem_of_lookup e) with hm | ⟨h1, rfl⟩
    · cases hm
    · obtain ⟨c, hc⟩ := hfree _ h1 rfl
      rw [hc]
      exact old.cel _ _ hc
  generalize hce : compEnvC scope (cellsFrom (s3.heap.objs.size + 1) scope.names (cloFrom X.env.cells scope.names [])) s3.heap.objs.size X.env = ce at I4 pg pt pe cO ⊢
  have cL : ce.locals = s3.heap.objs.size := by subst hce; rfl
  have hLc : L < ce.locals := by
    rw [cL, h3, Heap.size_push]
    exact Nat.lt_trans (Nat.lt_trans hLa ha2) (Nat.lt_succ_self _)
  generalize hH3 : upd H1 D (.lst []) = H3 at I3 I4 w0
  generalize hs4 : ({ s3 with heap := pushCells (s3.heap.push { cls := .type "dict", data := .dict #[] }) scope.names } : Shared) = s4 at I4 ⊢
  have h4 : s4.heap = pushCells (s3.heap.push { cls := .type "dict", data := .dict #[] }) scope.names := by rw [← hs4]
  have g4 : s4.gens = s1.gens := by rw [← hs4]; exact g3
  have o4 : s4.os = sc.os := by rw [← hs4]; exact o3.trans hos
  have kp : ∀ b o, s1.heap.get? b = some o → s4.heap.get? b = some o := fun b o e => by rw [h4]; exact kp34 b o (kp13 b o e)
  have kpc : ∀ b o, sc.heap.get? b = some o → s4.heap.get? b = some o := fun b o e => kp b o (hkp b o e)
  have scD : ∀ b o, sc.heap.get? b = some o → b ≠ D := fun b o e => by
    rw [← hD]
    exact Nat.ne_of_lt (Nat.lt_of_lt_of_le (Heap.lt_size e) (by rw [← hL]; exact Nat.le_of_lt (Nat.lt_trans hLa ha2)))
  have IB : Inv (X.blk sc H1 scope ce []) [] (wipe σ (own.map (·.2))) H3 s4 := by
    refine ⟨⟨I4.ok.mod, I4.ok.kind, I4.ok.glob, I4.ok.blt, ?_, I4.ok.inj, I4.ok.has, fun x c hx e => ?_, I4.ok.hd, I4.ok.frames, I4.ok.stk, (fun b z => nomatch z), Ic.bs, Nat.le_trans Ic.ok.bsz Ic.sz, (fun b o _ z => nomatch z), (fun b z => nomatch z), Ic.stack, Ic.stkFree⟩,
      o4, I4.bare, ⟨fun b o e _ _ _ => kpc b o e, fun b o e _ _ _ => ⟨o.slots, kpc b o e⟩, fun b o e n _ => ?_, fun b o e _ => ⟨o, kpc b o e⟩, fun b xs e => ?_, fun b o u e => ?_, fun b ps e => ⟨#[], ?_⟩⟩, I4.loc, I4.cell, I4.free, I4.freeC, I4.pin, I4.hok, I4.len⟩
    · show sc.heap.objs.size ≤ ce.locals
      rw [← hL]
      exact Nat.le_of_lt hLc
    · have z : s3.heap.objs.size ≤ c := I4.ok.cab x c hx e
      exact absurd (Nat.lt_of_lt_of_le (Nat.lt_trans (cO x c e) (by rw [cL] at hLc; exact hLc)) z) (Nat.lt_irrefl _)
    · rw [← hH3, upd_ne (scD b o e)]
      exact n
    · rw [← hH3, upd_ne (ne_of_none e hDn)]; exact e
    · rw [← hH3, upd_ne (ne_of_none e hDn)]; exact e
    · rw [← hH3, upd_ne (ne_of_none e hDn), Array.append_empty]; exact e
  have o2 : Old2 (X.blk sc H1 scope ce []) L := ⟨Nat.le_of_eq hL.symm, cO, rfl⟩
  obtain ⟨C, hC⟩ : ∃ C : GX, C = ⟨X.prog, X.w, X.K, X.mg, X.base, N, qual, fscope, f, cd, X.A.in1, X.stack, L, [(a, go)]⟩ := ⟨_, rfl⟩
  have wake2 := wake X.A.in1 hr.in1 Ic.ok.frames
  rw [← hC] at wake2
  have aLc : a ≠ ce.locals := by
    rw [cL, h3, Heap.size_push]
    exact Nat.ne_of_lt (Nat.lt_trans ha2 (Nat.lt_succ_self _))
  have loop : codeAny (model X.prog X.w) X.A (.compLoop (.ListComp elt [⟨tgt, iter, ifs, 0⟩] scope pos) 0 (.ref a) (.ref D) ce) (compPost (model X.prog X.w) X.A X.xe none (EP X pins σ Q) (.ref D) s3.heap.objs.size) s4 := by
    refine compLoop_any (fun n s' => ∃ (t : S.τ) (H' : Hp) (gs : GenState) (pl : List (Addr × Obj)), Inv (X.blk sc H1 scope ce []) [] (wipe σ (own.map (·.2))) H' s' ∧ (∀ p ∈ (a, go) :: pl, s'.heap.get? p.1 = some p.2 ∧ H' p.1 = none ∧ L ≤ p.1 ∧ (∀ v, p.2.data ≠ .cell v) ∧ p.1 ≠ ce.locals) ∧ s'.gens[gn]? = some gs ∧ Iv n t H' ∧
      ∃ i, n ≤ i ∧ ∀ (xp : List (Addr × Obj)) (s2 s0 : Shared) (Q : Wish S.τ), Wk C pl xp s2 H' s0 → S.W t H' Q → Ready (model X.prog X.w) X.A.in1 gs s2 (Phi C S.τ (Asl C S i) xp s0 H' Q)) ?_ m0 ?_
    case refine_2 =>
      refine ⟨t0, H3, .fresh c, [(L, lo)], IB, fun p hp => ?_, by rw [g4]; exact hgs, w0, m0, Nat.le_refl _, fun xp s2 s0 Q wk hw => .inl ⟨c, rfl, ?_⟩⟩
      · have fresh : ∀ b, L ≤ b → b ≠ D → H3 b = none := fun b hb nb => by
          rw [← hH3, upd_ne nb]
          exact Ic.hok.fresh (by rw [← hL]; exact hb)
        rcases List.mem_cons.mp hp with z | z
        · rw [z]
          exact ⟨kp _ _ hgo, fresh _ (Nat.le_of_lt hLa) (by rw [← hD]; exact Nat.ne_of_lt ha2), Nat.le_of_lt hLa, dgo, aLc⟩
        · rw [List.mem_singleton.mp z]
          exact ⟨kp _ _ hlo, fresh _ (Nat.le_refl _) (by rw [← hD]; exact Nat.ne_of_lt (Nat.lt_trans hLa ha2)), Nat.le_refl _, dlo, Nat.ne_of_lt hLc⟩
      · have z := wake2 m0 xp s2 s0 H3 Q wk hw
        rw [hC] at z ⊢
        exact z
    rintro n s5 ⟨t, H5, gs, pl, I5, hpin, hgs5, w5, i, hni, ready⟩
    obtain ⟨mm, ⟨lb, les, lep, hlb, hlbd, _⟩, _⟩ := id I5.loc
    have hlb' : s5.heap.get? ce.locals = some lb := hlb
    have isg5 : s5.heap.IsGen a gn := isg _ (hpin (a, go) List.mem_cons_self).1
    have szL : L ≤ s5.heap.objs.size := Nat.le_of_lt (Nat.lt_trans hLa (Heap.lt_size (hpin (a, go) List.mem_cons_self).1))
    have bsl : X.base.objs.size ≤ L := Nat.le_trans I.ok.bsz old.s0
    have nfl : ce.locals ∉ frs X.stack := fun z => absurd (Nat.lt_trans hLc (frl _ z)) (Nat.lt_irrefl _)
    have wk : Wk C pl [(ce.locals, lb)] (s5.setGen gn .running) H5 (cutS s5 L) := by
      rw [hC]
      refine ⟨rfl, allBare_setGen I5.bare rfl, cut_size _ _, ?_, fun b o e => (cut_some e).2, fun b o e => ⟨cut_of (I5.bs b o e).1 (Nat.lt_of_lt_of_le (Heap.lt_size e) bsl), (I5.bs b o e).2⟩, funs_cut I5.stack frl, I5.stkFree, fun p hp => ?_, fun p hp q hq => ?_, fun p hp => ?_, I5.hok⟩
      · show X.base.objs.size ≤ (cutH s5.heap L).objs.size
        rw [cut_size_of szL]
        exact bsl
      · rw [List.mem_singleton.mp hp]
        exact ⟨Nat.ne_of_gt hLc, nfl, fun v q => by rw [hlbd] at q; cases q⟩
      · rw [List.mem_singleton.mp hq]
        exact (hpin p (List.mem_cons_of_mem _ hp)).2.2.2.2
      · have hm : p = (a, go) ∨ p = (ce.locals, lb) ∨ p ∈ pl := by simpa using hp
        rcases hm with z | z | z
        · rw [z]
          exact ⟨(hpin (a, go) List.mem_cons_self).1, (hpin (a, go) List.mem_cons_self).2.1⟩
        · rw [z]
          exact ⟨hlb', I5.free⟩
        · exact ⟨(hpin p (List.mem_cons_of_mem _ z)).1, (hpin p (List.mem_cons_of_mem _ z)).2.1⟩
    refine wpAny_gsz (n := gn + 1) (Array.getElem?_eq_some_iff.mp hgs5).1 (next2 (I5.ok.hd hc) I5.nolimit (by have := hr.dp; omega) isg5 hgs5 (ready _ _ _ _ wk (turn n t H5 w5)) ?_ ?_ ?_)
    · -- an item
      rintro v gd l kk cc pp ff s6 ⟨x, t2, H6, pl2, rv, os, bare, un, hok, pins2, plok, ⟨Nx, hNx, step⟩, asl⟩ hq
      subst hC
      intro hsz
      have atL := pins2 (ce.locals, lb) (List.mem_append_left _ (List.mem_append_right _ List.mem_cons_self))
      have I6 : Inv (X.blk sc H1 scope ce []) [] (wipe σ (own.map (·.2))) H6 s6 := after2 I5 o2 hlb' atL.1 nfl atL.2 os bare un hok
      obtain ⟨gs4, hg4⟩ : ∃ y, y = (End.susp v gd l kk cc pp ff).genState := ⟨_, rfl⟩
      rw [← hg4] at hsz ⊢
      have susp4 : IsSusp gs4 := by rw [hg4]; exact ⟨_, _, _, _, _, _, rfl⟩
      have bare4 : gs4.bare = true := by rw [hg4]; exact End.bare_of_quiet hq
      have hlt : gn < s6.gens.size := by
        rw [setGen_size] at hsz
        exact hsz
      have I7 : Inv (X.blk sc H1 scope ce []) [] (wipe σ (own.map (·.2))) H6 (s6.setGen gn gs4) := inv_gens I6 (allBare_setGen bare bare4)
      have at7 : (s6.setGen gn gs4).gens[gn]? = some gs4 := setGen_at hlt
      have pall : ∀ p ∈ (a, go) :: pl2, s6.heap.get? p.1 = some p.2 ∧ H6 p.1 = none ∧ L ≤ p.1 ∧ (∀ v, p.2.data ≠ .cell v) ∧ p.1 ≠ ce.locals := fun p hm => by
        rcases List.mem_cons.mp hm with z | z
        · rw [z]
          have q := pins2 (a, go) (List.mem_append_left _ (List.mem_append_left _ List.mem_cons_self))
          exact ⟨q.1, q.2, Nat.le_of_lt hLa, dgo, aLc⟩
        · have q := pins2 p (List.mem_append_right _ z)
          exact ⟨q.1, q.2, (plok p z).1, (plok p z).2.1, (plok p z).2.2 (ce.locals, lb) List.mem_cons_self⟩
      have I7p : Inv (X.blk sc H1 scope ce []) ((a, go) :: pl2) (wipe σ (own.map (·.2))) H6 (s6.setGen gn gs4) := I7.pins_of fun p hm => by
        obtain ⟨h1, h2, h3, h4, h5⟩ := pall p hm
        exact ⟨h1, h2, h5, fun z => absurd (Nat.lt_of_lt_of_le (frl _ z) h3) (Nat.lt_irrefl _), h4⟩
      refine letGo_gen (g := gn) (isg _ (pall (a, go) List.mem_cons_self).1) ?_
      refine wpAny_mono (wpAny_hidden (pg.run _ { s6.setGen gn gs4 with gens := (s6.setGen gn gs4).gens.map asleep } _ H6 x v _ (inv_gens I7p (bare_asleep I7.bare)) rv step)) (fun _ s8 h8 => ?_) fun _ _ h8 => ?_
      · obtain ⟨s8h, T8, e8, wk8, σ8, H8, I8, hw8, q8⟩ := h8
        subst e8
        have at8 : T8[gn]? = some gs4 := wk8.kept gn gs4 at7 susp4
        have bare8 : AllBare T8 := wk8.bare I7.bare I8.bare
        have J8 := inv_gens I8 bare8
        -- the turn's end
        have fin : ∀ {s' : Shared} {H' : Hp}, Inv (X.blk sc H1 scope ce []) ((a, go) :: pl2) σ8 H' s' → s'.gens[gn]? = some gs4 → Nx H' → ∃ m, m < n ∧ ∃ (t : S.τ) (H' : Hp) (gs : GenState) (pl : List (Addr × Obj)), Inv (X.blk sc H1 scope ce []) [] (wipe σ (own.map (·.2))) H' s' ∧
            (∀ p ∈ (a, go) :: pl, s'.heap.get? p.1 = some p.2 ∧ H' p.1 = none ∧ L ≤ p.1 ∧ (∀ v, p.2.data ≠ .cell v) ∧ p.1 ≠ ce.locals) ∧ s'.gens[gn]? = some gs ∧ Iv m t H' ∧
            ∃ i, m ≤ i ∧ ∀ (xp : List (Addr × Obj)) (s2 s0 : Shared) (Q : Wish S.τ), Wk _ pl xp s2 H' s0 → S.W t H' Q → Ready (model X.prog X.w) X.A.in1 gs s2 (Phi _ S.τ (Asl _ S i) xp s0 H' Q) := fun {s' H'} I' at' nx => by
          obtain ⟨fr, m', hm, iv⟩ := hNx H' nx
          have hl : (wipe σ (own.map (·.2))).length = σ8.length := by rw [← hw8, wipe_length]
          refine ⟨m', hm, t2, H', gs4, pl2, (I'.pins_of (pins' := []) (fun p hp => nomatch hp)).weak hl (fun j v e => ?_), fun p hp => ?_, at', iv, ?_⟩
          · rw [← hw8] at e
            exact (wipe_some e).1
          · have z := I'.pin p (List.mem_append_right _ hp)
            exact ⟨z.1, z.2.1, (pall p hp).2.2⟩
          · cases i with
            | zero => omega
            | succ i' => exact ⟨i', by omega, fun xp s2 s0 Q wk hw => .inr ⟨kk, _, cc, _, ff, _, hg4, asl xp s2 s0 H' Q wk fr hw⟩⟩
        refine wpAny_mono (wpAny_hidden (pt.run _ { s8h with gens := T8.map asleep } σ8 H8 _ (inv_gens I8 (bare_asleep bare8)) q8)) (fun b s9 h9 => ?_) fun _ _ h9 => ?_
        · obtain ⟨s9h, T9, e9, wk9, H9, I9, q9⟩ := h9
          subst e9
          have at9 : T9[gn]? = some gs4 := wk9.kept gn gs4 at8 susp4
          have bare9 : AllBare T9 := wk9.bare bare8 I9.bare
          have J9 := inv_gens I9 bare9
          cases b with
          | false =>
            simp only [Bool.false_eq_true, if_false] at q9 ⊢
            exact fin J9 at9 q9
          | true =>
            simp only [if_true] at q9 ⊢
            refine wpAny_mono (wpAny_hidden (pe.run _ { s9h with gens := T9.map asleep } σ8 H9 _ (inv_gens I9 (bare_asleep bare9)) q9)) (fun z s10 h10 => ?_) fun _ _ h10 => ?_
            · obtain ⟨s10h, T10, e10, wk10, yv, H10, I10, r10, acc, hD10, hz10, nx⟩ := h10
              subst e10
              have at10 : T10[gn]? = some gs4 := wk10.kept gn gs4 at9 susp4
              have bare10 : AllBare T10 := wk10.bare bare9 I10.bare
              have J10 := inv_gens I10 bare10
              refine wpAny_mono (wpAny_hidden (app_ok (X := X.blk sc H1 scope ce []) (E := fun _ _ => False) (s := { s10h with gens := T10.map asleep }) (Q := fun _ s' => Inv (X.blk sc H1 scope ce []) ((a, go) :: pl2) σ8 (upd H10 D (.lst (acc ++ [yv]))) s') (inv_gens I10 (bare_asleep bare10)) hD10 hz10 r10 fun s11 I11 => I11)) (fun _ s11 h11 => ?_) fun _ _ h11 => ?_
              · obtain ⟨s11h, T11, e11, wk11, I11⟩ := h11
                subst e11
                exact fin (inv_gens I11 (wk11.bare bare10 I11.bare)) (wk11.kept gn gs4 at10 susp4) nx
              · obtain ⟨_, _, _, _, z⟩ := h11
                exact z.elim
            · obtain ⟨_, _, _, _, z⟩ := h10
              exact z.elim
        · obtain ⟨_, _, _, _, z⟩ := h9
          exact z.elim
      · obtain ⟨_, _, _, _, z⟩ := h8
        exact z.elim
    · -- the end
      rintro fl s6 ⟨hfl, H6, os, bare, un, hok, pins2, dn⟩
      rw [hC] at un hok pins2
      refine ⟨hfl, fun h' k2 _ => ?_⟩
      have atL := pins2 (ce.locals, lb) (List.mem_append_right _ List.mem_cons_self)
      have I6 : Inv (X.blk sc H1 scope ce []) [] (wipe σ (own.map (·.2))) H6 s6 := after2 I5 o2 hlb' atL.1 nfl atL.2 os bare un hok
      have I7 := (inv_gens (G := (s6.setGen gn .finished).gens) I6 (allBare_setGen bare rfl)).kept (t' := s6.toks) k2
      have I8 : Inv X pins σ H6 { s6.setGen gn .finished with heap := h' } := Ic.call' (ch := []) I7.os I7.base I7.hok I7.bare fun b hb => nomatch hb
      have nC : H6 s3.heap.objs.size = none := by
        rw [← cL]
        exact atL.2
      obtain ⟨m, hn, _⟩ := I7.loc
      have hn : h'.Ns ce.locals m := hn
      rw [cL] at hn
      have hlc : sc.heap.objs.size ≤ s3.heap.objs.size := by
        rw [← hL, ← cL]
        exact Nat.le_of_lt hLc
      obtain ⟨f0, f1, f2, f3, f4, f5⟩ := Ic.fpOk hlc nC
      exact ⟨m, hn, fun h'' sb => ⟨.ref D, H6, I8.turned (t' := s6.toks) (fun b o hb e => (sb.2 b hb).trans e) f0 f1 f3 f4 f5, rfl, dn⟩⟩
    · -- no exception
      rintro e s6 ⟨cx, _⟩
      obtain ⟨_, _, _, _, _, _, _, _, _, _, _, _, z⟩ := cx
      exact z.elim
  exact codeAny_compStart_list loop (wpAny_pyIter_gen (isg _ (kp _ _ hgo)) loop)
end
end Gx

namespace Mx
open PySem PySem.Spec PyProof.Rows L2

/-! ### a dict of the module, texts to texts: k in d, d[k], for k in d, for k, v in d.items() -/
def kdB : List DictEntry → List (Str × Str) → Bool
  | [], [] => true
  | e :: es, (k, v) :: kvs => Value.isStrOf k e.key && Value.isStrOf v e.val && kdB es kvs
  | _, _ => false
structure KD (K : PySem.W.Frag) (w : World) (d : Addr) (kvs : List (Str × Str)) : Prop where
  ex : ∃ es n, KDict K w d es n ∧ kdB es.toList kvs = true
theorem kdB_cons {e : DictEntry} {es : List DictEntry} {k v : Str} {kvs : List (Str × Str)} (h : kdB (e :: es) ((k, v) :: kvs) = true) : (∃ t, e.key = .str k t) ∧ (∃ t, e.val = .str v t) ∧ kdB es kvs = true := by
  have h2 : (Value.isStrOf k e.key && Value.isStrOf v e.val && kdB es kvs) = true := h
  rw [Bool.and_eq_true, Bool.and_eq_true] at h2
  exact ⟨Value.isStrOf_shape h2.1.1, Value.isStrOf_shape h2.1.2, h2.2⟩
theorem kdB_len : ∀ {es : List DictEntry} {kvs : List (Str × Str)}, kdB es kvs = true → es.length = kvs.length
  | [], [], _ => rfl
  | e :: es, (k, v) :: kvs, h => by
    rw [List.length_cons, List.length_cons, kdB_len (kdB_cons h).2.2]
  | [], _ :: _, h => by cases h
  | _ :: _, [], h => by cases h
theorem kdB_at : ∀ {es : List DictEntry} {kvs : List (Str × Str)}, kdB es kvs = true → ∀ (i : Nat) (k v : Str), kvs[i]? = some (k, v) → ∃ e, es[i]? = some e ∧ (∃ t, e.key = .str k t) ∧ ∃ t, e.val = .str v t
  | [], [], _, i, k, v, q => by simp at q
  | e :: es, (k0, v0) :: kvs, h, 0, k, v, q => by
    obtain ⟨h1, h2, _⟩ := kdB_cons h
    have q2 : (k0, v0) = (k, v) := by simpa using q
    cases q2
    exact ⟨e, rfl, h1, h2⟩
  | e :: es, (k0, v0) :: kvs, h, i + 1, k, v, q => by
    obtain ⟨_, _, h3⟩ := kdB_cons h
    exact kdB_at h3 i k v (by simpa using q)
  | [], _ :: _, h, _, _, _, _ => by cases h
  | _ :: _, [], h, _, _, _, _ => by cases h
/-- what stands at a key -/
def atK (kvs : List (Str × Str)) (z : Str) : Option Str := (kvs.find? fun p => p.1 == z).map (·.2)
theorem kdB_find (z : Str) : ∀ {es : List DictEntry} {kvs : List (Str × Str)}, kdB es kvs = true → (es.any (·.refKey) = false) ∧ (match es.find? (·.key.isStr z) with
    | some e => ∃ v t, e.val = .str v t ∧ atK kvs z = some v
    | none => atK kvs z = none)
  | [], [], _ => ⟨rfl, rfl⟩
  | e :: es, (k, v) :: kvs, h => by
    obtain ⟨⟨t, h1⟩, ⟨t2, h2⟩, h3⟩ := kdB_cons h
    obtain ⟨i1, i2⟩ := kdB_find z h3
    have e0 : e.refKey = false := by unfold DictEntry.refKey; rw [h1]
    have e1 : e.key.isStr z = (k == z) := by rw [h1]; rfl
    refine ⟨by rw [List.any_cons, e0, i1]; rfl, ?_⟩
    rw [List.find?_cons, e1]
    cases q : k == z with
    | true =>
      refine ⟨v, t2, h2, ?_⟩
      unfold atK
      rw [List.find?_cons]
      simp only [q]
      rfl
    | false =>
      have ea : atK ((k, v) :: kvs) z = atK kvs z := by
        unfold atK
        rw [List.find?_cons]
        simp only [q]
      rw [ea]
      exact i2
  | [], _ :: _, h => by cases h
  | _ :: _, [], h => by cases h
theorem KD.look {K : PySem.W.Frag} {w : World} {d : Addr} {kvs : List (Str × Str)} {es : Array DictEntry} {n : Nat} (D : KDict K w d es n) (h : kdB es.toList kvs = true) (z : Str) :
    ∃ r, PySem.W.nsIn K d z = some r ∧ ((r = none ∧ atK kvs z = none) ∨ ∃ v t, r = some (.str v t) ∧ atK kvs z = some v) := by
  obtain ⟨i1, i2⟩ := kdB_find z h
  unfold PySem.W.nsIn
  rw [D.at_]
  dsimp only
  cases q : es.toList.find? (·.key.isStr z) with
  | some e =>
    rw [q] at i2
    obtain ⟨v, t, h1, h2⟩ := i2
    exact ⟨some (.str v t), by show some (some e.val) = _; rw [h1], .inr ⟨v, t, rfl, h2⟩⟩
  | none =>
    rw [q] at i2
    refine ⟨none, ?_, .inl ⟨rfl, i2⟩⟩
    rw [if_neg (by rw [i1]; exact Bool.false_ne_true)]
section
variable {X : Cx}
def rKIn (K : PySem.W.Frag) (w : World) (neg : Bool) : V → V → Hp → VK → Prop := fun x y H Q => ∃ (d : Addr) (kvs : List (Str × Str)) (z : Str), x = .str z ∧ y = .ref d ∧ KD K w d kvs ∧ Q (.bl (if neg then !(atK kvs z).isSome else (atK kvs z).isSome)) H
theorem op_kin : OpR X (compareOp .In) (rKIn X.K X.w false) := by
  intro pins s σ H x y v u Q I rx ry h
  obtain ⟨d, kvs, z, rfl, rfl, ⟨es, n, D, hB⟩, q⟩ := h
  obtain ⟨r, e, hr⟩ := KD.look D hB z
  refine op_in_kd D pins s σ H _ _ v u Q I rx ry ⟨z, r, rfl, rfl, e, ?_⟩
  rcases hr with ⟨rfl, ea⟩ | ⟨v, t, rfl, ea⟩
  · rw [ea] at q; exact q
  · rw [ea] at q; exact q
theorem op_knotIn : OpR X (compareOp .NotIn) (rKIn X.K X.w true) := by
  intro pins s σ H x y v u Q I rx ry h
  obtain ⟨d, kvs, z, rfl, rfl, ⟨es, n, D, hB⟩, q⟩ := h
  obtain ⟨r, e, hr⟩ := KD.look D hB z
  refine op_notIn_kd D pins s σ H _ _ v u Q I rx ry ⟨z, r, rfl, rfl, e, ?_⟩
  rcases hr with ⟨rfl, ea⟩ | ⟨v, t, rfl, ea⟩
  · rw [ea] at q; exact q
  · rw [ea] at q; exact q
def rKIx (K : PySem.W.Frag) (w : World) : R2 := fun x y H Q => ∃ (d : Addr) (kvs : List (Str × Str)) (z v : Str), x = .ref d ∧ y = .str z ∧ KD K w d kvs ∧ atK kvs z = some v ∧ Q (.str v) H
theorem ix_kd : IxR X (rKIx X.K X.w) := by
  intro value slice pins s σ H x y v u Q I rx ry h hs
  obtain ⟨d, kvs, z, v0, rfl, rfl, ⟨es, n, D, hB⟩, ea, q⟩ := h
  obtain ⟨r, e, hr⟩ := KD.look D hB z
  rcases hr with ⟨rfl, eb⟩ | ⟨v1, t1, rfl, eb⟩
  · rw [ea] at eb; cases eb
  · rw [ea] at eb
    obtain rfl := Option.some.inj eb
    refine ix_kdict value slice pins s σ H _ _ v u Q I rx ry ?_ hs
    exact ⟨d, z, .str v0, rfl, rfl, ⟨es, n, _, D.at_, D.lit, e, ⟨t1, rfl⟩⟩, q⟩
/-! the walks -/
def Kkd (d : Addr) (kvs : List (Str × Str)) : It := ⟨fun i _ => i < kvs.length, fun i H x H' => H' = H ∧ ∃ p, kvs[i]? = some p ∧ x = .str p.1, fun i _ => kvs.length ≤ i⟩
def Kki (d : Addr) (kvs : List (Str × Str)) : It := ⟨fun i _ => i < kvs.length, fun i H x H' => ∃ T p, kvs[i]? = some p ∧ x = .ref T ∧ H T = none ∧ H' = upd H T (.tup [.str p.1, .str p.2]), fun i _ => kvs.length ≤ i⟩
theorem walk_kd {d : Addr} {kvs : List (Str × Str)} : Walk (Kkd d kvs) kvs.length (fun _ => True) (fun i H x H' => H' = H ∧ ∃ p, kvs[i]? = some p ∧ x = .str p.1) :=
  ⟨fun _ _ hi _ => hi, fun _ _ => Nat.le_refl _, fun _ _ _ _ _ _ y => y⟩
theorem walk_ki {d : Addr} {kvs : List (Str × Str)} : Walk (Kki d kvs) kvs.length (fun _ => True) (fun i H x H' => ∃ T p, kvs[i]? = some p ∧ x = .ref T ∧ H T = none ∧ H' = upd H T (.tup [.str p.1, .str p.2])) :=
  ⟨fun _ _ hi _ => hi, fun _ _ => Nat.le_refl _, fun _ _ _ _ _ _ y => y⟩
theorem turn_kd {P : Program} {w : World} {K : PySem.W.Frag} {tg : Expr} {d : Addr} {kvs : List (Str × Str)} {es : Array DictEntry} {n : Nat} (it : Addr) (D : KDict K w d es n) (hB : kdB es.toList kvs = true) :
    Turn P w K tg (Kkd d kvs) [it] it (fun i h => h.IsKeyIter it d i kvs.length n) where
  mem := by simp
  obj := fun i h st b hb => by
    have e : b = it := by simpa using hb
    subst e
    obtain ⟨oi, e, c, dd⟩ := st
    exact ⟨oi, e, fun v z => by rw [dd] at z; cases z⟩
  keep := fun i h h' st k => st.at fun oi e => k it (by simp) oi e
  item := by
    intro X hP hw hK hc i pins s σ H E I hf st hi
    subst hP hw hK
    obtain ⟨f0, f1, f2, f3, f4, f5⟩ := hf it (by simp)
    have hgd := I.kIn _ _ D.at_
    have hl : es.size = kvs.length := by rw [← kdB_len hB, Array.length_toList]
    have hi : i < kvs.length := hi
    obtain ⟨⟨k, v⟩, hkv⟩ : ∃ p, kvs[i]? = some p := ⟨kvs[i], List.getElem?_eq_getElem hi⟩
    obtain ⟨en, hen, ⟨t, hk⟩, _⟩ := kdB_at hB i k v hkv
    refine next_key_item st hgd rfl hl (by rw [← Array.getElem?_toList]; exact hen) fun h' st' sb => ?_
    have I1 : Inv X pins σ H { s with heap := h' } := I.turned (t' := s.toks) (fun b ob hb e => (sb.2 b hb).trans e) f0 f1 f3 f4 f5
    obtain ⟨oi, e, c, dd⟩ := id st'
    exact ⟨en.key, rfl, go_of (s := { s with heap := h' }) e c dd (by decide) ⟨.str k, H, I1, ⟨t, hk⟩, ⟨rfl, (k, v), hkv, rfl⟩, st', fun b hb => (hf b hb).1⟩⟩
  done := by
    intro X hP hw hK hc i pins s σ H E I hf st hg
    subst hP hw hK
    obtain ⟨f0, f1, f2, f3, f4, f5⟩ := hf it (by simp)
    have hgd := I.kIn _ _ D.at_
    have hl : es.size = kvs.length := by rw [← kdB_len hB, Array.length_toList]
    exact next_key_end (I.ok.hd hc) st hgd rfl hl hg fun h' eb => ⟨rfl, I.turned (t' := s.toks) (fun b ob hb e => eb b ob hb e) f0 f1 f3 f4 f5⟩
  self := fun A i s Q E st h => by
    refine wpAny_pyIter_slot st.typeIs F.slot_dict_keyiterator_iter (wpAny_call_entry F.slot_dict_keyiterator_iter st.typeIs F.entry_dict_keyiterator_iter ?_ (F.args_dict_keyiterator_iter_1 _))
    show wpAny _ _ (ret (.ref it)) _ _ s
    exact wpAny_pure ⟨_, rfl, "dict_keyiterator", _, st.typeIs, F.slot_dict_keyiterator_next.lookup, h⟩
theorem raw_kd {K : PySem.W.Frag} {w : World} {d : Addr} {es : Array DictEntry} {n : Nat} {h : Heap} (D : KDict K w d es n) (k : K.In h) : h.DictRaw d es n := ⟨_, k _ _ D.at_, ⟨rfl, rfl, rfl⟩, rfl⟩
theorem turn_ki {P : Program} {w : World} {K : PySem.W.Frag} {elts : List Expr} {kk : Nat} {tpos : Pos} {d : Addr} {kvs : List (Str × Str)} {es : Array DictEntry} {n : Nat} (it : Addr) (D : KDict K w d es n) (hB : kdB es.toList kvs = true) :
    Turn P w K (.Tuple elts kk tpos) (Kki d kvs) [it] it (fun i h => ∃ ok ov, IsItemIter h it d i kvs.length n ok ov) where
  mem := by simp
  obj := fun i h st b hb => by
    have e : b = it := by simpa using hb
    subst e
    obtain ⟨ok, ov, e⟩ := st
    exact ⟨_, e, fun v z => nomatch z⟩
  keep := fun i h h' st k => let ⟨ok, ov, e⟩ := st; ⟨ok, ov, k it (by simp) _ e⟩
  item := by
    intro X hP hw hK hc i pins s σ H E I hf st hi
    subst hP hw hK
    have hm := raw_kd D I.kIn
    have hl : es.size = kvs.length := by rw [← kdB_len hB, Array.length_toList]
    have hi : i < kvs.length := hi
    obtain ⟨⟨k, v⟩, hkv⟩ : ∃ p, kvs[i]? = some p := ⟨kvs[i], List.getElem?_eq_getElem hi⟩
    obtain ⟨en, hen, ⟨t, hk⟩, ⟨t2, hv⟩⟩ := kdB_at hB i k v hkv
    have hi2 : i < es.size := by omega
    have een : es[i] = en := by
      have z : es[i]? = some en := by rw [← Array.getElem?_toList]; exact hen
      rw [Array.getElem?_eq_getElem hi2] at z
      exact Option.some.inj z
    obtain ⟨ok, ov, he⟩ := st
    rw [← hl] at he
    have hlt : it < s.heap.objs.size := Heap.lt_size he
    refine wpAny_pyNext_items_item_raw he hm hi2 fun h' ho hT hz hk2 => ?_
    rw [een] at ho hT
    refine ⟨_, rfl, wpAny_letOwnedTupleGo_items (s := { s with heap := h' }) ho fun h'' he' sb => ?_⟩
    have hT2 : h''.get? s.heap.objs.size = some { cls := .type "tuple", data := .seq #[en.key, en.val] } := (sb.2 _ (Nat.ne_of_gt hlt)).trans hT
    have new : ObjOk X.prog X.w (upd H s.heap.objs.size (.tup [.str k, .str v])) h'' s.heap.objs.size (.tup [.str k, .str v]) :=
      ⟨by show 2 ≤ sizeLine; decide, [en.key, en.val], .cons ⟨t, hk⟩ (.cons ⟨t2, hv⟩ .nil), ⟨_, hT2, rfl, _, rfl⟩⟩
    have I1 : Inv X pins σ (upd H s.heap.objs.size (.tup [.str k, .str v])) { s with heap := h'' } :=
      I.turnedNew (t' := s.toks) (ch := [it]) (fun b ob hb e => (sb.2 b (by simpa using hb)).trans (hk2 b ob (by simpa using hb) e)) hf (Nat.le_refl _) new
    refine ⟨.ref s.heap.objs.size, _, I1, rfl, ⟨_, (k, v), hkv, rfl, I.hok.fresh (Nat.le_refl _), rfl⟩, ⟨en.key, en.val, ?_⟩, fun b hb => ?_⟩
    · rw [← hl]; exact he'
    · have e : b = it := by simpa using hb
      rw [e, upd_ne (Nat.ne_of_lt hlt)]
      exact (hf it (by simp)).1
  done := by
    intro X hP hw hK hc i pins s σ H E I hf st hg
    subst hP hw hK
    obtain ⟨f0, f1, f2, f3, f4, f5⟩ := hf it (by simp)
    have hm := raw_kd D I.kIn
    have hl : es.size = kvs.length := by rw [← kdB_len hB, Array.length_toList]
    obtain ⟨ok, ov, he⟩ := st
    rw [← hl] at he
    have hg : kvs.length ≤ i := hg
    exact wpAny_pyNext_items_end_raw (I.ok.hd hc) he hm (by omega) fun h' eb => ⟨rfl, I.turned (t' := s.toks) (fun b ob hb e => eb b ob hb e) f0 f1 f3 f4 f5⟩
  self := fun A i s Q E st h => let ⟨_, _, e⟩ := st; PySem.W.kcp_self e h
def iKd (K : PySem.W.Frag) (w : World) (td : TE) : TI := fun σ H R => td σ H fun x H1 => ∃ d kvs, x = .ref d ∧ KD K w d kvs ∧ R (Kkd d kvs) H1
def iKi (K : PySem.W.Frag) (w : World) (td : TE) : TI := fun σ H R => td σ H fun x H1 => ∃ d kvs, x = .ref d ∧ KD K w d kvs ∧ R (Kki d kvs) H1
variable {tg e : Expr} {td : TE} {apos cpos : Pos}
theorem pi_kd (he : PE X e td) : PI X tg e (iKd X.K X.w td) := by
  refine ⟨fun pins s σ H R I h => ?_⟩
  refine thn (he.run pins s σ H _ I h) fun u s1 ⟨x, H1, I1, rx, d, kvs, ex, ⟨es, n, D, hB⟩, q⟩ => ?_
  subst ex
  obtain rfl : u = Value.ref d := rx
  have hl : es.size = kvs.length := by rw [← kdB_len hB, Array.length_toList]
  refine iter_keys D.low (I1.kIn _ _ D.at_) ⟨rfl, rfl, rfl⟩ rfl (pi_one (tk := s1.toks) I1 _ (turn_kd _ D hB) ⟨_, Heap.get?_push_size _ rfl, rfl, ?_⟩ q)
  rw [hl] <;> rfl
theorem pi_ki {elts : List Expr} {kk : Nat} {tpos : Pos} (he : PE X e td) (hbase : attributeBase e "items" X.env (eval e X.env) = eval e X.env := by rfl) (hline : (apos.endLine == cpos.line) = true := by rfl) :
    PI X (.Tuple elts kk tpos) (.Call (.Attribute e "items" apos) [] [] cpos) (iKi X.K X.w td) := by
  refine ⟨fun pins s σ H R I h => ?_⟩
  refine wpAny_Call_method (T := "dict") (id := "dict.items") hbase rfl hline F.plainAttrs_dict F.slot_dict_items F.type_dict_items (thn (he.run pins s σ H _ I h) fun u s1 ⟨x, H1, I1, rx, d, kvs, ex, ⟨es, n, D, hB⟩, q⟩ => ?_)
  subst ex
  obtain rfl : u = Value.ref d := rx
  have hl : es.size = kvs.length := by rw [← kdB_len hB, Array.length_toList]
  have hm := raw_kd D I1.kIn
  refine ⟨hm.typeIs, fun a ea => by cases ea; exact ⟨_, I1.kIn _ _ D.at_, rfl⟩, ?_⟩
  have I2 : Inv X pins σ H1 { s1 with heap := s1.heap.push { cls := .type "dict_items", data := .fields #[.ref d] } } := I1.kept (t' := s1.toks) fun b ob q => Heap.get?_push_of_some _ q
  have fin : wpAny (model X.prog X.w) X.A (pyIter (.ref s1.heap.objs.size)) (PIE X pins σ (.Tuple elts kk tpos) R) X.xe { s1 with heap := s1.heap.push { cls := .type "dict_items", data := .fields #[.ref d] } } := by
    refine wpAny_pyIter_items_raw (d := d) ⟨_, Heap.get?_push_size _ rfl, rfl, rfl⟩ (raw_kd D I2.kIn) (pi_one (tk := s1.toks) I2 _ (turn_ki _ D hB) ⟨.none, .none, ?_⟩ q)
    rw [← hl]
    exact Heap.get?_push_size _ rfl
  show wpAny _ _ (callWith cpos (.builtin "dict.items") [.ref d] [] []) _ X.xe s1
  exact method_meetsIn F.slot_dict_items F.entry_dict_items rfl (PySem.evalArgs_none ⟨rfl, hm.typeIs, F.args_dict_items_1 _, _, meets_dict_items_raw d D.low, ⟨es, n, hm⟩, fin⟩)
end
end Mx

namespace Mx
open PySem PySem.Spec PyProof.Rows L2

/-! ### a set of texts: set(list), sorted(set) -/
def txK (e : Int × Value) : Str := match e.2 with | .str x _ => x | _ => Str.empty
def TxE (P : Program) (w : World) (e : Int × Value) : Prop := ∃ x tk, e.2 = Value.str x tk ∧ e.1 = (strKind P w).hash x
def TxSet (P : Program) (w : World) (h : Heap) (a : Addr) (M : List Str) : Prop :=
  ∃ o es ep t, h.get? a = some o ∧ o.ExactSet ∧ o.data = .set es ep t ∧ (∀ e ∈ es.toList, TxE P w e) ∧ (es.toList.map txK).Perm M ∧ M.Nodup ∧
    es.size < scanBound ∧ t.fits es.size = true ∧ Ris t.place.toList ∧ (w.params.followText "set-order" = true ∨ t.led = true)
def ins (M : List Str) (x : Str) : List Str := if x ∈ M then M else x :: M
theorem ins_len (M : List Str) (x : Str) : (ins M x).length ≤ M.length + 1 := by
  unfold ins
  split
  · omega
  · rw [List.length_cons]; omega
section
variable {P : Program} {w : World} {h h' : Heap} {a : Addr} {M : List Str}
theorem TxSet.at (R : TxSet P w h a M) (k : ∀ o, h.get? a = some o → h'.get? a = some o) : TxSet P w h' a M := by
  obtain ⟨o, es, ep, t, ho, r⟩ := R
  exact ⟨o, es, ep, t, k o ho, r⟩
theorem tx_elems {l : List (Int × Value)} (g : ∀ e ∈ l, TxE P w e) : ElemsOf (strKind P w) l := fun e he => by
  obtain ⟨k, tk, h1, h2⟩ := g e he
  exact ⟨⟨k, by rw [h1]; exact strKind_is P w k tk, h2⟩, by rw [h1] <;> rfl⟩
theorem tx_is {e : Int × Value} (g : TxE P w e) (k : Str) : (strKind P w).is k e.2 = true ↔ txK e = k := by
  obtain ⟨k0, tk, h1, _⟩ := g
  unfold txK
  rw [h1]
  show ((k0 == k) = true) ↔ k0 = k
  exact beq_iff_eq
theorem tx_mem {l : List (Int × Value)} (g : ∀ e ∈ l, TxE P w e) (k : Str) : k ∈ l.map txK ↔ ∃ e ∈ l, (strKind P w).is k e.2 = true := by
  rw [List.mem_map]
  constructor
  · rintro ⟨e, he, q⟩
    exact ⟨e, he, (tx_is (g e he) k).2 q⟩
  · rintro ⟨e, he, q⟩
    exact ⟨e, he, (tx_is (g e he) k).1 q⟩
end
section
variable {P : Program} {w : World} {A : Around} {E : Value → Shared → Prop} {s : Shared} {a : Addr} {M : List Str}
theorem tx_tail {g : Bool → Sem Unit} (hg : ∀ (b : Bool) (s₁ : Shared) (Q' : Unit → Shared → Prop), Q' () s₁ → wpAny (model P w) A (g b) Q' E s₁)
    {o : Obj} {es : Array (Int × Value)} {ep : Nat} {t : SetTable} (ho : s.heap.get? a = some o) (hex : o.ExactSet) (hd : o.data = .set es ep t)
    {es1 : Array (Int × Value)} {t2 : SetTable} {M' : List Str} (g1 : ∀ e ∈ es1.toList, TxE P w e) (pm1 : (es1.toList.map txK).Perm M') (nd1 : M'.Nodup)
    (hb1 : es1.size < scanBound) (hf2 : t2.fits es1.size = true) (hr : Ris t2.place.toList) (hl : w.params.followText "set-order" = true ∨ t2.led = true) {wasDummy : Bool} {R : Option Bool → Shared → Prop}
    (hR : ∀ h', Heap.SameBut a s.heap h' → TxSet P w h' a M' → R (some true) { s with heap := h' }) :
    wpAny (model P w) A (do
        storeSet a es1 t2
        if (!wasDummy && t2.tooFull) = true then do
            g (relayAll t2 es1 (SetTable.grown es1.size)).2.2
            storeSet a (relayAll t2 es1 (SetTable.grown es1.size)).1 (relayAll t2 es1 (SetTable.grown es1.size)).2.1
            pure (some true)
          else pure (some true)) R E s := by
  refine wpAny_bind (wpAny_storeSet_of ho hd ?_ (fits_of_scanBound hb1))
  have ho1 := store_at (es' := es1) (t' := t2) ho hd
  have sb1 := Heap.SameBut.update s.heap a (Obj.putSet es1 t2)
  split
  · have pm := relayAll_perm t2 es1 (SetTable.grown es1.size)
    have hf3 := relayAll_fits t2 es1 (SetTable.grown es1.size)
    have hr3 := relayAll_ris t2 es1 (SetTable.grown es1.size)
    have hl3 := relayAll_led t2 es1 (SetTable.grown es1.size)
    generalize relayAll t2 es1 (SetTable.grown es1.size) = Z at pm hf3 hr3 hl3 ⊢
    obtain ⟨es2, t3, gave⟩ := Z
    dsimp only at pm hf3 hr3 hl3 ⊢
    have hsz : es2.size = es1.size := by rw [← Array.length_toList, pm.length_eq, Array.length_toList]
    have hb2 : es2.size < scanBound := by rw [hsz]; exact hb1
    refine wpAny_bind (hg _ _ _ ?_)
    refine wpAny_bind (wpAny_storeSet_of ho1 rfl ?_ (fits_of_scanBound hb2))
    have ho2 := store_at (es' := es2) (t' := t3) ho1 rfl
    refine wpAny_pure (hR _ (sb1.trans (Heap.SameBut.update _ a _)) ?_)
    exact ⟨_, es2, _, t3, ho2, hex, rfl, fun e he => g1 e (pm.mem_iff.mp he), (pm.map txK).trans pm1, nd1, hb2, hf3, hr3, hl.imp id fun z => by rw [hl3]; exact z⟩
  · exact wpAny_pure (hR _ sb1 ⟨_, es1, _, t2, ho1, hex, rfl, g1, pm1, nd1, hb1, hf2, hr, hl⟩)
theorem tx_add {k : Str} {tk : Tok} {Q : Bool → Shared → Prop} (R : TxSet P w s.heap a M) (room : M.length + 1 < scanBound)
    (hQ : ∀ h' b, Heap.SameBut a s.heap h' → TxSet P w h' a (ins M k) → Q b { s with heap := h' }) :
    wpAny (model P w) A (setAddHashed a (.str k tk) ((strKind P w).hash k)) Q E s := by
  obtain ⟨o, es, ep, t, ho, hex, hd, g, pmM, nd, hb, hf, hr, hl⟩ := R
  have hkey : (strKind P w).is k (.str k tk) = true := strKind_is P w k tk
  have hsc : (Value.str k tk).scannable = true := rfl
  have hel : ElemsOf (strKind P w) es.toList := tx_elems g
  unfold setAddHashed setAddHashedIn
  refine wpAny_holding (wpAny_bind (wpAny_setState_of ho hd hf ?_))
  dsimp only
  rw [byScan_of hsc hb hel]
  simp only [↓reduceIte]
  unfold setAddByScan
  refine wpAny_bind ?_
  refine wpAny_bind (wpAny_rule ?_)
  refine wpAny_bind (wpAny_setScan_of hkey ho hd hf hel ?_)
  cases hfi : List.findIdx? (fun e => (strKind P w).is k e.2) es.toList with
  | some j =>
    dsimp only
    obtain ⟨hj, pj, _⟩ := List.findIdx?_eq_some_iff_getElem.mp hfi
    have hkM : k ∈ M := pmM.mem_iff.mp ((tx_mem (P := P) (w := w) g k).2 ⟨es.toList[j], List.getElem_mem hj, pj⟩)
    refine wpAny_pure (wpAny_pure ?_)
    exact hQ s.heap _ (Heap.SameBut.refl a s.heap) ⟨o, es, ep, t, ho, hex, hd, g, by unfold ins; rw [if_pos hkM]; exact pmM, by unfold ins; rw [if_pos hkM]; exact nd, hb, hf, hr, hl⟩
  | none =>
    dsimp only
    have hnk : k ∉ es.toList.map txK := fun z => by
      obtain ⟨e, he, q⟩ := (tx_mem (P := P) (w := w) g k).1 z
      have c := List.findIdx?_eq_none_iff.mp hfi e he
      rw [q] at c
      cases c
    have hkM : k ∉ M := fun z => hnk (pmM.mem_iff.mpr z)
    have eM : ins M k = k :: M := by unfold ins; rw [if_neg hkM]
    have hgw : ∀ (b : Bool) {s₁ : Shared} {Q' : Unit → Shared → Prop}, Q' () s₁ → wpAny (model P w) A (match b with | true => rule "set.scan.the-table-gave-way" | false => pure ()) Q' E s₁ :=
      fun b s₁ Q' q => by cases b <;> first | exact wpAny_pure q | exact wpAny_rule q
    have pm := layNew_perm t es ((strKind P w).hash k) (.str k tk)
    have hf1 := layNew_fits t es ((strKind P w).hash k) (.str k tk)
    have hr1 := layNew_ris t es ((strKind P w).hash k) (.str k tk) hr
    have hl1 := layNew_led t es ((strKind P w).hash k) (.str k tk)
    generalize layNew t es ((strKind P w).hash k) (.str k tk) = Z at pm hf1 hr1 hl1 ⊢
    obtain ⟨es1, t1, wasDummy, gave⟩ := Z
    dsimp only at pm hf1 hr1 hl1 ⊢
    rw [Array.toList_push] at pm
    have pc : es1.toList.Perm (((strKind P w).hash k, Value.str k tk) :: es.toList) := pm.trans (List.perm_append_singleton _ _)
    have pk : (es1.toList.map txK).Perm (k :: es.toList.map txK) := pc.map txK
    have g1 : ∀ e ∈ es1.toList, TxE P w e := fun e he => by
      rcases List.mem_cons.mp (pc.mem_iff.mp he) with z | z
      · rw [z]; exact ⟨k, tk, rfl, rfl⟩
      · exact g e z
    have pm1 : (es1.toList.map txK).Perm (k :: M) := pk.trans (List.Perm.cons _ pmM)
    have nd1 : (k :: M).Nodup := List.nodup_cons.mpr ⟨hkM, nd⟩
    have hsz : es1.size = M.length + 1 := by
      have q := pm1.length_eq
      rw [List.length_map, Array.length_toList, List.length_cons] at q
      exact q
    have hb1 : es1.size < scanBound := by rw [hsz]; exact room
    have hled : w.params.followText "set-order" = true ∨ t1.led = true := hl.imp id fun z => by rw [hl1]; exact z
    have fin : ∀ h', Heap.SameBut a s.heap h' → TxSet P w h' a (k :: M) → Q true { s with heap := h' } := fun h' sb r => hQ h' _ sb (by rw [eM]; exact r)
    refine wpAny_bind (hgw _ ?_)
    split
    · refine wpAny_bind ?_
      rw [hashByValue_scannable 8 hsc]
      refine wpAny_pure ?_
      refine tx_tail ?_ ho hex hd g1 pm1 nd1 hb1 ?_ ?_ ?_ ?_
      · intro b s₁ Q' q; cases b <;> first | exact wpAny_pure q | exact wpAny_rule q
      · first | (split <;> first | exact hf1 | exact SetTable.fits_plain_off hf1) | exact hf1 | exact SetTable.fits_plain_off hf1
      · first | (split <;> exact hr1) | exact hr1
      · first | (split <;> exact hled) | exact hled
      · intro h' sb r; dsimp only; exact wpAny_pure (fin h' sb r)
    · refine wpAny_bind (wpAny_pure ?_)
      simp only [↓reduceIte]
      refine tx_tail ?_ ho hex hd g1 pm1 nd1 hb1 hf1 hr1 hled ?_
      · intro b s₁ Q' q; cases b <;> first | exact wpAny_pure q | exact wpAny_rule q
      · intro h' sb r; dsimp only; exact wpAny_pure (fin h' sb r)
theorem tx_fresh {h : Heap} {a : Addr} (ho : h.get? a = some { cls := .type "set", dict := none, data := .set #[] 0 (.fresh 0 0 (!w.params.followText "set-order")) }) : TxSet P w h a [] :=
  ⟨_, #[], 0, _, ho, ⟨rfl, rfl, rfl⟩, rfl, (fun e he => by simp at he), (by simp), (by simp), (by decide), (by rfl), List.Pairwise.nil, by
    show _ ∨ (!w.params.followText "set-order") = true
    cases w.params.followText "set-order"
    · exact .inr rfl
    · exact .inl rfl⟩
theorem fold_len (xs M : List Str) : (xs.foldl ins M).length ≤ M.length + xs.length := by
  induction xs generalizing M with
  | nil => exact Nat.le_refl _
  | cons x r ih =>
    have q := ih (ins M x)
    have q2 := ins_len M x
    rw [List.foldl_cons, List.length_cons]
    omega
/-- set.update over a walk of texts -/
theorem tx_update {I : Addr} {fp wr : List Addr} {G : Array GenState → Array GenState → Prop} {n : Nat} {Pv : Nat → Value → Prop} {St : Nat → Shared → Prop} {R : Result → Shared → Prop}
    (W : WalksS P w A.in1 I fp wr G n Pv St) (S : Addr) (hSf : S ∉ fp) (xs : List Str) (hn : n = xs.length) (hb : xs.length + 1 < scanBound) (hval : ∀ i v, Pv i v → ∃ k t, xs[i]? = some k ∧ v = .str k t) :
    ∀ (k i : Nat) (s : Shared), n - i = k → i ≤ n → St i s → TxSet P w s.heap S ((xs.take i).foldl ins []) →
      (∀ s', Moved (S :: wr) G s s' → TxSet P w s'.heap S (xs.foldl ins []) → R (.ok (.ret .none)) s') →
      codeAny (model P w) A (.builtin "set.update.loop" ⟨[.ref S, .ref I], []⟩) R s := by
  have hSw : S ∉ wr := fun z => hSf (W.sub _ z)
  have hsub : ∀ b ∈ wr, b ∈ S :: wr := fun b z => List.mem_cons_of_mem _ z
  intro k
  induction k with
  | zero =>
    intro i s hk' hi hst hS hR
    have hin : i = n := by omega
    subst hin
    refine codeAny_builtin F.entry_set_update_loop ?_
    rw [Around.under_plainId F.plain_set_update_loop _]
    show wpAny _ A.in1 (pyNext (.ref I) >>= _) _ _ s
    refine wpAny_bind (W.done s _ _ hst fun s' hm => ?_)
    show wpAny _ A.in1 (ret Value.none) _ _ s'
    have e : xs.take i = xs := List.take_of_length_le (by omega)
    rw [e] at hS
    exact wpAny_pure (hR s' (hm.mono hsub) (hS.at fun o e => hm.heap S o hSw e))
  | succ k ih =>
    intro i s hk hi hst hS hR
    have hlt : i < n := by omega
    refine codeAny_builtin F.entry_set_update_loop ?_
    rw [Around.under_plainId F.plain_set_update_loop _]
    show wpAny _ A.in1 (pyNext (.ref I) >>= _) _ _ s
    refine wpAny_bind (W.item i s _ _ hlt hst fun v s' hP hst' hm => ?_)
    obtain ⟨x, tk, hx, rfl⟩ := hval i v hP
    have hS' : TxSet P w s'.heap S ((xs.take i).foldl ins []) := hS.at fun o e => hm.heap S o hSw e
    have ml := fold_len (xs.take i) []
    have tl2 : (xs.take i).length ≤ xs.length := by rw [List.length_take]; omega
    show wpAny _ A.in1 (holding [Value.str x tk] (setAdd S (.str x tk)) >>= _) _ _ s'
    refine wpAny_bind (wpAny_holding ?_)
    unfold setAdd
    refine wpAny_holding ?_
    refine wpAny_bind ((strKind P w).pyHash (k := x) (strKind_is _ _ _ _) ?_)
    refine tx_add (s := { s' with toks := s'.toks + 1 }) hS' (by simp only [List.length_nil] at ml; omega) fun h' b hsb hS2 => ?_
    have hSi : TxSet P w h' S ((xs.take (i + 1)).foldl ins []) := by
      rw [List.take_add_one, hx, List.foldl_append]
      exact hS2
    refine wpAny_pure ⟨plainId_quiet F.plain_set_update_loop _, ih (i + 1) _ (by omega) hlt (W.frame _ s' _ _ hst' (Nat.le_succ _) fun b hb o e => ?_) hSi fun s'' hm'' hS'' => ?_⟩
    · rw [hsb.2 b (fun z : b = S => hSf (by rw [← z]; exact hb))]; exact e
    · refine hR s'' (Moved.trans W.gtrans ((hm.mono hsub).then_heap (Nat.le_succ _) fun b o hb e => ?_) hm'') hS''
      rw [hsb.2 b (fun z : b = S => hb (by rw [z]; exact List.mem_cons_self))]; exact e
set_option maxHeartbeats 6400000 in
theorem tx_of_list {l : Addr} {items : Array Value} {xs : List Str} {Q : Value → Shared → Prop} (hh : A.handled = none) (hl : s.heap.IsList l items) (hi : StrsAre items.toList xs) (hb : xs.length + 1 < scanBound)
    (h : ∀ (h' : Heap) (tk : Nat), TxSet P w h' s.heap.objs.size (xs.foldl ins []) → (∀ b o, s.heap.get? b = some o → h'.get? b = some o) → Q (.ref s.heap.objs.size) { s with heap := h', toks := tk }) :
    wpAny (model P w) A (call (.type "set") [.ref l]) Q E s := by
  have hisz : items.size = xs.length := by rw [← StrsAre.len_eq hi, Array.length_toList]
  obtain ⟨c, tl, hmro⟩ := F.called_set.mro
  have hmade := F.called_set.made
  have hsub := F.called_set.sub
  refine wpAny_call (codeAny_of_tree ?_)
  show wpAny _ _ (callAny (.type "set") _) _ _ _
  refine wpAny_pure ⟨Code.quiet_builtin _ (by decide +kernel), codeAny_builtin F.entry_type_call ?_⟩
  rw [Around.under_plain (weight_type_call_type "set" [.ref l] []) rfl]
  have h1 := F.called_set.notType
  have h2 := F.called_set.canCreate
  have hct := F.typeCall_set_1 (.ref l)
  repeat (any_goals (first | assumption | wp_step))
  refine codeAny_mono (code_set_led1 (.ref l) (E := E) (Q₁ := fun obj s₁ => obj = .ref s.heap.objs.size ∧ s₁ = { s with heap := s.heap.push { cls := .type "set", dict := none, data := .set #[] 0 (.fresh 0 0 (!w.params.followText "set-order")) } }) ⟨rfl, rfl⟩) fun r s₁ hr => ?_
  cases r with
  | error e => exact hr
  | ok fl =>
    cases fl with
    | ret obj =>
      obtain ⟨rfl, rfl⟩ := hr
      have hS : (s.heap.push { cls := .type "set", dict := none, data := .set #[] 0 (.fresh 0 0 (!w.params.followText "set-order")) }).get? s.heap.objs.size = some { cls := .type "set", dict := none, data := .set #[] 0 (.fresh 0 0 (!w.params.followText "set-order")) } := Heap.get?_push_size _ rfl
      have hT : Shared.TypeIs { s with heap := s.heap.push { cls := .type "set", dict := none, data := .set #[] 0 (.fresh 0 0 (!w.params.followText "set-order")) } } (.ref s.heap.objs.size) "set" := ⟨_, hS, rfl⟩
      have hli := F.called_set.init.lookup
      have hbi := F.called_set.init.bind (.ref s.heap.objs.size)
      repeat (any_goals (first | assumption | wp_step))
      refine codeAny_mono (codeAny_call_builtin (R := wants (fun r s₂ => r = .none ∧ ∃ h' tk, s₂ = { s with heap := h', toks := tk } ∧ TxSet P w h' s.heap.objs.size (xs.foldl ins []) ∧
          (∀ b o, s.heap.get? b = some o → h'.get? b = some o)) E) F.called_set.init.plain F.entry_set_init (check_set_init_1 hT ?_)) fun r₂ s₂ hr₂ => ?_
      · obtain ⟨ol, hol, hcl, nl, hdl⟩ := hl
        obtain ⟨ocls, odict, odata, oslots⟩ := ol
        simp only at hcl hdl
        subst hcl; subst hdl
        have hol' : (s.heap.push { cls := .type "set", dict := none, data := .set #[] 0 (.fresh 0 0 (!w.params.followText "set-order")) }).get? l = some { cls := .type "list", dict := odict, data := .seq items nl, slots := oslots } := Heap.get?_push_of_some _ hol
        have hsls := F.sub_list_set
        have hslf := F.sub_list_frozenset
        have hne : (Value.type "list" == Value.type "dict") = false := by decide
        have hl1 : (s.heap.push { cls := .type "set", dict := none, data := .set #[] 0 (.fresh 0 0 (!w.params.followText "set-order")) }).IsList l items := ⟨_, hol', rfl, nl, rfl⟩
        unfold Builtin.«set.__init__» noKeywords Builtin.Frozenset.updateFrom
        generalize hPI : pyIter = PI
        wp_walk
        subst hPI
        refine wpAny_pyIter_list hl1 ?_
        refine wpAny_bind (wpAny_runValue ?_)
        have hlS : l < s.heap.objs.size := Heap.lt_size hol
        have hh3 : A.in1.in1.in1.handled = none := by simp [hh]
        have hneI : l ≠ (s.heap.push { cls := .type "set", dict := none, data := .set #[] 0 (.fresh 0 0 (!w.params.followText "set-order")) }).objs.size := by
          rw [Heap.size_push]; exact Nat.ne_of_lt (Nat.lt_succ_of_lt hlS)
        have hSf : s.heap.objs.size ∉ [(s.heap.push { cls := .type "set", dict := none, data := .set #[] 0 (.fresh 0 0 (!w.params.followText "set-order")) }).objs.size, l] := by
          rw [Heap.size_push]; simp only [List.mem_cons, List.mem_singleton, List.not_mem_nil, or_false, not_or]
          exact ⟨Nat.ne_of_lt (Nat.lt_succ_self _), Nat.ne_of_gt hlS⟩
        have hval : ∀ (i : Nat) (v : Value), items[i]? = some v → ∃ k t, xs[i]? = some k ∧ v = .str k t := fun i v hv => by
          have hi2 : i < xs.length := by rw [← hisz]; exact (Array.getElem?_eq_some_iff.mp hv).1
          obtain ⟨t, e⟩ := SS.strs_at hi i v (by rw [Array.getElem?_toList]; exact hv)
          refine ⟨xs[i], t, List.getElem?_eq_getElem hi2, ?_⟩
          rw [e, List.getD_eq_getElem?_getD, List.getElem?_eq_getElem hi2] <;> rfl
        refine tx_update ((Walks.list hh3 _ l hneI items).toS) s.heap.objs.size
          hSf xs hisz hb hval (items.size - 0) 0 _ (by omega) (Nat.zero_le _)
          ⟨⟨_, Heap.get?_push_size _ rfl, rfl, rfl⟩, (hl1.push _)⟩ ?hS0 ?hR
        case hS0 => exact tx_fresh (Heap.get?_push_of_some _ hS)
        case hR =>
          intro s' hm hS'
          obtain ⟨h', g', d', tk', os'⟩ := s'
          have eg : g' = s.gens := hm.gens
          have ed : d' = s.drawn := hm.drawn
          have eo : os' = s.os := hm.os
          subst eg; subst ed; subst eo
          show wpAny _ _ _ _ _ _
          refine wpAny_pure ?_
          show wpAny _ _ (ret Value.none) _ _ _
          refine wpAny_pure ⟨rfl, h', tk', rfl, hS', fun b o e => ?_⟩
          have hb0 : b < s.heap.objs.size := Heap.lt_size e
          have hb1 : b ≠ s.heap.objs.size := Nat.ne_of_lt hb0
          have hb2 : b ≠ (s.heap.push { cls := .type "set", dict := none, data := .set #[] 0 (.fresh 0 0 (!w.params.followText "set-order")) }).objs.size := by
            rw [Heap.size_push]; exact Nat.ne_of_lt (Nat.lt_succ_of_lt hb0)
          exact hm.heap b o (by simp only [List.mem_cons, List.mem_singleton, List.not_mem_nil, or_false, not_or]; exact ⟨hb1, hb2⟩) (Heap.get?_push_of_some _ (Heap.get?_push_of_some _ e))
      · cases r₂ with
        | error e => exact hr₂
        | ok fl₂ =>
          cases fl₂ with
          | ret r =>
            obtain ⟨rfl, h', tk, rfl, hS', hk'⟩ := hr₂
            repeat (any_goals (first | assumption | wp_step))
            exact h _ _ hS' hk'
          | _ => exact hr₂.elim
    | _ => exact hr.elim
theorem strs_mem : ∀ {us : List Value}, (∀ u ∈ us, ∃ k tk, u = Value.str k tk) → ∃ ys, StrsAre us ys
  | [], _ => ⟨[], .nil⟩
  | u :: us, g => by
    obtain ⟨k, tk, rfl⟩ := g u List.mem_cons_self
    obtain ⟨ys, r⟩ := strs_mem fun v hv => g v (List.mem_cons_of_mem _ hv)
    exact ⟨k :: ys, .cons k tk r⟩
theorem strs_txK : ∀ {us : List Value} {ys : List Str}, StrsAre us ys → us.map (fun u => txK (0, u)) = ys
  | _, _, .nil => rfl
  | _, _, .cons y t r => by rw [List.map_cons, strs_txK r] <;> rfl
theorem sorted_tx {Q : Value → Shared → Prop} (R : TxSet P w s.heap a M) (hh : A.handled = none) (h64 : M.length < 64)
    (hQ : ∀ s' p (out : Array Value) (c : Nat) (ys : List Str), (∀ b o, s.heap.get? b = some o → s'.heap.get? b = some o) → s'.gens = s.gens → s'.os = s.os → s.heap.objs.size ≤ p →
      s'.heap.get? p = some (seqObj "list" out c) → StrsAre out.toList ys → ys.Perm M → sortedS ys = true → Q (.ref p) s') :
    wpAny (model P w) A (call (.builtin "sorted") [.ref a]) Q E s := by
  obtain ⟨o, es, ep, t, ho, hex, hd, g, pmM, nd, hb, hf, hr, hl⟩ := R
  refine Calls.call_function_entry kind_sorted plain_sorted entry_sorted (args_sorted1 _) ?_
  unfold Builtin.«sorted»
  refine wpAny_bind (m := checkCount "sorted" 1 1 _) (wpAny_pure ?_)
  refine wpAny_bind (collect_set (A := A.in1) hh ⟨o, ho, hex.1, hd⟩ hf hb hr hl fun s1 vs k1 hz g1 o1 pm => ?_)
  have hvl : vs.length = M.length := by rw [pm.length_eq, List.length_map, ← pmM.length_eq, List.length_map]
  obtain ⟨zs, hI⟩ := strs_mem (us := vs) fun v hv => by
    obtain ⟨e, he, q⟩ := List.mem_map.mp (pm.mem_iff.mp hv)
    obtain ⟨k, tk, h1, _⟩ := g e he
    exact ⟨k, tk, by rw [← q]; exact h1⟩
  have pz : zs.Perm M := by
    have q := pm.map fun u => txK (0, u)
    rw [strs_txK hI, List.map_map] at q
    have e : (fun u => txK (0, u)) ∘ (fun x : Int × Value => x.2) = txK := by
      funext x
      rfl
    rw [e] at q
    exact q.trans pmM
  refine wpAny_bind (wpAny_newList ?_ (by rw [hvl, sizeLine_eq]; omega))
  have hoL : (s1.heap.push (seqObj "list" vs.toArray 0)).get? s1.heap.objs.size = some (seqObj "list" vs.toArray 0) := Heap.get?_push_size _ rfl
  refine wpAny_bind (wpAny_holding (wpAny_call_entry slot_list_sort ⟨_, hoL, rfl⟩ entry_list_sort (list_sort_treeK strKind_oneLt hoL hI.keysOf (fun v₁ v₂ rest e => keyKind_strs (by rw [← e]; exact hI)) (by rw [hvl]; exact h64) fun st' hp hs => ⟨_, rfl, ?_⟩) (args_list_sort _)))
  obtain ⟨ys, a1, a2, a3⟩ := sorted_out_str hI hp hs
  generalize (arrOf st').map (·.2) = out at a1 ⊢
  obtain ⟨c, hc⟩ := sortedHeap_at (vs := vs) (out := out) hoL
  refine wpAny_pure ⟨_, rfl, hQ _ s1.heap.objs.size out c ys (fun b u e => ?_) g1 o1 hz hc a1 (a2.trans pz) a3⟩
  have q := k1 b u e
  have hlt := Heap.lt_size q
  show (sortedHeap (s1.heap.push (seqObj "list" vs.toArray 0)) s1.heap.objs.size vs out).get? b = some u
  rw [sortedHeap_old (Nat.ne_of_lt hlt) (by rw [size_push']; exact Nat.lt_succ_of_lt hlt)]
  exact Heap.get?_push_of_some _ q
end
/-! the rules -/
def TxSO (P : Program) (w : World) (a : Addr) (M : List Str) : HO := .ext fun h => TxSet P w h a M
theorem txSO_new {P : Program} {w : World} {H : Hp} {h : Heap} {a : Addr} {M : List Str} (R : TxSet P w h a M) : ObjOk P w H h a (TxSO P w a M) := by
  have ⟨o, _, _, _, ho, _⟩ := R
  exact ⟨R, ⟨o, ho⟩, fun h1 h2 p k => TxSet.at p k⟩
section
variable {X : Cx}
def rSetOfS (K : PySem.W.Frag) (P : Program) (w : World) : List V → Hp → VK → Prop := fun vs H Q => ∃ (l : Addr) (xs : List Str), vs = [V.ref l] ∧ SqL K H l (xs.map V.str) ∧ xs.length < 64 ∧ ∀ a, H a = none → Q (.ref a) (upd H a (TxSO P w a (xs.foldl ins [])))
theorem cr_setOfS (hc : X.calm = true) : CallR X (.type "set") (rSetOfS X.K X.prog X.w) := by
  intro pins s σ H vs us Q I r h
  obtain ⟨l, xs, rfl, hl, hf, q⟩ := h
  rw [Vals.ref1 r]
  obtain ⟨its, rv, pl, hz⟩ := I.list hl
  have hn : H s.heap.objs.size = none := I.hok.fresh (Nat.le_refl _)
  refine tx_of_list (P := X.prog) (w := X.w) (xs := xs) (I.ok.hd hc) pl.isList (by simpa using rv.strs) (by unfold scanBound; omega) fun h' tk R k => ?_
  exact ⟨.ref s.heap.objs.size, upd H s.heap.objs.size (TxSO X.prog X.w s.heap.objs.size (xs.foldl ins [])), I.laid (t' := tk) k (Nat.le_refl _) (txSO_new R), rfl, q _ hn⟩
def rSortedTx (P : Program) (w : World) : List V → Hp → VK → Prop := fun vs H Q => ∃ (a : Addr) (M : List Str), vs = [V.ref a] ∧ H a = some (TxSO P w a M) ∧ M.length < 64 ∧ ∀ (ys : List Str) (p : Addr), ys.Perm M → sortedS ys = true → H p = none → Q (.ref p) (upd H p (.lst (ys.map V.str)))
theorem cr_sortedTx (hc : X.calm = true) : CallR X (.builtin "sorted") (rSortedTx X.prog X.w) := by
  intro pins s σ H vs us Q I r h
  obtain ⟨a, M, rfl, ha, h64, q⟩ := h
  have R : TxSet X.prog X.w s.heap a M := (I.hok a _ ha).1
  rw [Vals.ref1 r]
  refine sorted_tx R (I.ok.hd hc) h64 fun s' p out c ys k g o hp hg hi pm st => ?_
  have hlen : (ys.map V.str).length ≤ sizeLine := by rw [List.length_map, pm.length_eq, sizeLine_eq]; omega
  have hn : H p = none := I.hok.fresh hp
  have J : Inv X pins σ (upd H p (.lst (ys.map V.str))) { s with heap := s'.heap, gens := s'.gens, drawn := s'.drawn, toks := s'.toks } :=
    I.call (ch := []) (Un.laid k hp hn) (I.hok.laid k hp ⟨hlen, out.toList, c, vals_of_strs hi, hg⟩) (by rw [g]; exact I.bare) (fun _ z => nomatch z)
  have e : s' = { s with heap := s'.heap, gens := s'.gens, drawn := s'.drawn, toks := s'.toks } := by
    cases s'
    cases s
    cases o
    rfl
  rw [e]
  exact ⟨.ref p, _, J, rfl, q ys p pm st hn⟩
end
end Mx

namespace Gx
open PySem PySem.Spec PyProof.Rows L2 GenW
/-! ### the judgements of a generator's body, their readings spelled in the body's own context -/
section
variable {C : GX} {S : GSpec} {st : Stmt} {ds : Shared}
abbrev XP := List (Addr × Obj)
def dH : Hp := fun _ => none
def dS : Shared := {}
theorem g_psX {t : XP → Shared → Hp → XK → TS} (h : ∀ (xp : XP) (s0 : Shared) (H0 : Hp) (E : XK), PS (C.X xp s0 H0 E) st (t xp s0 H0 E)) (e : ∀ xp s0 H0 E, t xp s0 H0 E = t [] dS dH E := by intros; rfl) : GSt C S st (tPl (t [] dS dH)) :=
  g_ps fun xp s0 H0 E => by rw [← e xp s0 H0 E]; exact h xp s0 H0 E
theorem g_ifX {c : Expr} {a b : List Stmt} {pos : Pos} {tc : XP → Shared → Hp → XK → TT} {t u : TG2 S.τ} (hc : ∀ (xp : XP) (s0 : Shared) (H0 : Hp) (E : XK), PT (C.X xp s0 H0 E) c (tc xp s0 H0 E)) (ha : GSts C S a t) (hb : GSts C S b u)
    (e : ∀ xp s0 H0 E, tc xp s0 H0 E = tc [] dS dH E := by intros; rfl) : GSt C S (.If c a b pos) (tIf2 (tc [] dS dH) t u) :=
  g_if (fun xp s0 H0 E => by rw [← e xp s0 H0 E]; exact hc xp s0 H0 E) ha hb
theorem g_whileX {test : Expr} {body : List Stmt} {pos : Pos} {tc : XP → Shared → Hp → XK → TT} {tb : TG2 S.τ} (hc : ∀ (xp : XP) (s0 : Shared) (H0 : Hp) (E : XK), PT (C.X xp s0 H0 E) test (tc xp s0 H0 E)) (hb : GSts C S body tb)
    (e : ∀ xp s0 H0 E, tc xp s0 H0 E = tc [] dS dH E := by intros; rfl) : GSt C S (.While test body [] pos) (tWh2 (tc [] dS dH) tb) :=
  g_while (fun xp s0 H0 E => by rw [← e xp s0 H0 E]; exact hc xp s0 H0 E) hb
theorem g_yieldX {e : Expr} {yp pos : Pos} {te : XP → Shared → Hp → XK → TE} (nc : C.env.cells = []) (he : ∀ (xp : XP) (s0 : Shared) (H0 : Hp) (E : XK), PE (C.X xp s0 H0 E) e (te xp s0 H0 E)) (hco : C.scope.isCoroutine = false)
    (q : ∀ xp s0 H0 E, te xp s0 H0 E = te [] dS dH E := by intros; rfl) (hin : interactive C.env = false := by rfl) : GSt C S (.Expr (.Yield (some e) yp) pos) (tYd S (te [] dS dH)) :=
  g_yield nc (fun xp s0 H0 E => by rw [← q xp s0 H0 E]; exact he xp s0 H0 E) hco hin
end
end Gx

namespace Mx
open PySem PySem.Spec PyProof.Rows L2
/-! ### a method that begins with super().m(x) -/
/-- its context: the cell of its class is older than the call -/
def cxC (CX : CXT) (P : Program) (w : World) (K : PySem.W.Frag) (mg : Str → Option Value) (base : Heap) (N : List Str) (qual : Str) (scope : Scope) (f : Addr) (cd : Value) (cc : Addr) (A : Around) (outer : List Env) (s : Shared) (H : Hp) (E : XK) : Cx where
  prog := P
  w := w
  K := K
  mg := mg
  base := base
  A := A.deeper (PySem.W.ksEnv qual scope s.heap.objs.size f cd cc)
  N := N
  s_0 := s
  H_0 := H
  env := PySem.W.ksEnv qual scope s.heap.objs.size f cd cc
  outer := outer
  stack := PySem.W.ksEnv qual scope s.heap.objs.size f cd cc :: outer
  ex := []
  calm := true
  fn := fun x => !(x == ("__class__" : Str))
  pn := []
  xe := fun e s' => wpAny (model P w) (A.deeper (PySem.W.ksEnv qual scope s.heap.objs.size f cd cc)) (leaving (PySem.W.ksEnv qual scope s.heap.objs.size f cd cc) e) (fun _ s'' => CX outer H s E e s'') (fun e' s'' => CX outer H s E e' s'') s'
structure SupScope (N P : List Str) (sc : Scope) : Prop where
  kind : sc.kind = .function
  co : sc.isCoroutine = false
  gen : sc.isGenerator = false
  nd : N.Nodup
  pre : N.take P.length = P
  par : ∀ x ∈ P, sc.names.lookup x = some .local
  nocell : ∀ y ∈ sc.names, y.2 ≠ .cell
  free : ∀ y ∈ sc.names, y.2 = .free → y.1 = "__class__"
  cl : sc.names.lookup ("__class__" : Str) = some .free
  sup : sc.names.lookup ("super" : Str) = some .globalImplicit
theorem inv_startC {CX : CXT} {P : Program} {w : World} {K : PySem.W.Frag} {mg : Str → Option Value} {base : Heap} {N ps : List Str} {qual : Str} {scope : Scope} {f cc : Addr} {cd : Value} {A : Around} {outer : List Env} {s : Shared} {h₀ : Heap} {H : Hp} {E : XK} {us : List Value} {vs : List V} {t' : Nat} {ocl : Obj} {vc : Option Value}
    (S : SupScope N ps scope) (hd : A.handled = none) (e0 : Env0 P w K mg base A outer s H) (hl : vs.length = ps.length) (r : Vals vs us) (hcc : K.lookup cc = some ocl) (hcd : ocl.data = .cell vc)
    (hns : h₀.Ns s.heap.objs.size (fun x => (ps.zip us).reverse.lookup x)) (hk : ∀ b o, s.heap.get? b = some o → h₀.get? b = some o) :
    Inv (cxC CX P w K mg base N qual scope f cd cc A outer s H E) [] (start N vs) H { s with heap := h₀, toks := t' } := by
  have hpl : ps.length ≤ N.length := by have := congrArg List.length S.pre; rw [List.length_take] at this; omega
  have noA : ∀ b : Addr, b ∉ (cxC CX P w K mg base N qual scope f cd cc A outer s H E).ex := fun b z => absurd (show b ∈ ([] : List Addr) from z) (by simp)
  have hb : base.get? cc = some ocl := e0.mod.kin _ _ hcc
  have cell1 : ∀ x c, (cxC CX P w K mg base N qual scope f cd cc A outer s H E).env.cells.lookup x = some c → x = "__class__" ∧ c = cc := fun x c h => by
    have h : ([(("__class__" : Str), cc)] : List (Str × Addr)).lookup x = some c := h
    rw [List.lookup_cons] at h
    cases q : (x == ("__class__" : Str)) with
    | true =>
      rw [q] at h
      exact ⟨eq_of_beq q, (Option.some.inj h).symm⟩
    | false =>
      rw [q] at h
      cases h
  refine ⟨⟨e0.mod, S.kind, rfl, rfl, Nat.le_refl _, fun y z c h1 h2 => ?_, fun y hy => ?_, fun y c hy h => ?_, fun _ => hd, Around.frames_deeper e0.frames, .inr ⟨rfl, rfl⟩, fun b z => absurd z (noA b), e0.bs, e0.bsz, fun b _ _ => noA b, fun b z => absurd z (noA b), e0.funs, e0.frf⟩,
    rfl, e0.bare, Un.kept hk, ⟨_, hns, fun i y v h1 h2 h3 => ?_⟩, fun y c h => ?_, e0.hok.fresh (Nat.le_refl _), fun y c h => ?_, fun p hp => absurd (show p ∈ ([] : List (Addr × Obj)) from hp) (by simp), e0.hok.kept hk, ?_⟩
  · rw [(cell1 _ _ h1).1, (cell1 _ _ h2).1]
  · have hy : scope.names.lookup y = some .cell ∨ scope.names.lookup y = some .free := hy
    rcases hy with hy | hy
    · exact absurd rfl (S.nocell _ (PySem.mem_of_lookup hy))
    · have e := S.free _ (PySem.mem_of_lookup hy) rfl
      have e : y = "__class__" := e
      subst e
      exact ⟨cc, rfl⟩
  · have e := (cell1 _ _ h).1
    subst e
    exact absurd (show (!(("__class__" : Str) == "__class__")) = true from hy) (by decide)
  · have hi : i < vs.length := by
      unfold L2.start at h2
      by_cases hi : i < vs.length
      · exact hi
      · rw [List.getElem?_append_right (by simpa using hi)] at h2
        rw [List.getElem?_replicate] at h2
        split at h2 <;> cases h2
    have ha : vs[i]? = some v := by
      unfold L2.start at h2
      rw [List.getElem?_append_left (by simpa using hi), List.getElem?_map] at h2
      cases e : vs[i]? with
      | none => rw [e] at h2; cases h2
      | some a => rw [e] at h2; cases h2; rfl
    obtain ⟨u, hu, rv⟩ := r.get ha
    have hp : ps[i]? = some y := by
      rw [← S.pre, List.getElem?_take_of_lt (by omega)]; exact h1
    have ndP : ps.Nodup := by rw [← S.pre]; exact S.nd.sublist (List.take_sublist _ _)
    have hk2 : (PySem.W.ksEnv qual scope s.heap.objs.size f cd cc).kindOf y = some .local := S.par y (List.mem_of_getElem? hp)
    refine ⟨u, rv, .inl ⟨hk2, ?_⟩⟩
    have q := bindL_get (m := fun _ => none) ndP hp hu hk2
    rw [bindL_loc _ _ (fun x hx => S.par x.1 (List.of_mem_zip hx).1)] at q
    rw [Option.or_none] at q
    exact q
  · rw [(cell1 _ _ h).2]
    obtain ⟨c, d, dd, sl⟩ := ocl
    exact ⟨vc, _, hk _ _ (e0.bs _ _ hb).1, hcd⟩
  · rw [(cell1 _ _ h).2]
    exact (e0.bs _ _ hb).2
  · unfold L2.start
    show _ = N.length
    rw [List.length_append, List.length_map, List.length_replicate]
    omega
/-- what of the text such a method needs -/
structure SupF (P : Program) (K : PySem.W.Frag) (mg : Str → Option Value) (D : Addr) (f : Addr) (fd : FuncData) (cda cc : Addr) : Prop where
  arg : ∃ ar, (fd.params.posonlyargs ++ fd.params.args).head? = some ar ∧ ar.arg = "self"
  code : ∃ ccl cdd vs ccs file tf, K.lookup cda = some ⟨ccl, cdd, .fields vs, ccs⟩ ∧ vs[2]? = some (.str file tf) ∧ ((P.main.file : Str) == file) = true
  cell : ∃ cl cld csl, K.lookup cc = some ⟨cl, cld, .cell (some (.ref D)), csl⟩
  clsD : ∃ cdD, PySem.W.clsIn K D = some cdD
  sup : mg "super" = none
  top : (P.main.scope.names.lookup ("super" : Str)).isSome = false
  opq : PySem.W.nsIn K cStatics "thirdparty.any" = some none
theorem fn_super {CX : CXT} {P : Program} {w : World} {K : PySem.W.Frag} {mg : Str → Option Value} {base : Heap} {k : Nat} {f cda cc D f2 : Addr} {fd2 : FuncData} {name qual nm y : Str} {params : Arguments} {rest : List Stmt} {scope : Scope} {dV kV doc pm ct oc : Value} {an od : Option Addr}
    {osl : Array (Option Value)} {N ps ps2 : List Str} {sp sp2 : Sp} {p0 p1 p2 p3 p4 p5 : Pos} {j : Nat} {pl : Sem Bool}
    (lk : K.lookup f = some ⟨oc, od, .func (PySem.W.ksFn name qual params (.Expr (.Call (.Attribute (.Call (.Name "super" p0) [] [] p1) nm p2) [.Name y p3] [] p4) p5 :: rest) scope dV kV doc pm an (.ref cda) ct cc), osl⟩) (hcd : PySem.W.codeIn K (.ref cda) qual = true) (S : SupScope N ps scope)
    (SF : SupF P K mg D f (PySem.W.ksFn name qual params (.Expr (.Call (.Attribute (.Call (.Name "super" p0) [] [] p1) nm p2) [.Name y p3] [] p4) p5 :: rest) scope dV kV doc pm an (.ref cda) ct cc) cda cc)
    (h0 : N[0]? = some ("self" : Str)) (hj : N[j]? = some y) (hself : scope.names.lookup ("self" : Str) = some .local) (hyl : scope.names.lookup y = some .local) (hyd : (y == ("__debug__" : Str)) = false) (hycd : (y == ("__classdict__" : Str)) = false) (hnm : (nm == ("__class__" : Str)) = false)
    (F2 : FnOk P w K mg base CX0 k f2 fd2 ps2 sp2) (hb2 : Binds K fd2 ps2 []) (ht2 : PySem.W.typeIn K (.ref f2) = some (.type "function")) (hf2 : PySem.W.fnIn K f2 = true)
    (len : ∀ vs H Q E, sp vs H Q E → vs.length = ps.length)
    (hbody : ∀ (A : Around) (outer : List Env) (s : Shared) (H : Hp) (vs : List V) (Q : VK) (E : XK), Room k (A.deeper (PySem.W.ksEnv qual scope s.heap.objs.size f (.ref cda) cc)) → sp vs H Q E →
      ∃ t a C dx fs v, PSs (cxC CX P w K mg base N qual scope f (.ref cda) cc A outer s H E) rest t ∧ vs[0]? = some (V.ref a) ∧ vs[j]? = some v ∧ H a = some (.ins C dx fs) ∧ PySem.W.mroIn K C (.ref D) = some true ∧ PySem.W.ks_superIn K C D nm = some (some (.ref f2)) ∧
        sp2 [.ref a, v] H (fun _ H2 => t { nx := fun _ H' => Q .non H', rt := Q } (L2.start N vs) H2) E0)
    (hev : ∀ L, eval (.Call (.Attribute (.Call (.Name "super" p0) [] [] p1) nm p2) [.Name y p3] [] p4) (PySem.W.ksEnv qual scope L f (.ref cda) cc) = (do
      let ov ← attributeBase (.Call (.Name "super" p0) [] [] p1) nm (PySem.W.ksEnv qual scope L f (.ref cda) cc) (eval (.Call (.Name "super" p0) [] [] p1) (PySem.W.ksEnv qual scope L f (.ref cda) cc))
      standAt p2.atName
      let (g, first) ← holding [ov] (getMethod ov nm pl)
      callWith p4 g first (backTo p4 (starEach [.Name y p3] (PySem.W.ksEnv qual scope L f (.ref cda) cc))) []) := by intro _; rfl)
    (hin : ∀ L, interactive (PySem.W.ksEnv qual scope L f (.ref cda) cc) = false := by intro _; rfl) (hsw : ∀ L, swapsWith (.Call (.Attribute (.Call (.Name "super" p0) [] [] p1) nm p2) [.Name y p3] [] p4) none p5.line (PySem.W.ksEnv qual scope L f (.ref cda) cc) = pure false := by intro _; rfl)
    (hst : ∀ L, starEach [.Name y p3] (PySem.W.ksEnv qual scope L f (.ref cda) cc) = (false, eval (.Name y p3) (PySem.W.ksEnv qual scope L f (.ref cda) cc)) :: starEach [] (PySem.W.ksEnv qual scope L f (.ref cda) cc) := by intro _; rfl) :
    FnOk P w K mg base CX (k + 1) f (PySem.W.ksFn name qual params (.Expr (.Call (.Attribute (.Call (.Name "super" p0) [] [] p1) nm p2) [.Name y p3] [] p4) p5 :: rest) scope dV kV doc pm an (.ref cda) ct cc) ps sp := by
  refine ⟨len, fun A outer s H args us vs Q E hr e0 hb r hsp => ?_⟩
  have hl := len _ _ _ _ hsp
  have hul : us.length = ps.length := by rw [← r.length, hl]
  have KX : K.In s.heap := e0.mod.kin.keeps fun b o e => (e0.bs b o e).1
  have lim : s.heap.NoLimit := e0.mod.nolimit.keeps fun b o e => (e0.bs b o e).1
  refine PySem.ks_codeAny_call_defAt hr.depth (KX _ _ lk) rfl lim (PySem.W.codeRec_of KX hcd) rfl hb S.nocell (fun x hx => S.par x.1 (List.of_mem_zip hx).1) (fun h₀ hns hk => ?_) S.co S.gen S.kind
  obtain ⟨t, a, C, dx, fs, v, ht, hv0, hvj, ha, hsub, hsm, hq⟩ := hbody A outer s H vs Q E (hr.deeper _) hsp
  obtain ⟨ar, har1, har2⟩ := SF.arg
  obtain ⟨ccl, cdd, cvs, ccs, file, tf, hcode, hvs, hfile⟩ := SF.code
  obtain ⟨cl, cld, csl, hcell⟩ := SF.cell
  obtain ⟨cdD, hD⟩ := SF.clsD
  have I : Inv (cxC CX P w K mg base N qual scope f (.ref cda) cc A outer s H E) [] (L2.start N vs) H { s with heap := h₀, toks := s.toks + (ps.zip us).length } := inv_startC S hr.hd e0 hl r hcell rfl hns hk
  have KX1 : K.In h₀ := KX.keeps hk
  have hs0 : (L2.start N vs)[0]? = some (some (V.ref a)) := by
    unfold L2.start
    rw [List.getElem?_append_left (by rw [List.length_map]; exact (List.getElem?_eq_some_iff.mp hv0).1), List.getElem?_map, hv0]
    rfl
  have hsj : (L2.start N vs)[j]? = some (some v) := by
    unfold L2.start
    rw [List.getElem?_append_left (by rw [List.length_map]; exact (List.getElem?_eq_some_iff.mp hvj).1), List.getElem?_map, hvj]
    rfl
  obtain ⟨m, hm, hlook⟩ := I.loc
  obtain ⟨u, hu, look⟩ := hlook 0 "self" (.ref a) h0 hs0 (.inl hself)
  obtain rfl : u = Value.ref a := hu
  have hmself : m "self" = some (.ref a) := by
    rcases look with ⟨_, e⟩ | ⟨e, _⟩
    · exact e
    · have e : scope.names.lookup ("self" : Str) = some .cell ∨ scope.names.lookup ("self" : Str) = some .free := e
      rw [hself] at e
      rcases e with e | e <;> cases e
  obtain ⟨mA, O, _⟩ := ins_get I.hok ha
  obtain ⟨od', J, _⟩ := O.look
  obtain ⟨mb, hb1, hb2'⟩ := I.mod.blt
  obtain ⟨oD, hD1, hD2⟩ : ∃ oD, h₀.get? D = some oD ∧ oD.data = .cls cdD := by
    unfold PySem.W.clsIn at hD
    split at hD
    · rename_i c d cd' sl ho
      cases hD
      exact ⟨_, KX1 _ _ ho, rfl⟩
    · cases hD
  refine PySem.ks_wpAt_execs_cons (PySem.ks_wpAt_Expr_any (PySem.ks_wpAt_MethodCall (pl := pl) ?_ (hev _)) (hin _) (hsw _))
  refine PySem.ks_wpAt_super_base (env := PySem.W.ksEnv qual scope s.heap.objs.size f (.ref cda) cc) S.sup S.cl hnm rfl (KX1 _ _ lk) rfl har1 rfl (KX1 _ _ hcode) rfl hvs hfile SF.top ?_
  refine PySem.W.ks_loadName_global S.kind S.sup (Calls.loadGlobal_builtin (env := PySem.W.ksEnv qual scope s.heap.objs.size f (.ref cda) cc) (I.mod.glob.keeps I.bk) SF.sup (hb1.keeps I.bk) ((hb2' "super" (by decide)).trans (show bootBuiltins "super" = some (.type "super") by kernel_rfl)) ⟨rfl, ?_⟩)
  refine wpAny_loadName_free S.kind S.cl rfl ⟨_, KX1 _ _ hcell, rfl⟩ ?_
  rw [har2]
  refine wpAny_loadName_local S.kind hself hm hmself ?_
  refine PySem.ks_wpAny_isType_cls hD1 hD2 ⟨rfl, ?_⟩
  refine PySem.ks_wpAny_call_super hD1 hD2 J.at_ J.cls (fun c e => by have q := J.no; unfold PySem.W.notCls at q; rw [e] at q; exact Bool.noConfusion q) (PySem.W.looks_mroIn KX1 hsub) (fun h' hso hk' => ?_)
  have I1 : Inv (cxC CX P w K mg base N qual scope f (.ref cda) cc A outer s H E) [] (L2.start N vs) H { s with heap := h', toks := s.toks + (ps.zip us).length } := I.kept hk'
  have KX2 : K.In h' := KX1.keeps hk'
  obtain ⟨mA2, O2, _⟩ := ins_get I1.hok ha
  obtain ⟨od2, J2, _⟩ := O2.look
  cases hcC : PySem.W.clsIn K C with
  | none => unfold PySem.W.ks_superIn at hsm; rw [hcC] at hsm; cases hsm
  | some cdC =>
    unfold PySem.W.ks_superIn at hsm
    rw [hcC] at hsm
    obtain ⟨of, hof, hofc⟩ : ∃ of, h'.get? f2 = some of ∧ of.cls = .type "function" := by
      have ht' : (K.lookup f2).map (·.cls) = some (.type "function") := ht2
      cases z : K.lookup f2 with
      | none => rw [z] at ht'; cases ht'
      | some of => rw [z] at ht'; exact ⟨of, KX2 _ _ z, Option.some.inj ht'⟩
    refine PySem.ks_wpAny_getMethod_super hso (PySem.W.looks_opaque KX2 SF.opq) (l₀ := cdC.mro) (fun A Q E s k q => wpAny_bind ((PySem.W.looks_clsIn KX2 hcC) A _ E s k (wpAny_pure q))) rfl KX2 hsm hof hofc (PySem.W.ks_ne KX2 J2 hcC) hnm ?_
    have I2 := ClX.pin_new (a := h'.objs.size) (o := PySem.W.methodObj (.ref f2) (.ref a)) (h' := h'.push (PySem.W.methodObj (.ref f2) (.ref a))) (t' := s.toks + (ps.zip us).length + 1) I1 (fun _ _ z => Heap.get?_push_of_some _ z) (Nat.le_refl _) (Heap.get?_push_size h' rfl) (fun v z => nomatch z)
    have hL : h'.objs.size ≠ (cxC CX P w K mg base N qual scope f (.ref cda) cc A outer s H E).env.locals := (I2.pin (h'.objs.size, PySem.W.methodObj (.ref f2) (.ref a)) (List.mem_append_right _ List.mem_cons_self)).2.2.1
    refine PySem.W.callWith_M (K := K) (h₀ := base) (first := []) e0.mod.kin (news_at hL (ClX.base_none I1 (Nat.le_refl _)) (ClX.pin_at I2)) List.mem_cons_self hf2 ?_ (hst _) rfl
    refine wpAny_mono ((pa_cons (pv j hj (.inl hyl) hyd hycd) pa_nil (hst _)).run p4 _ _ (L2.start N vs) H (fun vs' H' => vs' = [v] ∧ H' = H) I2 ⟨v, hsj, rfl, rfl⟩) (fun us2 s2 h2 => ?_) fun _ _ z => z
    obtain ⟨vs2, H2, I3, r2, rfl, rfl⟩ := h2
    refine ⟨⟨ClX.pin_at I3, I3.kIn⟩, ?_⟩
    refine wpAny_mono (wpAny_call (PySem.W.method_call (ClX.pin_at I3) (codeAny_mono (F2.run _ _ s2 _ ⟨.ref a :: us2, []⟩ (.ref a :: us2) [.ref a, v] _ E0 (hr.deeper _) I3.env0 (by
      have q := hb2 s2 (.ref a :: us2) I3.kIn (by rw [List.append_nil]; have e := F2.len _ _ _ _ hq; rw [← e, List.length_cons, ← r2.length]; rfl)
      rw [List.append_nil] at q
      exact q) (.cons rfl r2) hq) (fun rr s4 hq4 => ?_)))) (Q := EP (cxC CX P w K mg base N qual scope f (.ref cda) cc A outer s H2 E) ((h'.objs.size, PySem.W.methodObj (.ref f2) (.ref a)) :: []) (L2.start N vs) (fun _ H2 => t { nx := fun _ H' => Q .non H', rt := Q } (L2.start N vs) H2)) (fun u3 s3 h3 => ?_) fun _ _ z => z
    · cases rr with
      | error e => exact hq4.elim
      | ok fl =>
        cases fl with
        | ret u => exact I3.after hq4
        | next => exact False.elim hq4
        | brk => exact False.elim hq4
        | cont => exact False.elim hq4
    obtain ⟨v3, H3, I4, _, q3⟩ := ClX.unpinE h3
    refine wpAt_of_wpAny (wpAny_mono (ht.run [] s3 (L2.start N vs) H3 _ I4 q3) (fun fl s' hs => ?_) fun e s' hs => hs)
    have fin : ∀ {σ' : L2.St} {H' : Hp} {v : V} {u : Value}, Inv (cxC CX P w K mg base N qual scope f (.ref cda) cc A outer s H2 E) [] σ' H' s' → RelV v u → Q v H' → CE outer P w _ s Q u s' :=
      fun {σ' H' v u} J rv q => ⟨v, H', J.os, J.bare, J.base, J.hok, rv, q⟩
    cases fl with
    | ret u =>
      obtain ⟨v, σ', H', J, rv, q⟩ := hs
      exact fin J rv q
    | next =>
      obtain ⟨σ', H', J, q⟩ := hs
      exact fin (v := V.non) (u := Value.none) J rfl q
    | brk =>
      obtain ⟨_, _, _, q⟩ := hs
      exact False.elim q
    | cont =>
      obtain ⟨_, _, _, q⟩ := hs
      exact False.elim q
end Mx

namespace Gx
open PySem PySem.Spec PyProof.Rows L2 GenW
/-! ### f(k = v, ..) of a generator def -/
def tCall2K (S : GSpec) (start : List V → S.τ) (n : Nat) (gV : List V → List V → List V) (t : TA) : L2.St → Hp → (S.τ → Hp → Prop) → Prop := fun σ H R => t σ H fun zs H1 => (gV [] zs).length = n ∧ R (start (gV [] zs)) H1
section
variable {X : Cx} {S : GSpec} {start : List V → S.τ} {k : Nat} {f : Addr} {fd : FuncData} {ps ks : List Str} {x : Str} {p pos : Pos} {kws : List Keyword} {tk : TA} {g : List Value → List Value → List Value} {gV : List V → List V → List V}
theorem pgen2_kw0 (F : GFn2 X.prog X.w X.K X.mg X.base k f fd ps S start) (hr : Room k X.A) (hg : Gl X x) (hm : X.mg x = some (.ref f)) (hk : PySem.W.keepIn X.K (.ref f) = true)
    (hb : KBinds X.K fd ps ks g gV) (hkw : PK X kws tk) (hall : (backToKw pos (keywordEach kws X.env)).all (·.1.isSome) = true := by rfl)
    (hks : (backToKw pos (keywordEach kws X.env)).filterMap (·.1) = ks := by rfl) (hdb : (x == ("__debug__" : Str)) = false := by decide)
    (hpl : ((backTo pos (starEach [] X.env)).any (·.1) || (backToKw pos (keywordEach kws X.env)).any (·.1.isNone)) = false := by rfl) :
    PGen2 X S k (.Call (.Name x p) [] kws pos) (tCall2K S start ps.length gV tk) := by
  refine ⟨fun pins s σ H R I h => ?_⟩
  refine wpAny_Call_Name_kw (ld_glob I hg hm (PySem.W.callWith_KW0 (h₀ := X.base) I.ok.mod.kin hk hall (thn (hkw.run pos pins s σ H _ I h) fun ws s1 h1 => ?_) hpl) hdb)
  obtain ⟨zs, H1, I1, rz, hl, q⟩ := h1
  refine ⟨I1.kIn, ?_⟩
  rw [hks]
  have r2 := hb.rel (vs := []) (us := []) .nil rz
  have hl2 : (g [] ws).length = ps.length := by rw [← r2.length]; exact hl
  refine wpAny_call (codeAny_mono (F.run X.A X.stack s1 H1 ⟨[], ks.zip ws⟩ (g [] ws) (gV [] zs) hr I1.env0 (hb.to s1 [] ws I1.kIn hl2) r2 hl) fun r s' hq => ?_)
  cases r with
  | error e => exact False.elim hq
  | ok fl =>
    cases fl with
    | ret u => exact ⟨H1, s1, _, I1, hq, q⟩
    | next => exact False.elim hq
    | brk => exact False.elim hq
    | cont => exact False.elim hq
end
end Gx

namespace Mx
open PySem PySem.Spec PyProof.Rows L2
section
variable {J : It} {n : Nat} {G : Hp → Prop} {Y : Nat → Hp → V → Hp → Prop} {Tb : List (Addr × Str)}
/-- lc_flt, the turns may make lambdas -/
theorem lc_fltG (w : Walk J n G Y) {g : TG} {tt : TT} {te : TE} {vs : List Nat} {σ : L2.St} {H1 : Hp} {D : Addr} {Qd : Hp → Prop} (f : Nat → Bool) (y : Nat → V) (hD : H1 D = none) (hn : n ≤ 1000000)
    (hG : ∀ H, Go Tb H1 H → G H) (hY : ∀ i H x H', Y i H x H' → Same H H')
    (hs : ∀ i x H H' (Nx : V → Hp → Prop) (Mx : Hp → Prop), i < n → Go Tb H1 H → Y i H x H' → (f i = true → ∀ H4, Go Tb H' H4 → Nx (y i) H4) → (f i = false → ∀ H3, Go Tb H' H3 → Mx H3) →
      g x (wipe σ vs) H' fun σ2 H2 => wipe σ2 vs = wipe σ vs ∧ tt σ2 H2 fun b H3 => if b = true then te σ2 H3 Nx else Mx H3)
    (hd : ∀ H, Go Tb H1 H → H D = some (.lst (picked n f y)) → Qd H) :
    ∃ W : Nat → Nat → Hp → Prop, (∃ m, W 0 m (upd H1 D (.lst []))) ∧ ∀ i m H, W i m H →
      (J.stop i H ∧ Qd H) ∨ (J.go i H ∧ ∃ Nx : Hp → Prop, (∀ H', Nx H' → ∃ m', m' < m ∧ W (i + 1) m' H') ∧ ∀ x H', J.yld i H x H' → g x (wipe σ vs) H' fun σ2 H2 => wipe σ2 vs = wipe σ vs ∧ tt σ2 H2 fun b H3 =>
        if b = true then te σ2 H3 fun y H4 => ∃ acc, H4 D = some (.lst acc) ∧ acc.length < sizeLine ∧ Nx (upd H4 D (.lst (acc ++ [y]))) else Nx H3) := by
  refine lc_it w (fun i H => i ≤ n ∧ Go Tb H1 H ∧ H D = some (.lst (picked i f y))) ⟨Nat.zero_le _, go_new hD (Go.refl _ _), upd_same⟩ (fun i H _ p => hG H p.2.1) ?_ (fun H p => hd H p.2.1 p.2.2)
  rintro i x H H' hi ⟨_, go, e⟩ yy
  have sm := hY i H x H' yy
  refine hs i x H H' _ _ hi go yy (fun hf H4 s4 => ?_) (fun hf H3 s3 => ?_)
  · refine ⟨_, s4.lst (sm _ _ e), ?_, hi, go_set hD (s4.lst (sm _ _ e)) ((go.trans (.same sm)).trans s4), ?_⟩
    · have := picked_len i f y
      unfold sizeLine
      omega
    · rw [upd_same, picked_yes y hf]
  · exact ⟨hi, (go.trans (.same sm)).trans s3, by rw [picked_no y hf]; exact s3.lst (sm _ _ e)⟩
end
end Mx

/-! names: plain lists of codes -/
namespace Nam
def lets : List Nat := ("abcdefghijklmnopqrstuvwxyzABCDEFGHIJKLMNOPQRSTUVWXYZ_" : String).toList.map Char.toNat
def inns : List Nat := ("abcdefghijklmnopqrstuvwxyzABCDEFGHIJKLMNOPQRSTUVWXYZ_0123456789-." : String).toList.map Char.toNat
def isL (c : Nat) : Bool := decide (c ∈ lets)
def isI (c : Nat) : Bool := decide (c ∈ inns)
theorem colonL : isL 58 = false := by decide +kernel
theorem colonI : isI 58 = false := by decide +kernel
theorem L_I {c : Nat} (h : isL c = true) : isI c = true := by
  have k : ∀ c ∈ lets, isI c = true := by decide +kernel
  exact k c (of_decide_eq_true h)
theorem L_ne {c : Nat} (h : isL c = true) : c ≠ 58 := fun e => by rw [e, colonL] at h; cases h
theorem I_ne {c : Nat} (h : isI c = true) : c ≠ 58 := fun e => by rw [e, colonI] at h; cases h

/-! what the law says -/
def cut : List Nat → List Nat → List (List Nat)
  | acc, [] => [acc]
  | acc, x :: r => if x = 58 then acc :: cut [] r else cut (acc ++ [x]) r
def part : List Nat → Bool
  | [] => false
  | c :: r => isL c && r.all isI
def name (l : List Nat) : Bool := decide ((cut [] l).length < 3) && (cut [] l).all part
def begun (l : List Nat) : Bool := decide (l = []) || name l || (decide ((cut [] l).length = 2) && decide ((cut [] l)[1]? = some []) && part ((cut [] l).getD 0 []))

/-! a machine: 0 nothing, 1 a part, 2 a part and a colon, 3 two parts -/
def step (s c : Nat) : Option Nat :=
  if s = 0 then (if isL c then some 1 else none)
  else if s = 1 then (if c = 58 then some 2 else if isI c then some 1 else none)
  else if s = 2 then (if isL c then some 3 else none)
  else (if isI c then some 3 else none)
def runO : Option Nat → List Nat → Option Nat
  | o, [] => o
  | none, _ :: _ => none
  | some s, c :: r => runO (step s c) r
def run (l : List Nat) : Option Nat := runO (some 0) l
theorem runO_none : ∀ l, runO none l = none
  | [] => rfl
  | _ :: _ => rfl
theorem runO_app : ∀ (l m : List Nat) (o : Option Nat), runO o (l ++ m) = runO (runO o l) m
  | [], m, o => by cases o <;> rfl
  | c :: r, m, none => by
    show none = runO none m
    rw [runO_none]
  | c :: r, m, some s => runO_app r m (step s c)
theorem run_snoc (l : List Nat) (c : Nat) : run (l ++ [c]) = (run l).bind fun s => step s c := by
  unfold run
  rw [runO_app]
  cases runO (some 0) l with
  | none => rfl
  | some s =>
    show runO (step s c) [] = step s c
    cases step s c <;> rfl
theorem run3 : ∀ l, runO (some 3) l = if l.all isI then some 3 else none
  | [] => rfl
  | c :: r => by
    show runO (step 3 c) r = _
    have e : step 3 c = if isI c then some 3 else none := rfl
    rw [e]
    cases h : isI c with
    | true => simp [h, run3 r]
    | false => simp [h, runO_none]
theorem run2 (l : List Nat) : runO (some 2) l = if l = [] then some 2 else if part l then some 3 else none := by
  cases l with
  | nil => rfl
  | cons c r =>
    show runO (step 2 c) r = _
    have e : step 2 c = if isL c then some 3 else none := rfl
    rw [e]
    cases h : isL c with
    | true => simp [h, run3 r, part]
    | false => simp [h, runO_none, part]
theorem run1 : ∀ l : List Nat, 58 ∉ l → runO (some 1) l = if l.all isI then some 1 else none
  | [], _ => rfl
  | c :: r, h => by
    have hc : c ≠ 58 := fun e => h (e ▸ List.mem_cons_self)
    have hr : 58 ∉ r := fun e => h (List.mem_cons_of_mem _ e)
    show runO (step 1 c) r = _
    have e : step 1 c = if isI c then some 1 else none := if_neg hc
    rw [e]
    cases h : isI c with
    | true => simp [h, run1 r hr]
    | false => simp [h, runO_none]
theorem run0 (l : List Nat) (h : 58 ∉ l) : run l = if l = [] then some 0 else if part l then some 1 else none := by
  cases l with
  | nil => rfl
  | cons c r =>
    have hr : 58 ∉ r := fun e => h (List.mem_cons_of_mem _ e)
    show runO (step 0 c) r = _
    have e : step 0 c = if isL c then some 1 else none := rfl
    rw [e]
    cases h : isL c with
    | true => simp [h, run1 r hr, part]
    | false => simp [h, runO_none, part]
theorem cut_no : ∀ (l acc : List Nat), 58 ∉ l → cut acc l = [acc ++ l]
  | [], acc, _ => by simp [cut]
  | c :: r, acc, h => by
    have hc : c ≠ 58 := fun e => h (e ▸ List.mem_cons_self)
    have hr : 58 ∉ r := fun e => h (List.mem_cons_of_mem _ e)
    simp [cut, hc, cut_no r (acc ++ [c]) hr]
theorem cut_at : ∀ (p acc r : List Nat), 58 ∉ p → cut acc (p ++ 58 :: r) = (acc ++ p) :: cut [] r
  | [], acc, r, _ => by simp [cut]
  | c :: p, acc, r, h => by
    have hc : c ≠ 58 := fun e => h (e ▸ List.mem_cons_self)
    have hr : 58 ∉ p := fun e => h (List.mem_cons_of_mem _ e)
    simp [cut, hc, cut_at p (acc ++ [c]) r hr]
theorem first_colon : ∀ l : List Nat, 58 ∈ l → ∃ p r, l = p ++ 58 :: r ∧ 58 ∉ p
  | [], h => by cases h
  | c :: l, h => by
    by_cases hc : c = 58
    · exact ⟨[], l, by rw [hc]; rfl, by simp⟩
    · obtain ⟨p, r, e, hp⟩ := first_colon l ((List.mem_cons.mp h).resolve_left (fun e => hc e.symm))
      exact ⟨c :: p, r, by rw [e]; rfl, fun z => (List.mem_cons.mp z).elim (fun e => hc e.symm) hp⟩
theorem cut_ne (l : List Nat) : cut [] l ≠ [] := by
  by_cases h : 58 ∈ l
  · obtain ⟨p, r, e, hp⟩ := first_colon l h
    rw [e, cut_at p [] r hp]
    simp
  · rw [cut_no l [] h]
    simp
/-- the three kinds of texts -/
theorem kinds (l : List Nat) : (58 ∉ l) ∨ (∃ p q, l = p ++ 58 :: q ∧ 58 ∉ p ∧ 58 ∉ q) ∨ ∃ p q r, l = p ++ 58 :: (q ++ 58 :: r) ∧ 58 ∉ p ∧ 58 ∉ q := by
  by_cases h : 58 ∈ l
  · obtain ⟨p, r, e, hp⟩ := first_colon l h
    by_cases h2 : 58 ∈ r
    · obtain ⟨q, r2, e2, hq⟩ := first_colon r h2
      exact .inr (.inr ⟨p, q, r2, by rw [e, e2], hp, hq⟩)
    · exact .inr (.inl ⟨p, r, e, hp, h2⟩)
  · exact .inl h
theorem run_at (p r : List Nat) (hp : 58 ∉ p) : run (p ++ 58 :: r) = if part p then runO (some 2) r else none := by
  unfold run
  rw [runO_app, show runO (some 0) p = run p from rfl, run0 p hp]
  by_cases h0 : p = []
  · subst h0
    show runO (step 0 58) r = _
    have e : step 0 58 = none := by decide +kernel
    rw [e, runO_none]
    rfl
  · rw [if_neg h0]
    cases h : part p with
    | true => rfl
    | false =>
      show runO none (58 :: r) = _
      rfl
theorem run_at2 (p q r : List Nat) (hp : 58 ∉ p) : run (p ++ 58 :: (q ++ 58 :: r)) = none := by
  rw [run_at p _ hp]
  split
  · rw [runO_app, run2]
    split
    · show runO (step 2 58) r = none
      have e : step 2 58 = none := by decide +kernel
      rw [e, runO_none]
    · split
      · show runO (step 3 58) r = none
        have e : step 3 58 = none := by decide +kernel
        rw [e, runO_none]
      · rfl
  · rfl
theorem name_run (l : List Nat) : name l = decide (run l = some 1 ∨ run l = some 3) := by
  rcases kinds l with h | ⟨p, q, e, hp, hq⟩ | ⟨p, q, r, e, hp, hq⟩
  · unfold name
    rw [cut_no l [] h, run0 l h]
    cases l with
    | nil => simp [part]
    | cons c r => cases hh : part (c :: r) <;> simp [hh]
  · unfold name
    rw [e, cut_at p [] _ hp, cut_no q [] hq, run_at p q hp, run2]
    cases hh : part p
    · simp [hh]
    · by_cases hq0 : q = []
      · simp [hq0, part]
      · cases h2 : part q <;> simp [hh, h2, hq0]
  · unfold name
    rw [e, cut_at p [] _ hp, cut_at q [] _ hq, run_at2 p q r hp]
    have n : 1 ≤ (cut [] r).length := List.length_pos_iff.mpr (cut_ne r)
    have e1 : decide ((([] ++ p) :: ([] ++ q) :: cut [] r).length < 3) = false := decide_eq_false (by simp only [List.length_cons]; omega)
    rw [e1]
    simp
theorem begun_run (l : List Nat) : begun l = (run l).isSome := by
  unfold begun
  rw [name_run]
  rcases kinds l with h | ⟨p, q, e, hp, hq⟩ | ⟨p, q, r, e, hp, hq⟩
  · rw [cut_no l [] h, run0 l h]
    cases l with
    | nil => simp
    | cons c r => cases hh : part (c :: r) <;> simp [hh]
  · rw [e, cut_at p [] _ hp, cut_no q [] hq, run_at p q hp, run2]
    cases hh : part p
    · simp [hh]
    · by_cases hq0 : q = []
      · simp [hq0, hh]
      · cases h2 : part q <;> simp [hh, h2, hq0]
  · rw [e, cut_at p [] _ hp, cut_at q [] _ hq, run_at2 p q r hp]
    have n : 1 ≤ (cut [] r).length := List.length_pos_iff.mpr (cut_ne r)
    have e1 : decide ((([] ++ p) :: ([] ++ q) :: cut [] r).length = 2) = false := decide_eq_false (by simp only [List.length_cons]; omega)
    rw [e1]
    simp
/-! what the program does -/
def pend : List Nat → Nat
  | [] => 0
  | c :: r => if isL c then 1 + (r.takeWhile isI).length else 0
def nend (l : List Nat) : Nat :=
  if pend l = 0 ∨ pend l = l.length ∨ l[pend l]? ≠ some 58 then pend l
  else if pend (l.drop (pend l + 1)) > 0 then pend l + 1 + pend (l.drop (pend l + 1)) else pend l
theorem takeWhile_le (r : List Nat) : (r.takeWhile isI).length ≤ r.length := (List.takeWhile_prefix isI).length_le
theorem pend_yes {c : Nat} (r : List Nat) (h : isL c = true) : pend (c :: r) = 1 + (r.takeWhile isI).length := if_pos h
theorem pend_not {c : Nat} (r : List Nat) (h : ¬ isL c = true) : pend (c :: r) = 0 := if_neg h
theorem pend_le (l : List Nat) : pend l ≤ l.length := by
  cases l with
  | nil => exact Nat.le_refl _
  | cons c r =>
    have := takeWhile_le r
    by_cases h : isL c = true
    · rw [pend_yes r h, List.length_cons]; omega
    · rw [pend_not r h]; exact Nat.zero_le _
theorem nend_le (l : List Nat) : nend l ≤ l.length := by
  have h1 := pend_le l
  have h2 := pend_le (l.drop (pend l + 1))
  rw [List.length_drop] at h2
  unfold nend
  split
  · exact h1
  · rename_i h
    split
    · by_cases h3 : pend l = l.length
      · exact absurd (.inr (.inl h3)) h
      · omega
    · exact h1
theorem tw_all : ∀ r : List Nat, ((r.takeWhile isI).length = r.length) = (r.all isI = true)
  | [] => by simp
  | c :: r => by
    cases h : isI c with
    | true =>
      have ih := tw_all r
      simp only [List.takeWhile_cons, h, if_true, List.length_cons, List.all_cons, Bool.true_and]
      rw [← ih]
      simp
    | false => simp [List.takeWhile_cons, h]
theorem pend_all (l : List Nat) (h0 : l ≠ []) : pend l = l.length ↔ part l = true := by
  cases l with
  | nil => exact absurd rfl h0
  | cons c r =>
    have e := tw_all r
    by_cases h : isL c = true
    · rw [pend_yes r h, List.length_cons, show part (c :: r) = (isL c && r.all isI) from rfl, h, Bool.true_and, ← e]
      omega
    · rw [pend_not r h, List.length_cons, show part (c :: r) = (isL c && r.all isI) from rfl]
      simp [h]
theorem tw_app : ∀ (p r : List Nat) (d : Nat), isI d = false → ((p ++ d :: r).takeWhile isI).length = (p.takeWhile isI).length
  | [], r, d, h => by simp [List.takeWhile_cons, h]
  | c :: p, r, d, h => by
    by_cases hc : isI c = true
    · simp [List.takeWhile_cons, hc, tw_app p r d h]
    · simp [List.takeWhile_cons, hc]
theorem pend_app (p r : List Nat) : pend (p ++ 58 :: r) = pend p := by
  cases p with
  | nil => exact pend_not r (by rw [colonL]; decide)
  | cons c p =>
    show pend (c :: (p ++ 58 :: r)) = pend (c :: p)
    by_cases h : isL c = true
    · rw [pend_yes _ h, pend_yes _ h, tw_app p r 58 colonI]
    · rw [pend_not _ h, pend_not _ h]
theorem part_ne {p : List Nat} (h : part p = true) : p ≠ [] := fun e => by rw [e] at h; cases h
theorem nend_at (p r : List Nat) (hp : part p = true) : nend (p ++ 58 :: r) = if pend r > 0 then p.length + 1 + pend r else p.length := by
  have e1 : pend (p ++ 58 :: r) = p.length := (pend_app p r).trans ((pend_all p (part_ne hp)).mpr hp)
  have h0 : p.length ≠ 0 := fun e => part_ne hp (List.length_eq_zero_iff.mp e)
  have e2 : (p ++ 58 :: r)[p.length]? = some 58 := by simp
  have e3 : (p ++ 58 :: r).drop (p.length + 1) = r := by
    rw [← List.drop_drop, List.drop_left]
    rfl
  have hl : (p ++ 58 :: r).length = p.length + 1 + r.length := by simp; omega
  unfold nend
  rw [e1, e2, e3, hl, if_neg]
  rintro (h | h | h)
  · exact h0 h
  · omega
  · exact h rfl
/-- is_name of the program, of the law -/
theorem name_end (l : List Nat) : (decide (l ≠ []) && decide (nend l = l.length)) = name l := by
  rw [name_run]
  by_cases h0 : l = []
  · subst h0
    decide +kernel
  have d0 : decide (l ≠ []) = true := decide_eq_true h0
  rw [d0, Bool.true_and]
  rcases kinds l with h | ⟨p, q, e, hp, hq⟩ | ⟨p, q, r, e, hp, hq⟩
  · have en : nend l = pend l := by
      unfold nend
      rw [if_pos]
      by_cases hz : pend l = l.length
      · exact .inr (.inl hz)
      · refine .inr (.inr fun z => h (List.mem_of_getElem? z))
    rw [en, run0 l h, if_neg h0]
    by_cases hh : part l = true
    · simp [hh, (pend_all l h0).mpr hh]
    · have : ¬ pend l = l.length := fun z => hh ((pend_all l h0).mp z)
      simp [hh, this]
  · subst e
    have hl : (p ++ 58 :: q).length = p.length + 1 + q.length := by simp; omega
    rw [run_at p q hp, run2]
    by_cases hh : part p = true
    · rw [nend_at p q hh, if_pos hh, hl]
      by_cases hq0 : q = []
      · subst hq0
        simp [pend]
      · have k := pend_all q hq0
        rw [if_neg hq0]
        by_cases h2 : part q = true
        · have e2 := k.mpr h2
          have : 0 < q.length := List.length_pos_iff.mpr hq0
          simp [h2, e2, this]
        · have e2 : ¬ pend q = q.length := fun z => h2 (k.mp z)
          have := pend_le q
          have e3 : ¬ (if pend q > 0 then p.length + 1 + pend q else p.length) = p.length + 1 + q.length := by split <;> omega
          simp only [decide_eq_false e3]
          simp [h2]
    · have e1 : ¬ nend (p ++ 58 :: q) = p.length + 1 + q.length := by
        intro z
        have a1 := pend_app p q
        have a2 := pend_le p
        have a3 : p ≠ [] → ¬ pend p = p.length := fun n z => hh ((pend_all p n).mp z)
        unfold nend at z
        rw [a1] at z
        split at z
        · omega
        · rename_i hn
          have h1 : pend p ≠ 0 := fun y => hn (.inl y)
          have h2 : p ≠ [] := fun y => h1 (by rw [y]; rfl)
          have h3 := a3 h2
          have h4 : (p ++ 58 :: q)[pend p]? = some 58 := Classical.byContradiction fun y => hn (.inr (.inr y))
          rw [List.getElem?_append_left (by omega)] at h4
          exact hp (List.mem_of_getElem? h4)
      rw [hl]
      simp [hh, decide_eq_false e1]
  · have e1 : ¬ nend l = l.length := by
      intro z
      have hl : l.length = p.length + 1 + (q ++ 58 :: r).length := by rw [e]; simp; omega
      by_cases hh : part p = true
      · rw [e, nend_at p _ hh, pend_app] at z
        have := pend_le q
        rw [← e, hl, List.length_append, List.length_cons] at z
        split at z <;> omega
      · have a1 : pend l = pend p := by rw [e, pend_app]
        have a2 := pend_le p
        have a3 : p ≠ [] → ¬ pend p = p.length := fun n z => hh ((pend_all p n).mp z)
        unfold nend at z
        rw [a1] at z
        split at z
        · omega
        · rename_i hn
          have h1 : pend p ≠ 0 := fun y => hn (.inl y)
          have h2 : p ≠ [] := fun y => h1 (by rw [y]; rfl)
          have h3 := a3 h2
          have h4 : l[pend p]? = some 58 := Classical.byContradiction fun y => hn (.inr (.inr y))
          rw [e, List.getElem?_append_left (by omega)] at h4
          exact hp (List.mem_of_getElem? h4)
    rw [decide_eq_false e1, e, run_at2 p q r hp]
    rfl
/-- continues_name of the program -/
def goesOn (l : List Nat) (c : Nat) : Bool :=
  if c = 58 then decide (l ≠ []) && !decide (58 ∈ l) else (if l = [] ∨ l.getLast? = some 58 then isL c else isI c)
theorem snocInd {P : List Nat → Prop} (h0 : P []) (h1 : ∀ l c, P l → P (l ++ [c])) (l : List Nat) : P l := by
  have k : ∀ r : List Nat, P r.reverse := fun r => by
    induction r with
    | nil => exact h0
    | cons c r ih => rw [List.reverse_cons]; exact h1 _ _ ih
  have := k l.reverse
  rwa [List.reverse_reverse] at this
theorem colon_state : ∀ (l : List Nat) (s : Nat), run l = some s → (58 ∈ l ↔ (s = 2 ∨ s = 3)) ∧ (l = [] ↔ s = 0) ∧ (l.getLast? = some 58 ↔ s = 2) ∧ s ≤ 3 := by
  refine snocInd ?_ ?_
  · intro s h
    have : s = 0 := (Option.some.inj h).symm
    subst this
    simp
  · intro l c ih s h
    rw [run_snoc] at h
    cases hr : run l with
    | none => rw [hr] at h; cases h
    | some u =>
      rw [hr] at h
      obtain ⟨i1, i2, i3, i4⟩ := ih u hr
      have h' : step u c = some s := h
      have hcases : u = 0 ∨ u = 1 ∨ u = 2 ∨ u = 3 := by omega
      have mem : 58 ∈ l ++ [c] ↔ (58 ∈ l ∨ c = 58) := by simp [eq_comm]
      have ne : ¬ (l ++ [c] = []) := by simp
      have lst : (l ++ [c]).getLast? = some 58 ↔ c = 58 := by simp
      rw [mem, lst]
      rcases hcases with e | e | e | e <;> subst e
      · have e : step 0 c = if isL c then some 1 else none := rfl
        rw [e] at h'
        split at h'
        · rename_i hl
          have := L_ne hl
          cases h'
          simp [i1, this]
        · cases h'
      · have e : step 1 c = if c = 58 then some 2 else if isI c then some 1 else none := rfl
        rw [e] at h'
        split at h'
        · rename_i hc
          cases h'
          simp [i1, hc]
        · split at h'
          · rename_i hc _
            cases h'
            simp [i1, hc]
          · cases h'
      · have e : step 2 c = if isL c then some 3 else none := rfl
        rw [e] at h'
        split at h'
        · rename_i hl
          have := L_ne hl
          cases h'
          simp [i1, this]
        · cases h'
      · have e : step 3 c = if isI c then some 3 else none := rfl
        rw [e] at h'
        split at h'
        · rename_i hl
          have := I_ne hl
          cases h'
          simp [i1, this]
        · cases h'
theorem goes_step (l : List Nat) (s c : Nat) (h : run l = some s) : goesOn l c = (step s c).isSome := by
  obtain ⟨i1, i2, i3, i4⟩ := colon_state l s h
  have hcases : s = 0 ∨ s = 1 ∨ s = 2 ∨ s = 3 := by omega
  unfold goesOn
  by_cases hc : c = 58
  · rw [if_pos hc]
    subst hc
    rcases hcases with e | e | e | e <;> subst e
    · simp [i2, step, colonL]
    · have : 58 ∉ l := fun z => by have := i1.mp z; omega
      have n : l ≠ [] := fun z => by have := i2.mp z; omega
      simp [this, n, step]
    · have : 58 ∈ l := i1.mpr (.inl rfl)
      simp [this, step, colonL]
    · have : 58 ∈ l := i1.mpr (.inr rfl)
      simp [this, step, colonI]
  · rw [if_neg hc]
    rcases hcases with e | e | e | e <;> subst e
    · have : l = [] := i2.mpr rfl
      rw [if_pos (.inl this)]
      show isL c = (if isL c then some 1 else none).isSome
      cases isL c <;> rfl
    · have n : ¬ (l = [] ∨ l.getLast? = some 58) := fun z => z.elim (fun y => by have := i2.mp y; omega) fun y => by have := i3.mp y; omega
      rw [if_neg n]
      have e : step 1 c = if c = 58 then some 2 else if isI c then some 1 else none := rfl
      rw [e, if_neg hc]
      cases isI c <;> rfl
    · rw [if_pos (.inr (i3.mpr rfl))]
      show isL c = (if isL c then some 3 else none).isSome
      cases isL c <;> rfl
    · have n : ¬ (l = [] ∨ l.getLast? = some 58) := fun z => z.elim (fun y => by have := i2.mp y; omega) fun y => by have := i3.mp y; omega
      rw [if_neg n]
      show isI c = (if isI c then some 3 else none).isSome
      cases isI c <;> rfl
theorem run_take (l : List Nat) {i c : Nat} (h : l[i]? = some c) : run (l.take (i + 1)) = (run (l.take i)).bind fun s => step s c := by
  rw [List.take_add_one, h]
  exact run_snoc _ _
theorem run_pre (l : List Nat) {i j : Nat} (h : run (l.take i) = none) (hij : i ≤ j) : run (l.take j) = none := by
  have e : l.take j = l.take i ++ (l.take j).drop i := by
    have := List.take_append_drop i (l.take j)
    rw [List.take_take, Nat.min_eq_left hij] at this
    exact this.symm
  unfold run at h ⊢
  rw [e, runO_app, h, runO_none]
/-- so far nothing was wrong -/
def Fine (l : List Nat) (i : Nat) : Prop := (run (l.take i)).isSome = true
theorem fine_next {l : List Nat} {i c : Nat} (h : l[i]? = some c) (f : Fine l i) : goesOn (l.take i) c = true ↔ Fine l (i + 1) := by
  obtain ⟨s, hs⟩ := Option.isSome_iff_exists.mp f
  rw [goes_step _ s c hs]
  unfold Fine
  rw [run_take l h, hs]
  rfl
/-- the greatest front part that is begun -/
def IsFar (l : List Nat) (m : Nat) : Prop := m ≤ l.length ∧ begun (l.take m) = true ∧ ∀ j, j ≤ l.length → begun (l.take j) = true → j ≤ m
theorem far_stop {l : List Nat} {i c : Nat} (h : l[i]? = some c) (f : Fine l i) (g : goesOn (l.take i) c = false) : IsFar l i ∧ name l = false := by
  have hi : i < l.length := (List.getElem?_eq_some_iff.mp h).1
  have n : ¬ Fine l (i + 1) := fun z => by rw [(fine_next h f).mpr z] at g; cases g
  have n2 : run (l.take (i + 1)) = none := by
    unfold Fine at n
    cases e : run (l.take (i + 1)) with
    | none => rfl
    | some s => rw [e] at n; exact absurd rfl n
  refine ⟨⟨Nat.le_of_lt hi, by rw [begun_run]; exact f, fun j hj hb => ?_⟩, ?_⟩
  · rw [begun_run] at hb
    refine Nat.le_of_lt_succ (Nat.lt_of_not_le fun z => ?_)
    rw [run_pre l n2 z] at hb
    cases hb
  · have e : run l = none := by
      have := run_pre l n2 (j := l.length) hi
      rwa [List.take_length] at this
    rw [name_run, e]
    rfl
theorem far_end {l : List Nat} (f : Fine l l.length) : IsFar l l.length := ⟨Nat.le_refl _, by rw [begun_run]; exact f, fun j hj _ => hj⟩
theorem far_one {l : List Nat} {m n : Nat} (a : IsFar l m) (b : IsFar l n) : m = n := Nat.le_antisymm (b.2.2 m a.1 a.2.1) (a.2.2 n b.1 b.2.1)
theorem part_end (l : List Nat) : (decide (l ≠ []) && decide (pend l = l.length)) = part l := by
  by_cases h0 : l = []
  · subst h0
    rfl
  · rw [decide_eq_true h0, Bool.true_and]
    by_cases hh : part l = true
    · rw [hh]; exact decide_eq_true ((pend_all l h0).mpr hh)
    · rw [decide_eq_false fun z => hh ((pend_all l h0).mp z)]
      simpa using hh
end Nam

/-! names in a text: plain lists of codes -/
namespace Nam
theorem tw_take : ∀ (r : List Nat) (k : Nat), ((r.take k).takeWhile isI).length = min k (r.takeWhile isI).length
  | [], k => by simp
  | c :: r, 0 => by simp
  | c :: r, k + 1 => by
    rw [List.take_succ_cons, List.takeWhile_cons, List.takeWhile_cons]
    cases isI c with
    | true =>
      rw [if_pos rfl, if_pos rfl, List.length_cons, List.length_cons, tw_take r k]
      omega
    | false =>
      rw [if_neg (by decide), if_neg (by decide)]
      simp
theorem pend_take (r : List Nat) (k : Nat) : pend (r.take k) = min k (pend r) := by
  cases r with
  | nil => rw [List.take_nil]; show pend [] = min k (pend []); have : pend [] = 0 := rfl; omega
  | cons c r =>
    cases k with
    | zero => rw [List.take_zero]; show pend [] = _; have : pend [] = 0 := rfl; omega
    | succ k =>
      rw [List.take_succ_cons]
      by_cases h : isL c = true
      · rw [pend_yes _ h, pend_yes _ h, tw_take]
        omega
      · rw [pend_not _ h, pend_not _ h]
        omega
theorem take_get {r : List Nat} {k p : Nat} (h : p < k) : (r.take k)[p]? = r[p]? := List.getElem?_take_of_lt h
theorem nend_take_le (r : List Nat) (k : Nat) (hk : k ≤ r.length) : nend (r.take k) ≤ nend r := by
  have e := pend_take r k
  have lt : (r.take k).length = k := by rw [List.length_take]; omega
  have pl := pend_le r
  unfold nend
  rw [e, lt]
  by_cases h1 : k ≤ pend r
  · rw [show min k (pend r) = k by omega, if_pos (.inr (.inl rfl))]
    split
    · exact h1
    · split <;> omega
  · rw [show min k (pend r) = pend r by omega, take_get (show pend r < k by omega)]
    by_cases h2 : pend r = 0 ∨ pend r = r.length ∨ r[pend r]? ≠ some 58
    · rw [if_pos h2]
      have h3 : pend r = 0 ∨ pend r = k ∨ r[pend r]? ≠ some 58 := by
        rcases h2 with h | h | h
        · exact .inl h
        · omega
        · exact .inr (.inr h)
      rw [if_pos h3]
      exact Nat.le_refl _
    · rw [if_neg h2]
      have h3 : ¬ (pend r = 0 ∨ pend r = k ∨ r[pend r]? ≠ some 58) := by
        intro h
        rcases h with h | h | h
        · exact h2 (.inl h)
        · omega
        · exact h2 (.inr (.inr h))
      rw [if_neg h3, List.drop_take, pend_take]
      split <;> split <;> omega
theorem nend_take_self (r : List Nat) : nend (r.take (nend r)) = nend r := by
  have pl := pend_le r
  have nl := nend_le r
  have lt : (r.take (nend r)).length = nend r := by rw [List.length_take]; omega
  have e := pend_take r (nend r)
  refine Nat.le_antisymm (nend_take_le r _ nl) ?_
  obtain ⟨n, hn⟩ : ∃ n, nend r = n := ⟨_, rfl⟩
  rw [hn] at e lt ⊢
  have hd := hn
  unfold nend at hd ⊢
  rw [e, lt]
  by_cases h2 : pend r = 0 ∨ pend r = r.length ∨ r[pend r]? ≠ some 58
  · rw [if_pos h2] at hd
    rw [show min n (pend r) = n by omega, if_pos (.inr (.inl rfl))]
    exact Nat.le_refl _
  · rw [if_neg h2] at hd
    by_cases h4 : pend (r.drop (pend r + 1)) > 0
    · rw [if_pos h4] at hd
      rw [show min n (pend r) = pend r by omega, take_get (show pend r < n by omega)]
      have h3 : ¬ (pend r = 0 ∨ pend r = n ∨ r[pend r]? ≠ some 58) := by
        intro h
        rcases h with h | h | h
        · exact h2 (.inl h)
        · omega
        · exact h2 (.inr (.inr h))
      rw [if_neg h3, List.drop_take, pend_take]
      split <;> omega
    · rw [if_neg h4] at hd
      rw [show min n (pend r) = n by omega, if_pos (.inr (.inl rfl))]
      exact Nat.le_refl _
/-- the longest front part that is a name -/
theorem nend_max {r : List Nat} {k : Nat} (hk : k ≤ r.length) (h : name (r.take k) = true) : k ≤ nend r := by
  rw [← name_end, Bool.and_eq_true, decide_eq_true_eq, decide_eq_true_eq] at h
  have lt : (r.take k).length = k := by rw [List.length_take]; omega
  have q := nend_take_le r k hk
  omega
theorem nend_name {r : List Nat} (h : 0 < nend r) : name (r.take (nend r)) = true := by
  have nl := nend_le r
  have lt : (r.take (nend r)).length = nend r := by rw [List.length_take]; omega
  rw [← name_end, Bool.and_eq_true, decide_eq_true_eq, decide_eq_true_eq, nend_take_self, lt]
  refine ⟨fun e => ?_, rfl⟩
  rw [e] at lt
  simp at lt
  omega
/-! the names, from left to right -/
def namesGo (l : List Nat) : Nat → Nat → List (Nat × Nat)
  | 0, _ => []
  | f + 1, i => if i < l.length then (if 0 < nend (l.drop i) then (i, i + nend (l.drop i)) :: namesGo l f (i + nend (l.drop i)) else namesGo l f (i + 1)) else []
theorem namesGo_more (l : List Nat) : ∀ (f i : Nat), l.length - i ≤ f → namesGo l f i = namesGo l (l.length - i) i := by
  intro f
  induction f using Nat.strongRecOn with
  | ind f ih =>
    intro i h
    by_cases hi : i < l.length
    · obtain ⟨f', rfl⟩ : ∃ f', f = f' + 1 := ⟨f - 1, by omega⟩
      obtain ⟨g, hg⟩ : ∃ g, l.length - i = g + 1 := ⟨l.length - i - 1, by omega⟩
      rw [hg]
      unfold namesGo
      rw [if_pos hi, if_pos hi]
      by_cases h0 : 0 < nend (l.drop i)
      · rw [if_pos h0, if_pos h0, ih f' (by omega) _ (by omega)]
        congr 1
        by_cases e : g = f'
        · rw [e, ih f' (by omega) _ (by omega)]
        · rw [ih g (by omega) _ (by omega)]
      · rw [if_neg h0, if_neg h0, ih f' (by omega) _ (by omega)]
        by_cases e : g = f'
        · rw [e, ih f' (by omega) _ (by omega)]
        · rw [ih g (by omega) _ (by omega)]
    · have e0 : l.length - i = 0 := by omega
      rw [e0]
      cases f with
      | zero => rfl
      | succ f =>
        unfold namesGo
        rw [if_neg hi]
def names (l : List Nat) (i : Nat) : List (Nat × Nat) := namesGo l (l.length - i) i
theorem names_end {l : List Nat} {i : Nat} (h : ¬ i < l.length) : names l i = [] := by
  unfold names
  rw [show l.length - i = 0 by omega]
  rfl
theorem names_yes {l : List Nat} {i : Nat} (h : i < l.length) (h0 : 0 < nend (l.drop i)) : names l i = (i, i + nend (l.drop i)) :: names l (i + nend (l.drop i)) := by
  unfold names
  obtain ⟨g, hg⟩ : ∃ g, l.length - i = g + 1 := ⟨l.length - i - 1, by omega⟩
  rw [hg]
  show (if i < l.length then (if 0 < nend (l.drop i) then _ else _) else _) = _
  rw [if_pos h, if_pos h0, namesGo_more l g _ (by omega)]
theorem names_no {l : List Nat} {i : Nat} (h : i < l.length) (h0 : ¬ 0 < nend (l.drop i)) : names l i = names l (i + 1) := by
  unfold names
  obtain ⟨g, hg⟩ : ∃ g, l.length - i = g + 1 := ⟨l.length - i - 1, by omega⟩
  rw [hg]
  show (if i < l.length then (if 0 < nend (l.drop i) then _ else _) else _) = _
  rw [if_pos h, if_neg h0, namesGo_more l g _ (by omega)]
theorem names_cons {l : List Nat} {b e : Nat} {r : List (Nat × Nat)} : ∀ {i : Nat}, names l i = (b, e) :: r → i ≤ b ∧ b < e ∧ e ≤ l.length ∧ r = names l e := by
  have k : ∀ (n i : Nat), l.length - i = n → names l i = (b, e) :: r → i ≤ b ∧ b < e ∧ e ≤ l.length ∧ r = names l e := by
    intro n
    induction n with
    | zero =>
      intro i hi h
      rw [names_end (by omega)] at h
      cases h
    | succ n ih =>
      intro i hi h
      have hlt : i < l.length := by omega
      have nl := nend_le (l.drop i)
      rw [List.length_drop] at nl
      by_cases h0 : 0 < nend (l.drop i)
      · rw [names_yes hlt h0] at h
        cases h
        exact ⟨Nat.le_refl _, by omega, by omega, rfl⟩
      · rw [names_no hlt h0] at h
        obtain ⟨h1, h2⟩ := ih (i + 1) (by omega) h
        exact ⟨by omega, h2⟩
  exact fun {i} h => k _ i rfl h
end Nam

/-! texts and the plain names -/
namespace Nam
open PySem PySem.Spec PyProof.Rows L2 TL
theorem str_codes (x : Str) (l : List Nat) (h : tl x = l) : x = ⟨l.toArray⟩ := by
  rw [← h]
theorem one_eq (c d : Nat) : decide (V.str ⟨#[c]⟩ = V.str ⟨#[d]⟩) = decide (c = d) := by
  by_cases h : c = d
  · subst h; simp
  · have : ¬ (V.str ⟨#[c]⟩ = V.str ⟨#[d]⟩) := fun e => by
      injection e with e
      have := congrArg tl e
      simp [tl] at this
      exact h this
    simp [this, h]
theorem empty_eq (x : Str) : decide (V.str x = V.str "") = decide (tl x = []) := by
  have e0 : tl ("" : Str) = [] := rfl
  by_cases h : tl x = []
  · have : x = "" := ext_tl (h.trans e0.symm)
    subst this
    rfl
  · have n : ¬ (V.str x = V.str "") := fun e => by
      injection e with e
      rw [e] at h
      exact h e0
    simp [n, h]
theorem tl_lets : tl ("abcdefghijklmnopqrstuvwxyzABCDEFGHIJKLMNOPQRSTUVWXYZ_" : Str) = lets := tl_ofString _
theorem tl_inns : tl ("abcdefghijklmnopqrstuvwxyzABCDEFGHIJKLMNOPQRSTUVWXYZ_0123456789-." : Str) = inns := tl_ofString _
theorem colon_codes : (":" : Str) = ⟨#[58]⟩ := rfl
theorem tl_colon : tl (":" : Str) = [58] := rfl
theorem ends_colon (x : Str) : Txt.endswith x ":" = decide ((tl x).getLast? = some 58) := by
  unfold Txt.endswith
  rw [PySem.StrLaws.subAt_eq]
  show (decide (0 + 1 ≤ x.length) && (((tl x).drop (x.length - 1)).take 1 == [58])) = _
  rw [len_tl x]
  cases h : (tl x) using snocInd with
  | h0 => rfl
  | h1 l c _ => 
    have e1 : (l ++ [c]).length - 1 = l.length := by simp
    rw [e1, List.drop_left, List.getLast?_append]
    simp
    by_cases h : c = 58 <;> simp [h]
theorem spl_cut : ∀ (l acc : List Nat), spl [58] 0 acc l = cut acc l
  | [], acc => rfl
  | c :: r, acc => by
    by_cases h : c = 58
    · subst h
      rw [spl_hit (by rfl)]
      show acc :: spl [58] 0 [] r = (if (58 : Nat) = 58 then _ else _)
      rw [if_pos rfl, spl_cut r []]
    · rw [spl_miss (pre_of_head _ _ h)]
      show _ = (if c = 58 then _ else _)
      rw [if_neg h, spl_cut r]
theorem split_colon (x : Str) : (Txt.split x ":").map tl = cut [] (tl x) := by
  rw [split_spl x ":" (by decide) (kind_ok (by decide +kernel)), tl_colon, spl_cut]
theorem cutS_take (z : Str) (i : Nat) (h : i ≤ (tl z).length) : tl (cutS z none (some (i : Int))) = (tl z).take i := by
  show (((z.cps.toList.drop (HT.sIx z.length 0 none)).take (HT.sIx z.length z.length (some (i : Int)) - HT.sIx z.length 0 none)).toArray).toList = _
  have e0 : HT.sIx z.length 0 none = 0 := rfl
  have e1 : HT.sIx z.length z.length (some (i : Int)) = i := by
    have := len_tl z
    rw [HT.sIx_nat]
    omega
  rw [e0, e1]
  rfl
/-! walking along a text -/
theorem inL (c : Nat) : decide (c ∈ ("abcdefghijklmnopqrstuvwxyzABCDEFGHIJKLMNOPQRSTUVWXYZ_" : Str).cps.toList) = isL c := by
  show decide (c ∈ tl ("abcdefghijklmnopqrstuvwxyzABCDEFGHIJKLMNOPQRSTUVWXYZ_" : Str)) = decide (c ∈ lets)
  rw [tl_lets]
theorem inI (c : Nat) : decide (c ∈ ("abcdefghijklmnopqrstuvwxyzABCDEFGHIJKLMNOPQRSTUVWXYZ_0123456789-." : Str).cps.toList) = isI c := by
  show decide (c ∈ tl ("abcdefghijklmnopqrstuvwxyzABCDEFGHIJKLMNOPQRSTUVWXYZ_0123456789-." : Str)) = decide (c ∈ inns)
  rw [tl_inns]
theorem inLI (c : Nat) : decide (c ∈ (("abcdefghijklmnopqrstuvwxyzABCDEFGHIJKLMNOPQRSTUVWXYZ_" : Str) ++ ("0123456789-." : Str)).cps.toList) = isI c := by
  rw [show (("abcdefghijklmnopqrstuvwxyzABCDEFGHIJKLMNOPQRSTUVWXYZ_" : Str) ++ ("0123456789-." : Str)) = ("abcdefghijklmnopqrstuvwxyzABCDEFGHIJKLMNOPQRSTUVWXYZ_0123456789-." : Str) from by decide +kernel]
  exact inI c
theorem range_all (l : List Nat) (p : Nat → Bool) : (!(List.range l.length).any fun i => !p (l.getD i 0)) = l.all p := by
  rw [Bool.eq_iff_iff]
  simp only [Bool.not_eq_true', List.any_eq_false, List.mem_range, List.all_eq_true, Bool.not_eq_true, Bool.not_eq_false']
  constructor
  · intro h x hx
    obtain ⟨i, hi, e⟩ := List.mem_iff_getElem.mp hx
    have := h i hi
    rw [List.getD_eq_getElem?_getD, List.getElem?_eq_getElem hi] at this
    simpa [e] using this
  · intro h i hi
    have := h (l[i]) (List.getElem_mem hi)
    rw [List.getD_eq_getElem?_getD, List.getElem?_eq_getElem hi]
    simpa using this
theorem cut_mem : ∀ (l acc : List Nat), (∀ p ∈ cut acc l, (∀ c ∈ p, c ∈ acc ∨ c ∈ l) ∧ p.length ≤ acc.length + l.length) ∧ (cut acc l).length ≤ l.length + 1
  | [], acc => by
    refine ⟨fun p hp => ?_, Nat.le_refl _⟩
    rw [List.mem_singleton.mp hp]
    exact ⟨fun c hc => .inl hc, Nat.le_add_right _ _⟩
  | x :: r, acc => by
    unfold cut
    by_cases h : x = 58
    · rw [if_pos h]
      obtain ⟨h1, h2⟩ := cut_mem r []
      refine ⟨fun p hp => ?_, ?_⟩
      · rcases List.mem_cons.mp hp with rfl | hp
        · exact ⟨fun c hc => .inl hc, Nat.le_add_right _ _⟩
        · obtain ⟨a, b⟩ := h1 p hp
          refine ⟨fun c hc => ?_, ?_⟩
          · rcases a c hc with z | z
            · cases z
            · exact .inr (List.mem_cons_of_mem _ z)
          · simp only [List.length_nil, List.length_cons] at b ⊢; omega
      · simp only [List.length_cons] at h2 ⊢; omega
    · rw [if_neg h]
      obtain ⟨h1, h2⟩ := cut_mem r (acc ++ [x])
      refine ⟨fun p hp => ?_, ?_⟩
      · obtain ⟨a, b⟩ := h1 p hp
        refine ⟨fun c hc => ?_, ?_⟩
        · rcases a c hc with z | z
          · rcases List.mem_append.mp z with z | z
            · exact .inl z
            · rw [List.mem_singleton.mp z]; exact .inr List.mem_cons_self
          · exact .inr (List.mem_cons_of_mem _ z)
        · simp only [List.length_append, List.length_cons, List.length_nil] at b ⊢; omega
      · simp only [List.length_cons] at h2 ⊢; omega
def Wd (z : Str) : Prop := (tl z).length ≤ 1000 ∧ ∀ c ∈ tl z, c < 0x110000
theorem cut_wd {z : Str} {i : Nat} (h : Wd z) (hi : i ≤ (tl z).length) : Wd (cutS z none (some (i : Int))) := by
  unfold Wd
  rw [cutS_take z i hi]
  refine ⟨?_, fun c hc => h.2 c (List.mem_of_mem_take hc)⟩
  have := h.1
  rw [List.length_take]
  omega
theorem split_wd {z : Str} (h : Wd z) : (∀ y ∈ Txt.split z ":", Wd y) ∧ (Txt.split z ":").length ≤ 1001 := by
  have e := split_colon z
  obtain ⟨h1, h2⟩ := cut_mem (tl z) []
  rw [← e] at h1 h2
  refine ⟨fun y hy => ?_, ?_⟩
  · obtain ⟨a, b⟩ := h1 (tl y) (List.mem_map_of_mem hy)
    refine ⟨?_, fun c hc => ?_⟩
    · simp only [List.length_nil] at b
      have := h.1
      omega
    · rcases a c hc with z | z
      · cases z
      · exact h.2 c z
  · rw [List.length_map] at h2
    have := h.1
    omega
theorem split_n (z : Str) : (Txt.split z ":").length = (cut [] (tl z)).length := by rw [← split_colon, List.length_map]
theorem range_allA {α : Type} (l : List α) (d : α) (p : α → Bool) : (!(List.range l.length).any fun i => !p (l.getD i d)) = l.all p := by
  rw [Bool.eq_iff_iff]
  simp only [Bool.not_eq_true', List.any_eq_false, List.mem_range, List.all_eq_true, Bool.not_eq_true, Bool.not_eq_false']
  constructor
  · intro h x hx
    obtain ⟨i, hi, e⟩ := List.mem_iff_getElem.mp hx
    have := h i hi
    rw [List.getD_eq_getElem?_getD, List.getElem?_eq_getElem hi] at this
    simpa [e] using this
  · intro h i hi
    have := h (l[i]) (List.getElem_mem hi)
    rw [List.getD_eq_getElem?_getD, List.getElem?_eq_getElem hi]
    simpa using this
theorem split_all (z : Str) : (Txt.split z ":").all (fun y => part (tl y)) = (cut [] (tl z)).all part := by
  rw [← split_colon, List.all_map]
  rfl
theorem split_at (z : Str) (i : Nat) : ((Txt.split z ":")[i]?).map tl = (cut [] (tl z))[i]? := by rw [← split_colon, List.getElem?_map]
def tw (l : List Nat) (j : Nat) : Nat := j + ((l.drop j).takeWhile isI).length
theorem drop_at {l : List Nat} {j c : Nat} (h : l[j]? = some c) : l.drop j = c :: l.drop (j + 1) := by
  obtain ⟨hj, e⟩ := List.getElem?_eq_some_iff.mp h
  rw [List.drop_eq_getElem_cons hj, e]
theorem tw_step {l : List Nat} {j c : Nat} (h : l[j]? = some c) (hc : isI c = true) : tw l j = tw l (j + 1) := by
  unfold tw
  rw [drop_at h, List.takeWhile_cons, if_pos hc, List.length_cons]
  omega
theorem tw_stop {l : List Nat} {j c : Nat} (h : l[j]? = some c) (hc : isI c = false) : tw l j = j := by
  unfold tw
  rw [drop_at h, List.takeWhile_cons, if_neg (by rw [hc]; decide)]
  rfl
theorem tw_end {l : List Nat} {j : Nat} (h : j = l.length) : tw l j = j := by
  subst h
  unfold tw
  rw [List.drop_length]
  rfl
theorem pend_step {l : List Nat} {j c : Nat} (h : l[j]? = some c) (hc : isL c = true) : j + pend (l.drop j) = tw l (j + 1) := by
  unfold tw
  rw [drop_at h, pend_yes _ hc]
  omega
theorem pend_stop {l : List Nat} {j c : Nat} (h : l[j]? = some c) (hc : isL c = false) : j + pend (l.drop j) = j := by
  rw [drop_at h, pend_not _ (by rw [hc]; decide)]
  rfl
theorem pend_end {l : List Nat} {j : Nat} (h : j = l.length) : j + pend (l.drop j) = j := by
  subst h
  rw [List.drop_length]
  rfl
theorem int_eq (i j : Nat) : decide (V.int (i : Int) = V.int (j : Int)) = decide (i = j) := by
  by_cases h : i = j
  · subst h; simp
  · have n : ¬ (V.int (i : Int) = V.int (j : Int)) := fun e => by
      injection e with e
      exact h (by omega)
    simp [n, h]
end Nam

set_option maxHeartbeats 1000000
namespace K3
open PySem PySem.Spec PyProof.Rows L2 Mx
/-! ### the text by places -/
def topS (i : Nat) : Stmt := PySem.Challenge.pw_markstream_k03_names_in_texts.main.body.getD i (.Pass ⟨0, 0, 0, 0⟩)
abbrev s_IllFormed___init__ : Stmt := inClass (topS 5) 0
abbrev s_InvalidText___init__ : Stmt := inClass (topS 6) 0
abbrev s_InvalidKind___init__ : Stmt := inClass (topS 7) 0
abbrev s_InvalidNumber___init__ : Stmt := inClass (topS 8) 0
abbrev s_check_text : Stmt := topS 13
abbrev s_part_end : Stmt := topS 14
abbrev s_name_end : Stmt := topS 15
abbrev s_names_in : Stmt := topS 16
abbrev s_is_between : Stmt := topS 18
abbrev s_check_number : Stmt := topS 19
abbrev s_Lines___init__ : Stmt := inClass (topS 22) 0
abbrev s_Cursor_offset : Stmt := inClass (topS 23) 1
abbrev s_Cursor_go_to : Stmt := inClass (topS 23) 3
abbrev s_Cursor_passed_to : Stmt := inClass (topS 23) 4
abbrev s_Cursor_take_name : Stmt := inClass (topS 23) 6
abbrev s__law_mixed : Stmt := topS 25
abbrev s__law_stream : Stmt := topS 26
abbrev s__law_draw : Stmt := topS 27
abbrev s__law_signs : Stmt := topS 28
abbrev s__law_pick : Stmt := topS 29
abbrev s__law_is_part : Stmt := topS 30
abbrev s__law_is_name : Stmt := topS 31
abbrev s__law_told : Stmt := topS 32
abbrev s__law_phrase : Stmt := topS 33
abbrev s__law_end : Stmt := topS 34
abbrev s__law_names : Stmt := topS 35
abbrev s__law_first : Stmt := topS 36
abbrev s__law_right : Stmt := topS 37
abbrev s_law : Stmt := topS 38
theorem sc_IllFormed___init__ : FnScope ["self", "position"] ["self", "position"] (defScope s_IllFormed___init__) := ⟨rfl, rfl, rfl, by decide +kernel, rfl, by decide +kernel, by decide +kernel⟩
theorem sc_InvalidText___init__ : FnScope ["self", "index"] ["self", "index"] (defScope s_InvalidText___init__) := ⟨rfl, rfl, rfl, by decide +kernel, rfl, by decide +kernel, by decide +kernel⟩
theorem sc_InvalidKind___init__ : FnScope ["self", "kind"] ["self", "kind"] (defScope s_InvalidKind___init__) := ⟨rfl, rfl, rfl, by decide +kernel, rfl, by decide +kernel, by decide +kernel⟩
theorem sc_InvalidNumber___init__ : FnScope ["self", "number"] ["self", "number"] (defScope s_InvalidNumber___init__) := ⟨rfl, rfl, rfl, by decide +kernel, rfl, by decide +kernel, by decide +kernel⟩
theorem sc_check_text : FnScope ["text"] ["text"] (defScope s_check_text) := ⟨rfl, rfl, rfl, by decide +kernel, rfl, by decide +kernel, by decide +kernel⟩
theorem sc_part_end : FnScope ["text", "begin", "end"] ["text", "begin"] (defScope s_part_end) := ⟨rfl, rfl, rfl, by decide +kernel, rfl, by decide +kernel, by decide +kernel⟩
theorem sc_name_end : FnScope ["text", "begin", "end", "further"] ["text", "begin"] (defScope s_name_end) := ⟨rfl, rfl, rfl, by decide +kernel, rfl, by decide +kernel, by decide +kernel⟩
theorem sc_names_in : GScope ["text", "at", "end"] ["text"] (defScope s_names_in) := ⟨rfl, rfl, rfl, by decide +kernel, rfl, by decide +kernel, by decide +kernel⟩
theorem nc_names_in : ∀ n, cellsFrom n (defScope s_names_in).names [] = [] := fun n => rfl
theorem sc_is_between : FnScope ["value", "least", "most"] ["value", "least", "most"] (defScope s_is_between) := ⟨rfl, rfl, rfl, by decide +kernel, rfl, by decide +kernel, by decide +kernel⟩
theorem sc_check_number : FnScope ["value", "least", "most"] ["value", "least", "most"] (defScope s_check_number) := ⟨rfl, rfl, rfl, by decide +kernel, rfl, by decide +kernel, by decide +kernel⟩
theorem sc_Lines___init__ : FnScope ["self", "text", "at", "sign"] ["self", "text"] (defScope s_Lines___init__) := ⟨rfl, rfl, rfl, by decide +kernel, rfl, by decide +kernel, by decide +kernel⟩
theorem sc_Cursor_offset : FnScope ["self"] ["self"] (defScope s_Cursor_offset) := ⟨rfl, rfl, rfl, by decide +kernel, rfl, by decide +kernel, by decide +kernel⟩
theorem sc_Cursor_go_to : FnScope ["self", "position"] ["self", "position"] (defScope s_Cursor_go_to) := ⟨rfl, rfl, rfl, by decide +kernel, rfl, by decide +kernel, by decide +kernel⟩
theorem sc_Cursor_passed_to : FnScope ["self", "position", "found"] ["self", "position"] (defScope s_Cursor_passed_to) := ⟨rfl, rfl, rfl, by decide +kernel, rfl, by decide +kernel, by decide +kernel⟩
theorem sc_Cursor_take_name : FnScope ["self", "end"] ["self"] (defScope s_Cursor_take_name) := ⟨rfl, rfl, rfl, by decide +kernel, rfl, by decide +kernel, by decide +kernel⟩
theorem sc__law_mixed : FnScope ["number", "k"] ["number", "k"] (defScope s__law_mixed) := ⟨rfl, rfl, rfl, by decide +kernel, rfl, by decide +kernel, by decide +kernel⟩
theorem sc__law_stream : FnScope ["item", "k"] ["item", "k"] (defScope s__law_stream) := ⟨rfl, rfl, rfl, by decide +kernel, rfl, by decide +kernel, by decide +kernel⟩
theorem sc__law_draw : FnScope ["stream", "top", "number"] ["stream", "top"] (defScope s__law_draw) := ⟨rfl, rfl, rfl, by decide +kernel, rfl, by decide +kernel, by decide +kernel⟩
theorem sc__law_signs : FnScope [] [] (defScope s__law_signs) := ⟨rfl, rfl, rfl, by decide +kernel, rfl, by decide +kernel, by decide +kernel⟩
theorem sc__law_pick : FnScope ["stream", "some"] ["stream", "some"] (defScope s__law_pick) := ⟨rfl, rfl, rfl, by decide +kernel, rfl, by decide +kernel, by decide +kernel⟩
theorem sc__law_is_part : FnScope ["word", "letters", "one"] ["word"] (defScope s__law_is_part) := ⟨rfl, rfl, rfl, by decide +kernel, rfl, by decide +kernel, by decide +kernel⟩
theorem sc__law_is_name : FnScope ["word", "some", "one"] ["word"] (defScope s__law_is_name) := ⟨rfl, rfl, rfl, by decide +kernel, rfl, by decide +kernel, by decide +kernel⟩
theorem sc__law_told : FnScope ["call", "caught", "found", "error"] ["call"] (defScope s__law_told) := ⟨rfl, rfl, rfl, by decide +kernel, rfl, by decide +kernel, by decide +kernel⟩
theorem sc__law_phrase : FnScope ["stream", "found", "turn", "some"] ["stream"] (defScope s__law_phrase) := ⟨rfl, rfl, rfl, by decide +kernel, rfl, by decide +kernel, by decide +kernel⟩
theorem sc__law_end : FnScope ["phrase", "at", "some", "end"] ["phrase", "at"] (defScope s__law_end) := ⟨rfl, rfl, rfl, by decide +kernel, rfl, by decide +kernel, by decide +kernel⟩
theorem sc__law_names : FnScope ["phrase", "found", "at", "end"] ["phrase"] (defScope s__law_names) := ⟨rfl, rfl, rfl, by decide +kernel, rfl, by decide +kernel, by decide +kernel⟩
theorem sc__law_first : FnScope ["phrase", "many", "found", "pair"] ["phrase", "many"] (defScope s__law_first) := ⟨rfl, rfl, rfl, by decide +kernel, rfl, by decide +kernel, by decide +kernel⟩
theorem sc__law_right : FnScope ["phrase", "due", "cursor", "at", "end", "told"] ["phrase"] (defScope s__law_right) := ⟨rfl, rfl, rfl, by decide +kernel, rfl, by decide +kernel, by decide +kernel⟩
theorem sc_law : FnScope ["script", "k", "item", "stream", "turn", "odd", "one"] ["script"] (defScope s_law) := ⟨rfl, rfl, rfl, by decide +kernel, rfl, by decide +kernel, by decide +kernel⟩
abbrev s_Cursor___init__ : Stmt := inClass (topS 23) 0
theorem sc_Cursor___init__ : Mx.SupScope ["self", "text"] ["self", "text"] (defScope s_Cursor___init__) := ⟨rfl, rfl, rfl, by decide +kernel, rfl, by decide +kernel, by decide +kernel, by decide +kernel, rfl, rfl⟩
/-! ### what the walk asks of the top -/
structure Tx (P : Program) (w : World) (K : PySem.W.Frag) (mg : Str → Option Value) (base : Heap) : Type where
  d_check_text : Mx.DefT K mg "check_text" s_check_text ["text"]
  d_part_end : Mx.DefT K mg "part_end" s_part_end ["text", "begin"]
  d_name_end : Mx.DefT K mg "name_end" s_name_end ["text", "begin"]
  d_names_in : Mx.DefT K mg "names_in" s_names_in ["text"]
  d_is_between : Mx.DefD K mg "is_between" s_is_between ["value", "least", "most"] .non
  d_check_number : Mx.DefD K mg "check_number" s_check_number ["value", "least", "most"] .non
  d__law_mixed : Mx.DefT K mg "_law_mixed" s__law_mixed ["number", "k"]
  d__law_stream : Mx.DefT K mg "_law_stream" s__law_stream ["item", "k"]
  d__law_draw : Mx.DefT K mg "_law_draw" s__law_draw ["stream", "top"]
  d__law_signs : Mx.DefT K mg "_law_signs" s__law_signs []
  d__law_pick : Mx.DefT K mg "_law_pick" s__law_pick ["stream", "some"]
  d__law_is_part : Mx.DefT K mg "_law_is_part" s__law_is_part ["word"]
  d__law_is_name : Mx.DefT K mg "_law_is_name" s__law_is_name ["word"]
  d__law_told : Mx.DefT K mg "_law_told" s__law_told ["call"]
  d__law_phrase : Mx.DefT K mg "_law_phrase" s__law_phrase ["stream"]
  d__law_end : Mx.DefT K mg "_law_end" s__law_end ["phrase", "at"]
  d__law_names : Mx.DefT K mg "_law_names" s__law_names ["phrase"]
  d__law_first : Mx.DefT K mg "_law_first" s__law_first ["phrase", "many"]
  d__law_right : Mx.DefT K mg "_law_right" s__law_right ["phrase"]
  n_isinstance : mg "isinstance" = none
  n_str : mg "str" = none
  n_int : mg "int" = none
  n_bool : mg "bool" = none
  n_len : mg "len" = none
  n_range : mg "range" = none
  n_max : mg "max" = none
  n_enumerate : mg "enumerate" = none
  n_list : mg "list" = none
  n_super : mg "super" = none
  g_LETTERS : ∃ u, mg "LETTERS" = some u ∧ RelV (.str "abcdefghijklmnopqrstuvwxyzABCDEFGHIJKLMNOPQRSTUVWXYZ_") u
  g_INNER : ∃ u, mg "INNER" = some u ∧ RelV (.str "abcdefghijklmnopqrstuvwxyzABCDEFGHIJKLMNOPQRSTUVWXYZ_0123456789-.") u
  a_IllFormed : Addr
  i_IllFormed : Addr
  fd_IllFormed : FuncData
  x_IllFormed : Mx.ExT P w K mg base "IllFormed" "position" a_IllFormed i_IllFormed fd_IllFormed ["self", "position"]
  a_InvalidText : Addr
  i_InvalidText : Addr
  fd_InvalidText : FuncData
  x_InvalidText : Mx.ExT P w K mg base "InvalidText" "index" a_InvalidText i_InvalidText fd_InvalidText ["self", "index"]
  a_InvalidNumber : Addr
  i_InvalidNumber : Addr
  fd_InvalidNumber : FuncData
  x_InvalidNumber : Mx.ExT P w K mg base "InvalidNumber" "number" a_InvalidNumber i_InvalidNumber fd_InvalidNumber ["self", "number"]
  C_Cursor : Addr
  cl_Cursor : Cls K C_Cursor
  mg_Cursor : mg "Cursor" = some (.ref C_Cursor)
  na_own_text : NoAttr K C_Cursor "own_text"
  na_begins : NoAttr K C_Cursor "begins"
  na_spot : NoAttr K C_Cursor "spot"
  f_Lines___init__ : Addr
  fd_Lines___init__ : FuncData
  F_Lines___init__ : Fun K "__init__" "Lines.__init__" s_Lines___init__ f_Lines___init__ fd_Lines___init__
  b_Lines___init__ : Binds K fd_Lines___init__ ["self", "text"] []
  f_Cursor_offset : Addr
  fd_Cursor_offset : FuncData
  F_Cursor_offset : Fun K "offset" "Cursor.offset" s_Cursor_offset f_Cursor_offset fd_Cursor_offset
  b_Cursor_offset : Binds K fd_Cursor_offset ["self"] []
  p_Cursor_offset : Addr
  pr_Cursor_offset : PropOf K C_Cursor "offset" p_Cursor_offset f_Cursor_offset
  f_Cursor_go_to : Addr
  fd_Cursor_go_to : FuncData
  F_Cursor_go_to : Fun K "go_to" "Cursor.go_to" s_Cursor_go_to f_Cursor_go_to fd_Cursor_go_to
  b_Cursor_go_to : Binds K fd_Cursor_go_to ["self", "position"] []
  me_Cursor_go_to : Meth K C_Cursor "go_to" f_Cursor_go_to
  f_Cursor_passed_to : Addr
  fd_Cursor_passed_to : FuncData
  F_Cursor_passed_to : Fun K "passed_to" "Cursor.passed_to" s_Cursor_passed_to f_Cursor_passed_to fd_Cursor_passed_to
  b_Cursor_passed_to : Binds K fd_Cursor_passed_to ["self", "position"] []
  me_Cursor_passed_to : Meth K C_Cursor "passed_to" f_Cursor_passed_to
  f_Cursor_take_name : Addr
  fd_Cursor_take_name : FuncData
  F_Cursor_take_name : Fun K "take_name" "Cursor.take_name" s_Cursor_take_name f_Cursor_take_name fd_Cursor_take_name
  b_Cursor_take_name : Binds K fd_Cursor_take_name ["self"] []
  me_Cursor_take_name : Meth K C_Cursor "take_name" f_Cursor_take_name
  f_Cursor___init__ : Addr
  fd_Cursor___init__ : FuncData
  ci_Cursor___init__ : ∃ (oc kV doc pm ct : Value) (an od : Option Addr) (osl : Array (Option Value)) (cda cc : Addr), fd_Cursor___init__ = PySem.W.ksFn "__init__" "Cursor.__init__" (defArgs s_Cursor___init__) (defBody s_Cursor___init__) (defScope s_Cursor___init__) .none kV doc pm an (.ref cda) ct cc ∧ K.lookup f_Cursor___init__ = some ⟨oc, od, .func (PySem.W.ksFn "__init__" "Cursor.__init__" (defArgs s_Cursor___init__) (defBody s_Cursor___init__) (defScope s_Cursor___init__) .none kV doc pm an (.ref cda) ct cc), osl⟩ ∧ PySem.W.codeIn K (.ref cda) "Cursor.__init__" = true ∧ Mx.SupF P K mg C_Cursor f_Cursor___init__ (PySem.W.ksFn "__init__" "Cursor.__init__" (defArgs s_Cursor___init__) (defBody s_Cursor___init__) (defScope s_Cursor___init__) .none kV doc pm an (.ref cda) ct cc) cda cc
  b_Cursor___init__ : Binds K fd_Cursor___init__ ["self", "text"] []
  mk_Cursor : Mk K C_Cursor f_Cursor___init__
  mro_Cursor : PySem.W.mroIn K C_Cursor (.ref C_Cursor) = some true
  sup_Cursor : PySem.W.ks_superIn K C_Cursor C_Cursor "__init__" = some (some (.ref f_Lines___init__))
  tI_Lines : PySem.W.typeIn K (.ref f_Lines___init__) = some (.type "function")
  fI_Lines : PySem.W.fnIn K f_Lines___init__ = true
  a_MarkupError : Addr
  m_MarkupError : mg "MarkupError" = some (.ref a_MarkupError)
  a_MarkupStateError : Addr
  m_MarkupStateError : mg "MarkupStateError" = some (.ref a_MarkupStateError)
  a_LimitError : Addr
  m_LimitError : mg "LimitError" = some (.ref a_LimitError)
  a_InvalidKind : Addr
  m_InvalidKind : mg "InvalidKind" = some (.ref a_InvalidKind)
  xc_InvalidText : Mx.XcC K a_InvalidText
  ex_InvalidText : PySem.W.exmAny K (.ref a_InvalidText) [.ref a_MarkupError, .ref a_MarkupStateError, .ref a_LimitError] = some true
  fn_InvalidText : PySem.W.findIn K (.ref a_InvalidText) "index" = some none
  si_InvalidText : PySem.W.subIn K (.ref a_InvalidText) (.type "StopIteration") = some false
  k1_InvalidText : PySem.W.kitOne K (.ref a_InvalidText) (.ref a_IllFormed) = some false
  k2_InvalidText : PySem.W.kitOne K (.ref a_InvalidText) (.ref a_InvalidText) = some true
  xc_IllFormed : Mx.XcC K a_IllFormed
  ex_IllFormed : PySem.W.exmAny K (.ref a_IllFormed) [.ref a_MarkupError, .ref a_MarkupStateError, .ref a_LimitError] = some true
  fn_IllFormed : PySem.W.findIn K (.ref a_IllFormed) "position" = some none
  si_IllFormed : PySem.W.subIn K (.ref a_IllFormed) (.type "StopIteration") = some false
  k1_IllFormed : PySem.W.kitOne K (.ref a_IllFormed) (.ref a_IllFormed) = some true
  kb_names_in : KBinds K d_names_in.fd ["text"] ["text"] (fun us ws => us ++ ws) (fun vs zs => vs ++ zs)
end K3

set_option maxHeartbeats 1000000
namespace K3
open PySem PySem.Spec PyProof.Rows L2 Mx
/-! ### the law's draws -/
def sp__law_mixed : Sp := fun vs H Q _ => ∃ n k : Int, vs = [.int n, .int k] ∧ 0 ≤ k ∧ k ≤ 1000000000000 ∧ ∀ r : Int, 0 ≤ r → r < 2147483629 → Q (.int r) H
def sp__law_stream : Sp := fun vs H Q _ => ∃ n k : Int, vs = [.int n, .int k] ∧ 0 ≤ k ∧ k ≤ 1000000 ∧ ∀ (p : Addr) (H' : Hp), H p = none → Same H H' → StAt p 0 H' → Q (.ref p) H'
def sp__law_draw : Sp := fun vs H Q _ => ∃ (a : Addr) (c top : Int), vs = [.ref a, .int top] ∧ StAt a c H ∧ c ≤ 100000000 ∧ 0 < top ∧ top < 1000000 ∧
  ∀ (r : Int) (H' : Hp), 0 ≤ r → r < top → Kp a H H' → StAt a (c + 1) H' → Q (.int r) H'

local macro_rules | `(tactic| walk_at "sz") => `(tactic| first | assumption | decide | omega | (unfold sizeLine; omega) | exact Nat.le_of_ble_eq_true rfl)
local macro_rules | `(tactic| walk_at "hp") => `(tactic| (first | assumption | exact upd_same | (rw [upd_ne (by assumption)]; assumption)))
local macro_rules | `(tactic| walk_at "rd") => `(tactic| (first
  | refine ⟨_, rfl, ?_⟩
  | (refine ⟨_, _, rfl, rfl, ?rdc, ?_⟩; (case rdc => first | (show (0 : Int) < _; omega) | (exact ⟨by omega, by omega⟩) | (exact .inl ⟨by omega, by omega⟩) | (exact .inr ⟨by omega, by omega⟩) | exact ⟨by decide, by decide, by decide⟩))
  | refine ⟨_, _, rfl, rfl, ?_⟩
  | refine .inl ⟨_, rfl, ?_⟩
  | refine ⟨rfl, ?_⟩
  | refine ⟨⟨_, rfl⟩, ?_⟩
  | refine ⟨⟨_, SqL.of (by walk_at "hp")⟩, ?_⟩
  | refine ⟨_, _, _, _, rfl, rfl, SqL.of (by walk_at "hp"), (by rfl), ?_⟩
  | refine ⟨_, _, _, _, rfl, rfl, (by walk_at "hp"), (by rfl), ?_⟩
  | refine ⟨_, _, rfl, ⟨by walk_at "sz", rfl⟩, ?_⟩
  | refine ⟨_, _, _, rfl, rfl, by walk_at "sz", by assumption, ?_⟩
  | refine And.intro (by walk_at "sz") ?_
  | refine itT rfl ?_
  | refine itF rfl ?_
  | refine itT (by assumption) ?_
  | refine itF (by assumption) ?_
  | refine itT (decide_eq_true (by omega)) ?_
  | refine itF (decide_eq_false (by omega)) ?_
  | refine itT (dVi (by omega)) ?_
  | refine itF (dViN (by omega)) ?_
  | refine itT (notT (by assumption)) ?_
  | refine itF (notF (by assumption)) ?_
  | refine itT (notT (dViN (by omega))) ?_
  | refine itF (notF (dVi (by omega))) ?_
  | refine itT (decide_eq_true rfl) ?_
  | refine itF (notF (decide_eq_true rfl)) ?_
  | refine ite2 (fun _ => ?_) (fun _ => ?_)
  | with_reducible refine tC_ ?_
  | with_reducible refine tNext_ ?_
  | with_reducible refine tNil_ ?_
  | with_reducible refine tYes_ ?_))
local macro_rules | `(tactic| walk_at "rds") => `(tactic| repeat' (walk_at "rd"))
section
variable {P : Program} {w : World} {K : PySem.W.Frag} {mg : Str → Option Value} {base : Heap}

theorem ok__law_mixed (T : Tx P w K mg base) : FnOk P w K mg base CX0 1 T.d__law_mixed.f T.d__law_mixed.fd ["number", "k"] sp__law_mixed := by
  have sc := sc__law_mixed
  refine T.d__law_mixed.F.ok sc (fun vs H Q E h => ?_) (fun cdv A outer s H vs Q E hr h => ?_)
  · obtain ⟨n, k, rfl, h1, h2, q⟩ := h
    rfl
  · obtain ⟨n, k, rfl, h1, h2, q⟩ := h
    refine ⟨_, (pss_cons (ps_set (i := 0) sc.nd rfl (Or.inl rfl) (pe_op op_mod (pe_callTy call_int1 (by rfl) T.n_int (by decide +kernel) (pa_cons (pe_op op_mul (pe_op op_add (pe_op op_add (pe_op op_mod (pe_callTy call_int1 (by rfl) T.n_int (by decide +kernel) (pa_cons (pv 0) pa_nil)) pe_int) (pe_op op_mul (pe_op op_mul pe_int (pv 1)) (pv 1))) (pe_op op_mul pe_int (pv 1))) pe_int) pa_nil)) pe_int))
      (pss_one (ps_ret (pe_op op_mod (pe_callTy call_int1 (by rfl) T.n_int (by decide +kernel) (pa_cons (pe_op op_mul (pv 0) (pe_op op_add pe_int (pe_op op_mul pe_int (pv 1)))) pa_nil)) pe_int)))), ?_⟩
    have e2 : ∀ x : Int, 0 ≤ x % 2147483629 ∧ x % 2147483629 < 2147483629 := fun x => ⟨Int.emod_nonneg _ (by decide), Int.emod_lt_of_pos _ (by decide)⟩
    repeat (walk_at "rd")
    exact q _ (e2 _).1 (e2 _).2

theorem ok__law_stream (T : Tx P w K mg base) (G__law_mixed : FnOk P w K mg base CX0 1 T.d__law_mixed.f T.d__law_mixed.fd ["number", "k"] sp__law_mixed) : FnOk P w K mg base CX0 2 T.d__law_stream.f T.d__law_stream.fd ["item", "k"] sp__law_stream := by
  have sc := sc__law_stream
  refine T.d__law_stream.F.ok sc (fun vs H Q E h => ?_) (fun cdv A outer s H vs Q E hr h => ?_)
  · obtain ⟨n, k, rfl, h1, h2, q⟩ := h
    rfl
  · obtain ⟨n, k, rfl, h1, h2, q⟩ := h
    refine ⟨_, (pss_one (ps_ret (pe_lst (pa_cons (pe_ifExp (pt_cmpR op_ge (pv 0) (pe_op op_pow pe_int pe_int) (nomark _)) (pv 0) pe_int) (pa_cons pe_int (pa_cons (pe_call G__law_mixed (hr.mono (by decide)) rfl T.d__law_mixed.m T.d__law_mixed.F.kp T.d__law_mixed.b .nil pass0 (pa_cons (pv 0) (pa_cons (pv 1) pa_nil))) pa_nil)))))), ?_⟩
    walk_at "rds"
    all_goals
      refine ⟨_, _, rfl, h1, by omega, fun r r0 r1 => ?_⟩
      walk_at "rds"
      intro p hp
      exact q p _ hp (Same.new (Same.refl _) hp) ⟨_, _, 0, upd_same, by decide, by decide⟩

theorem ok__law_draw (T : Tx P w K mg base) (G__law_mixed : FnOk P w K mg base CX0 1 T.d__law_mixed.f T.d__law_mixed.fd ["number", "k"] sp__law_mixed) : FnOk P w K mg base CX0 2 T.d__law_draw.f T.d__law_draw.fd ["stream", "top"] sp__law_draw := by
  have sc := sc__law_draw
  refine T.d__law_draw.F.ok sc (fun vs H Q E h => ?_) (fun cdv A outer s H vs Q E hr h => ?_)
  · obtain ⟨a, c, top, rfl, hs, hc, t0, t1, q⟩ := h
    rfl
  · obtain ⟨a, c, top, rfl, hs, hc, t0, t1, q⟩ := h
    refine ⟨_, (pss_cons (ps_asg (pe_op op_add (pe_ix ix_list (pv 0) pe_int (fun _ _ => rfl)) pe_int) (pg_sub (pv 0) pe_int set_list))
      (pss_cons (ps_if (pt_cmpR op_eq (pe_ix ix_list (pv 0) pe_int (fun _ _ => rfl)) pe_int (nomark _)) (pss_one (ps_ret (pe_op op_mod (pe_callTy call_int1 (by rfl) T.n_int (by decide +kernel) (pa_cons (pe_call G__law_mixed (hr.mono (by decide)) rfl T.d__law_mixed.m T.d__law_mixed.F.kp T.d__law_mixed.b .nil pass0 (pa_cons (pe_call G__law_mixed (hr.mono (by decide)) rfl T.d__law_mixed.m T.d__law_mixed.F.kp T.d__law_mixed.b .nil pass0 (pa_cons (pe_ix ix_list (pv 0) pe_int (fun _ _ => rfl)) (pa_cons (pe_ix ix_list (pv 0) pe_int (fun _ _ => rfl)) pa_nil))) (pa_cons pe_int pa_nil))) pa_nil)) (pv 1)))) pss_nil)
      (pss_cons (ps_set (i := 2) sc.nd rfl (Or.inl rfl) (pe_op op_mod (pe_callTy call_int1 (by rfl) T.n_int (by decide +kernel) (pa_cons (pe_ix ix_list (pv 0) pe_int (fun _ _ => rfl)) pa_nil)) (pv 1)))
      (pss_cons (ps_asg (pe_op op_fdiv (pe_ix ix_list (pv 0) pe_int (fun _ _ => rfl)) (pv 1)) (pg_sub (pv 0) pe_int set_list))
      (pss_one (ps_ret (pv 2))))))), ?_⟩
    obtain ⟨x, y, n, ha, n0, n1⟩ := hs
    have em : ∀ x : Int, 0 ≤ x % top ∧ x % top < top := fun x => ⟨Int.emod_nonneg _ (by omega), Int.emod_lt_of_pos _ t0⟩
    walk_at "rds"
    · refine ⟨_, _, rfl, by omega, by omega, fun r r0 r1 => ?_⟩
      walk_at "rds"
      refine ⟨_, _, rfl, by decide, by decide, fun r2 r20 r21 => ?_⟩
      walk_at "rds"
      exact q _ _ (em _).1 (em _).2 ((Kp.refl _ _).upd) ⟨_, _, _, upd_same, by omega, by omega⟩
    · walk_at "rds"
      exact q _ _ (em _).1 (em _).2 ((Kp.refl _ _).upd.upd) ⟨_, _, _, upd_same, by omega, by omega⟩

abbrev signs : Str := Str.ofString ("\t\n !\"#$&'()*+,-./0123456789:;<=>?@" ++ "ABCDEFGHIJKLMNOPQRSTUVWXYZ[\\]^_`abcdefghijklmnopqrstuvwxyz{|}~")
def sp__law_signs : Sp := fun vs H Q _ => vs = [] ∧ Q (.str signs) H
theorem ok__law_signs (T : Tx P w K mg base) : FnOk P w K mg base CX0 1 T.d__law_signs.f T.d__law_signs.fd [] sp__law_signs := by
  have sc := sc__law_signs
  refine T.d__law_signs.F.ok sc (fun vs H Q E h => ?_) (fun cdv A outer s H vs Q E hr h => ?_)
  · obtain ⟨rfl, q⟩ := h
    rfl
  · obtain ⟨rfl, q⟩ := h
    refine ⟨_, (pss_one (ps_ret pe_str)), ?_⟩
    exact cast (congrArg (fun z => Q (.str z) H) (show signs = _ from by decide +kernel)) q

def sp__law_pick : Sp := fun vs H Q _ => ∃ (a : Addr) (c : Int) (v : V), vs = [.ref a, v] ∧ StAt a c H ∧ c ≤ 100000000 ∧
  ((∃ (b : Addr) (xs : List V), v = .ref b ∧ b ≠ a ∧ H b = some (.lst xs) ∧ 0 < xs.length ∧ xs.length < 1000000 ∧ ∀ (i : Nat) (x : V) (H' : Hp), xs[i]? = some x → Kp a H H' → StAt a (c + 1) H' → Q x H') ∨
   (∃ z : Str, v = .str z ∧ 0 < z.cps.size ∧ z.cps.size < 1000000 ∧ ∀ (cp : Nat) (H' : Hp), cp ∈ z.cps.toList → Kp a H H' → StAt a (c + 1) H' → Q (.str ⟨#[cp]⟩) H'))
theorem ok__law_pick (T : Tx P w K mg base) (G__law_draw : FnOk P w K mg base CX0 2 T.d__law_draw.f T.d__law_draw.fd ["stream", "top"] sp__law_draw) : FnOk P w K mg base CX0 3 T.d__law_pick.f T.d__law_pick.fd ["stream", "some"] sp__law_pick := by
  have sc := sc__law_pick
  refine T.d__law_pick.F.ok sc (fun vs H Q E h => ?_) (fun cdv A outer s H vs Q E hr h => ?_)
  · obtain ⟨a, c, v, rfl, hs, hc, hv⟩ := h
    rfl
  · obtain ⟨a, c, v, rfl, hs, hc, hv⟩ := h
    refine ⟨_, (pss_one (ps_ret (pe_ix ix_seq (pv 1) (pe_call G__law_draw (hr.mono (by decide)) rfl T.d__law_draw.m T.d__law_draw.F.kp T.d__law_draw.b .nil pass0 (pa_cons (pv 0) (pa_cons (pe_callB call_len (by rfl) T.n_len PySem.boot_len (pa_cons (pv 1) pa_nil)) pa_nil))) (fun _ _ => rfl)))), ?_⟩
    rcases hv with ⟨b, xs, rfl, hb, hx, z0, z1, q⟩ | ⟨z, rfl, z0, z1, q⟩
    · walk_at "rds"
      refine ⟨_, _, rfl, .inl ⟨_, SqL.of hx, rfl⟩, ?_⟩
      walk_at "rds"
      refine ⟨a, c, _, rfl, hs, hc, by omega, by omega, fun r H' r0 r1 kp st => ?_⟩
      obtain ⟨i, x, hi, e, _⟩ := at_int r0 r1
      exact .inl ⟨_, _, _, _, rfl, rfl, SqL.of (kp _ _ hb hx), e, q i x H' hi kp st⟩
    · have zl : z.length = z.cps.size := rfl
      walk_at "rds"
      refine ⟨a, c, _, rfl, hs, hc, by omega, by omega, fun r H' r0 r1 kp st => ?_⟩
      obtain ⟨cp, hm, e⟩ := at_text r0 r1
      exact .inr (.inr ⟨_, _, _, rfl, rfl, by unfold sizeLine; omega, e, q cp H' hm kp st⟩)

end
end K3

set_option maxHeartbeats 1000000
namespace K3
open PySem PySem.Spec PyProof.Rows L2 Mx
/-! ### the program -/
open TL

local macro_rules | `(tactic| walk_at "sz") => `(tactic| first | assumption | decide | omega | (unfold sizeLine; omega) | exact Nat.le_of_ble_eq_true rfl)
local macro_rules | `(tactic| walk_at "hp") => `(tactic| (first | assumption | exact upd_same | (rw [upd_ne (by assumption)]; assumption)))
local macro_rules | `(tactic| walk_at "rd") => `(tactic| (first
  | refine ⟨_, rfl, ?_⟩
  | (refine ⟨_, _, rfl, rfl, ?rdc, ?_⟩; (case rdc => first | (show (0 : Int) < _; omega) | (exact ⟨by omega, by omega⟩) | (exact .inl ⟨by omega, by omega⟩) | (exact .inr ⟨by omega, by omega⟩) | exact ⟨by decide, by decide, by decide⟩))
  | refine ⟨_, _, rfl, rfl, ?_⟩
  | refine .inl ⟨_, rfl, ?_⟩
  | refine ⟨rfl, ?_⟩
  | refine ⟨⟨_, rfl⟩, ?_⟩
  | refine ⟨⟨_, SqL.of (by walk_at "hp")⟩, ?_⟩
  | refine ⟨_, _, _, _, rfl, rfl, SqL.of (by walk_at "hp"), (by rfl), ?_⟩
  | refine ⟨_, _, _, _, rfl, rfl, (by walk_at "hp"), (by rfl), ?_⟩
  | refine ⟨_, _, rfl, ⟨by walk_at "sz", rfl⟩, ?_⟩
  | refine ⟨_, _, _, rfl, rfl, by walk_at "sz", by assumption, ?_⟩
  | refine And.intro (by walk_at "sz") ?_
  | refine itT rfl ?_
  | refine itF rfl ?_
  | refine itT (by assumption) ?_
  | refine itF (by assumption) ?_
  | refine itT (decide_eq_true (by omega)) ?_
  | refine itF (decide_eq_false (by omega)) ?_
  | refine itT (dVi (by omega)) ?_
  | refine itF (dViN (by omega)) ?_
  | refine itT (notT (by assumption)) ?_
  | refine itF (notF (by assumption)) ?_
  | refine itT (notT (dViN (by omega))) ?_
  | refine itF (notF (dVi (by omega))) ?_
  | refine itT (decide_eq_true rfl) ?_
  | refine itF (notF (decide_eq_true rfl)) ?_
  | refine ite2 (fun _ => ?_) (fun _ => ?_)
  | with_reducible refine tC_ ?_
  | with_reducible refine tNext_ ?_
  | with_reducible refine tNil_ ?_
  | with_reducible refine tYes_ ?_))
local macro_rules | `(tactic| walk_at "rds") => `(tactic| repeat' (walk_at "rd"))
section
variable {P : Program} {w : World} {K : PySem.W.Frag} {mg : Str → Option Value} {base : Heap}

def sp_part_end : Sp := fun vs H Q _ => ∃ (z : Str) (i : Nat), vs = [.str z, .int (i : Int)] ∧ (tl z).length ≤ 1000 ∧ i ≤ (tl z).length ∧ Q (.int ((i + Nam.pend ((tl z).drop i) : Nat) : Int)) H
theorem ok_part_end (T : Tx P w K mg base) : FnOk P w K mg base CX0 1 T.d_part_end.f T.d_part_end.fd ["text", "begin"] sp_part_end := by
  have sc := sc_part_end
  refine T.d_part_end.F.ok sc (fun vs H Q E h => ?_) (fun cdv A outer s H vs Q E hr h => ?_)
  · obtain ⟨z, i, rfl, hz, hi, q⟩ := h
    rfl
  · obtain ⟨z, i, rfl, hz, hi, q⟩ := h
    refine ⟨_, (pss_cons (ps_if (PW.pt (pw_or (pt_cmpR op_eq (pv 1) (pe_callB call_len (by rfl) T.n_len PySem.boot_len (pa_cons (pv 0) pa_nil)) (nomark _)) (pw_or1 (pt_cmpR op_notIn_sign (pe_ix ix_str (pv 0) (pv 1) (fun _ _ => rfl)) (pe_gc rfl T.g_LETTERS) (by rfl))))) (pss_one (ps_ret (pv 1))) pss_nil)
      (pss_cons (ps_set (i := 2) sc.nd rfl (Or.inl rfl) (pe_op op_add (pv 1) pe_int))
      (pss_cons (ps_while PassesOwn.never (PW.pt (pw_and (pt_cmpR op_lt (pv 2) (pe_callB call_len (by rfl) T.n_len PySem.boot_len (pa_cons (pv 0) pa_nil)) (nomark _)) (pw_and1 (pt_cmpR op_in_sign (pe_ix ix_str (pv 0) (pv 2) (fun _ _ => rfl)) (pe_gc rfl T.g_INNER) (by rfl))))) (pss_one (ps_set (i := 2) sc.nd rfl (Or.inl rfl) (pe_op op_add (pv 2) pe_int))))
      (pss_one (ps_ret (pv 2)))))), ?_⟩
    have zl : z.length = (tl z).length := len_tl z
    have fin : ∀ r : Nat, i + Nam.pend ((tl z).drop i) = r → Q (.int (r : Int)) H := fun b e => e ▸ q
    by_cases h1 : i = (tl z).length
    · walk_at "rds"
      exact fin _ (Nam.pend_end h1)
    · have hi2 : i < (tl z).length := by omega
      have hc : atI z.cps.toList (i : Int) = some ((tl z)[i]) := atI_nat (List.getElem?_eq_getElem hi2)
      have hg : (tl z)[i]? = some ((tl z)[i]) := List.getElem?_eq_getElem hi2
      generalize (tl z)[i] = c at hc hg
      walk_at "rds"
      · rename_i h2
        rw [Nam.inL] at h2
        exact fin _ (Nam.pend_stop hg (by simpa using h2))
      · rename_i h2
        rw [Nam.inL] at h2
        have h2' : Nam.isL c = true := by simpa using h2
        have hg0 := hg
        refine ⟨fun m σ H' => ∃ j : Nat, m = (tl z).length - j ∧ H' = H ∧ σ = [some (.str z), some (.int (i : Int)), some (.int (j : Int))] ∧ j ≤ (tl z).length ∧ Nam.tw (tl z) j = Nam.tw (tl z) (i + 1), ⟨_, i + 1, rfl, rfl, rfl, hi2, rfl⟩, ?_⟩
        rintro m σ H' ⟨j, rfl, rfl, rfl, hj, ht⟩
        by_cases hlt : j < (tl z).length
        · have hc : atI z.cps.toList (j : Int) = some ((tl z)[j]) := atI_nat (List.getElem?_eq_getElem hlt)
          have hg : (tl z)[j]? = some ((tl z)[j]) := List.getElem?_eq_getElem hlt
          generalize (tl z)[j] = d at hc hg
          walk_at "rds"
          · rename_i h3
            rw [Nam.inI] at h3
            refine ⟨fun σ' H2 => H2 = H' ∧ σ' = [some (.str z), some (.int (i : Int)), some (.int ((j + 1 : Nat) : Int))], ?_, ?_⟩
            · rintro σ' H2 ⟨rfl, rfl⟩
              exact ⟨_, by omega, j + 1, rfl, rfl, rfl, hlt, (Nam.tw_step hg h3).symm.trans ht⟩
            · walk_at "rds"
              rfl
          · rename_i h3
            rw [Nam.inI] at h3
            walk_at "rds"
            exact fin _ ((Nam.pend_step hg0 h2').trans (ht.symm.trans (Nam.tw_stop hg (by simpa using h3))))
        · walk_at "rds"
          exact fin _ ((Nam.pend_step hg0 h2').trans (ht.symm.trans (Nam.tw_end (by omega))))

def sp_name_end : Sp := fun vs H Q _ => ∃ (z : Str) (i : Nat), vs = [.str z, .int (i : Int)] ∧ (tl z).length ≤ 1000 ∧ i ≤ (tl z).length ∧ Q (.int ((i + Nam.nend ((tl z).drop i) : Nat) : Int)) H
theorem ok_name_end (T : Tx P w K mg base) (G_part_end : FnOk P w K mg base CX0 1 T.d_part_end.f T.d_part_end.fd ["text", "begin"] sp_part_end) : FnOk P w K mg base CX0 2 T.d_name_end.f T.d_name_end.fd ["text", "begin"] sp_name_end := by
  have sc := sc_name_end
  refine T.d_name_end.F.ok sc (fun vs H Q E h => ?_) (fun cdv A outer s H vs Q E hr h => ?_)
  · obtain ⟨z, i, rfl, hz, hi, q⟩ := h
    rfl
  · obtain ⟨z, i, rfl, hz, hi, q⟩ := h
    refine ⟨_, (pss_cons (ps_set (i := 2) sc.nd rfl (Or.inl rfl) (pe_call G_part_end (hr.mono (by decide)) rfl T.d_part_end.m T.d_part_end.F.kp T.d_part_end.b .nil pass0 (pa_cons (pv 0) (pa_cons (pv 1) pa_nil))))
      (pss_cons (ps_if (PW.pt (pw_or (pt_cmpR op_eq (pv 2) (pv 1) (nomark _)) (pw_or (pt_cmpR op_eq (pv 2) (pe_callB call_len (by rfl) T.n_len PySem.boot_len (pa_cons (pv 0) pa_nil)) (nomark _)) (pw_or1 (pt_cmpR op_ne (pe_ix ix_str (pv 0) (pv 2) (fun _ _ => rfl)) pe_str (nomark _)))))) (pss_one (ps_ret (pv 2))) pss_nil)
      (pss_cons (ps_set (i := 3) sc.nd rfl (Or.inl rfl) (pe_call G_part_end (hr.mono (by decide)) rfl T.d_part_end.m T.d_part_end.F.kp T.d_part_end.b .nil pass0 (pa_cons (pv 0) (pa_cons (pe_op op_add (pv 2) pe_int) pa_nil))))
      (pss_one (ps_ret (pe_ifExp (pt_cmpR op_gt (pv 3) (pe_op op_add (pv 2) pe_int) (nomark _)) (pv 3) (pv 2))))))), ?_⟩
    have zl : z.length = (tl z).length := len_tl z
    have fin : ∀ r : Nat, i + Nam.nend ((tl z).drop i) = r → Q (.int (r : Int)) H := fun b e => e ▸ q
    walk_at "rds"
    refine ⟨z, i, rfl, hz, hi, ?_⟩
    have pl := Nam.pend_le ((tl z).drop i)
    rw [List.length_drop] at pl
    unfold Nam.nend at fin
    generalize hp : Nam.pend ((tl z).drop i) = p at fin pl
    by_cases h0 : p = 0
    · rw [if_pos (Or.inl h0)] at fin
      walk_at "rds"
      exact fin _ rfl
    by_cases h1 : i + p = (tl z).length
    · rw [if_pos (Or.inr (Or.inl (by rw [List.length_drop]; omega)))] at fin
      walk_at "rds"
      exact fin _ rfl
    have hlt : i + p < (tl z).length := by omega
    have hc : atI z.cps.toList ((i + p : Nat) : Int) = some ((tl z)[i + p]) := atI_nat (List.getElem?_eq_getElem hlt)
    have hg : ((tl z).drop i)[p]? = some ((tl z)[i + p]) := by rw [List.getElem?_drop]; exact List.getElem?_eq_getElem hlt
    generalize (tl z)[i + p] = c at hc hg
    by_cases h2 : c = 58
    · subst h2
      rw [if_neg (by rw [List.length_drop, hg]; intro z; rcases z with z | z | z; exact h0 z; omega; exact z rfl), List.drop_drop] at fin
      walk_at "rds"
      refine ⟨z, i + p + 1, by rfl, hz, hlt, ?_⟩
      have e3 : i + (p + 1) = i + p + 1 := by omega
      rw [e3] at fin
      generalize hq : Nam.pend ((tl z).drop (i + p + 1)) = r at fin
      by_cases h3 : 0 < r
      · rw [if_pos h3] at fin
        walk_at "rds"
        exact fin _ (by omega)
      · rw [if_neg h3] at fin
        walk_at "rds"
        exact fin _ rfl
    · rw [if_pos (Or.inr (Or.inr (by rw [hg]; intro e; exact h2 (Option.some.inj e))))] at fin
      have h4 : decide (V.str ⟨#[c]⟩ = V.str ":") = false := by rw [Nam.colon_codes, Nam.one_eq]; exact decide_eq_false h2
      walk_at "rds"
      exact fin _ rfl

def sp_check_text (K : PySem.W.Frag) (C : Addr) : Sp := fun vs H Q E => ∃ v, vs = [v] ∧ ((∃ z : Str, v = .str z ∧ Q .non H) ∨ ∃ t, TyX K H v (.type t) ∧ kitB t "str" = some false ∧ ∀ d, H d = none → E (.ref C) (some d) (upd H d (.xd [("index", .non)])))
theorem ok_check_text (T : Tx P w K mg base) : FnOk P w K mg base (L2.CX P w) 3 T.d_check_text.f T.d_check_text.fd ["text"] (sp_check_text K T.a_InvalidText) := by
  have sc := sc_check_text
  refine T.d_check_text.F.okX sc (fun vs H Q E h => ?_) (fun cdv A outer s H vs Q E hr h => ?_)
  · obtain ⟨v, rfl, hv⟩ := h
    rfl
  · obtain ⟨v, rfl, hv⟩ := h
    refine ⟨_, (pss_one (ps_if (pt_not (pt_val (pe_callB call_isi (by rfl) T.n_isinstance (by decide +kernel) (pa_cons (pv 0) (pa_cons ((pe_bltn (by rfl) T.n_str (by decide +kernel) (v := .ty "str") rfl)) pa_nil))))) (pss_one (ps_raise rfl (takes_of rfl rfl rfl rfl) (pmk_x T.x_InvalidText (hr.mono (by decide)) rfl (pa_cons pe_non pa_nil)))) pss_nil)), ?_⟩
    rcases hv with ⟨z, rfl, q⟩ | ⟨t, ht, kt, q⟩
    · walk_at "rds"
      refine ⟨_, _, _, _, true, rfl, .ty _, .base (.str z), kit_ty (by decide +kernel), ?_⟩
      walk_at "rds"
      exact q
    · walk_at "rds"
      refine ⟨_, _, _, _, false, rfl, .ty _, ht, kit_ty kt, ?_⟩
      walk_at "rds"
      exact q

def NoStr (K : PySem.W.Frag) (H : Hp) (v : L2.V) : Prop := ∃ t, TyX K H v (.type t) ∧ kitB t "str" = some false
def sp_is_between : Sp := fun vs H Q _ => ∃ v l u : Int, vs = [.int v, .int l, .int u] ∧ l ≤ v ∧ v ≤ u ∧ Q (.bl true) H
def sp_check_number : Sp := fun vs H Q _ => ∃ v l u : Int, vs = [.int v, .int l, .int u] ∧ l ≤ v ∧ v ≤ u ∧ Q .non H
theorem ok_is_between (T : Tx P w K mg base) : FnOk P w K mg base CX0 1 T.d_is_between.f T.d_is_between.fd ["value", "least", "most"] sp_is_between := by
  have sc := sc_is_between
  refine FunD.ok (CX := CX0) T.d_is_between.F sc (fun vs H Q E h => ?_) (fun cdv A outer s H vs Q E hr h => ?_)
  · obtain ⟨v, l, u, rfl, h1, h2, q⟩ := h
    rfl
  · obtain ⟨v, l, u, rfl, h1, h2, q⟩ := h
    refine ⟨_, (pss_cons (ps_if (PW.pt (pw_or (pt_not (pt_val (pe_callB call_isi (by rfl) T.n_isinstance (by decide +kernel) (pa_cons (pv 0) (pa_cons ((pe_bltn (by rfl) T.n_int (by decide +kernel) (v := .ty "int") rfl)) pa_nil))))) (pw_or1 (pt_val (pe_callB call_isi (by rfl) T.n_isinstance (by decide +kernel) (pa_cons (pv 0) (pa_cons ((pe_bltn (by rfl) T.n_bool (by decide +kernel) (v := .ty "bool") rfl)) pa_nil))))))) (pss_one (ps_ret pe_bl)) pss_nil)
      (pss_one (ps_ret ((pe_and (pe_cmpR op_ge (pv 0) (pv 1) (nomark _)) (pe_one ((pe_or (pe_cmpR op_isN (pv 2) pe_non (nomark _)) (pe_one (pe_cmpR op_le (pv 0) (pv 2) (nomark _))))))))))), ?_⟩
    walk_at "rds"
    refine ⟨_, _, _, _, true, rfl, .ty _, .base (.int _), kit_ty (by decide +kernel), ?_⟩
    walk_at "rds"
    refine ⟨_, _, _, _, false, rfl, .ty _, .base (.int _), kit_ty (by decide +kernel), ?_⟩
    walk_at "rds"
    show Q (.bl (decide (v ≤ u))) H
    rw [decide_eq_true h2]
    exact q

theorem ok_check_number (T : Tx P w K mg base) (G_is_between : FnOk P w K mg base CX0 1 T.d_is_between.f T.d_is_between.fd ["value", "least", "most"] sp_is_between) : FnOk P w K mg base (L2.CX P w) 3 T.d_check_number.f T.d_check_number.fd ["value", "least", "most"] sp_check_number := by
  have sc := sc_check_number
  refine FunD.ok (CX := (L2.CX P w)) T.d_check_number.F sc (fun vs H Q E h => ?_) (fun cdv A outer s H vs Q E hr h => ?_)
  · obtain ⟨v, l, u, rfl, h1, h2, q⟩ := h
    rfl
  · obtain ⟨v, l, u, rfl, h1, h2, q⟩ := h
    refine ⟨_, (pss_one (ps_if (pt_not (pt_val (pe_call G_is_between (hr.mono (by decide)) rfl T.d_is_between.m T.d_is_between.F.kp T.d_is_between.b .nil pass0 (pa_cons (pv 0) (pa_cons (pv 1) (pa_cons (pv 2) pa_nil)))))) (pss_one (ps_raise rfl (takes_of rfl rfl rfl rfl) (pmk_x T.x_InvalidNumber (hr.mono (by decide)) rfl (pa_cons (pv 0) pa_nil)))) pss_nil)), ?_⟩
    walk_at "rds"
    refine ⟨v, l, u, rfl, h1, h2, ?_⟩
    walk_at "rds"
    exact q

end
end K3

set_option maxHeartbeats 1000000
namespace K3
open PySem PySem.Spec PyProof.Rows L2 Mx
/-! ### the law's own reading of names -/
open TL Nam
def spB (f : List Nat → Bool) : Sp := fun vs H Q _ => ∃ z : Str, vs = [.str z] ∧ Wd z ∧ ∀ H', Same H H' → Q (.bl (f (tl z))) H'
def sp__law_is_part : Sp := spB Nam.part
def sp__law_is_name : Sp := spB Nam.name

local macro_rules | `(tactic| walk_at "sz") => `(tactic| first | assumption | decide | omega | (unfold sizeLine; omega) | exact Nat.le_of_ble_eq_true rfl)
local macro_rules | `(tactic| walk_at "hp") => `(tactic| (first | assumption | exact upd_same | (rw [upd_ne (by assumption)]; assumption)))
local macro_rules | `(tactic| walk_at "rd") => `(tactic| (first
  | refine ⟨_, rfl, ?_⟩
  | (refine ⟨_, _, rfl, rfl, ?rdc, ?_⟩; (case rdc => first | (show (0 : Int) < _; omega) | (exact ⟨by omega, by omega⟩) | (exact .inl ⟨by omega, by omega⟩) | (exact .inr ⟨by omega, by omega⟩) | exact ⟨by decide, by decide, by decide⟩))
  | refine ⟨_, _, rfl, rfl, ?_⟩
  | refine .inl ⟨_, rfl, ?_⟩
  | refine ⟨rfl, ?_⟩
  | refine ⟨⟨_, rfl⟩, ?_⟩
  | refine ⟨⟨_, SqL.of (by walk_at "hp")⟩, ?_⟩
  | refine ⟨_, _, _, _, rfl, rfl, SqL.of (by walk_at "hp"), (by rfl), ?_⟩
  | refine ⟨_, _, _, _, rfl, rfl, (by walk_at "hp"), (by rfl), ?_⟩
  | refine ⟨_, _, rfl, ⟨by walk_at "sz", rfl⟩, ?_⟩
  | refine ⟨_, _, _, rfl, rfl, by walk_at "sz", by assumption, ?_⟩
  | refine And.intro (by walk_at "sz") ?_
  | refine itT rfl ?_
  | refine itF rfl ?_
  | refine itT (by assumption) ?_
  | refine itF (by assumption) ?_
  | refine itT (decide_eq_true (by omega)) ?_
  | refine itF (decide_eq_false (by omega)) ?_
  | refine itT (dVi (by omega)) ?_
  | refine itF (dViN (by omega)) ?_
  | refine itT (notT (by assumption)) ?_
  | refine itF (notF (by assumption)) ?_
  | refine itT (notT (dViN (by omega))) ?_
  | refine itF (notF (dVi (by omega))) ?_
  | refine itT (decide_eq_true rfl) ?_
  | refine itF (notF (decide_eq_true rfl)) ?_
  | refine ite2 (fun _ => ?_) (fun _ => ?_)
  | with_reducible refine tC_ ?_
  | with_reducible refine tNext_ ?_
  | with_reducible refine tNil_ ?_
  | with_reducible refine tYes_ ?_))
local macro_rules | `(tactic| walk_at "rds") => `(tactic| repeat' (walk_at "rd"))
section
variable {P : Program} {w : World} {K : PySem.W.Frag} {mg : Str → Option Value} {base : Heap}

theorem ok__law_is_part (T : Tx P w K mg base) : FnOk P w K mg base CX0 2 T.d__law_is_part.f T.d__law_is_part.fd ["word"] sp__law_is_part := by
  have sc := sc__law_is_part
  refine T.d__law_is_part.F.ok sc (fun vs H Q E h => ?_) (fun cdv A outer s H vs Q E hr h => ?_)
  · obtain ⟨z, rfl, hz, q⟩ := h
    rfl
  · obtain ⟨z, rfl, hz, q⟩ := h
    refine ⟨_, (pss_cons (ps_set (i := 1) sc.nd rfl (Or.inr rfl) pe_str)
      (pss_cons (ps_if (PW.pt (pw_or (pt_cmpR op_eq (pv 0) pe_str (nomark _)) (pw_or1 (pt_cmpR op_notIn_sign (pe_ix ix_str (pv 0) pe_int (fun _ _ => rfl)) (pv 1) (by rfl))))) (pss_one (ps_ret pe_bl)) pss_nil)
      (pss_one (ps_ret (pe_cmpR (op_eqD hr.units) (pe_lc (own := [("one", 2)]) (g := gName 2) rfl sc.nd (pi_str (pv 0)) (blkOk_by (own := [("one", 2)]) (N := ["word", "letters", "one"]) (sc := defScope s__law_is_part) (by decide +kernel)) (fun _ _ _ _ _ => pg_name (i := 2) sc.nd rfl (Or.inl rfl)) (fun _ _ _ _ _ => (pts_one (pt_cmpR op_notIn_sign (pv 2) (pe_op op_add_str (pv 1) pe_str) (by rfl)))) (fun _ _ _ _ _ => pv 2)) (pe_lst pa_nil) (nomark _)))))), ?_⟩
    have zl : z.length = (tl z).length := len_tl z
    have zs : z.cps.size = (tl z).length := zl
    have fin : ∀ b H', Same H H' → Nam.part (tl z) = b → Q (.bl b) H' := fun b H' sm e => e ▸ q H' sm
    obtain ⟨hz1, hz2⟩ := hz
    by_cases h0 : tl z = []
    · have h0' : decide (V.str z = V.str "") = true := by rw [Nam.empty_eq]; exact decide_eq_true h0
      walk_at "rds"
      exact fin _ _ (Same.refl _) (by rw [h0]; rfl)
    · have h0' : decide (V.str z = V.str "") = false := by rw [Nam.empty_eq]; exact decide_eq_false h0
      obtain ⟨c, r, hcr⟩ := List.exists_cons_of_ne_nil h0
      have hc : atI z.cps.toList 0 = some c := atI_nat (j := 0) (by show (tl z)[0]? = some c; rw [hcr]; rfl)
      walk_at "rds"
      · rename_i h1
        rw [Nam.inL] at h1
        exact fin _ _ (Same.refl _) (by rw [hcr]; show (Nam.isL c && r.all Nam.isI) = false; simp at h1; rw [h1]; rfl)
      · rename_i h1
        rw [Nam.inL] at h1
        have h1 : Nam.isL c = true := by simpa using h1
        intro D hD
        refine lc_flt walk_str (fun i => !Nam.isI ((tl z).getD i 0)) (fun i => .str ⟨#[(tl z).getD i 0]⟩) hD (by omega) (fun _ _ => trivial) (fun i H1 x H2 y => y.1 ▸ Same.refl _) ?_ ?_
        · rintro i x H1 H2 Nx Mx hi sm ⟨rfl, d, hd, rfl⟩ k1 k2
          have e : (tl z).getD i 0 = d := by rw [List.getD_eq_getElem?_getD, Array.getElem?_toList, hd]; rfl
          simp only [e] at k1 k2
          refine ⟨rfl, ?_⟩
          walk_at "rds"
          · rename_i h2
            rw [Nam.inLI] at h2
            exact k1 h2 _ (Same.refl _)
          · rename_i h2
            rw [Nam.inLI] at h2
            exact k2 (by simpa using h2) _ (Same.refl _)
        · intro H1 sm hl
          walk_at "rds"
          intro p hp
          rw [picked_map (g := V.str)] at hl
          refine eq_nil (SqL.of (by rw [upd_ne (ne_of_none hl hp)]; exact hl)) (SqL.of upd_same) ?_ (fin _ _ (Same.new sm hp) ?_)
          · intro y hy d hd
            obtain ⟨i, hi, _, rfl⟩ := picked_mem hy
            rw [List.mem_singleton.mp hd]
            have hi2 : i < (tl z).length := by omega
            rw [List.getD_eq_getElem?_getD, List.getElem?_eq_getElem hi2]
            exact hz2 _ (List.getElem_mem hi2)
          · rw [picked_empty, zs, Nam.range_all, hcr]
            show (Nam.isL c && r.all Nam.isI) = (Nam.isI c && r.all Nam.isI)
            rw [h1, Nam.L_I h1]

theorem ok__law_is_name (T : Tx P w K mg base) (G__law_is_part : FnOk P w K mg base CX0 2 T.d__law_is_part.f T.d__law_is_part.fd ["word"] sp__law_is_part) : FnOk P w K mg base CX0 3 T.d__law_is_name.f T.d__law_is_name.fd ["word"] sp__law_is_name := by
  have sc := sc__law_is_name
  refine T.d__law_is_name.F.ok sc (fun vs H Q E h => ?_) (fun cdv A outer s H vs Q E hr h => ?_)
  · obtain ⟨z, rfl, hz, q⟩ := h
    rfl
  · obtain ⟨z, rfl, hz, q⟩ := h
    refine ⟨_, (pss_cons (ps_set (i := 1) sc.nd rfl (Or.inl rfl) (pe_split (pv 0) pe_str))
      (pss_one (ps_ret ((pe_and (pe_cmpR op_lt (pe_callB call_len (by rfl) T.n_len PySem.boot_len (pa_cons (pv 1) pa_nil)) pe_int (nomark _)) (pe_one (pe_cmpR (op_eqD hr.units) (pe_lc (own := [("one", 2)]) (g := gName 2) rfl sc.nd (pi_list (pv 1)) (blkOk_by (own := [("one", 2)]) (N := ["word", "some", "one"]) (sc := defScope s__law_is_name) (by decide +kernel)) (fun _ _ _ _ _ => pg_name (i := 2) sc.nd rfl (Or.inl rfl)) (fun _ _ _ _ _ => (pts_one (pt_not (pt_val (pe_call G__law_is_part (hr.mono (by decide)) rfl T.d__law_is_part.m T.d__law_is_part.F.kp T.d__law_is_part.b .nil pass0 (pa_cons (pv 2) pa_nil)))))) (fun _ _ _ _ _ => pv 2)) (pe_lst pa_nil) (nomark _)))))))), ?_⟩
    have zl : z.length = (tl z).length := len_tl z
    have fin : ∀ b H', Same H H' → Nam.name (tl z) = b → Q (.bl b) H' := fun b H' sm e => e ▸ q H' sm
    obtain ⟨w1, w2⟩ := split_wd hz
    obtain ⟨hz1, hz2⟩ := hz
    have sl := split_n z
    have sa := split_all z
    walk_at "rds"
    intro p hp
    walk_at "rds"
    generalize hys : Txt.split z ":" = ys at *
    refine ⟨_, _, rfl, .inl ⟨_, SqL.of upd_same, rfl⟩, ?_⟩
    rw [List.length_map]
    by_cases hl : ys.length < 3
    · walk_at "rds"
      intro D hD
      refine lc_flt walk_list (fun i => !Nam.part (tl (ys.getD i ""))) (fun i => .str (ys.getD i "")) hD (by rw [List.length_map]; omega) (fun H1 sm => SqL.of (sm _ _ upd_same)) (fun i H1 x H2 y => y.1 ▸ Same.refl _) ?_ ?_
      · rintro i x H1 H2 Nx Mx hi sm ⟨rfl, hx⟩ k1 k2
        rw [List.length_map] at hi
        rw [List.getElem?_map, List.getElem?_eq_getElem hi] at hx
        have hy : ys.getD i "" = ys[i] := by rw [List.getD_eq_getElem?_getD, List.getElem?_eq_getElem hi]; rfl
        have hm : ys[i] ∈ ys := List.getElem_mem hi
        rw [hy] at k1 k2
        generalize ys[i] = y at *
        cases hx
        refine ⟨rfl, ?_⟩
        have wy := w1 y hm
        walk_at "rds"
        intro H3 s3
        cases hp2 : Nam.part (tl y) with
        | true =>
          walk_at "rds"
          exact k2 (by rw [hp2]; rfl) _ s3
        | false =>
          walk_at "rds"
          exact k1 (by rw [hp2]; rfl) _ s3
      · intro H1 sm hl2
        walk_at "rds"
        intro p2 hp2
        rw [picked_map (g := V.str)] at hl2
        refine eq_nil (SqL.of (by rw [upd_ne (ne_of_none hl2 hp2)]; exact hl2)) (SqL.of upd_same) ?_ (fin _ _ (Same.new ((Same.new (Same.refl _) hp).trans sm) hp2) ?_)
        · intro y hy d hd
          obtain ⟨i, hi, _, rfl⟩ := picked_mem hy
          rw [List.length_map] at hi
          rw [List.getD_eq_getElem?_getD, List.getElem?_eq_getElem hi] at hd
          exact (w1 _ (List.getElem_mem hi)).2 d hd
        · rw [picked_empty, List.length_map, range_allA ys "" (fun y => Nam.part (tl y)), sa]
          unfold Nam.name
          rw [← sl, decide_eq_true hl, Bool.true_and]
    · walk_at "rds"
      refine fin _ _ (Same.new (Same.refl _) hp) ?_
      unfold Nam.name
      rw [← sl, decide_eq_false hl]
      rfl

end
end K3

set_option maxHeartbeats 1000000
namespace K3
open PySem PySem.Spec PyProof.Rows L2 Mx
open TL Nam
/-- where names_in stands -/
inductive Ut where
  | new (vs : List L2.V)
  | at (z : Str) (i : Nat)
def Wn (z : Str) (i : Nat) (H : Hp) (Q : Gx.Wish Ut) : Prop := match names (tl z) i with
  | [] => ∀ H', Same H H' → Q.dn H'
  | (b, e) :: _ => ∀ H' p, Same H H' → H' p = none → Q.yd (.ref p) (.at z e) (upd H' p (.tup [.int (b : Int), .str (cutS z (some (b : Int)) (some (e : Int)))]))
theorem Wn.same {z : Str} {i : Nat} {H H1 : Hp} {Q : Gx.Wish Ut} (h : Wn z i H Q) (sm : Same H H1) : Wn z i H1 Q := by
  unfold Wn at h ⊢
  cases hn : names (tl z) i with
  | nil =>
    rw [hn] at h
    exact fun H' s' => h H' (sm.trans s')
  | cons a r =>
    rw [hn] at h
    exact fun H' p s' hp => h H' p (sm.trans s') hp
def SN (K : PySem.W.Frag) (C : Addr) : Gx.GSpec where
  τ := Ut
  W := fun t H Q => match t with
    | .new vs => ∃ v, vs = [v] ∧ ((∃ z : Str, v = .str z ∧ (tl z).length ≤ 1000 ∧ Wn z 0 H Q) ∨ (NoStr K H v ∧ ∀ H' d, Same H H' → H' d = none → Q.ex (.ref C) (some d) (upd H' d (.xd [("index", .non)]))))
    | .at z i => (tl z).length ≤ 1000 ∧ Wn z i H Q
  Fr := fun _ _ _ => True

local macro_rules | `(tactic| walk_at "sz") => `(tactic| first | assumption | decide | omega | (unfold sizeLine; omega) | exact Nat.le_of_ble_eq_true rfl)
local macro_rules | `(tactic| walk_at "hp") => `(tactic| (first | assumption | exact upd_same | (rw [upd_ne (by assumption)]; assumption)))
local macro_rules | `(tactic| walk_at "rd") => `(tactic| (first
  | refine ⟨_, rfl, ?_⟩
  | (refine ⟨_, _, rfl, rfl, ?rdc, ?_⟩; (case rdc => first | (show (0 : Int) < _; omega) | (exact ⟨by omega, by omega⟩) | (exact .inl ⟨by omega, by omega⟩) | (exact .inr ⟨by omega, by omega⟩) | exact ⟨by decide, by decide, by decide⟩))
  | refine ⟨_, _, rfl, rfl, ?_⟩
  | refine .inl ⟨_, rfl, ?_⟩
  | refine ⟨rfl, ?_⟩
  | refine ⟨⟨_, rfl⟩, ?_⟩
  | refine ⟨⟨_, SqL.of (by walk_at "hp")⟩, ?_⟩
  | refine ⟨_, _, _, _, rfl, rfl, SqL.of (by walk_at "hp"), (by rfl), ?_⟩
  | refine ⟨_, _, _, _, rfl, rfl, (by walk_at "hp"), (by rfl), ?_⟩
  | refine ⟨_, _, rfl, ⟨by walk_at "sz", rfl⟩, ?_⟩
  | refine ⟨_, _, _, rfl, rfl, by walk_at "sz", by assumption, ?_⟩
  | refine And.intro (by walk_at "sz") ?_
  | refine itT rfl ?_
  | refine itF rfl ?_
  | refine itT (by assumption) ?_
  | refine itF (by assumption) ?_
  | refine itT (decide_eq_true (by omega)) ?_
  | refine itF (decide_eq_false (by omega)) ?_
  | refine itT (dVi (by omega)) ?_
  | refine itF (dViN (by omega)) ?_
  | refine itT (notT (by assumption)) ?_
  | refine itF (notF (by assumption)) ?_
  | refine itT (notT (dViN (by omega))) ?_
  | refine itF (notF (dVi (by omega))) ?_
  | refine itT (decide_eq_true rfl) ?_
  | refine itF (notF (decide_eq_true rfl)) ?_
  | refine ite2 (fun _ => ?_) (fun _ => ?_)
  | with_reducible refine tC_ ?_
  | with_reducible refine tNext_ ?_
  | with_reducible refine tNil_ ?_
  | with_reducible refine tYes_ ?_))
local macro_rules | `(tactic| walk_at "rds") => `(tactic| repeat' (walk_at "rd"))
section
variable {P : Program} {w : World} {K : PySem.W.Frag} {mg : Str → Option Value} {base : Heap}

theorem ok_names_in (T : Tx P w K mg base) (G_check_text : FnOk P w K mg base (L2.CX P w) 3 T.d_check_text.f T.d_check_text.fd ["text"] (sp_check_text K T.a_InvalidText)) (G_name_end : FnOk P w K mg base CX0 2 T.d_name_end.f T.d_name_end.fd ["text", "begin"] sp_name_end) : Gx.GFn2 P w K mg base 4 T.d_names_in.f T.d_names_in.fd ["text"] (SN K T.a_InvalidText) Ut.new := by
  have sc := sc_names_in
  have NC := nc_names_in
  obtain ⟨oc, od, kV, doc, pm, an, cdv, ct, osl, e0, lk, hcd⟩ := T.d_names_in.F.ex
  rw [e0] at lk ⊢
  refine Gx.gfn2_of lk hcd sc NC (fun A outer L pn hr => ?_)
  replace NC := NC (L + 1)
  refine ⟨_, (Gx.g_cons (Gx.g_psX fun _ _ _ _ => ps_expr (pe_call G_check_text (hr.mono (by decide)) rfl T.d_check_text.m T.d_check_text.F.kp T.d_check_text.b .nil (passes_call Gx.takes_g fun _ _ _ _ z => z) (pa_cons (pv 0) pa_nil)))
      (Gx.g_cons (Gx.g_psX fun _ _ _ _ => ps_set (i := 1) sc.nd rfl (Or.inl rfl) pe_int)
      (Gx.g_cons (Gx.g_whileX (fun _ _ _ _ => pt_cmpR op_lt (pv 1) (pe_callB call_len (by rfl) T.n_len PySem.boot_len (pa_cons (pv 0) pa_nil)) (nomark _)) (Gx.g_cons (Gx.g_psX fun _ _ _ _ => ps_set (i := 2) sc.nd rfl (Or.inl rfl) (pe_call G_name_end (hr.mono (by decide)) rfl T.d_name_end.m T.d_name_end.F.kp T.d_name_end.b .nil pass0 (pa_cons (pv 0) (pa_cons (pv 1) pa_nil))))
      (Gx.g_cons (Gx.g_ifX (fun _ _ _ _ => pt_cmpR op_gt (pv 2) (pv 1) (nomark _)) (Gx.g_cons (Gx.g_yieldX NC (fun _ _ _ _ => pe_tup (pa_cons (pv 1) (pa_cons (pe_slice sl_str (pv 0) (po_some (pv 1)) (po_some (pv 2))) pa_nil))) rfl)
      Gx.g_nil) Gx.g_nil)
      (Gx.g_cons (Gx.g_psX fun _ _ _ _ => ps_set (i := 1) sc.nd rfl (Or.inl rfl) (pe_callB (call_max2 rfl) (by rfl) T.n_max (by decide +kernel) (pa_cons (pv 2) (pa_cons (pe_op op_add (pv 1) pe_int) pa_nil))))
      Gx.g_nil))))
      Gx.g_nil))), fun vs H Q hl h => ?_⟩
  obtain ⟨v, rfl, hv⟩ := h
  rcases hv with ⟨z, rfl, hz, hw⟩ | ⟨⟨t, ht, kt⟩, q⟩
  · have zl : z.length = (tl z).length := len_tl z
    have z16 : z.length ≤ sizeLine := by rw [zl]; unfold sizeLine; omega
    walk_at "rds"
    refine ⟨fun m σ H2 Q2 => ∃ i : Nat, m = (tl z).length - i ∧ (∃ v2, σ = [some (.str z), some (.int (i : Int)), v2]) ∧ Wn z i H2 Q2, ⟨_, 0, rfl, ⟨_, rfl⟩, hw⟩, ?_⟩
    clear hw
    rintro m σ H2 Q2 ⟨i, rfl, ⟨v2, rfl⟩, hw⟩
    by_cases hlt : i < (tl z).length
    · have hc1 := Nam.nend_le ((tl z).drop i)
      rw [List.length_drop] at hc1
      walk_at "rds"
      refine ⟨fun σ' H' Q' => ∃ j : Nat, i < j ∧ (∃ v2, σ' = [some (.str z), some (.int (j : Int)), v2]) ∧ Wn z j H' Q', ?_, ?_⟩
      · rintro σ' H' Q' ⟨j, h1, h2, h3⟩
        exact ⟨_, by omega, j, rfl, h2, h3⟩
      walk_at "rds"
      refine ⟨z, i, rfl, hz, Nat.le_of_lt hlt, ?_⟩
      by_cases h0 : 0 < Nam.nend ((tl z).drop i)
      · unfold Wn at hw
        rw [names_yes hlt h0] at hw
        walk_at "rds"
        intro p hp
        generalize Nam.nend ((tl z).drop i) = n at *
        refine ⟨.at z (i + n), hw _ p (Same.refl _) hp, fun H3 Q3 _ h3 => ?_⟩
        obtain ⟨_, hw3⟩ := h3
        walk_at "rds"
        refine ⟨_, _, rfl, ?_⟩
        refine ⟨i + n, by omega, ⟨some (.int ((i + n : Nat) : Int)), ?_⟩, hw3⟩
        rw [if_neg (show ¬ ((i : Int) + 1 > ((i + n : Nat) : Int)) by omega)]
        rfl
      · have hw : Wn z (i + 1) H2 Q2 := by
          unfold Wn at hw ⊢
          rw [names_no hlt h0] at hw
          exact hw
        generalize Nam.nend ((tl z).drop i) = n at *
        walk_at "rds"
        refine ⟨_, _, rfl, ?_⟩
        refine ⟨i + 1, by omega, ⟨some (.int ((i + n : Nat) : Int)), ?_⟩, hw⟩
        rw [if_pos (show (i : Int) + 1 > ((i + n : Nat) : Int) by omega)]
        rfl
    · unfold Wn at hw
      rw [names_end hlt] at hw
      walk_at "rds"
      exact hw _ (Same.refl _)
  · walk_at "rds"
    refine .inr ⟨t, ht, kt, fun d hd => ?_⟩
    exact q _ d (Same.refl _) hd

end
end K3

set_option maxHeartbeats 1000000
namespace K3
open PySem PySem.Spec PyProof.Rows L2 Mx StX
/-! ### the cursor -/
open TL Nam
theorem walk_enumT {z : Str} : Walk (Itet z) z.cps.size (fun _ => True) (YPair (fun i => some (.int (i : Nat))) (fun i => z.cps[i]?.map fun c => V.str ⟨#[c]⟩)) := by
  refine ⟨fun _ _ hi _ => hi, fun _ _ => rfl, fun i H v H' _ _ y => ?_⟩
  obtain ⟨T, c, h1, h2, h3, h4⟩ := y
  exact ⟨T, .int (i : Nat), .str ⟨#[c]⟩, h1, h2, h4, rfl, by simp [h3]⟩
/-- a cursor over z at i -/
def CurAt (C : Addr) (H : Hp) (a : Addr) (z : Str) (i : Nat) : Prop := ∃ dx t, H a = some (.ins C dx [("own_text", .str z), ("begins", .ref t), ("spot", .int (i : Int))])
def sp_Lines___init__ (C : Addr) : Sp := fun vs H Q _ => ∃ (a dx : Addr) (z : Str), vs = [.ref a, .str z] ∧ (tl z).length ≤ 1000 ∧ H a = some (.ins C dx []) ∧ ∀ H' t, Kp a H H' → H' a = some (.ins C dx [("own_text", .str z), ("begins", .ref t)]) → Q .non H'
def sp_Cursor___init__ (C : Addr) : Sp := fun vs H Q _ => ∃ (a dx : Addr) (z : Str), vs = [.ref a, .str z] ∧ (tl z).length ≤ 1000 ∧ H a = some (.ins C dx []) ∧ ∀ H', Kp a H H' → CurAt C H' a z 0 → Q .non H'
def sp_Cursor_offset (C : Addr) : Sp := fun vs H Q _ => ∃ (a : Addr) (z : Str) (i : Nat), vs = [.ref a] ∧ CurAt C H a z i ∧ Q (.int (i : Int)) H
def sp_Cursor_go_to (C : Addr) : Sp := fun vs H Q _ => ∃ (a : Addr) (z : Str) (i j : Nat), vs = [.ref a, .int (j : Int)] ∧ (tl z).length ≤ 1000 ∧ CurAt C H a z i ∧ j ≤ (tl z).length ∧ ∀ H', Kp a H H' → CurAt C H' a z j → Q .non H'
def sp_Cursor_passed_to (C : Addr) : Sp := fun vs H Q _ => ∃ (a : Addr) (z : Str) (i j : Nat), vs = [.ref a, .int (j : Int)] ∧ (tl z).length ≤ 1000 ∧ CurAt C H a z i ∧ ∀ H', Kp a H H' → CurAt C H' a z j → Q (.str (cutS z (some (i : Int)) (some (j : Int)))) H'
def sp_Cursor_take_name (C CI : Addr) : Sp := fun vs H Q E => ∃ (a : Addr) (z : Str) (i : Nat), vs = [.ref a] ∧ (tl z).length ≤ 1000 ∧ CurAt C H a z i ∧ i ≤ (tl z).length ∧
  (0 < Nam.nend ((tl z).drop i) → ∀ H', Kp a H H' → CurAt C H' a z (i + Nam.nend ((tl z).drop i)) → Q (.str (cutS z (some (i : Int)) (some ((i + Nam.nend ((tl z).drop i) : Nat) : Int)))) H') ∧
  (¬ 0 < Nam.nend ((tl z).drop i) → ∀ H' d, Same H H' → H' d = none → E (.ref CI) (some d) (upd H' d (.xd [("position", .int (i : Int))])))

local macro_rules | `(tactic| walk_at "sz") => `(tactic| first | assumption | decide | omega | (unfold sizeLine; omega) | exact Nat.le_of_ble_eq_true rfl)
local macro_rules | `(tactic| walk_at "hp") => `(tactic| (first | assumption | exact upd_same | (rw [upd_ne (by assumption)]; assumption)))
local macro_rules | `(tactic| walk_at "rd") => `(tactic| (first
  | refine ⟨_, rfl, ?_⟩
  | (refine ⟨_, _, rfl, rfl, ?rdc, ?_⟩; (case rdc => first | (show (0 : Int) < _; omega) | (exact ⟨by omega, by omega⟩) | (exact .inl ⟨by omega, by omega⟩) | (exact .inr ⟨by omega, by omega⟩) | exact ⟨by decide, by decide, by decide⟩))
  | refine ⟨_, _, rfl, rfl, ?_⟩
  | refine .inl ⟨_, rfl, ?_⟩
  | refine ⟨rfl, ?_⟩
  | refine ⟨⟨_, rfl⟩, ?_⟩
  | refine ⟨⟨_, SqL.of (by walk_at "hp")⟩, ?_⟩
  | refine ⟨_, _, _, _, rfl, rfl, SqL.of (by walk_at "hp"), (by rfl), ?_⟩
  | refine ⟨_, _, _, _, rfl, rfl, (by walk_at "hp"), (by rfl), ?_⟩
  | refine ⟨_, _, rfl, ⟨by walk_at "sz", rfl⟩, ?_⟩
  | refine ⟨_, _, _, rfl, rfl, by walk_at "sz", by assumption, ?_⟩
  | refine And.intro (by walk_at "sz") ?_
  | refine itT rfl ?_
  | refine itF rfl ?_
  | refine itT (by assumption) ?_
  | refine itF (by assumption) ?_
  | refine itT (decide_eq_true (by omega)) ?_
  | refine itF (decide_eq_false (by omega)) ?_
  | refine itT (dVi (by omega)) ?_
  | refine itF (dViN (by omega)) ?_
  | refine itT (notT (by assumption)) ?_
  | refine itF (notF (by assumption)) ?_
  | refine itT (notT (dViN (by omega))) ?_
  | refine itF (notF (dVi (by omega))) ?_
  | refine itT (decide_eq_true rfl) ?_
  | refine itF (notF (decide_eq_true rfl)) ?_
  | refine ite2 (fun _ => ?_) (fun _ => ?_)
  | with_reducible refine tC_ ?_
  | with_reducible refine tNext_ ?_
  | with_reducible refine tNil_ ?_
  | with_reducible refine tYes_ ?_))
local macro_rules | `(tactic| walk_at "rds") => `(tactic| repeat' (walk_at "rd"))
section
variable {P : Program} {w : World} {K : PySem.W.Frag} {mg : Str → Option Value} {base : Heap}

local macro_rules | `(tactic| walk_at "lk") => `(tactic| first
  | with_reducible assumption
  | with_reducible exact upd_same
  | (walk_at "lk1"; walk_at "lk")
  | fail "lk")
local macro_rules | `(tactic| walk_at "lk1") => `(tactic| first
  | ((with_reducible refine' lk_new ?a1 ?a2); (case a1 => with_reducible assumption); (case' a2 => skip))
  | ((with_reducible refine' lk_ne ?a1 ?a2); (case a1 => with_reducible assumption); (case' a2 => skip))
  | ((with_reducible refine' lk_neN ?a1 ?a2 ?a3); (case a1 => with_reducible assumption); (case a2 => walk_at "lk"); (case' a3 => skip))
  | ((with_reducible refine' lk_neN' ?a1 ?a2 ?a3); (case a1 => with_reducible assumption); (case a2 => walk_at "lk"); (case' a3 => skip))
  | ((with_reducible refine' lk_same ?a1 ?a2); (case a1 => with_reducible assumption); (case' a2 => skip))
  | ((with_reducible refine' lk_go ?a1 ?a2 ?a3); (case a1 => with_reducible assumption); (case a2 => walk_at "nt"); (case' a3 => skip))
  | ((with_reducible refine' lk_kp_nl ?a1 ?a2 ?a3 ?a4); (case a1 => with_reducible assumption); (case a2 => walk_at "st"); (case a3 => walk_at "nl"); (case' a4 => skip))
  | ((with_reducible refine' lk_kp ?a1 ?a2 ?a3); (case a1 => with_reducible assumption); (case a2 => walk_at "ne"); (case' a3 => skip))
  | fail "lk1")
local macro_rules | `(tactic| walk_at "nt") => `(tactic| first
  | (intro _ z; cases z)
  | fail "nt")
local macro_rules | `(tactic| walk_at "nl") => `(tactic| first
  | (intro _ z; cases z)
  | fail "nl")
local macro_rules | `(tactic| walk_at "ne") => `(tactic| first
  | with_reducible assumption
  | ((with_reducible refine' ne_st ?a1 ?a2); (case a1 => with_reducible assumption); (case a2 => walk_at "st"))
  | fail "ne")
local macro_rules | `(tactic| walk_at "st") => `(tactic| first
  | with_reducible assumption
  | with_reducible exact st_new (by with_reducible assumption) (by walk_at "st")
  | with_reducible exact st_same (by with_reducible assumption) (by walk_at "st")
  | with_reducible exact st_go (by with_reducible assumption) (by walk_at "st")
  | with_reducible exact st_ne (by walk_at "ns") (by walk_at "st")
  | fail "st")
local macro_rules | `(tactic| walk_at "ns") => `(tactic| first
  | with_reducible assumption
  | with_reducible exact Ne.symm (by with_reducible assumption)
  | with_reducible exact Ne.symm (ne_st (by with_reducible assumption) (by walk_at "st"))
  | fail "ns")
local macro_rules | `(tactic| walk_at "fr") => `(tactic| first
  | with_reducible assumption
  | with_reducible exact Same.refl _
  | with_reducible exact Go.refl _ _
  | with_reducible exact Kp.refl _ _
  | with_reducible exact LamX.ExtN.refl _
  | with_reducible exact nw_refl
  | (walk_at "fr1"; walk_at "fr")
  | fail "fr")
local macro_rules | `(tactic| walk_at "fr1") => `(tactic| first
  | ((with_reducible refine' fr_new ?a1 ?a2); (case a1 => with_reducible assumption); (case' a2 => skip))
  | ((with_reducible refine' go_new ?a1 ?a2); (case a1 => with_reducible assumption); (case' a2 => skip))
  | ((with_reducible refine' kp_new ?a1 ?a2); (case a1 => with_reducible assumption); (case' a2 => skip))
  | ((with_reducible refine' fr_same ?a1 ?a2); (case a1 => with_reducible assumption); (case' a2 => skip))
  | ((with_reducible refine' go_same ?a1 ?a2); (case a1 => with_reducible assumption); (case' a2 => skip))
  | ((with_reducible refine' kp_same ?a1 ?a2); (case a1 => with_reducible assumption); (case' a2 => skip))
  | ((with_reducible refine' go_go ?a1 ?a2); (case a1 => with_reducible assumption); (case' a2 => skip))
  | ((with_reducible refine' go_kp ?a1 ?a2 ?a3 ?a4); (case a1 => with_reducible assumption); (case a2 => with_reducible assumption); (case a3 => walk_at "st"); (case' a4 => skip))
  | ((with_reducible refine' kp_kp ?a1 ?a2); (case a1 => with_reducible assumption); (case' a2 => skip))
  | ((with_reducible refine' kp_upd ?a1); (case' a1 => skip))
  | ((with_reducible refine' go_set2 ?a1 ?a2 ?a3 ?a4); (case a1 => walk_at "lk"); (case a2 => with_reducible assumption); (case a3 => walk_at "fr"); (case' a4 => skip))
  | ((with_reducible refine' fr_set2 ?a1 ?a2 ?a3); (case a1 => with_reducible assumption); (case a2 => walk_at "fr"); (case' a3 => skip))
  | ((with_reducible refine' en_new ?a1 ?a2); (case a1 => with_reducible assumption); (case' a2 => skip))
  | ((with_reducible refine' en_same ?a1 ?a2); (case a1 => with_reducible assumption); (case' a2 => skip))
  | ((with_reducible refine' en_go ?a1 ?a2); (case a1 => with_reducible assumption); (case' a2 => skip))
  | ((with_reducible refine' en_set2 ?a1 ?a2 ?a3); (case a1 => with_reducible assumption); (case a2 => walk_at "fr"); (case' a3 => skip))
  | ((with_reducible refine' en_kp ?a1 ?a2 ?a3 ?a4); (case a1 => with_reducible assumption); (case a2 => with_reducible assumption); (case a3 => walk_at "fr"); (case' a4 => skip))
  | ((with_reducible refine' nw_new ?a1 ?a2); (case a1 => with_reducible assumption); (case' a2 => skip))
  | ((with_reducible refine' nw_same ?a1 ?a2); (case a1 => with_reducible assumption); (case' a2 => skip))
  | ((with_reducible refine' nw_go ?a1 ?a2); (case a1 => with_reducible assumption); (case' a2 => skip))
  | ((with_reducible refine' nw_kp ?a1 ?a2 ?a3); (case a1 => with_reducible assumption); (case a2 => walk_at "st"); (case' a3 => skip))
  | ((with_reducible refine' nw_set ?a1 ?a2); (case a1 => walk_at "lk"); (case' a2 => skip))
  | ((with_reducible refine' nw_set2 ?a1 ?a2 ?a3); (case a1 => with_reducible assumption); (case a2 => walk_at "fr"); (case' a3 => skip))
  | fail "fr1")
local macro_rules | `(tactic| walk_at "tb") => `(tactic| first
  | with_reducible assumption
  | (walk_at "tb1"; walk_at "tb")
  | fail "tb")
local macro_rules | `(tactic| walk_at "tb1") => `(tactic| first
  | ((with_reducible refine' tabs_new ?a1 ?a2); (case a1 => with_reducible assumption); (case' a2 => skip))
  | ((with_reducible refine' tabs_same ?a1 ?a2); (case a1 => with_reducible assumption); (case' a2 => skip))
  | ((with_reducible refine' tabs_go ?a1 ?a2); (case a1 => with_reducible assumption); (case' a2 => skip))
  | ((with_reducible refine' tabs_kp ?a1 ?a2 ?a3); (case a1 => with_reducible assumption); (case a2 => walk_at "st"); (case' a3 => skip))
  | ((with_reducible refine' tabs_set ?a1 ?a2); (case a1 => walk_at "lk"); (case' a2 => skip))
  | fail "tb1")
local macro_rules | `(tactic| walk_at "dg") => `(tactic| first
  | assumption
  | (refine' dp_ext ?a1 ?a2; (case a1 => assumption); (case a2 => walk_at "fr"))
  | (refine' dn_use ?a1 ?a2; (case a1 => assumption); (case a2 => walk_at "fr"))
  | fail "dg")
local macro_rules | `(tactic| walk_at "dp") => `(tactic| first
  | assumption
  | exact .str _
  | exact .int _
  | exact .bl _
  | exact .non
  | (refine' Dp.lst (SqL.of ?a1) ?a2; (case a1 => walk_at "lk"); (case a2 => walk_at "dpa"))
  | (refine' Dp.tup (SqT.of ?a1) ?a2; (case a1 => walk_at "lk"); (case a2 => walk_at "dpa"))
  | (walk_at "dg")
  | fail "dp")
local macro_rules | `(tactic| walk_at "dpa") => `(tactic| first
  | assumption
  | exact .nil
  | (refine' DpAll.cons ?a1 ?a2; (case a1 => walk_at "dp"); (case a2 => walk_at "dpa"))
  | fail "dpa")
local macro_rules | `(tactic| walk_at "dx") => `(tactic| first
  | assumption
  | exact .str _
  | exact .int _
  | exact .bl _
  | exact .non
  | (refine' Dx.lst (SqL.of ?a1) ?a2; (case a1 => walk_at "lk"); (case a2 => walk_at "dxa"))
  | (refine' Dx.tup (SqT.of ?a1) ?a2; (case a1 => walk_at "lk"); (case a2 => walk_at "dxa"))
  | (refine' Dx.dct (.inl ?a1) ?a2; (case a1 => walk_at "lk"); (case a2 => exact .nil))
  | (refine' dx_ext ?a1 ?a2; (case a1 => assumption); (case a2 => walk_at "fr"))
  | fail "dx")
local macro_rules | `(tactic| walk_at "dxa") => `(tactic| first
  | assumption
  | exact .nil
  | (refine' DxAll.cons ?a1 ?a2; (case a1 => walk_at "dx"); (case a2 => walk_at "dxa"))
  | fail "dxa")
local macro_rules | `(tactic| walk_at "ty") => `(tactic| first
  | assumption
  | (refine' ty_ext ?a1 ?a2; (case a1 => assumption); (case a2 => walk_at "fr"))
  | fail "ty")
local macro_rules | `(tactic| walk_at "shp") => `(tactic| first
  | assumption
  | (simp only [SeqAt.shaped, lay_l, lay_t, lay_i, lay_b, lay_n, lay_c, lay_e, PyData.depth, PyData.depthAll, Bool.and_true, Bool.true_and, Bool.and_eq_true, decide_eq_true_eq]
     repeat' (first | assumption | (refine And.intro ?_ ?_) | (exact rfl) | (decide +kernel) | omega))
  | decide +kernel)
local macro_rules | `(tactic| walk_at "side") => `(tactic| first
  | assumption
  | (intros; trivial)
  | omega
  | (walk_at "lk")
  | (walk_at "st")
  | (walk_at "sz")
  | (walk_at "tb")
  | (walk_at "fr"))
local macro_rules | `(tactic| walk_at "cl") => `(tactic| ((repeat' (apply Exists.intro)); refine And.intro rfl ?_; repeat (refine And.intro (by walk_at "side") ?_)))
local macro_rules | `(tactic| walk_at "eqd") => `(tactic| (refine ⟨_, _, by walk_at "dp", by walk_at "dp", by walk_at "shp", by walk_at "shp", ?_⟩; rw [eqv_same (by walk_at "shp")]))
local macro_rules | `(tactic| walk_at "new") => `(tactic| refine fun (p : Addr) (hp : (_ : Hp) p = none) => ?_)
local macro_rules | `(tactic| walk_at "rdn") => `(tactic| (repeat' (first | walk_at "rd" | walk_at "new")))

theorem ok_Lines___init__ (T : Tx P w K mg base) (G_check_text : FnOk P w K mg base (L2.CX P w) 3 T.d_check_text.f T.d_check_text.fd ["text"] (sp_check_text K T.a_InvalidText)) : FnOk P w K mg base CX0 4 T.f_Lines___init__ T.fd_Lines___init__ ["self", "text"] (sp_Lines___init__ T.C_Cursor) := by
  have sc := sc_Lines___init__
  refine T.F_Lines___init__.ok sc (fun vs H Q E h => ?_) (fun cdv A outer s H vs Q E hr h => ?_)
  · obtain ⟨a, dx, z, rfl, hz, ha, q⟩ := h
    rfl
  · obtain ⟨a, dx, z, rfl, hz, ha, q⟩ := h
    refine ⟨_, (pss_cons (ps_expr (pe_call G_check_text (hr.mono (by decide)) rfl T.d_check_text.m T.d_check_text.F.kp T.d_check_text.b .nil passL (pa_cons (pv 1) pa_nil)))
      (pss_cons (ps_fld (pv 0) (pv 1) rfl)
      (pss_one (ps_fld (pv 0) (pe_tup (pa_cons pe_int (pa_star (pe_lc (own := [("at", 2), ("sign", 3)]) (g := (gTup K 2 (gCons (gName 2) (gCons (gName 3) gNil)))) rfl sc.nd (pi_enumT (by rfl) T.n_enumerate (pa_cons (pv 1) pa_nil)) (blkOk_by (own := [("at", 2), ("sign", 3)]) (N := ["self", "text", "at", "sign"]) (sc := defScope s_Lines___init__) (by decide +kernel)) (fun _ _ _ _ _ => pg_tup (by rfl) (pgs_cons (pg_name (i := 2) sc.nd rfl (Or.inl rfl)) (pgs_cons (pg_name (i := 3) sc.nd rfl (Or.inl rfl)) pgs_nil))) (fun _ _ _ _ _ => (pts_one (pt_cmpR op_eq (pv 3) pe_str (nomark _)))) (fun _ _ _ _ _ => pe_op op_add (pv 2) pe_int)) pa_nil))) rfl)))), ?_⟩
    have zl : z.length = (tl z).length := len_tl z
    have zs : z.cps.size = (tl z).length := zl
    walk_at "rds"
    refine ⟨a, _, dx, _, rfl, ha, T.cl_Cursor, T.na_own_text, Nat.le_of_ble_eq_true rfl, ?_⟩
    have h1 : upd H a (.ins T.C_Cursor dx (putF "own_text" (.str z) [])) a = some (.ins T.C_Cursor dx [("own_text", .str z)]) := upd_same
    have kp1 : Kp a H (upd H a (.ins T.C_Cursor dx (putF "own_text" (.str z) []))) := (Kp.refl _ _).upd
    generalize upd H a (.ins T.C_Cursor dx (putF "own_text" (.str z) [])) = H1 at *
    walk_at "rds"
    intro D hD
    refine lc_flt (te := tOp (rI0 fun i j => .int (i + j)) (tVar 2) (tC (.int 1))) (g := gTup K 2 (gCons (gName 2) (gCons (gName 3) gNil))) walk_enumT (fun i => decide ((tl z)[i]? = some 10)) (fun i => .int ((i : Int) + 1)) hD (by omega) (fun _ _ => trivial) ?hY ?_ ?_
    case hY =>
      intro i H1 x H2 h
      obtain ⟨t, _, _, _, hn, e, _⟩ := h
      subst e
      exact Same.new (Same.refl _) hn
    · rintro i x H3 H4 Nx Mo hi sm ⟨t, v1, v2, rfl, ht, rfl, e1, e2⟩ k1 k2
      obtain rfl := Option.some.inj e1
      obtain ⟨c, hc, rfl⟩ := Option.map_eq_some_iff.mp e2
      have hg : (tl z)[i]? = some c := by rw [Array.getElem?_toList]; exact hc
      rw [hg] at k1 k2
      refine ⟨_, _, rfl, SqT.of upd_same, rfl, _, _, rfl, _, _, rfl, rfl, ?_⟩
      refine ⟨rfl, ?_⟩
      by_cases h10 : c = 10
      · have hd : decide (V.str ⟨#[c]⟩ = V.str "\n") = true := by rw [h10]; rfl
        walk_at "rds"
        exact k1 (by rw [h10]; rfl) _ (Same.refl _)
      · have hd : decide (V.str ⟨#[c]⟩ = V.str "\n") = false := decide_eq_false fun e => h10 (by cases e; rfl)
        walk_at "rds"
        exact k2 (decide_eq_false fun e => h10 (Option.some.inj e)) _ (Same.refl _)
    · intro H3 sm3 hl3
      have hlen := picked_len z.cps.size (fun i => decide ((tl z)[i]? = some 10)) (fun i => V.int ((i : Int) + 1))
      refine ⟨D, _, rfl, .inr (SqL.of hl3), ?_⟩
      refine ⟨by rw [List.length_cons, List.append_nil]; unfold sizeLine; omega, fun t ht => ?_⟩
      walk_at "rds"
      refine ⟨a, _, dx, _, rfl, lk_new ht (sm3 _ _ h1), T.cl_Cursor, T.na_begins, Nat.le_of_ble_eq_true rfl, ?_⟩
      exact q _ t (((kp1.trans (Kp.of sm3)).new ht).upd) upd_same

theorem ok_Cursor___init__ (T : Tx P w K mg base) (G_Lines___init__ : FnOk P w K mg base CX0 4 T.f_Lines___init__ T.fd_Lines___init__ ["self", "text"] (sp_Lines___init__ T.C_Cursor)) : FnOk P w K mg base CX0 5 T.f_Cursor___init__ T.fd_Cursor___init__ ["self", "text"] (sp_Cursor___init__ T.C_Cursor) := by
  obtain ⟨oc, kV, doc, pm, ct, an, od, osl, cda, cc, efd, lk, hcd, SF⟩ := T.ci_Cursor___init__
  rw [efd]
  refine fn_super (j := 1) lk hcd sc_Cursor___init__ SF rfl rfl rfl rfl rfl rfl rfl G_Lines___init__ T.b_Lines___init__ T.tI_Lines T.fI_Lines (fun vs H Q E h => ?_) (fun A outer s H vs Q E hr h => ?_)
  · obtain ⟨a, dx, z, rfl, hz, ha, q⟩ := h
    rfl
  · obtain ⟨a, dx, z, rfl, hz, ha, q⟩ := h
    refine ⟨_, a, T.C_Cursor, dx, [], .str z, pss_one (ps_fld (pv 0) pe_int rfl), rfl, rfl, ha, T.mro_Cursor, T.sup_Cursor, ?_⟩
    refine ⟨a, dx, z, rfl, hz, ha, fun H' t kp h => ?_⟩
    walk_at "rds"
    refine ⟨a, _, dx, _, rfl, h, T.cl_Cursor, T.na_spot, Nat.le_of_ble_eq_true rfl, ?_⟩
    exact q _ kp.upd ⟨dx, t, upd_same⟩

theorem ok_Cursor_offset (T : Tx P w K mg base) : FnOk P w K mg base CX0 1 T.f_Cursor_offset T.fd_Cursor_offset ["self"] (sp_Cursor_offset T.C_Cursor) := by
  have sc := sc_Cursor_offset
  refine T.F_Cursor_offset.ok sc (fun vs H Q E h => ?_) (fun cdv A outer s H vs Q E hr h => ?_)
  · obtain ⟨a, z, i, rfl, ⟨dx, t, ha⟩, q⟩ := h
    rfl
  · obtain ⟨a, z, i, rfl, ⟨dx, t, ha⟩, q⟩ := h
    refine ⟨_, (pss_one (ps_ret (pe_fld (pv 0) rfl))), ?_⟩
    walk_at "rds"
    refine ⟨a, _, dx, _, _, rfl, ha, T.cl_Cursor, T.na_spot, rfl, ?_⟩
    exact q

theorem ok_Cursor_go_to (T : Tx P w K mg base) (G_check_number : FnOk P w K mg base (L2.CX P w) 3 T.d_check_number.f T.d_check_number.fd ["value", "least", "most"] sp_check_number) : FnOk P w K mg base (L2.CX P w) 4 T.f_Cursor_go_to T.fd_Cursor_go_to ["self", "position"] (sp_Cursor_go_to T.C_Cursor) := by
  have sc := sc_Cursor_go_to
  refine T.F_Cursor_go_to.okX sc (fun vs H Q E h => ?_) (fun cdv A outer s H vs Q E hr h => ?_)
  · obtain ⟨a, z, i, j, rfl, hz, ⟨dx, t, ha⟩, hj, q⟩ := h
    rfl
  · obtain ⟨a, z, i, j, rfl, hz, ⟨dx, t, ha⟩, hj, q⟩ := h
    refine ⟨_, (pss_cons (ps_expr (pe_call G_check_number (hr.mono (by decide)) rfl T.d_check_number.m T.d_check_number.F.kp T.d_check_number.b .nil (passes_call (takes_of rfl rfl rfl rfl) fun _ _ _ _ z => z) (pa_cons (pv 1) (pa_cons pe_int (pa_cons (pe_callB call_len (by rfl) T.n_len PySem.boot_len (pa_cons (pe_fld (pv 0) rfl) pa_nil)) pa_nil)))))
      (pss_one (ps_fld (pv 0) (pv 1) rfl))), ?_⟩
    have zl : z.length = (tl z).length := len_tl z
    walk_at "rds"
    refine ⟨a, _, dx, _, _, rfl, ha, T.cl_Cursor, T.na_own_text, rfl, ?_⟩
    walk_at "rds"
    refine ⟨_, _, _, rfl, by omega, by omega, ?_⟩
    walk_at "rds"
    refine ⟨a, _, dx, _, rfl, ha, T.cl_Cursor, T.na_spot, Nat.le_of_ble_eq_true rfl, ?_⟩
    exact q _ ((Kp.refl _ _).upd) ⟨dx, t, upd_same⟩

theorem ok_Cursor_passed_to (T : Tx P w K mg base) : FnOk P w K mg base CX0 1 T.f_Cursor_passed_to T.fd_Cursor_passed_to ["self", "position"] (sp_Cursor_passed_to T.C_Cursor) := by
  have sc := sc_Cursor_passed_to
  refine T.F_Cursor_passed_to.ok sc (fun vs H Q E h => ?_) (fun cdv A outer s H vs Q E hr h => ?_)
  · obtain ⟨a, z, i, j, rfl, hz, ⟨dx, t, ha⟩, q⟩ := h
    rfl
  · obtain ⟨a, z, i, j, rfl, hz, ⟨dx, t, ha⟩, q⟩ := h
    refine ⟨_, (pss_cons (ps_set (i := 2) sc.nd rfl (Or.inl rfl) (pe_slice sl_str (pe_fld (pv 0) rfl) (po_some (pe_fld (pv 0) rfl)) (po_some (pv 1))))
      (pss_cons (ps_fld (pv 0) (pv 1) rfl)
      (pss_one (ps_ret (pv 2))))), ?_⟩
    have zl : z.length = (tl z).length := len_tl z
    have z16 : z.length ≤ sizeLine := by rw [zl]; unfold sizeLine; omega
    walk_at "rds"
    refine ⟨a, _, dx, _, _, rfl, ha, T.cl_Cursor, T.na_own_text, rfl, ?_⟩
    walk_at "rds"
    refine ⟨a, _, dx, _, _, rfl, ha, T.cl_Cursor, T.na_spot, rfl, ?_⟩
    walk_at "rds"
    refine ⟨a, _, dx, _, rfl, ha, T.cl_Cursor, T.na_spot, Nat.le_of_ble_eq_true rfl, ?_⟩
    walk_at "rds"
    exact q _ ((Kp.refl _ _).upd) ⟨dx, t, upd_same⟩

theorem ok_Cursor_take_name (T : Tx P w K mg base) (G_name_end : FnOk P w K mg base CX0 2 T.d_name_end.f T.d_name_end.fd ["text", "begin"] sp_name_end) (G_Cursor_passed_to : FnOk P w K mg base CX0 1 T.f_Cursor_passed_to T.fd_Cursor_passed_to ["self", "position"] (sp_Cursor_passed_to T.C_Cursor)) : FnOk P w K mg base (L2.CX P w) 3 T.f_Cursor_take_name T.fd_Cursor_take_name ["self"] (sp_Cursor_take_name T.C_Cursor T.a_IllFormed) := by
  have sc := sc_Cursor_take_name
  refine T.F_Cursor_take_name.okX sc (fun vs H Q E h => ?_) (fun cdv A outer s H vs Q E hr h => ?_)
  · obtain ⟨a, z, i, rfl, hz, ⟨dx, t, ha⟩, hi, q1, q2⟩ := h
    rfl
  · obtain ⟨a, z, i, rfl, hz, ⟨dx, t, ha⟩, hi, q1, q2⟩ := h
    refine ⟨_, (pss_cons (ps_set (i := 1) sc.nd rfl (Or.inl rfl) (pe_call G_name_end (hr.mono (by decide)) rfl T.d_name_end.m T.d_name_end.F.kp T.d_name_end.b .nil pass0 (pa_cons (pe_fld (pv 0) rfl) (pa_cons (pe_fld (pv 0) rfl) pa_nil))))
      (pss_cons (ps_if (pt_cmpR op_eq (pv 1) (pe_fld (pv 0) rfl) (nomark _)) (pss_one (ps_raise rfl (takes_of rfl rfl rfl rfl) (pmk_x T.x_IllFormed (hr.mono (by decide)) rfl (pa_cons (pe_fld (pv 0) rfl) pa_nil)))) pss_nil)
      (pss_one (ps_ret (pe_meth (pv 0) T.cl_Cursor T.me_Cursor_passed_to G_Cursor_passed_to (hr.mono (by decide)) T.b_Cursor_passed_to .nil pass0 (pa_cons (pv 1) pa_nil)))))), ?_⟩
    have zl : z.length = (tl z).length := len_tl z
    have nl := Nam.nend_le ((tl z).drop i)
    rw [List.length_drop] at nl
    walk_at "rds"
    refine ⟨a, _, dx, _, _, rfl, ha, T.cl_Cursor, T.na_own_text, rfl, ?_⟩
    walk_at "rds"
    refine ⟨a, _, dx, _, _, rfl, ha, T.cl_Cursor, T.na_spot, rfl, ?_⟩
    walk_at "rds"
    refine ⟨z, i, rfl, hz, hi, ?_⟩
    generalize Nam.nend ((tl z).drop i) = n at *
    walk_at "rds"
    refine ⟨a, _, dx, _, _, rfl, ha, T.cl_Cursor, T.na_spot, rfl, ?_⟩
    by_cases h0 : 0 < n
    · walk_at "rds"
      refine ⟨a, dx, _, rfl, ha, rfl, ?_⟩
      walk_at "rds"
      refine ⟨a, z, i, i + n, rfl, hz, ⟨dx, t, ha⟩, fun H' kp hc => ?_⟩
      exact q1 h0 H' kp hc
    · walk_at "rds"
      refine ⟨a, _, dx, _, _, rfl, ha, T.cl_Cursor, T.na_spot, rfl, ?_⟩
      walk_at "rds"
      intro d hd
      exact q2 h0 _ d (Same.refl _) hd

end
end K3

set_option maxHeartbeats 1000000
namespace K3
open PySem PySem.Spec PyProof.Rows L2 Mx
/-! ### the law's own account of names -/
open TL Nam
/-- pairs of a beginning and a name -/
inductive Prs (H : Hp) (z : Str) : List (Nat × Nat) → List V → Prop
  | nil : Prs H z [] []
  | cons {b e : Nat} {t : Addr} {ns : List (Nat × Nat)} {vs : List V} : H t = some (.tup [.int (b : Int), .str (cutS z (some (b : Int)) (some (e : Int)))]) → Prs H z ns vs → Prs H z ((b, e) :: ns) (.ref t :: vs)
theorem Prs.same {H H' : Hp} {z : Str} {ns : List (Nat × Nat)} {vs : List V} (h : Prs H z ns vs) (s : Same H H') : Prs H' z ns vs := by
  induction h with
  | nil => exact .nil
  | cons h _ ih => exact .cons (s _ _ h) ih
theorem Prs.mono {H H' : Hp} {z : Str} {ns : List (Nat × Nat)} {vs : List V} (h : Prs H z ns vs) (s : ∀ t xs, H t = some (.tup xs) → H' t = some (.tup xs)) : Prs H' z ns vs := by
  induction h with
  | nil => exact .nil
  | cons h _ ih => exact .cons (s _ _ h) ih
theorem tup_put {H : Hp} {p : Addr} {xs : List V} {o : HO} (h : H p = some (.lst xs)) : ∀ t ys, H t = some (.tup ys) → L2.upd H p o t = some (.tup ys) := fun t ys e => by
  rw [upd_ne (fun z => by rw [z, h] at e; cases e)]
  exact e
theorem sn_w {K : PySem.W.Frag} {C : Addr} {z : Str} {i : Nat} {H : Hp} {Q : Gx.Wish Ut} {t : Ut} (hz : (tl z).length ≤ 1000) (ht : t = .new [.str z] ∧ i = 0 ∨ t = .at z i) (h : Wn z i H Q) : (SN K C).W t H Q := by
  rcases ht with ⟨rfl, rfl⟩ | rfl
  · exact ⟨.str z, rfl, .inl ⟨z, rfl, hz, h⟩⟩
  · exact ⟨hz, h⟩
theorem Prs.snoc {H : Hp} {z : Str} {ns : List (Nat × Nat)} {vs : List V} {b e : Nat} {t : Addr} (h : Prs H z ns vs) (ht : H t = some (.tup [.int (b : Int), .str (cutS z (some (b : Int)) (some (e : Int)))])) : Prs H z (ns ++ [(b, e)]) (vs ++ [.ref t]) := by
  induction h with
  | nil => exact .cons ht .nil
  | cons h _ ih => exact .cons h ih
theorem Prs.length {H : Hp} {z : Str} {ns : List (Nat × Nat)} {vs : List V} (h : Prs H z ns vs) : vs.length = ns.length := by
  induction h with
  | nil => rfl
  | cons _ _ ih => rw [List.length_cons, List.length_cons, ih]
theorem Prs.take {H : Hp} {z : Str} {ns : List (Nat × Nat)} {vs : List V} (h : Prs H z ns vs) : ∀ k, Prs H z (ns.take k) (vs.take k) := by
  induction h with
  | nil => intro k; simp only [List.take_nil]; exact .nil
  | cons h _ ih =>
    intro k
    cases k with
    | zero => exact .nil
    | succ k => exact .cons h (ih k)
def dat (z : Str) (n : Nat × Nat) : PyData := .tuple [.int (n.1 : Int), .str (cutS z (some (n.1 : Int)) (some (n.2 : Int)))]
theorem Prs.dp {K : PySem.W.Frag} {H : Hp} {z : Str} {ns : List (Nat × Nat)} {vs : List V} (h : Prs H z ns vs) : DpAll K H vs (ns.map (dat z)) := by
  induction h with
  | nil => exact .nil
  | cons h _ ih => exact .cons (.tup (SqT.of h) (.cons (.int _) (.cons (.str _) .nil))) ih
theorem cut_all {z : Str} {b e : Option Int} {p : Nat → Prop} (h : ∀ c ∈ tl z, p c) : ∀ c ∈ tl (cutS z b e), p c := by
  intro c hc
  have hc : c ∈ ((((tl z).drop (HT.sIx z.length 0 b)).take (HT.sIx z.length z.length e - HT.sIx z.length 0 b)).toArray).toList := hc
  rw [List.toList_toArray] at hc
  exact h c (List.mem_of_mem_drop (List.mem_of_mem_take hc))
theorem shaped_dats {z : Str} (hz : ∀ c ∈ tl z, c < 128) (ns : List (Nat × Nat)) : SeqAt.shaped (.list (ns.map (dat z))) = true := by
  have k : ∀ l : List (Nat × Nat), PyData.canLayAll0 (l.map (dat z)) = true ∧ PyData.depthAll (l.map (dat z)) ≤ 1 := by
    intro l
    induction l with
    | nil => exact ⟨rfl, Nat.zero_le _⟩
    | cons n l ih =>
      have h1 : ((cutS z (some (n.1 : Int)) (some (n.2 : Int))).cps.all fun x => decide (x < 0x110000)) = true := by
        rw [Array.all_eq_true]
        intro i hi
        refine decide_eq_true (Nat.lt_trans (cut_all (b := some (n.1 : Int)) (e := some (n.2 : Int)) hz _ ?_) (by decide : 128 < 0x110000))
        show _ ∈ (cutS z (some (n.1 : Int)) (some (n.2 : Int))).cps.toList
        exact Array.mem_toList_iff.mpr (Array.getElem_mem hi)
      refine ⟨?_, ?_⟩
      · show ((true && (((cutS z (some (n.1 : Int)) (some (n.2 : Int))).cps.all fun x => decide (x < 0x110000)) && true)) && PyData.canLayAll0 (l.map (dat z))) = true
        rw [h1, ih.1]
        rfl
      · show max _ (PyData.depthAll (l.map (dat z))) ≤ 1
        exact Nat.max_le.mpr ⟨Nat.le_of_ble_eq_true rfl, ih.2⟩
  obtain ⟨h1, h2⟩ := k ns
  show (PyData.canLayAll0 _ && decide (PyData.depthAll _ + 1 ≤ 64)) = true
  rw [h1, Bool.true_and]
  exact decide_eq_true (by omega)
theorem names_len (l : List Nat) : ∀ i, (names l i).length ≤ l.length - i := by
  have k : ∀ f i, (namesGo l f i).length ≤ f := by
    intro f
    induction f with
    | zero => intro i; exact Nat.le_refl _
    | succ f ih =>
      intro i
      unfold namesGo
      split
      · split
        · rw [List.length_cons]; have := ih (i + nend (l.drop i)); omega
        · have := ih (i + 1); omega
      · exact Nat.zero_le _
  exact fun i => k _ i
theorem cutS_mid (z : Str) (i j : Nat) (hi : i ≤ (tl z).length) (hj : j ≤ (tl z).length) : tl (cutS z (some (i : Int)) (some (j : Int))) = ((tl z).drop i).take (j - i) := by
  show (((z.cps.toList.drop (HT.sIx z.length 0 (some (i : Int)))).take (HT.sIx z.length z.length (some (j : Int)) - HT.sIx z.length 0 (some (i : Int)))).toArray).toList = _
  have l := len_tl z
  rw [HT.sIx_nat, HT.sIx_nat, Nat.min_eq_left (by omega), Nat.min_eq_left (by omega)]
theorem end_max {l : List Nat} {i : Nat} (hi : i ≤ l.length) {m : Int} (hm : m ∈ (i : Int) :: picked (l.length - i) (fun j => Nam.name ((l.drop i).take (j + 1))) (fun j => (i : Int) + 1 + (j : Int)))
    (hb : ∀ y, y ∈ (i : Int) :: picked (l.length - i) (fun j => Nam.name ((l.drop i).take (j + 1))) (fun j => (i : Int) + 1 + (j : Int)) → y ≤ m) : m = ((i + Nam.nend (l.drop i) : Nat) : Int) := by
  have nl := Nam.nend_le (l.drop i)
  rw [List.length_drop] at nl
  refine Int.le_antisymm ?_ ?_
  · rcases List.mem_cons.mp hm with rfl | hm
    · omega
    · obtain ⟨j, hj, hn, rfl⟩ := picked_mem hm
      have := Nam.nend_max (by rw [List.length_drop]; omega) hn
      omega
  · by_cases h0 : 0 < Nam.nend (l.drop i)
    · have q := hb _ (List.mem_cons_of_mem _ (picked_in (n := l.length - i) (i := Nam.nend (l.drop i) - 1) (f := fun j => Nam.name ((l.drop i).take (j + 1))) (y := fun j => (i : Int) + 1 + (j : Int)) (by omega) (by
        show Nam.name _ = true
        rw [show Nam.nend (l.drop i) - 1 + 1 = Nam.nend (l.drop i) by omega]
        exact Nam.nend_name h0)))
      omega
    · have q := hb _ List.mem_cons_self
      omega
def sp__law_phrase : Sp := fun vs H Q _ => ∃ (a : Addr) (c : Int), vs = [.ref a] ∧ StAt a c H ∧ c ≤ 1000000 ∧
  ∀ (z : Str) (H' : Hp), z.cps.size ≤ 30 → (∀ c ∈ z.cps.toList, c < 128) → Kp a H H' → StAt a (c + 100) H' → Q (.str z) H'
def sp__law_end : Sp := fun vs H Q _ => ∃ (z : Str) (i : Nat), vs = [.str z, .int (i : Int)] ∧ Wd z ∧ i ≤ (tl z).length ∧ ∀ H', Same H H' → Q (.int ((i + Nam.nend ((tl z).drop i) : Nat) : Int)) H'
def sp__law_names : Sp := fun vs H Q _ => ∃ z : Str, vs = [.str z] ∧ Wd z ∧ ∀ H' p us, Same H H' → Prs H' z (names (tl z) 0) us → H' p = some (.lst us) → Q (.ref p) H'
def sp__law_first : Sp := fun vs H Q _ => ∃ z : Str, vs = [.str z, .int 2] ∧ (tl z).length ≤ 1000 ∧ ∀ H' p us, Same H H' → Prs H' z ((names (tl z) 0).take 2) us → H' p = some (.lst us) → Q (.ref p) H'

local macro_rules | `(tactic| walk_at "sz") => `(tactic| first | assumption | decide | omega | (unfold sizeLine; omega) | exact Nat.le_of_ble_eq_true rfl)
local macro_rules | `(tactic| walk_at "hp") => `(tactic| (first | assumption | exact upd_same | (rw [upd_ne (by assumption)]; assumption)))
local macro_rules | `(tactic| walk_at "rd") => `(tactic| (first
  | refine ⟨_, rfl, ?_⟩
  | (refine ⟨_, _, rfl, rfl, ?rdc, ?_⟩; (case rdc => first | (show (0 : Int) < _; omega) | (exact ⟨by omega, by omega⟩) | (exact .inl ⟨by omega, by omega⟩) | (exact .inr ⟨by omega, by omega⟩) | exact ⟨by decide, by decide, by decide⟩))
  | refine ⟨_, _, rfl, rfl, ?_⟩
  | refine .inl ⟨_, rfl, ?_⟩
  | refine ⟨rfl, ?_⟩
  | refine ⟨⟨_, rfl⟩, ?_⟩
  | refine ⟨⟨_, SqL.of (by walk_at "hp")⟩, ?_⟩
  | refine ⟨_, _, _, _, rfl, rfl, SqL.of (by walk_at "hp"), (by rfl), ?_⟩
  | refine ⟨_, _, _, _, rfl, rfl, (by walk_at "hp"), (by rfl), ?_⟩
  | refine ⟨_, _, rfl, ⟨by walk_at "sz", rfl⟩, ?_⟩
  | refine ⟨_, _, _, rfl, rfl, by walk_at "sz", by assumption, ?_⟩
  | refine And.intro (by walk_at "sz") ?_
  | refine itT rfl ?_
  | refine itF rfl ?_
  | refine itT (by assumption) ?_
  | refine itF (by assumption) ?_
  | refine itT (decide_eq_true (by omega)) ?_
  | refine itF (decide_eq_false (by omega)) ?_
  | refine itT (dVi (by omega)) ?_
  | refine itF (dViN (by omega)) ?_
  | refine itT (notT (by assumption)) ?_
  | refine itF (notF (by assumption)) ?_
  | refine itT (notT (dViN (by omega))) ?_
  | refine itF (notF (dVi (by omega))) ?_
  | refine itT (decide_eq_true rfl) ?_
  | refine itF (notF (decide_eq_true rfl)) ?_
  | refine ite2 (fun _ => ?_) (fun _ => ?_)
  | with_reducible refine tC_ ?_
  | with_reducible refine tNext_ ?_
  | with_reducible refine tNil_ ?_
  | with_reducible refine tYes_ ?_))
local macro_rules | `(tactic| walk_at "rds") => `(tactic| repeat' (walk_at "rd"))
section
variable {P : Program} {w : World} {K : PySem.W.Frag} {mg : Str → Option Value} {base : Heap}

local macro_rules | `(tactic| walk_at "lk") => `(tactic| first
  | with_reducible assumption
  | with_reducible exact upd_same
  | (walk_at "lk1"; walk_at "lk")
  | fail "lk")
local macro_rules | `(tactic| walk_at "lk1") => `(tactic| first
  | ((with_reducible refine' lk_new ?a1 ?a2); (case a1 => with_reducible assumption); (case' a2 => skip))
  | ((with_reducible refine' lk_ne ?a1 ?a2); (case a1 => with_reducible assumption); (case' a2 => skip))
  | ((with_reducible refine' lk_neN ?a1 ?a2 ?a3); (case a1 => with_reducible assumption); (case a2 => walk_at "lk"); (case' a3 => skip))
  | ((with_reducible refine' lk_neN' ?a1 ?a2 ?a3); (case a1 => with_reducible assumption); (case a2 => walk_at "lk"); (case' a3 => skip))
  | ((with_reducible refine' lk_same ?a1 ?a2); (case a1 => with_reducible assumption); (case' a2 => skip))
  | ((with_reducible refine' lk_go ?a1 ?a2 ?a3); (case a1 => with_reducible assumption); (case a2 => walk_at "nt"); (case' a3 => skip))
  | ((with_reducible refine' lk_kp_nl ?a1 ?a2 ?a3 ?a4); (case a1 => with_reducible assumption); (case a2 => walk_at "st"); (case a3 => walk_at "nl"); (case' a4 => skip))
  | ((with_reducible refine' lk_kp ?a1 ?a2 ?a3); (case a1 => with_reducible assumption); (case a2 => walk_at "ne"); (case' a3 => skip))
  | fail "lk1")
local macro_rules | `(tactic| walk_at "nt") => `(tactic| first
  | (intro _ z; cases z)
  | fail "nt")
local macro_rules | `(tactic| walk_at "nl") => `(tactic| first
  | (intro _ z; cases z)
  | fail "nl")
local macro_rules | `(tactic| walk_at "ne") => `(tactic| first
  | with_reducible assumption
  | ((with_reducible refine' ne_st ?a1 ?a2); (case a1 => with_reducible assumption); (case a2 => walk_at "st"))
  | fail "ne")
local macro_rules | `(tactic| walk_at "st") => `(tactic| first
  | with_reducible assumption
  | with_reducible exact st_new (by with_reducible assumption) (by walk_at "st")
  | with_reducible exact st_same (by with_reducible assumption) (by walk_at "st")
  | with_reducible exact st_go (by with_reducible assumption) (by walk_at "st")
  | with_reducible exact st_ne (by walk_at "ns") (by walk_at "st")
  | fail "st")
local macro_rules | `(tactic| walk_at "ns") => `(tactic| first
  | with_reducible assumption
  | with_reducible exact Ne.symm (by with_reducible assumption)
  | with_reducible exact Ne.symm (ne_st (by with_reducible assumption) (by walk_at "st"))
  | fail "ns")
local macro_rules | `(tactic| walk_at "fr") => `(tactic| first
  | with_reducible assumption
  | with_reducible exact Same.refl _
  | with_reducible exact Go.refl _ _
  | with_reducible exact Kp.refl _ _
  | with_reducible exact LamX.ExtN.refl _
  | with_reducible exact nw_refl
  | (walk_at "fr1"; walk_at "fr")
  | fail "fr")
local macro_rules | `(tactic| walk_at "fr1") => `(tactic| first
  | ((with_reducible refine' fr_new ?a1 ?a2); (case a1 => with_reducible assumption); (case' a2 => skip))
  | ((with_reducible refine' go_new ?a1 ?a2); (case a1 => with_reducible assumption); (case' a2 => skip))
  | ((with_reducible refine' kp_new ?a1 ?a2); (case a1 => with_reducible assumption); (case' a2 => skip))
  | ((with_reducible refine' fr_same ?a1 ?a2); (case a1 => with_reducible assumption); (case' a2 => skip))
  | ((with_reducible refine' go_same ?a1 ?a2); (case a1 => with_reducible assumption); (case' a2 => skip))
  | ((with_reducible refine' kp_same ?a1 ?a2); (case a1 => with_reducible assumption); (case' a2 => skip))
  | ((with_reducible refine' go_go ?a1 ?a2); (case a1 => with_reducible assumption); (case' a2 => skip))
  | ((with_reducible refine' go_kp ?a1 ?a2 ?a3 ?a4); (case a1 => with_reducible assumption); (case a2 => with_reducible assumption); (case a3 => walk_at "st"); (case' a4 => skip))
  | ((with_reducible refine' kp_kp ?a1 ?a2); (case a1 => with_reducible assumption); (case' a2 => skip))
  | ((with_reducible refine' kp_upd ?a1); (case' a1 => skip))
  | ((with_reducible refine' go_set2 ?a1 ?a2 ?a3 ?a4); (case a1 => walk_at "lk"); (case a2 => with_reducible assumption); (case a3 => walk_at "fr"); (case' a4 => skip))
  | ((with_reducible refine' fr_set2 ?a1 ?a2 ?a3); (case a1 => with_reducible assumption); (case a2 => walk_at "fr"); (case' a3 => skip))
  | ((with_reducible refine' en_new ?a1 ?a2); (case a1 => with_reducible assumption); (case' a2 => skip))
  | ((with_reducible refine' en_same ?a1 ?a2); (case a1 => with_reducible assumption); (case' a2 => skip))
  | ((with_reducible refine' en_go ?a1 ?a2); (case a1 => with_reducible assumption); (case' a2 => skip))
  | ((with_reducible refine' en_set2 ?a1 ?a2 ?a3); (case a1 => with_reducible assumption); (case a2 => walk_at "fr"); (case' a3 => skip))
  | ((with_reducible refine' en_kp ?a1 ?a2 ?a3 ?a4); (case a1 => with_reducible assumption); (case a2 => with_reducible assumption); (case a3 => walk_at "fr"); (case' a4 => skip))
  | ((with_reducible refine' nw_new ?a1 ?a2); (case a1 => with_reducible assumption); (case' a2 => skip))
  | ((with_reducible refine' nw_same ?a1 ?a2); (case a1 => with_reducible assumption); (case' a2 => skip))
  | ((with_reducible refine' nw_go ?a1 ?a2); (case a1 => with_reducible assumption); (case' a2 => skip))
  | ((with_reducible refine' nw_kp ?a1 ?a2 ?a3); (case a1 => with_reducible assumption); (case a2 => walk_at "st"); (case' a3 => skip))
  | ((with_reducible refine' nw_set ?a1 ?a2); (case a1 => walk_at "lk"); (case' a2 => skip))
  | ((with_reducible refine' nw_set2 ?a1 ?a2 ?a3); (case a1 => with_reducible assumption); (case a2 => walk_at "fr"); (case' a3 => skip))
  | fail "fr1")
local macro_rules | `(tactic| walk_at "tb") => `(tactic| first
  | with_reducible assumption
  | (walk_at "tb1"; walk_at "tb")
  | fail "tb")
local macro_rules | `(tactic| walk_at "tb1") => `(tactic| first
  | ((with_reducible refine' tabs_new ?a1 ?a2); (case a1 => with_reducible assumption); (case' a2 => skip))
  | ((with_reducible refine' tabs_same ?a1 ?a2); (case a1 => with_reducible assumption); (case' a2 => skip))
  | ((with_reducible refine' tabs_go ?a1 ?a2); (case a1 => with_reducible assumption); (case' a2 => skip))
  | ((with_reducible refine' tabs_kp ?a1 ?a2 ?a3); (case a1 => with_reducible assumption); (case a2 => walk_at "st"); (case' a3 => skip))
  | ((with_reducible refine' tabs_set ?a1 ?a2); (case a1 => walk_at "lk"); (case' a2 => skip))
  | fail "tb1")
local macro_rules | `(tactic| walk_at "dg") => `(tactic| first
  | assumption
  | (refine' dp_ext ?a1 ?a2; (case a1 => assumption); (case a2 => walk_at "fr"))
  | (refine' dn_use ?a1 ?a2; (case a1 => assumption); (case a2 => walk_at "fr"))
  | fail "dg")
local macro_rules | `(tactic| walk_at "dp") => `(tactic| first
  | assumption
  | exact .str _
  | exact .int _
  | exact .bl _
  | exact .non
  | (refine' Dp.lst (SqL.of ?a1) ?a2; (case a1 => walk_at "lk"); (case a2 => walk_at "dpa"))
  | (refine' Dp.tup (SqT.of ?a1) ?a2; (case a1 => walk_at "lk"); (case a2 => walk_at "dpa"))
  | (walk_at "dg")
  | fail "dp")
local macro_rules | `(tactic| walk_at "dpa") => `(tactic| first
  | assumption
  | exact .nil
  | (refine' DpAll.cons ?a1 ?a2; (case a1 => walk_at "dp"); (case a2 => walk_at "dpa"))
  | fail "dpa")
local macro_rules | `(tactic| walk_at "dx") => `(tactic| first
  | assumption
  | exact .str _
  | exact .int _
  | exact .bl _
  | exact .non
  | (refine' Dx.lst (SqL.of ?a1) ?a2; (case a1 => walk_at "lk"); (case a2 => walk_at "dxa"))
  | (refine' Dx.tup (SqT.of ?a1) ?a2; (case a1 => walk_at "lk"); (case a2 => walk_at "dxa"))
  | (refine' Dx.dct (.inl ?a1) ?a2; (case a1 => walk_at "lk"); (case a2 => exact .nil))
  | (refine' dx_ext ?a1 ?a2; (case a1 => assumption); (case a2 => walk_at "fr"))
  | fail "dx")
local macro_rules | `(tactic| walk_at "dxa") => `(tactic| first
  | assumption
  | exact .nil
  | (refine' DxAll.cons ?a1 ?a2; (case a1 => walk_at "dx"); (case a2 => walk_at "dxa"))
  | fail "dxa")
local macro_rules | `(tactic| walk_at "ty") => `(tactic| first
  | assumption
  | (refine' ty_ext ?a1 ?a2; (case a1 => assumption); (case a2 => walk_at "fr"))
  | fail "ty")
local macro_rules | `(tactic| walk_at "shp") => `(tactic| first
  | assumption
  | (simp only [SeqAt.shaped, lay_l, lay_t, lay_i, lay_b, lay_n, lay_c, lay_e, PyData.depth, PyData.depthAll, Bool.and_true, Bool.true_and, Bool.and_eq_true, decide_eq_true_eq]
     repeat' (first | assumption | (refine And.intro ?_ ?_) | (exact rfl) | (decide +kernel) | omega))
  | decide +kernel)
local macro_rules | `(tactic| walk_at "side") => `(tactic| first
  | assumption
  | (intros; trivial)
  | omega
  | (walk_at "lk")
  | (walk_at "st")
  | (walk_at "sz")
  | (walk_at "tb")
  | (walk_at "fr"))
local macro_rules | `(tactic| walk_at "cl") => `(tactic| ((repeat' (apply Exists.intro)); refine And.intro rfl ?_; repeat (refine And.intro (by walk_at "side") ?_)))
local macro_rules | `(tactic| walk_at "eqd") => `(tactic| (refine ⟨_, _, by walk_at "dp", by walk_at "dp", by walk_at "shp", by walk_at "shp", ?_⟩; rw [eqv_same (by walk_at "shp")]))
local macro_rules | `(tactic| walk_at "new") => `(tactic| refine fun (p : Addr) (hp : (_ : Hp) p = none) => ?_)
local macro_rules | `(tactic| walk_at "rdn") => `(tactic| (repeat' (first | walk_at "rd" | walk_at "new")))

def letsV : List V := [.str "abZ_", .str "ab:", .str ":1-.", .str " \n\t", .str signs]
theorem letsV_at {i : Nat} {x : V} (h : letsV[i]? = some x) : ∃ z : Str, x = .str z ∧ 0 < z.cps.size ∧ z.cps.size < 1000000 ∧ ∀ c ∈ z.cps.toList, c < 128 := by
  have k : ∀ x ∈ letsV, ∃ z : Str, x = .str z ∧ 0 < z.cps.size ∧ z.cps.size < 1000000 ∧ ∀ c ∈ z.cps.toList, c < 128 := by
    intro x hx
    simp only [letsV, List.mem_cons, List.not_mem_nil, or_false] at hx
    rcases hx with rfl | rfl | rfl | rfl | rfl <;> exact ⟨_, rfl, by decide +kernel, by decide +kernel, by decide +kernel⟩
  exact k x (List.mem_of_getElem? h)
theorem ok__law_phrase (T : Tx P w K mg base) (G__law_draw : FnOk P w K mg base CX0 2 T.d__law_draw.f T.d__law_draw.fd ["stream", "top"] sp__law_draw) (G__law_signs : FnOk P w K mg base CX0 1 T.d__law_signs.f T.d__law_signs.fd [] sp__law_signs) (G__law_pick : FnOk P w K mg base CX0 3 T.d__law_pick.f T.d__law_pick.fd ["stream", "some"] sp__law_pick) : FnOk P w K mg base CX0 4 T.d__law_phrase.f T.d__law_phrase.fd ["stream"] sp__law_phrase := by
  have sc := sc__law_phrase
  refine T.d__law_phrase.F.ok sc (fun vs H Q E h => ?_) (fun cdv A outer s H vs Q E hr h => ?_)
  · obtain ⟨a, c, rfl, hs, hc, q⟩ := h
    rfl
  · obtain ⟨a, c, rfl, hs, hc, q⟩ := h
    refine ⟨_, (pss_cons (ps_set (i := 1) sc.nd rfl (Or.inl rfl) pe_str)
      (pss_cons (ps_for PassesOwn.never rfl (pi_range1 rfl T.n_range (pa_cons (pe_call G__law_draw (hr.mono (by decide)) rfl T.d__law_draw.m T.d__law_draw.F.kp T.d__law_draw.b .nil pass0 (pa_cons (pv 0) (pa_cons pe_int pa_nil))) pa_nil)) (pg_name (i := 2) sc.nd rfl (Or.inl rfl)) (pss_cons (ps_set (i := 3) sc.nd rfl (Or.inl rfl) (pe_ix ix_list (pe_lst (pa_cons pe_str (pa_cons pe_str (pa_cons pe_str (pa_cons pe_str (pa_cons (pe_call0 G__law_signs (hr.mono (by decide)) rfl T.d__law_signs.m T.d__law_signs.F.kp T.d__law_signs.b .nil pass0) pa_nil)))))) (pe_call G__law_draw (hr.mono (by decide)) rfl T.d__law_draw.m T.d__law_draw.F.kp T.d__law_draw.b .nil pass0 (pa_cons (pv 0) (pa_cons pe_int pa_nil))) (fun _ _ => rfl)))
      (pss_one (ps_set (i := 1) sc.nd rfl (Or.inl rfl) (pe_op op_add_str (pv 1) (pe_call G__law_pick (hr.mono (by decide)) rfl T.d__law_pick.m T.d__law_pick.F.kp T.d__law_pick.b .nil pass0 (pa_cons (pv 0) (pa_cons (pv 3) pa_nil))))))))
      (pss_one (ps_ret (pv 1))))), ?_⟩
    walk_at "rds"
    refine ⟨a, c, _, rfl, hs, by omega, by decide, by decide, fun r H1 r0 r1 k1 s1 => ?_⟩
    walk_at "rds"
    refine for_range (fun i σ H2 => i ≤ 30 ∧ ∃ (z : Str) (v2 v3 : Option V), σ = [some (.ref a), some (.str z), v2, v3] ∧ z.cps.size ≤ i ∧ (∀ c ∈ z.cps.toList, c < 128) ∧ Kp a H H2 ∧ StAt a (c + 1 + 2 * (i : Int)) H2) ?_ ?_ ?_
    · exact ⟨by decide, _, _, _, rfl, by decide, by decide, k1, s1.mono (by omega)⟩
    · rintro i σ H2 hi ⟨h12, z, v2, v3, rfl, hz, hz8, kp, st⟩
      walk_at "rds"
      intro p hp
      walk_at "rds"
      have hpa : p ≠ a := by
        obtain ⟨_, _, _, e, _⟩ := st
        exact fun e2 => by rw [e2, e] at hp; cases hp
      refine ⟨a, _, _, rfl, st.same (Same.new (Same.refl _) hp), by omega, by decide, by decide, fun r2 H3 r20 r21 k3 s3 => ?_⟩
      obtain ⟨j, x, hj, e, _⟩ := at_int (xs := letsV) r20 (by exact r21)
      refine ⟨_, _, _, _, rfl, rfl, SqL.of (k3 _ _ hpa upd_same), e, ?_⟩
      walk_at "rds"
      obtain ⟨y, rfl, y0, y1, y8⟩ := letsV_at hj
      refine ⟨a, _, _, rfl, s3, by omega, .inr ⟨y, rfl, y0, y1, fun cp H4 hcp k4 s4 => ?_⟩⟩
      refine ⟨_, _, rfl, rfl, ?_, ?_⟩
      · show z.cps.size + 1 ≤ sizeLine
        unfold sizeLine
        omega
      · refine ⟨by omega, _, _, _, rfl, ?_, ?_, ?_, s4.mono (by omega)⟩
        · rw [size_add]
          show _ + 1 ≤ _
          omega
        · intro c hc
          rcases mem_add hc with hc | hc
          · exact hz8 c hc
          · rw [List.mem_singleton.mp hc]
            exact y8 _ hcp
        · exact ((kp.new hp).trans k3).trans k4
    · rintro σ H2 ⟨h12, z, v2, v3, rfl, hz, hz8, kp, st⟩
      walk_at "rds"
      exact q z H2 (by omega) hz8 kp (st.mono (by omega))

theorem ok__law_end (T : Tx P w K mg base) (G__law_is_name : FnOk P w K mg base CX0 3 T.d__law_is_name.f T.d__law_is_name.fd ["word"] sp__law_is_name) : FnOk P w K mg base CX0 4 T.d__law_end.f T.d__law_end.fd ["phrase", "at"] sp__law_end := by
  have sc := sc__law_end
  refine T.d__law_end.F.ok sc (fun vs H Q E h => ?_) (fun cdv A outer s H vs Q E hr h => ?_)
  · obtain ⟨z, i, rfl, hwd, hi, q⟩ := h
    rfl
  · obtain ⟨z, i, rfl, hwd, hi, q⟩ := h
    refine ⟨_, (pss_cons (ps_setLc (i := 2) (own := [("end", 3)]) (g := gName 3) rfl sc.nd rfl rfl (sw_true rfl rfl rfl (by decide +kernel)) (pi_range2 rfl T.n_range (pa_cons (pe_op op_add (pv 1) pe_int) (pa_cons (pe_op op_add (pe_callB call_len (by rfl) T.n_len PySem.boot_len (pa_cons (pv 0) pa_nil)) pe_int) pa_nil))) (blkOk_by (own := [("end", 3)]) (N := ["phrase", "at", "some", "end"]) (sc := defScope s__law_end) (by decide +kernel)) (fun _ _ _ _ _ => pg_name (i := 3) sc.nd rfl (Or.inl rfl)) (fun _ _ _ _ _ => (pts_one (pt_val (pe_call G__law_is_name (hr.mono (by decide)) rfl T.d__law_is_name.m T.d__law_is_name.F.kp T.d__law_is_name.b .nil pass0 (pa_cons (pe_slice sl_str (pv 0) (po_some (pv 1)) (po_some (pv 3))) pa_nil))))) (fun _ _ _ _ _ => pv 3))
      (pss_one (ps_ret (pe_callB (cr_max rfl) (by rfl) T.n_max (by decide +kernel) (pa_cons (pe_op op_catR (pe_lst (pa_cons (pv 1) pa_nil)) (pv 2)) pa_nil))))), ?_⟩
    have zl : z.length = (tl z).length := len_tl z
    obtain ⟨hz, hz2⟩ := hwd
    walk_at "rds"
    refine ⟨((i : Int) + 1), ((z.length : Int) + 1), rfl, ⟨by omega, by omega, by omega, by omega⟩, ?_⟩
    have en : (((z.length : Int) + 1) - ((i : Int) + 1)).toNat = (tl z).length - i := by omega
    rw [en]
    intro D hD
    refine lc_flt (walk_range (lo := (i : Int) + 1) (n := (tl z).length - i)) (fun j => Nam.name (((tl z).drop i).take (j + 1))) (fun j => .int ((i : Int) + 1 + (j : Int))) hD (by omega) (fun _ _ => trivial) (fun i H1 x H2 y => y.1 ▸ Same.refl _) ?_ ?_
    · rintro j x H3 H4 Nx Mo hj sm ⟨rfl, rfl⟩ k1 k2
      refine ⟨rfl, ?_⟩
      have hcut : tl (cutS z (some (i : Int)) (some ((i : Int) + 1 + (j : Int)))) = ((tl z).drop i).take (j + 1) := by
        have e : (i : Int) + 1 + (j : Int) = ((i + 1 + j : Nat) : Int) := by omega
        rw [e, cutS_mid z i (i + 1 + j) hi (by omega), show i + 1 + j - i = j + 1 by omega]
      have hw4 : Wd (cutS z (some (i : Int)) (some ((i : Int) + 1 + (j : Int)))) := ⟨by rw [hcut, List.length_take, List.length_drop]; omega, cut_all hz2⟩
      walk_at "rds"
      intro H5 s5
      rw [hcut]
      cases hnm : Nam.name (((tl z).drop i).take (j + 1)) with
      | true =>
        walk_at "rds"
        exact k1 hnm _ s5
      | false =>
        walk_at "rds"
        exact k2 hnm _ s5
    · intro H3 sm3 hl3
      walk_at "rds"
      intro p hp
      have hlen := picked_len ((tl z).length - i) (fun j => Nam.name (((tl z).drop i).take (j + 1))) (fun j => (i : Int) + 1 + (j : Int))
      rw [picked_map (y := fun j : Nat => (i : Int) + 1 + (j : Int)) (g := V.int)] at hl3
      walk_at "rds"
      refine ⟨p, D, [.int (i : Int)], _, rfl, rfl, .of upd_same, .of (lk_new hp hl3), (by rw [List.length_map]; show 1 + _ ≤ sizeLine; unfold sizeLine; omega), fun p2 hp2 => ?_⟩
      walk_at "rds"
      refine ⟨p2, (i : Int) :: picked ((tl z).length - i) (fun j => Nam.name (((tl z).drop i).take (j + 1))) (fun j => (i : Int) + 1 + (j : Int)), rfl, SqL.of upd_same, Nat.succ_pos _, fun mm hm hb => ?_⟩
      rw [end_max hi hm hb]
      exact q _ (Same.new (Same.new sm3 hp) hp2)

theorem ok__law_names (T : Tx P w K mg base) (G__law_end : FnOk P w K mg base CX0 4 T.d__law_end.f T.d__law_end.fd ["phrase", "at"] sp__law_end) : FnOk P w K mg base CX0 5 T.d__law_names.f T.d__law_names.fd ["phrase"] sp__law_names := by
  have sc := sc__law_names
  refine T.d__law_names.F.ok sc (fun vs H Q E h => ?_) (fun cdv A outer s H vs Q E hr h => ?_)
  · obtain ⟨z, rfl, hwd, q⟩ := h
    rfl
  · obtain ⟨z, rfl, hwd, q⟩ := h
    refine ⟨_, (pss_cons (ps_par (i := 1) (j := 2) (by rfl) sc.nd rfl rfl (by decide) rfl rfl (pa_cons (pe_lst pa_nil) (pa_cons pe_int pa_nil)) (by rfl))
      (pss_cons (ps_while PassesOwn.never (pt_cmpR op_lt (pv 2) (pe_callB call_len (by rfl) T.n_len PySem.boot_len (pa_cons (pv 0) pa_nil)) (nomark _)) (pss_cons (ps_set (i := 3) sc.nd rfl (Or.inl rfl) (pe_call G__law_end (hr.mono (by decide)) rfl T.d__law_end.m T.d__law_end.F.kp T.d__law_end.b .nil pass0 (pa_cons (pv 0) (pa_cons (pv 2) pa_nil))))
      (pss_cons (ps_if (pt_cmpR op_gt (pv 3) (pv 2) (nomark _)) (pss_one (ps_expr (pe_bm PySem.F.plainAttrs_list PySem.F.slot_list_append PySem.F.type_list_append mt_append (pv 1) (pa_cons (pe_tup (pa_cons (pv 2) (pa_cons (pe_slice sl_str (pv 0) (po_some (pv 2)) (po_some (pv 3))) pa_nil))) pa_nil)))) pss_nil)
      (pss_one (ps_set (i := 2) sc.nd rfl (Or.inl rfl) (pe_callB (call_max2 rfl) (by rfl) T.n_max (by decide +kernel) (pa_cons (pv 3) (pa_cons (pe_op op_add (pv 2) pe_int) pa_nil))))))))
      (pss_one (ps_ret (pv 1))))), ?_⟩
    have zl : z.length = (tl z).length := len_tl z
    have hz := hwd.1
    have z16 : z.length ≤ sizeLine := by rw [zl]; unfold sizeLine; omega
    walk_at "rds"
    intro p hp
    walk_at "rds"
    refine ⟨_, _, rfl, ?_⟩
    refine ⟨fun m σ H' => ∃ (i : Nat) (ns : List (Nat × Nat)) (us : List V), m = (tl z).length - i ∧ i ≤ (tl z).length ∧ (∃ v3, σ = [some (.str z), some (.ref p), some (.int (i : Int)), v3]) ∧ Kp p H H' ∧ H' p = some (.lst us) ∧ Prs H' z ns us ∧ ns ++ names (tl z) i = names (tl z) 0 ∧ ns.length ≤ i, ⟨_, 0, [], [], rfl, Nat.zero_le _, ⟨_, rfl⟩, (Kp.refl _ _).upd, upd_same, .nil, rfl, Nat.le_refl _⟩, ?_⟩
    rintro m σ H' ⟨i, ns, us, rfl, hi, ⟨v3, rfl⟩, kp, hl, hp2, hns, hnl⟩
    by_cases hlt : i < (tl z).length
    · have nl := Nam.nend_le ((tl z).drop i)
      rw [List.length_drop] at nl
      walk_at "rds"
      refine ⟨fun σ' H2 => ∃ (j : Nat) (ns : List (Nat × Nat)) (us : List V), i < j ∧ j ≤ (tl z).length ∧ (∃ v3, σ' = [some (.str z), some (.ref p), some (.int (j : Int)), v3]) ∧ Kp p H H2 ∧ H2 p = some (.lst us) ∧ Prs H2 z ns us ∧ ns ++ names (tl z) j = names (tl z) 0 ∧ ns.length ≤ j, ?_, ?_⟩
      · rintro σ' H2 ⟨j, ns, us, h1, h2, h3, h4, h5, h6, h7, h8⟩
        exact ⟨_, by omega, j, ns, us, rfl, h2, h3, h4, h5, h6, h7, h8⟩
      walk_at "rds"
      refine ⟨z, i, rfl, hwd, hi, fun H3 s3 => ?_⟩
      have hp3 := hp2.same s3
      have hl3 := s3 _ _ hl
      have kp3 := kp.trans (Kp.of s3)
      by_cases h0 : 0 < Nam.nend ((tl z).drop i)
      · rw [names_yes hlt h0] at hns
        generalize Nam.nend ((tl z).drop i) = n at *
        walk_at "rds"
        refine ⟨.inl ⟨rfl, _, SqL.of hl3⟩, ?_⟩
        walk_at "rds"
        intro t ht
        have hul := hp3.length
        refine ⟨p, us, _, rfl, rfl, lk_new ht hl3, (by unfold sizeLine; omega), ?_⟩
        walk_at "rds"
        refine ⟨_, _, rfl, ?_⟩
        refine ⟨i + n, ns ++ [(i, i + n)], us ++ [.ref t], by omega, by omega, ⟨some (.int ((i + n : Nat) : Int)), ?_⟩, (kp3.new ht).upd, upd_same, ?_, by rw [List.append_assoc]; exact hns, by rw [List.length_append]; show ns.length + 1 ≤ i + n; omega⟩
        · rw [if_neg (show ¬ ((i : Int) + 1 > ((i + n : Nat) : Int)) by omega)]
          rfl
        · refine Prs.snoc ((hp3.mono fun b ys e => lk_new ht e).mono (tup_put (lk_new ht hl3))) ?_
          exact tup_put (lk_new ht hl3) _ _ upd_same
      · rw [names_no hlt h0] at hns
        generalize Nam.nend ((tl z).drop i) = n at *
        walk_at "rds"
        refine ⟨_, _, rfl, ?_⟩
        refine ⟨i + 1, ns, us, by omega, hlt, ⟨some (.int ((i + n : Nat) : Int)), ?_⟩, kp3, hl3, hp3, hns, by omega⟩
        rw [if_pos (show (i : Int) + 1 > ((i + n : Nat) : Int) by omega)]
        rfl
    · rw [names_end hlt, List.append_nil] at hns
      walk_at "rds"
      rw [hns] at hp2
      exact q _ p us (kp.same hp) hp2 hl

theorem ok__law_first (T : Tx P w K mg base) (G_names_in : Gx.GFn2 P w K mg base 4 T.d_names_in.f T.d_names_in.fd ["text"] (SN K T.a_InvalidText) Ut.new) : FnOk P w K mg base CX0 6 T.d__law_first.f T.d__law_first.fd ["phrase", "many"] sp__law_first := by
  have sc := sc__law_first
  refine T.d__law_first.F.ok sc (fun vs H Q E h => ?_) (fun cdv A outer s H vs Q E hr h => ?_)
  · obtain ⟨z, rfl, hz, q⟩ := h
    rfl
  · obtain ⟨z, rfl, hz, q⟩ := h
    refine ⟨_, (pss_cons (ps_set (i := 2) sc.nd rfl (Or.inl rfl) (pe_lst pa_nil))
      (pss_cons (Gx.ps_forG (Wx := fun _ _ _ _ => False) PassesOwn.never rfl takes0 (hr.mono (by decide)) (Gx.pgen2_call (S := SN K T.a_InvalidText) (start := Ut.new) G_names_in (hr.mono (by decide)) rfl T.d_names_in.m T.d_names_in.F.kp T.d_names_in.b .nil (pa_cons (pv 0) pa_nil)) (pg_name (i := 3) sc.nd rfl (Or.inl rfl)) (pss_cons (ps_expr (pe_bm PySem.F.plainAttrs_list PySem.F.slot_list_append PySem.F.type_list_append mt_append (pv 2) (pa_cons (pv 3) pa_nil))) (pss_one (ps_if (pt_cmpR op_eq (pe_callB call_len (by rfl) T.n_len PySem.boot_len (pa_cons (pv 2) pa_nil)) (pv 1) (nomark _)) (pss_one ps_break) pss_nil))))
      (pss_one (ps_ret (pv 2))))), ?_⟩
    have zl : z.length = (tl z).length := len_tl z
    walk_at "rds"
    intro p hp
    walk_at "rds"
    have hlen := names_len (tl z) 0
    refine ⟨fun m t σ' H' => ∃ (i : Nat) (ns : List (Nat × Nat)) (us : List V), m = (tl z).length + 1 - i ∧ (t = .new [.str z] ∧ i = 0 ∨ t = .at z i) ∧ (∃ v3, σ' = [some (.str z), some (.int 2), some (.ref p), v3]) ∧ Kp p H H' ∧ H' p = some (.lst us) ∧ Prs H' z ns us ∧ ns ++ names (tl z) i = names (tl z) 0 ∧ ns.length < 2 ∧ ns.length ≤ i ∧ i ≤ (tl z).length, ⟨_, 0, [], [], rfl, .inl ⟨rfl, rfl⟩, ⟨_, rfl⟩, (Kp.refl _ _).upd, upd_same, .nil, rfl, by decide, Nat.le_refl _, Nat.zero_le _⟩, ?_⟩
    rintro m t σ' H' ⟨i, ns, us, rfl, ht, ⟨v3, rfl⟩, kp, hl, hp2, hns, hn2, hnl, hi⟩
    refine sn_w hz ht ?_
    unfold Wn
    cases hnm : names (tl z) i with
    | nil =>
      rw [hnm, List.append_nil] at hns
      intro H2 s2
      refine ⟨.ref p, rfl, ?_⟩
      refine q H2 p us ((kp.trans (Kp.of s2)).same hp) ?_ (s2 _ _ hl)
      rw [← hns, List.take_of_length_le (by omega)]
      exact hp2.same s2
    | cons a r =>
      obtain ⟨b, e⟩ := a
      obtain ⟨hib, hbe, hel, hr2⟩ := names_cons hnm
      rw [hnm] at hns
      intro H2 t2 s2 ht2
      have hl2 : upd H2 t2 (.tup [.int (b : Int), .str (cutS z (some (b : Int)) (some (e : Int)))]) p = some (.lst us) := lk_new ht2 (s2 _ _ hl)
      have kp2 : Kp p H (upd H2 t2 (.tup [.int (b : Int), .str (cutS z (some (b : Int)) (some (e : Int)))])) := (kp.trans (Kp.of s2)).new ht2
      have hpr : Prs (upd H2 t2 (.tup [.int (b : Int), .str (cutS z (some (b : Int)) (some (e : Int)))])) z (ns ++ [(b, e)]) (us ++ [.ref t2]) := Prs.snoc ((hp2.same s2).mono fun c ys h => lk_new ht2 h) upd_same
      have hul := hp2.length
      generalize upd H2 t2 (.tup [.int (b : Int), .str (cutS z (some (b : Int)) (some (e : Int)))]) = H3 at *
      refine ⟨fun σ3 H4 => (∃ v3, σ3 = [some (.str z), some (.int 2), some (.ref p), v3]) ∧ Kp p H H4 ∧ H4 p = some (.lst (us ++ [.ref t2])) ∧ Prs H4 z (ns ++ [(b, e)]) (us ++ [.ref t2]) ∧ ns.length = 0, ?_, ?_⟩
      · rintro σ3 H4 ⟨h1, h2, h3, h4, h5⟩
        exact ⟨trivial, _, by omega, e, ns ++ [(b, e)], us ++ [.ref t2], rfl, .inr rfl, h1, h2, h3, h4, by rw [List.append_assoc, ← hr2]; exact hns, by rw [List.length_append]; show ns.length + 1 < 2; omega, by rw [List.length_append]; show ns.length + 1 ≤ e; omega, hel⟩
      · walk_at "rds"
        refine ⟨.inl ⟨rfl, _, SqL.of hl2⟩, ?_⟩
        walk_at "rds"
        refine ⟨p, us, _, rfl, rfl, hl2, (by unfold sizeLine; omega), ?_⟩
        have hl4 : upd H3 p (.lst (us ++ [.ref t2])) p = some (.lst (us ++ [.ref t2])) := upd_same
        have kp4 : Kp p H (upd H3 p (.lst (us ++ [.ref t2]))) := kp2.upd
        have hpr4 := hpr.mono (tup_put (o := .lst (us ++ [.ref t2])) hl2)
        generalize upd H3 p (.lst (us ++ [.ref t2])) = H4 at *
        walk_at "rds"
        refine ⟨_, _, rfl, .inl ⟨_, SqL.of hl4, rfl⟩, ?_⟩
        by_cases h1 : ns.length = 0
        · have hd : decide (V.int ((us ++ [V.ref t2]).length : Int) = V.int 2) = false := by rw [List.length_append, hul, h1]; rfl
          walk_at "rds"
          first
            | exact ⟨⟨_, rfl⟩, kp4, hl4, hpr4, h1⟩
            | exact ⟨kp4, hl4, hpr4, h1⟩
            | exact ⟨hl4, hpr4, h1⟩
            | exact ⟨hpr4, h1⟩
            | exact h1
        · have hn1 : ns.length = 1 := by omega
          have hd : decide (V.int ((us ++ [V.ref t2]).length : Int) = V.int 2) = true := by rw [List.length_append, hul, hn1]; rfl
          walk_at "rds"
          refine q H4 p _ (kp4.same hp) ?_ hl4
          rw [← hns, List.take_append, hn1, List.take_of_length_le (by omega)]
          exact hpr4

end
end K3

set_option maxHeartbeats 1000000
namespace K3
open PySem PySem.Spec PyProof.Rows L2 Mx
/-! ### lists of the generator -/
open TL Nam
theorem list_names {K : PySem.W.Frag} {C : Addr} {z : Str} {H : Hp} {Q : VK} {σ : L2.St} {Wx : WX} (hz : (tl z).length ≤ 1000)
    (k : ∀ H' p us, Same H H' → H' p = none → Prs H' z (names (tl z) 0) us → Q (.ref p) (L2.upd H' p (.lst us))) :
    ∃ Iv : Nat → Ut → List V → Hp → Prop, (∃ m, Iv m (.new [.str z]) [] H) ∧ ∀ m t ys H', Iv m t ys H' → (SN K C).W t H' (Gx.wList (SN K C) K Wx σ Q Iv m ys) := by
  have hlen := names_len (tl z) 0
  refine ⟨fun m t us H' => ∃ (i : Nat) (ns : List (Nat × Nat)), m = (tl z).length + 1 - i ∧ (t = .new [.str z] ∧ i = 0 ∨ t = .at z i) ∧ Same H H' ∧ Prs H' z ns us ∧ ns ++ names (tl z) i = names (tl z) 0 ∧ ns.length ≤ i ∧ i ≤ (tl z).length, ⟨_, 0, [], rfl, .inl ⟨rfl, rfl⟩, Same.refl _, .nil, rfl, Nat.le_refl _, Nat.zero_le _⟩, ?_⟩
  rintro m t us H' ⟨i, ns, rfl, ht, sm, hpr, hns, hnl, hi⟩
  refine sn_w hz ht ?_
  unfold Wn
  cases hnm : names (tl z) i with
  | nil =>
    rw [hnm, List.append_nil] at hns
    intro H2 s2 p hp
    refine k H2 p us (sm.trans s2) hp ?_
    rw [← hns]
    exact hpr.same s2
  | cons a r =>
    obtain ⟨b, e⟩ := a
    obtain ⟨hib, hbe, hel, hr2⟩ := names_cons hnm
    rw [hnm] at hns
    intro H2 t2 s2 ht2
    have hul := hpr.length
    refine ⟨by unfold sizeLine; omega, trivial, _, (by omega : (tl z).length + 1 - e < _), e, ns ++ [(b, e)], rfl, .inr rfl, Same.new (sm.trans s2) ht2, ?_, by rw [List.append_assoc, ← hr2]; exact hns, by rw [List.length_append]; show ns.length + 1 ≤ e; omega, hel⟩
    exact Prs.snoc ((hpr.same s2).mono fun c ys h => lk_new ht2 h) upd_same
theorem nostr_ext {K : PySem.W.Frag} {H H' : Hp} {v : V} (h : NoStr K H v) (g : LamX.ExtN H H') : NoStr K H' v := let ⟨t, a, b⟩ := h; ⟨t, ty_ext a g, b⟩
theorem list_odd {K : PySem.W.Frag} {C : Addr} {v : V} {H : Hp} {Q : VK} {σ : L2.St} {Wx : WX} (hv : NoStr K H v) (hs : PySem.W.subIn K (.ref C) (.type "StopIteration") = some false)
    (k : ∀ H' d, Same H H' → H' d = none → Wx (.ref C) (some d) σ (L2.upd H' d (.xd [("index", .non)]))) :
    ∃ Iv : Nat → Ut → List V → Hp → Prop, (∃ m, Iv m (.new [v]) [] H) ∧ ∀ m t ys H', Iv m t ys H' → (SN K C).W t H' (Gx.wList (SN K C) K Wx σ Q Iv m ys) := by
  refine ⟨fun m t us H' => t = .new [v] ∧ H' = H, ⟨0, rfl, rfl⟩, ?_⟩
  rintro m t us H' ⟨rfl, rfl⟩
  exact ⟨v, rfl, .inr ⟨hv, fun H2 d s2 hd => ⟨hs, k H2 d s2 hd⟩⟩⟩
theorem cutV2 (xs : List V) : cutV xs none (some 2) = xs.take 2 := by
  show (xs.drop (HT.sIx xs.length 0 none)).take (HT.sIx xs.length xs.length (some ((2 : Nat) : Int)) - HT.sIx xs.length 0 none) = _
  rw [HT.sIx_nat]
  have : HT.sIx xs.length 0 none = 0 := rfl
  rw [this, List.drop_zero, Nat.sub_zero]
  by_cases h : 2 ≤ xs.length
  · rw [Nat.min_eq_left h]
  · rw [Nat.min_eq_right (by omega), List.take_of_length_le (Nat.le_refl _), List.take_of_length_le (by omega)]
theorem go_kpi {Tb : List (Addr × Str)} {H0 H H' : Hp} {a C dx : Addr} {fs : List (Str × V)} (n : H0 a = none) (hi : H a = some (.ins C dx fs)) (k : Kp a H H') (t : Go Tb H0 H) : Go Tb H0 H' := by
  refine ⟨fun b o h1 h2 => k b o (ne_of_none h1 n) (t.1 b o h1 h2), fun tt p hp => ?_⟩
  obtain ⟨ps, e1, e2, e3⟩ := t.2 tt p hp
  refine ⟨ps, k _ _ (fun z => by rw [z, hi] at e1; cases e1) e1, e2, fun pos cv h => ?_⟩
  obtain ⟨c', rfl, e5⟩ := e3 pos cv h
  exact ⟨c', rfl, k _ _ (fun z => by rw [z, hi] at e5; unfold LamX.CodeO at e5; cases e5) e5⟩
end K3

set_option maxHeartbeats 1000000
namespace K3
open PySem PySem.Spec PyProof.Rows L2 Mx
/-! ### the law's word on what a call does -/
/-- which answer of _law_told an exception of the class at C gets -/
def Path (K : PySem.W.Frag) (C i t n k : Addr) (f tag : Str) : Prop :=
  (f = "position" ∧ tag = "ill" ∧ PySem.W.kitOne K (.ref C) (.ref i) = some true) ∨
  (f = "index" ∧ tag = "text" ∧ PySem.W.kitOne K (.ref C) (.ref i) = some false ∧ PySem.W.kitOne K (.ref C) (.ref t) = some true) ∨
  (f = "number" ∧ tag = "number" ∧ PySem.W.kitOne K (.ref C) (.ref i) = some false ∧ PySem.W.kitOne K (.ref C) (.ref t) = some false ∧ PySem.W.kitOne K (.ref C) (.ref n) = some true) ∨
  (f = "kind" ∧ tag = "kind" ∧ PySem.W.kitOne K (.ref C) (.ref i) = some false ∧ PySem.W.kitOne K (.ref C) (.ref t) = some false ∧ PySem.W.kitOne K (.ref C) (.ref n) = some false ∧ PySem.W.kitOne K (.ref C) (.ref k) = some true)
def ToldE (K : PySem.W.Frag) (cs : List Value) (i t n k : Addr) (Q : VK) : XK := fun cls d H' => ∃ (C dd : Addr) (fs : List (Str × V)) (f tag : Str) (v : V), cls = .ref C ∧ d = some dd ∧ H' dd = some (.xd fs) ∧ XcC K C ∧ PySem.W.exmAny K (.ref C) cs = some true ∧
  PySem.W.findIn K (.ref C) f = some none ∧ fs.lookup f = some v ∧ Path K C i t n k f tag ∧
  ∀ a p, H' a = none → upd H' a (xoO a (.ref C) (some dd)) p = none → Q (.ref p) (upd (upd H' a (xoO a (.ref C) (some dd))) p (.tup [.str tag, v]))
def TTold (K : PySem.W.Frag) (cs : List Value) (i t n k : Addr) : (XK → Hp → VK → Prop) → Hp → VK → Prop := fun tl H Q =>
  ∀ p0, H p0 = none → tl (ToldE K cs i t n k Q) (upd H p0 (.lst [])) (fun v H1 => ∀ p, H1 p = none → Q (.ref p) (upd H1 p (.lst [v])))

local macro_rules | `(tactic| walk_at "sz") => `(tactic| first | assumption | decide | omega | (unfold sizeLine; omega) | exact Nat.le_of_ble_eq_true rfl)
local macro_rules | `(tactic| walk_at "hp") => `(tactic| (first | assumption | exact upd_same | (rw [upd_ne (by assumption)]; assumption)))
local macro_rules | `(tactic| walk_at "rd") => `(tactic| (first
  | refine ⟨_, rfl, ?_⟩
  | (refine ⟨_, _, rfl, rfl, ?rdc, ?_⟩; (case rdc => first | (show (0 : Int) < _; omega) | (exact ⟨by omega, by omega⟩) | (exact .inl ⟨by omega, by omega⟩) | (exact .inr ⟨by omega, by omega⟩) | exact ⟨by decide, by decide, by decide⟩))
  | refine ⟨_, _, rfl, rfl, ?_⟩
  | refine .inl ⟨_, rfl, ?_⟩
  | refine ⟨rfl, ?_⟩
  | refine ⟨⟨_, rfl⟩, ?_⟩
  | refine ⟨⟨_, SqL.of (by walk_at "hp")⟩, ?_⟩
  | refine ⟨_, _, _, _, rfl, rfl, SqL.of (by walk_at "hp"), (by rfl), ?_⟩
  | refine ⟨_, _, _, _, rfl, rfl, (by walk_at "hp"), (by rfl), ?_⟩
  | refine ⟨_, _, rfl, ⟨by walk_at "sz", rfl⟩, ?_⟩
  | refine ⟨_, _, _, rfl, rfl, by walk_at "sz", by assumption, ?_⟩
  | refine And.intro (by walk_at "sz") ?_
  | refine itT rfl ?_
  | refine itF rfl ?_
  | refine itT (by assumption) ?_
  | refine itF (by assumption) ?_
  | refine itT (decide_eq_true (by omega)) ?_
  | refine itF (decide_eq_false (by omega)) ?_
  | refine itT (dVi (by omega)) ?_
  | refine itF (dViN (by omega)) ?_
  | refine itT (notT (by assumption)) ?_
  | refine itF (notF (by assumption)) ?_
  | refine itT (notT (dViN (by omega))) ?_
  | refine itF (notF (dVi (by omega))) ?_
  | refine itT (decide_eq_true rfl) ?_
  | refine itF (notF (decide_eq_true rfl)) ?_
  | refine ite2 (fun _ => ?_) (fun _ => ?_)
  | with_reducible refine tC_ ?_
  | with_reducible refine tNext_ ?_
  | with_reducible refine tNil_ ?_
  | with_reducible refine tYes_ ?_))
local macro_rules | `(tactic| walk_at "rds") => `(tactic| repeat' (walk_at "rd"))

theorem told_gives {X : Cx} (T : Tx X.prog X.w X.K X.mg X.base) (q : Str) (g : Addr) (cdg : Value) :
    LamX.GivesTo X ["call", "caught", "found", "error"] "_law_told" (defScope s__law_told) g cdg (defBody s__law_told) "call" q
      (TTold X.K [.ref T.a_MarkupError, .ref T.a_MarkupStateError, .ref T.a_LimitError] T.a_IllFormed T.a_InvalidText T.a_InvalidNumber T.a_InvalidKind) := by
  intro f c' s H Q tl act hc h
  have sc := sc__law_told
  refine ⟨_, pss_cons (ps_par (i := 1) (j := 2) (by rfl) sc.nd rfl rfl (by decide) rfl rfl (pa_cons pe_non (pa_cons (pe_lst pa_nil) pa_nil)) (by rfl))
      (pss_cons (ps_try_t3 (X := (cxOf C8.CX0 X.prog X.w X.K X.mg X.base ["call", "caught", "found", "error"] "_law_told" (defScope s__law_told) g cdg X.A X.stack s H C8.E0).nox) (i := 3) (Wout := fun _ _ _ _ => False)
        (tb := fun W D σ H => ∃ (Ech : XK) (Q0 : VK), (∀ cls d σ' H', Ech cls d H' → σ'.length = 4 → W cls d σ' H') ∧ σ[0]? = some (some (.ref f)) ∧ H c' = some (LamX.CodeO c' q) ∧ tl Ech H Q0 ∧ ∀ v H1, Q0 v H1 → ∀ p, H1 p = none → D.nx (σ.set 2 (some (.ref p))) (upd H1 p (.lst [v])))
        rfl rfl rfl sc.nd rfl rfl ⟨rfl, T.m_MarkupError, by decide⟩ ⟨rfl, T.m_MarkupStateError, by decide⟩ ⟨rfl, T.m_LimitError, by decide⟩ LamX.takes0 (fun W pn xe tk _ => ?_)
        (fun a oe cls d pn hz hd => pss_one (ps_set (i := 1) sc.nd rfl (Or.inl rfl) (pv 3))))
      (pss_cons (ps_if (pt_cmpR op_isN (pv 1) pe_non (nomark _)) (pss_one (ps_ret (pv 2))) pss_nil)
      (pss_cons (ps_if (pt_val (pe_callB call_isiX (by rfl) T.n_isinstance (by decide +kernel) (pa_cons (pv 1) (pa_cons (pe_glob (v := .ref T.a_IllFormed) rfl T.x_IllFormed.mgC rfl) pa_nil)))) (pss_one (ps_ret (pe_tup (pa_cons pe_str (pa_cons (pe_xo (pv 1)) pa_nil))))) pss_nil)
      (pss_cons (ps_if (pt_val (pe_callB call_isiX (by rfl) T.n_isinstance (by decide +kernel) (pa_cons (pv 1) (pa_cons (pe_glob (v := .ref T.a_InvalidText) rfl T.x_InvalidText.mgC rfl) pa_nil)))) (pss_one (ps_ret (pe_tup (pa_cons pe_str (pa_cons (pe_xo (pv 1)) pa_nil))))) pss_nil)
      (pss_cons (ps_if (pt_val (pe_callB call_isiX (by rfl) T.n_isinstance (by decide +kernel) (pa_cons (pv 1) (pa_cons (pe_glob (v := .ref T.a_InvalidNumber) rfl T.x_InvalidNumber.mgC rfl) pa_nil)))) (pss_one (ps_ret (pe_tup (pa_cons pe_str (pa_cons (pe_xo (pv 1)) pa_nil))))) pss_nil)
      (pss_one (ps_ret (pe_ifExp (pt_val (pe_callB call_isiX (by rfl) T.n_isinstance (by decide +kernel) (pa_cons (pv 1) (pa_cons (pe_glob (v := .ref T.a_InvalidKind) rfl T.m_InvalidKind rfl) pa_nil)))) (pe_tup (pa_cons pe_str (pa_cons (pe_xo (pv 1)) pa_nil))) (pe_tup (pa_cons pe_str pa_nil)))))))))), ?_⟩
  · refine ⟨fun pins s' σ H' D I hh => ?_⟩
    obtain ⟨Ech, Q0, hW, h1, h2, h3, h4⟩ := hh
    have tk2 := takes_len tk
    refine PSs.run (t := tAsg (tLst (tCons (eMono fun σZ HZ Q => σZ[0]? = some (some (V.ref f)) ∧ HZ c' = some (LamX.CodeO c' q) ∧ tl Ech HZ Q) tNil)) (gName 2)) ?hb pins s' σ H' D I ?_
    case hb => exact pss_one (ps_set (i := 2) sc.nd rfl (Or.inl rfl) (pe_lst (pa_cons (pe_mono (act (fun cls d σ H => σ.length = 4 → W cls d σ H) pn xe Ech _ _ tk2 (fun cls d σ' H' e hl => hW cls d σ' H' e hl))) pa_nil)))
    exact ⟨Q0, ⟨h1, h2, h3⟩, fun v H1 q0 => ⟨by show 1 ≤ sizeLine; decide, fun p hp => h4 v H1 q0 p hp⟩⟩
  · walk_at "rds"
    intro p0 hp0
    walk_at "rds"
    refine ⟨_, _, rfl, ?_⟩
    refine ⟨ToldE X.K [.ref T.a_MarkupError, .ref T.a_MarkupStateError, .ref T.a_LimitError] T.a_IllFormed T.a_InvalidText T.a_InvalidNumber T.a_InvalidKind Q, fun v H1 => ∀ p, H1 p = none → Q (.ref p) (upd H1 p (.lst [v])), ?_, rfl, ?_, h p0 hp0, ?_⟩
    · rintro cls d σ' H' ⟨C, dd, fs, fi, tag, v, rfl, rfl, hd, xc, ex, fn, lk, path, k⟩ hl
      refine ⟨true, ex, fun _ a ha => ?_, fun z => by cases z⟩
      match σ', hl with
      | [x0, x1, x2, x3], _ =>
        have xa : XoAt (upd H' a (xoO a (.ref C) (some dd))) a C fs := ⟨dd, upd_same, by rw [upd_ne (ne_of_none hd ha)]; exact hd⟩
        walk_at "rds"
        rcases path with ⟨rfl, rfl, k1⟩ | ⟨rfl, rfl, k1, k2⟩ | ⟨rfl, rfl, k1, k2, k3⟩ | ⟨rfl, rfl, k1, k2, k3, k4⟩
        · refine ⟨a, C, fs, _, _, _, rfl, .own _, xa, xc, k1, ?_⟩
          walk_at "rds"
          refine ⟨a, C, fs, v, rfl, xa, xc, fn, lk, ?_⟩
          walk_at "rds"
          intro p hp
          exact k a p ha hp
        · refine ⟨a, C, fs, _, _, _, rfl, .own _, xa, xc, k1, ?_⟩
          walk_at "rds"
          refine ⟨a, C, fs, _, _, _, rfl, .own _, xa, xc, k2, ?_⟩
          walk_at "rds"
          refine ⟨a, C, fs, v, rfl, xa, xc, fn, lk, ?_⟩
          walk_at "rds"
          intro p hp
          exact k a p ha hp
        · refine ⟨a, C, fs, _, _, _, rfl, .own _, xa, xc, k1, ?_⟩
          walk_at "rds"
          refine ⟨a, C, fs, _, _, _, rfl, .own _, xa, xc, k2, ?_⟩
          walk_at "rds"
          refine ⟨a, C, fs, _, _, _, rfl, .own _, xa, xc, k3, ?_⟩
          walk_at "rds"
          refine ⟨a, C, fs, v, rfl, xa, xc, fn, lk, ?_⟩
          walk_at "rds"
          intro p hp
          exact k a p ha hp
        · refine ⟨a, C, fs, _, _, _, rfl, .own _, xa, xc, k1, ?_⟩
          walk_at "rds"
          refine ⟨a, C, fs, _, _, _, rfl, .own _, xa, xc, k2, ?_⟩
          walk_at "rds"
          refine ⟨a, C, fs, _, _, _, rfl, .own _, xa, xc, k3, ?_⟩
          walk_at "rds"
          refine ⟨a, C, fs, _, _, _, rfl, .own _, xa, xc, k4, ?_⟩
          walk_at "rds"
          refine ⟨a, C, fs, v, rfl, xa, xc, fn, lk, ?_⟩
          walk_at "rds"
          intro p hp
          exact k a p ha hp
    · rw [upd_ne (ne_of_none hc hp0)]
      exact hc
    · intro v H1 q0 p hp
      walk_at "rds"
      exact q0 p hp
/-- an InvalidText that _law_told catches -/
theorem told_text {P : Program} {w : World} {K : PySem.W.Frag} {mg : Str → Option Value} {base : Heap} (T : Tx P w K mg base) {Q : VK} {H : Hp} {d : Addr} {v : V} (hd : H d = some (.xd [("index", v)]))
    (k : ∀ ax px, H ax = none → upd H ax (xoO ax (.ref T.a_InvalidText) (some d)) px = none → Q (.ref px) (upd (upd H ax (xoO ax (.ref T.a_InvalidText) (some d))) px (.tup [.str "text", v]))) :
    ToldE K [.ref T.a_MarkupError, .ref T.a_MarkupStateError, .ref T.a_LimitError] T.a_IllFormed T.a_InvalidText T.a_InvalidNumber T.a_InvalidKind Q (.ref T.a_InvalidText) (some d) H :=
  ⟨T.a_InvalidText, d, [("index", v)], "index", "text", v, rfl, rfl, hd, T.xc_InvalidText, T.ex_InvalidText, T.fn_InvalidText, rfl, .inr (.inl ⟨rfl, rfl, T.k1_InvalidText, T.k2_InvalidText⟩), k⟩
theorem lam_in {Tb : List (Addr × Str)} {TTd : (XK → Hp → VK → Prop) → Hp → VK → Prop} {t : XK → TE} {σ : L2.St} {H : Hp} {Q : VK} (tb : LamX.Tabs Tb H) (h : ∀ H1, Go Tb H H1 → TTd (fun E H' Q' => t E σ H' Q') H1 Q) : LamX.tLam Tb TTd t σ H Q :=
  ⟨tb, fun H1 e t => h H1 ⟨e, fun _ => t⟩⟩

theorem told_ill {P : Program} {w : World} {K : PySem.W.Frag} {mg : Str → Option Value} {base : Heap} (T : Tx P w K mg base) {Q : VK} {H : Hp} {d : Addr} {v : V} (hd : H d = some (.xd [("position", v)]))
    (k : ∀ ax px, H ax = none → L2.upd H ax (xoO ax (.ref T.a_IllFormed) (some d)) px = none → Q (.ref px) (L2.upd (L2.upd H ax (xoO ax (.ref T.a_IllFormed) (some d))) px (.tup [.str "ill", v]))) :
    ToldE K [.ref T.a_MarkupError, .ref T.a_MarkupStateError, .ref T.a_LimitError] T.a_IllFormed T.a_InvalidText T.a_InvalidNumber T.a_InvalidKind Q (.ref T.a_IllFormed) (some d) H :=
  ⟨T.a_IllFormed, d, [("position", v)], "position", "ill", v, rfl, rfl, hd, T.xc_IllFormed, T.ex_IllFormed, T.fn_IllFormed, rfl, .inl ⟨rfl, rfl, T.k1_IllFormed⟩, k⟩
end K3

set_option maxHeartbeats 1000000
namespace K3
open PySem PySem.Spec PyProof.Rows L2 Mx
open TL Nam
def sp__law_right (K : PySem.W.Frag) (Tb : List (Addr × Str)) : Sp := fun vs H Q _ => ∃ z : Str, vs = [.str z] ∧ (tl z).length ≤ 1000 ∧ (∀ c ∈ tl z, c < 128) ∧ LamX.Tabs Tb H ∧ ∀ H', Go Tb H H' → Q (.bl true) H'

local macro_rules | `(tactic| walk_at "sz") => `(tactic| first | assumption | decide | omega | (unfold sizeLine; omega) | exact Nat.le_of_ble_eq_true rfl)
local macro_rules | `(tactic| walk_at "hp") => `(tactic| (first | assumption | exact upd_same | (rw [upd_ne (by assumption)]; assumption)))
local macro_rules | `(tactic| walk_at "rd") => `(tactic| (first
  | refine ⟨_, rfl, ?_⟩
  | (refine ⟨_, _, rfl, rfl, ?rdc, ?_⟩; (case rdc => first | (show (0 : Int) < _; omega) | (exact ⟨by omega, by omega⟩) | (exact .inl ⟨by omega, by omega⟩) | (exact .inr ⟨by omega, by omega⟩) | exact ⟨by decide, by decide, by decide⟩))
  | refine ⟨_, _, rfl, rfl, ?_⟩
  | refine .inl ⟨_, rfl, ?_⟩
  | refine ⟨rfl, ?_⟩
  | refine ⟨⟨_, rfl⟩, ?_⟩
  | refine ⟨⟨_, SqL.of (by walk_at "hp")⟩, ?_⟩
  | refine ⟨_, _, _, _, rfl, rfl, SqL.of (by walk_at "hp"), (by rfl), ?_⟩
  | refine ⟨_, _, _, _, rfl, rfl, (by walk_at "hp"), (by rfl), ?_⟩
  | refine ⟨_, _, rfl, ⟨by walk_at "sz", rfl⟩, ?_⟩
  | refine ⟨_, _, _, rfl, rfl, by walk_at "sz", by assumption, ?_⟩
  | refine And.intro (by walk_at "sz") ?_
  | refine itT rfl ?_
  | refine itF rfl ?_
  | refine itT (by assumption) ?_
  | refine itF (by assumption) ?_
  | refine itT (decide_eq_true (by omega)) ?_
  | refine itF (decide_eq_false (by omega)) ?_
  | refine itT (dVi (by omega)) ?_
  | refine itF (dViN (by omega)) ?_
  | refine itT (notT (by assumption)) ?_
  | refine itF (notF (by assumption)) ?_
  | refine itT (notT (dViN (by omega))) ?_
  | refine itF (notF (dVi (by omega))) ?_
  | refine itT (decide_eq_true rfl) ?_
  | refine itF (notF (decide_eq_true rfl)) ?_
  | refine ite2 (fun _ => ?_) (fun _ => ?_)
  | with_reducible refine tC_ ?_
  | with_reducible refine tNext_ ?_
  | with_reducible refine tNil_ ?_
  | with_reducible refine tYes_ ?_))
local macro_rules | `(tactic| walk_at "rds") => `(tactic| repeat' (walk_at "rd"))
section
variable {P : Program} {w : World} {K : PySem.W.Frag} {mg : Str → Option Value} {base : Heap}

local macro_rules | `(tactic| walk_at "lk") => `(tactic| first
  | with_reducible assumption
  | with_reducible exact upd_same
  | (walk_at "lk1"; walk_at "lk")
  | fail "lk")
local macro_rules | `(tactic| walk_at "lk1") => `(tactic| first
  | ((with_reducible refine' lk_new ?a1 ?a2); (case a1 => with_reducible assumption); (case' a2 => skip))
  | ((with_reducible refine' lk_ne ?a1 ?a2); (case a1 => with_reducible assumption); (case' a2 => skip))
  | ((with_reducible refine' lk_neN ?a1 ?a2 ?a3); (case a1 => with_reducible assumption); (case a2 => walk_at "lk"); (case' a3 => skip))
  | ((with_reducible refine' lk_neN' ?a1 ?a2 ?a3); (case a1 => with_reducible assumption); (case a2 => walk_at "lk"); (case' a3 => skip))
  | ((with_reducible refine' lk_same ?a1 ?a2); (case a1 => with_reducible assumption); (case' a2 => skip))
  | ((with_reducible refine' lk_go ?a1 ?a2 ?a3); (case a1 => with_reducible assumption); (case a2 => walk_at "nt"); (case' a3 => skip))
  | ((with_reducible refine' lk_kp_nl ?a1 ?a2 ?a3 ?a4); (case a1 => with_reducible assumption); (case a2 => walk_at "st"); (case a3 => walk_at "nl"); (case' a4 => skip))
  | ((with_reducible refine' lk_kp ?a1 ?a2 ?a3); (case a1 => with_reducible assumption); (case a2 => walk_at "ne"); (case' a3 => skip))
  | fail "lk1")
local macro_rules | `(tactic| walk_at "nt") => `(tactic| first
  | (intro _ z; cases z)
  | fail "nt")
local macro_rules | `(tactic| walk_at "nl") => `(tactic| first
  | (intro _ z; cases z)
  | fail "nl")
local macro_rules | `(tactic| walk_at "ne") => `(tactic| first
  | with_reducible assumption
  | ((with_reducible refine' ne_st ?a1 ?a2); (case a1 => with_reducible assumption); (case a2 => walk_at "st"))
  | fail "ne")
local macro_rules | `(tactic| walk_at "st") => `(tactic| first
  | with_reducible assumption
  | with_reducible exact st_new (by with_reducible assumption) (by walk_at "st")
  | with_reducible exact st_same (by with_reducible assumption) (by walk_at "st")
  | with_reducible exact st_go (by with_reducible assumption) (by walk_at "st")
  | with_reducible exact st_ne (by walk_at "ns") (by walk_at "st")
  | fail "st")
local macro_rules | `(tactic| walk_at "ns") => `(tactic| first
  | with_reducible assumption
  | with_reducible exact Ne.symm (by with_reducible assumption)
  | with_reducible exact Ne.symm (ne_st (by with_reducible assumption) (by walk_at "st"))
  | fail "ns")
local macro_rules | `(tactic| walk_at "fr") => `(tactic| first
  | with_reducible assumption
  | with_reducible exact Same.refl _
  | with_reducible exact Go.refl _ _
  | with_reducible exact Kp.refl _ _
  | with_reducible exact LamX.ExtN.refl _
  | with_reducible exact nw_refl
  | (walk_at "fr1"; walk_at "fr")
  | fail "fr")
local macro_rules | `(tactic| walk_at "fr1") => `(tactic| first
  | ((with_reducible refine' fr_new ?a1 ?a2); (case a1 => with_reducible assumption); (case' a2 => skip))
  | ((with_reducible refine' go_new ?a1 ?a2); (case a1 => with_reducible assumption); (case' a2 => skip))
  | ((with_reducible refine' kp_new ?a1 ?a2); (case a1 => with_reducible assumption); (case' a2 => skip))
  | ((with_reducible refine' fr_same ?a1 ?a2); (case a1 => with_reducible assumption); (case' a2 => skip))
  | ((with_reducible refine' go_same ?a1 ?a2); (case a1 => with_reducible assumption); (case' a2 => skip))
  | ((with_reducible refine' kp_same ?a1 ?a2); (case a1 => with_reducible assumption); (case' a2 => skip))
  | ((with_reducible refine' go_go ?a1 ?a2); (case a1 => with_reducible assumption); (case' a2 => skip))
  | ((with_reducible refine' go_kp ?a1 ?a2 ?a3 ?a4); (case a1 => with_reducible assumption); (case a2 => with_reducible assumption); (case a3 => walk_at "st"); (case' a4 => skip))
  | ((with_reducible refine' kp_kp ?a1 ?a2); (case a1 => with_reducible assumption); (case' a2 => skip))
  | ((with_reducible refine' kp_upd ?a1); (case' a1 => skip))
  | ((with_reducible refine' go_set2 ?a1 ?a2 ?a3 ?a4); (case a1 => walk_at "lk"); (case a2 => with_reducible assumption); (case a3 => walk_at "fr"); (case' a4 => skip))
  | ((with_reducible refine' fr_set2 ?a1 ?a2 ?a3); (case a1 => with_reducible assumption); (case a2 => walk_at "fr"); (case' a3 => skip))
  | ((with_reducible refine' en_new ?a1 ?a2); (case a1 => with_reducible assumption); (case' a2 => skip))
  | ((with_reducible refine' en_same ?a1 ?a2); (case a1 => with_reducible assumption); (case' a2 => skip))
  | ((with_reducible refine' en_go ?a1 ?a2); (case a1 => with_reducible assumption); (case' a2 => skip))
  | ((with_reducible refine' en_set2 ?a1 ?a2 ?a3); (case a1 => with_reducible assumption); (case a2 => walk_at "fr"); (case' a3 => skip))
  | ((with_reducible refine' en_kp ?a1 ?a2 ?a3 ?a4); (case a1 => with_reducible assumption); (case a2 => with_reducible assumption); (case a3 => walk_at "fr"); (case' a4 => skip))
  | ((with_reducible refine' nw_new ?a1 ?a2); (case a1 => with_reducible assumption); (case' a2 => skip))
  | ((with_reducible refine' nw_same ?a1 ?a2); (case a1 => with_reducible assumption); (case' a2 => skip))
  | ((with_reducible refine' nw_go ?a1 ?a2); (case a1 => with_reducible assumption); (case' a2 => skip))
  | ((with_reducible refine' nw_kp ?a1 ?a2 ?a3); (case a1 => with_reducible assumption); (case a2 => walk_at "st"); (case' a3 => skip))
  | ((with_reducible refine' nw_set ?a1 ?a2); (case a1 => walk_at "lk"); (case' a2 => skip))
  | ((with_reducible refine' nw_set2 ?a1 ?a2 ?a3); (case a1 => with_reducible assumption); (case a2 => walk_at "fr"); (case' a3 => skip))
  | fail "fr1")
local macro_rules | `(tactic| walk_at "tb") => `(tactic| first
  | with_reducible assumption
  | (walk_at "tb1"; walk_at "tb")
  | fail "tb")
local macro_rules | `(tactic| walk_at "tb1") => `(tactic| first
  | ((with_reducible refine' tabs_new ?a1 ?a2); (case a1 => with_reducible assumption); (case' a2 => skip))
  | ((with_reducible refine' tabs_same ?a1 ?a2); (case a1 => with_reducible assumption); (case' a2 => skip))
  | ((with_reducible refine' tabs_go ?a1 ?a2); (case a1 => with_reducible assumption); (case' a2 => skip))
  | ((with_reducible refine' tabs_kp ?a1 ?a2 ?a3); (case a1 => with_reducible assumption); (case a2 => walk_at "st"); (case' a3 => skip))
  | ((with_reducible refine' tabs_set ?a1 ?a2); (case a1 => walk_at "lk"); (case' a2 => skip))
  | fail "tb1")
local macro_rules | `(tactic| walk_at "dg") => `(tactic| first
  | assumption
  | (refine' dp_ext ?a1 ?a2; (case a1 => assumption); (case a2 => walk_at "fr"))
  | (refine' dn_use ?a1 ?a2; (case a1 => assumption); (case a2 => walk_at "fr"))
  | fail "dg")
local macro_rules | `(tactic| walk_at "dp") => `(tactic| first
  | assumption
  | exact .str _
  | exact .int _
  | exact .bl _
  | exact .non
  | (refine' Dp.lst (SqL.of ?a1) ?a2; (case a1 => walk_at "lk"); (case a2 => walk_at "dpa"))
  | (refine' Dp.tup (SqT.of ?a1) ?a2; (case a1 => walk_at "lk"); (case a2 => walk_at "dpa"))
  | (walk_at "dg")
  | fail "dp")
local macro_rules | `(tactic| walk_at "dpa") => `(tactic| first
  | assumption
  | exact .nil
  | (refine' DpAll.cons ?a1 ?a2; (case a1 => walk_at "dp"); (case a2 => walk_at "dpa"))
  | fail "dpa")
local macro_rules | `(tactic| walk_at "dx") => `(tactic| first
  | assumption
  | exact .str _
  | exact .int _
  | exact .bl _
  | exact .non
  | (refine' Dx.lst (SqL.of ?a1) ?a2; (case a1 => walk_at "lk"); (case a2 => walk_at "dxa"))
  | (refine' Dx.tup (SqT.of ?a1) ?a2; (case a1 => walk_at "lk"); (case a2 => walk_at "dxa"))
  | (refine' Dx.dct (.inl ?a1) ?a2; (case a1 => walk_at "lk"); (case a2 => exact .nil))
  | (refine' dx_ext ?a1 ?a2; (case a1 => assumption); (case a2 => walk_at "fr"))
  | fail "dx")
local macro_rules | `(tactic| walk_at "dxa") => `(tactic| first
  | assumption
  | exact .nil
  | (refine' DxAll.cons ?a1 ?a2; (case a1 => walk_at "dx"); (case a2 => walk_at "dxa"))
  | fail "dxa")
local macro_rules | `(tactic| walk_at "ty") => `(tactic| first
  | assumption
  | (refine' ty_ext ?a1 ?a2; (case a1 => assumption); (case a2 => walk_at "fr"))
  | fail "ty")
local macro_rules | `(tactic| walk_at "shp") => `(tactic| first
  | assumption
  | (simp only [SeqAt.shaped, lay_l, lay_t, lay_i, lay_b, lay_n, lay_c, lay_e, PyData.depth, PyData.depthAll, Bool.and_true, Bool.true_and, Bool.and_eq_true, decide_eq_true_eq]
     repeat' (first | assumption | (refine And.intro ?_ ?_) | (exact rfl) | (decide +kernel) | omega))
  | decide +kernel)
local macro_rules | `(tactic| walk_at "side") => `(tactic| first
  | assumption
  | (intros; trivial)
  | omega
  | (walk_at "lk")
  | (walk_at "st")
  | (walk_at "sz")
  | (walk_at "tb")
  | (walk_at "fr"))
local macro_rules | `(tactic| walk_at "cl") => `(tactic| ((repeat' (apply Exists.intro)); refine And.intro rfl ?_; repeat (refine And.intro (by walk_at "side") ?_)))
local macro_rules | `(tactic| walk_at "eqd") => `(tactic| (refine ⟨_, _, by walk_at "dp", by walk_at "dp", by walk_at "shp", by walk_at "shp", ?_⟩; rw [eqv_same (by walk_at "shp")]))
local macro_rules | `(tactic| walk_at "new") => `(tactic| refine fun (p : Addr) (hp : (_ : Hp) p = none) => ?_)
local macro_rules | `(tactic| walk_at "rdn") => `(tactic| (repeat' (first | walk_at "rd" | walk_at "new")))

theorem ok__law_right (T : Tx P w K mg base) {cL PL : Addr} {Tb : List (Addr × Str)} (hm : (PL, ("_law_right.<locals>.<lambda>" : Str)) ∈ Tb) (hu : ∀ p ∈ Tb, p.1 = PL → p.2 = ("_law_right.<locals>.<lambda>" : Str)) (F : FunC K "_law_right" s__law_right T.d__law_right.f T.d__law_right.fd cL) (TB : LamX.TabB base mg cL PL) (G__law_names : FnOk P w K mg base CX0 5 T.d__law_names.f T.d__law_names.fd ["phrase"] sp__law_names) (G_names_in : Gx.GFn2 P w K mg base 4 T.d_names_in.f T.d_names_in.fd ["text"] (SN K T.a_InvalidText) Ut.new) (G__law_first : FnOk P w K mg base CX0 6 T.d__law_first.f T.d__law_first.fd ["phrase", "many"] sp__law_first) (G__law_end : FnOk P w K mg base CX0 4 T.d__law_end.f T.d__law_end.fd ["phrase", "at"] sp__law_end) (G_Cursor_go_to : FnOk P w K mg base (L2.CX P w) 4 T.f_Cursor_go_to T.fd_Cursor_go_to ["self", "position"] (sp_Cursor_go_to T.C_Cursor)) (G_Cursor_take_name : FnOk P w K mg base (L2.CX P w) 3 T.f_Cursor_take_name T.fd_Cursor_take_name ["self"] (sp_Cursor_take_name T.C_Cursor T.a_IllFormed)) (G_Cursor_offset : FnOk P w K mg base CX0 1 T.f_Cursor_offset T.fd_Cursor_offset ["self"] (sp_Cursor_offset T.C_Cursor)) (G_Cursor___init__ : FnOk P w K mg base CX0 5 T.f_Cursor___init__ T.fd_Cursor___init__ ["self", "text"] (sp_Cursor___init__ T.C_Cursor)) :
    FnG P w K mg base CX0 9 T.d__law_right.f T.d__law_right.fd ["phrase"] (sp__law_right K Tb) := by
  have sc := sc__law_right
  obtain ⟨oc, od, kV, doc, pm, an, cdT, ct, osl, fdT, lkT, cdT'⟩ := T.d__law_told.F.ex
  have bT := T.d__law_told.b
  have cdT := cdT'
  rw [fdT] at lkT bT
  refine okGC F sc (fun vs H Q E h => ?_) (fun A outer s H vs Q E hr h => ?_)
  · obtain ⟨z, rfl, hz, hz8, tb, q⟩ := h
    rfl
  · obtain ⟨z, rfl, hz, hz8, tb, q⟩ := h
    refine ⟨_, (pss_cons (ps_set (i := 1) sc.nd rfl (Or.inl rfl) (pe_call G__law_names (hr.r.mono (by decide)) rfl T.d__law_names.m T.d__law_names.F.kp T.d__law_names.b .nil pass0 (pa_cons (pv 0) pa_nil)))
      (pss_cons (ps_if (PW.pt (pw_or (pt_cmpR (op_neD hr.r.units) (Gx.pe_listG2 (Wx := fun _ _ _ _ => False) takes0 (hr.r.mono (by decide)) (Gx.pgen2_call (S := SN K T.a_InvalidText) (start := Ut.new) G_names_in (hr.r.mono (by decide)) rfl T.d_names_in.m T.d_names_in.F.kp T.d_names_in.b .nil (pa_cons (pv 0) pa_nil)) (by rfl) T.n_list (by decide +kernel)) (pv 1) (nomark _)) (pw_or (pt_cmpR (op_neD hr.r.units) (Gx.pe_listG2 (Wx := fun _ _ _ _ => False) takes0 (hr.r.mono (by decide)) (Gx.pgen2_kw0 (S := SN K T.a_InvalidText) (start := Ut.new) G_names_in (hr.r.mono (by decide)) rfl T.d_names_in.m T.d_names_in.F.kp T.kb_names_in (pk_cons (pv 0) pk_nil)) (by rfl) T.n_list (by decide +kernel)) (pv 1) (nomark _)) (pw_or1 (pt_cmpR (op_neD hr.r.units) (pe_call G__law_first (hr.r.mono (by decide)) rfl T.d__law_first.m T.d__law_first.F.kp T.d__law_first.b .nil pass0 (pa_cons (pv 0) (pa_cons pe_int pa_nil))) (pe_slice sl_list (pv 1) po_none (po_some pe_int)) (nomark _)))))) (pss_one (ps_ret pe_bl)) pss_nil)
      (pss_cons (ps_set (i := 2) sc.nd rfl (Or.inr rfl) (pe_make T.mk_Cursor G_Cursor___init__ (hr.r.mono (by decide)) rfl T.mg_Cursor T.b_Cursor___init__ .nil pass0 (pa_cons (pv 0) pa_nil)))
      (pss_cons (ps_for (passes_of rfl) rfl (pi_range1 rfl T.n_range (pa_cons (pe_op op_add (pe_callB call_len (by rfl) T.n_len PySem.boot_len (pa_cons (pv 0) pa_nil)) pe_int) pa_nil)) (pg_name (i := 3) sc.nd rfl (Or.inl rfl)) (pss_cons (ps_set (i := 4) sc.nd rfl (Or.inl rfl) (pe_call G__law_end (hr.r.mono (by decide)) rfl T.d__law_end.m T.d__law_end.F.kp T.d__law_end.b .nil pass0 (pa_cons (pv 0) (pa_cons (pv 3) pa_nil))))
      (pss_cons (ps_expr (pe_meth (pv 2) T.cl_Cursor T.me_Cursor_go_to G_Cursor_go_to (hr.r.mono (by decide)) T.b_Cursor_go_to .nil passL (pa_cons (pv 3) pa_nil)))
      (pss_cons (ps_set (i := 5) sc.nd rfl (Or.inl rfl) ((LamX.pe_lamcall (T := Tb) (k := 3) (c := cL) (P := PL) rfl T.d__law_told.m T.d__law_told.F.kp lkT cdT bT sc__law_told rfl (Or.inl rfl) (told_gives (X := _) T _ _ _) TB rfl hm hu (hr.r.mono (by decide)) (LamX.lamS_by (sc := defScope s__law_right) (by decide +kernel)) rfl (fun _ _ _ _ _ => rfl) (fun A outer s H E f c' hr2 => pe_meth0 (pv 2) T.cl_Cursor T.me_Cursor_take_name G_Cursor_take_name (hr2.mono (by decide)) T.b_Cursor_take_name .nil (passes_call (takes_of rfl rfl rfl rfl) fun _ _ _ _ z => z)))))
      (pss_cons (ps_set (i := 1) sc.nd rfl (Or.inl rfl) (pe_ifExp (pt_cmpR op_gt (pv 4) (pv 3) (nomark _)) (pe_lst (pa_cons (pe_slice sl_str (pv 0) (po_some (pv 3)) (po_some (pv 4))) pa_nil)) (pe_tup (pa_cons pe_str (pa_cons (pv 3) pa_nil)))))
      (pss_one (ps_if (PW.pt (pw_or (pt_cmpR (op_neD hr.r.units) (pv 5) (pv 1) (nomark _)) (pw_or1 (pt_cmpR op_ne (pe_prop (pv 2) T.cl_Cursor T.pr_Cursor_offset G_Cursor_offset (hr.r.mono (by decide)) T.b_Cursor_offset .nil pass0 rfl) (pv 4) (nomark _))))) (pss_one (ps_ret pe_bl)) pss_nil)))))))
      (pss_one (ps_ret pe_bl)))))), ?_⟩
    have zl : z.length = (tl z).length := len_tl z
    have hwd : Wd z := ⟨hz, fun c hc => Nat.lt_trans (hz8 c hc) (by decide)⟩
    have sh := shaped_dats hz8 (names (tl z) 0)
    have z16 : z.length ≤ sizeLine := by rw [zl]; unfold sizeLine; omega
    walk_at "rds"
    intro H1 p us s1 hpr hp
    walk_at "rds"
    refine list_names hz fun H2 p2 us2 s2 hp2 hpr2 => ?_
    have hpA := hpr.same s2
    have fp2 := s2 _ _ hp
    have g2 : Go Tb H (L2.upd H2 p2 (.lst us2)) := by walk_at "fr"
    have hpr3 : Prs (L2.upd H2 p2 (.lst us2)) z (names (tl z) 0) us := hpA.mono fun t xs e => lk_new hp2 e
    have hpr4 : Prs (L2.upd H2 p2 (.lst us2)) z (names (tl z) 0) us2 := hpr2.mono fun t xs e => lk_new hp2 e
    have f3 : L2.upd H2 p2 (.lst us2) p = some (.lst us) := lk_new hp2 fp2
    have f4 : L2.upd H2 p2 (.lst us2) p2 = some (.lst us2) := upd_same
    generalize L2.upd H2 p2 (.lst us2) = H3 at *
    clear hp2 hpr2 hpA fp2 s2 hpr hp s1
    walk_at "rds"
    refine ⟨_, _, .lst (SqL.of f4) hpr4.dp, .lst (SqL.of f3) hpr3.dp, sh, sh, ?_⟩
    rw [eqv_same sh]
    refine ⟨_, rfl, itF rfl ?_⟩
    clear f4 hpr4
    walk_at "rds"
    refine list_names hz fun H4 p4 us4 s4 hp4 hpr5 => ?_
    have hpr6 : Prs (L2.upd H4 p4 (.lst us4)) z (names (tl z) 0) us := (hpr3.same s4).mono fun t xs e => lk_new hp4 e
    have hpr7 : Prs (L2.upd H4 p4 (.lst us4)) z (names (tl z) 0) us4 := hpr5.mono fun t xs e => lk_new hp4 e
    have f5 : L2.upd H4 p4 (.lst us4) p = some (.lst us) := lk_new hp4 (s4 _ _ f3)
    have f6 : L2.upd H4 p4 (.lst us4) p4 = some (.lst us4) := upd_same
    have g4 : Go Tb H (L2.upd H4 p4 (.lst us4)) := by walk_at "fr"
    generalize L2.upd H4 p4 (.lst us4) = H5 at *
    clear hp4 hpr5 s4 hpr3 f3 g2
    walk_at "rds"
    refine ⟨_, _, .lst (SqL.of f6) hpr7.dp, .lst (SqL.of f5) hpr6.dp, sh, sh, ?_⟩
    rw [eqv_same sh]
    refine ⟨_, rfl, itF rfl ?_⟩
    clear f6 hpr7
    walk_at "rds"
    intro H6 p6 us6 s6 hpr8 hp6
    walk_at "rds"
    refine ⟨p, us, rfl, SqL.of (s6 _ _ f5), fun p7 hp7 => ?_⟩
    rw [cutV2]
    have sh2 := shaped_dats hz8 ((names (tl z) 0).take 2)
    have hpr9 : Prs (L2.upd H6 p7 (.lst (us.take 2))) z ((names (tl z) 0).take 2) (us.take 2) := ((hpr6.same s6).take 2).mono fun t xs e => lk_new hp7 e
    have hprA : Prs (L2.upd H6 p7 (.lst (us.take 2))) z ((names (tl z) 0).take 2) us6 := hpr8.mono fun t xs e => lk_new hp7 e
    refine ⟨_, _, .lst (SqL.of (lk_new hp7 hp6)) hprA.dp, .lst (SqL.of upd_same) hpr9.dp, sh2, sh2, ?_⟩
    rw [eqv_same sh2]
    have g6 : Go Tb H (L2.upd H6 p7 (.lst (us.take 2))) := by walk_at "fr"
    generalize L2.upd H6 p7 (.lst (us.take 2)) = H7 at *
    clear hpr9 hprA hp7 hpr8 hp6 s6 hpr6 f5 g4
    refine ⟨_, rfl, itF rfl ?_⟩
    walk_at "rds"
    intro x dx nx ndx nex
    refine ⟨x, dx, z, rfl, hz, upd_same, fun H8 kp8 hc8 => ⟨rfl, ?_⟩⟩
    have s8 : Same H7 H8 := fun b o e => kp8 b o (ne_of_none e nx) (by rw [upd_ne (ne_of_none e nx), upd_ne (ne_of_none e ndx)]; exact e)
    have g8 : Go Tb H7 H8 := Go.same s8
    clear kp8
    walk_at "rds"
    refine for_range (fun i σ H' => Go Tb H7 H' ∧ (∃ k, k ≤ (tl z).length ∧ CurAt T.C_Cursor H' x z k) ∧ ∃ v1 v3 v4 v5, σ = [some (.str z), v1, some (.ref x), v3, v4, v5]) ⟨g8, ⟨0, Nat.zero_le _, hc8⟩, _, _, _, _, rfl⟩ ?_ ?_
    · rintro j σ H9 hj ⟨g9, ⟨k, hk, dx9, t9, f9⟩, v1, v3, v4, v5, rfl⟩
      have hj2 : j ≤ (tl z).length := by omega
      simp only [Int.zero_add]
      walk_at "rds"
      refine ⟨z, j, rfl, hwd, hj2, fun HA sA => ?_⟩
      have nl := Nam.nend_le ((tl z).drop j)
      rw [List.length_drop] at nl
      obtain ⟨n, hn⟩ : ∃ n, Nam.nend ((tl z).drop j) = n := ⟨_, rfl⟩
      rw [hn] at nl ⊢
      have fA := sA _ _ f9
      have gA : Go Tb H7 HA := by walk_at "fr"
      walk_at "rds"
      refine ⟨x, dx9, _, rfl, fA, rfl, ?_⟩
      walk_at "rds"
      refine ⟨x, z, k, j, rfl, hz, ⟨dx9, t9, fA⟩, hj2, fun HB kB hcB => ?_⟩
      obtain ⟨dxB, tB, fB⟩ := hcB
      have gB : Go Tb H7 HB := go_kpi nx fA kB gA
      have tbB : LamX.Tabs Tb HB := (gB.2 (g6.2 tb))
      clear kB gA fA sA f9 g9
      refine lam_in tbB (fun HC gC => ?_)
      intro p0 hp0
      have fC : L2.upd HC p0 (.lst []) x = some (.ins T.C_Cursor dxB [("own_text", .str z), ("begins", .ref tB), ("spot", .int (j : Int))]) := by walk_at "lk"
      have gC2 : Go Tb H7 (L2.upd HC p0 (.lst [])) := go_go (by walk_at "fr") gB
      generalize L2.upd HC p0 (.lst []) = HC2 at *
      clear hp0 gC gB fB
      walk_at "rds"
      refine ⟨x, dxB, _, rfl, fC, rfl, ?_⟩
      walk_at "rds"
      refine ⟨x, z, j, rfl, hz, ⟨dxB, tB, fC⟩, hj2, fun h0 HD kD hcD => ?_, fun h0 HD d sD hd => ?_⟩
      · rw [hn] at h0 hcD ⊢
        obtain ⟨dxD, tD, fD⟩ := hcD
        have gD : Go Tb H7 HD := go_kpi nx fC kD gC2
        clear kD fC gC2
        have shs : SeqAt.shaped (.list [.str (cutS z (some (j : Int)) (some ((j + n : Nat) : Int)))]) = true := shaped_strs (l := [cutS z (some (j : Int)) (some ((j + n : Nat) : Int))]) (fun y hy c hc => by
          rw [List.mem_singleton.mp hy] at hc
          exact Nat.lt_trans (cut_all hz8 c hc) (by decide))
        intro p1 hp1
        walk_at "rds"
        intro p2 hp2
        generalize cutS z (some (j : Int)) (some ((j + n : Nat) : Int)) = w at *
        have e1 : L2.upd (L2.upd HD p1 (.lst [.str w])) p2 (.lst [.str w]) p1 = some (.lst [.str w]) := by walk_at "lk"
        have e2 : L2.upd (L2.upd HD p1 (.lst [.str w])) p2 (.lst [.str w]) p2 = some (.lst [.str w]) := upd_same
        have fE : L2.upd (L2.upd HD p1 (.lst [.str w])) p2 (.lst [.str w]) x = some (.ins T.C_Cursor dxD [("own_text", .str z), ("begins", .ref tD), ("spot", .int ((j + n : Nat) : Int))]) := by walk_at "lk"
        have gE : Go Tb H7 (L2.upd (L2.upd HD p1 (.lst [.str w])) p2 (.lst [.str w])) := by walk_at "fr"
        generalize L2.upd (L2.upd HD p1 (.lst [.str w])) p2 (.lst [.str w]) = HE at *
        walk_at "rds"
        refine ⟨_, _, .lst (SqL.of e1) (.cons (.str _) .nil), .lst (SqL.of e2) (.cons (.str _) .nil), shs, shs, ?_⟩
        rw [eqv_same shs]
        refine ⟨_, rfl, itF rfl ?_⟩
        walk_at "rds"
        refine ⟨x, dxD, _, rfl, fE, ⟨x, z, j + n, rfl, ⟨dxD, tD, fE⟩, ?_⟩⟩
        walk_at "rds"
        exact ⟨⟨j + n, by omega, dxD, tD, fE⟩, _, _, _, _, rfl⟩
      · rw [hn] at h0
        have hn0 : n = 0 := by omega
        subst hn0
        refine told_ill T upd_same (fun ax px hax hpx => ?_)
        walk_at "rds"
        intro p2 hp2
        have fE : L2.upd (L2.upd (L2.upd (L2.upd HD d (.xd [("position", .int (j : Int))])) ax (xoO ax (.ref T.a_IllFormed) (some d))) px (.tup [.str "ill", .int (j : Int)])) p2 (.tup [.str "ill", .int (j : Int)]) x = some (.ins T.C_Cursor dxB [("own_text", .str z), ("begins", .ref tB), ("spot", .int (j : Int))]) := by walk_at "lk"
        have gE : Go Tb H7 (L2.upd (L2.upd (L2.upd (L2.upd HD d (.xd [("position", .int (j : Int))])) ax (xoO ax (.ref T.a_IllFormed) (some d))) px (.tup [.str "ill", .int (j : Int)])) p2 (.tup [.str "ill", .int (j : Int)])) := by walk_at "fr"
        walk_at "rds"
        walk_at "eqd"
        refine ⟨_, rfl, itF rfl ?_⟩
        walk_at "rds"
        refine ⟨x, dxB, _, rfl, fE, ⟨x, z, j, rfl, ⟨dxB, tB, fE⟩, ?_⟩⟩
        walk_at "rds"
        exact ⟨⟨j, hj2, dxB, tB, fE⟩, _, _, _, _, rfl⟩
    · rintro σ H9 ⟨g9, _, v1, v3, v4, v5, rfl⟩
      walk_at "rds"
      exact q _ (go_go g9 g6)

end
end K3

set_option maxHeartbeats 1000000
namespace K3
open PySem PySem.Spec PyProof.Rows L2 Mx
/-! ### the law -/
open TL Nam
theorem picked_none (n : Nat) (y : Nat → V) : picked n (fun _ => false) y = [] := by
  unfold picked
  rw [List.filter_eq_nil_iff.mpr (by simp)]
  rfl
def oddT : List Str := ["", "a:b:c", "a:", ":a", "a:1", "1a2", "a::b", "--a"]
theorem oddT_ok : ∀ z ∈ oddT, (tl z).length ≤ 1000 ∧ ∀ c ∈ tl z, c < 128 := by decide +kernel
def sp_law (K : PySem.W.Frag) (Tb : List (Addr × Str)) : Sp := fun vs H Q _ => ∃ (a : Addr) (ns : List Int), vs = [.ref a] ∧ LsX K H a (ns.map V.int) ∧ ns.length ≤ 63 ∧ LamX.Tabs Tb H ∧ ∀ H', Q (.bl true) H'

local macro_rules | `(tactic| walk_at "sz") => `(tactic| first | assumption | decide | omega | (unfold sizeLine; omega) | exact Nat.le_of_ble_eq_true rfl)
local macro_rules | `(tactic| walk_at "hp") => `(tactic| (first | assumption | exact upd_same | (rw [upd_ne (by assumption)]; assumption)))
local macro_rules | `(tactic| walk_at "rd") => `(tactic| (first
  | refine ⟨_, rfl, ?_⟩
  | (refine ⟨_, _, rfl, rfl, ?rdc, ?_⟩; (case rdc => first | (show (0 : Int) < _; omega) | (exact ⟨by omega, by omega⟩) | (exact .inl ⟨by omega, by omega⟩) | (exact .inr ⟨by omega, by omega⟩) | exact ⟨by decide, by decide, by decide⟩))
  | refine ⟨_, _, rfl, rfl, ?_⟩
  | refine .inl ⟨_, rfl, ?_⟩
  | refine ⟨rfl, ?_⟩
  | refine ⟨⟨_, rfl⟩, ?_⟩
  | refine ⟨⟨_, SqL.of (by walk_at "hp")⟩, ?_⟩
  | refine ⟨_, _, _, _, rfl, rfl, SqL.of (by walk_at "hp"), (by rfl), ?_⟩
  | refine ⟨_, _, _, _, rfl, rfl, (by walk_at "hp"), (by rfl), ?_⟩
  | refine ⟨_, _, rfl, ⟨by walk_at "sz", rfl⟩, ?_⟩
  | refine ⟨_, _, _, rfl, rfl, by walk_at "sz", by assumption, ?_⟩
  | refine And.intro (by walk_at "sz") ?_
  | refine itT rfl ?_
  | refine itF rfl ?_
  | refine itT (by assumption) ?_
  | refine itF (by assumption) ?_
  | refine itT (decide_eq_true (by omega)) ?_
  | refine itF (decide_eq_false (by omega)) ?_
  | refine itT (dVi (by omega)) ?_
  | refine itF (dViN (by omega)) ?_
  | refine itT (notT (by assumption)) ?_
  | refine itF (notF (by assumption)) ?_
  | refine itT (notT (dViN (by omega))) ?_
  | refine itF (notF (dVi (by omega))) ?_
  | refine itT (decide_eq_true rfl) ?_
  | refine itF (notF (decide_eq_true rfl)) ?_
  | refine ite2 (fun _ => ?_) (fun _ => ?_)
  | with_reducible refine tC_ ?_
  | with_reducible refine tNext_ ?_
  | with_reducible refine tNil_ ?_
  | with_reducible refine tYes_ ?_))
local macro_rules | `(tactic| walk_at "rds") => `(tactic| repeat' (walk_at "rd"))
section
variable {P : Program} {w : World} {K : PySem.W.Frag} {mg : Str → Option Value} {base : Heap}

local macro_rules | `(tactic| walk_at "lk") => `(tactic| first
  | with_reducible assumption
  | with_reducible exact upd_same
  | (walk_at "lk1"; walk_at "lk")
  | fail "lk")
local macro_rules | `(tactic| walk_at "lk1") => `(tactic| first
  | ((with_reducible refine' lk_new ?a1 ?a2); (case a1 => with_reducible assumption); (case' a2 => skip))
  | ((with_reducible refine' lk_ne ?a1 ?a2); (case a1 => with_reducible assumption); (case' a2 => skip))
  | ((with_reducible refine' lk_neN ?a1 ?a2 ?a3); (case a1 => with_reducible assumption); (case a2 => walk_at "lk"); (case' a3 => skip))
  | ((with_reducible refine' lk_neN' ?a1 ?a2 ?a3); (case a1 => with_reducible assumption); (case a2 => walk_at "lk"); (case' a3 => skip))
  | ((with_reducible refine' lk_same ?a1 ?a2); (case a1 => with_reducible assumption); (case' a2 => skip))
  | ((with_reducible refine' lk_go ?a1 ?a2 ?a3); (case a1 => with_reducible assumption); (case a2 => walk_at "nt"); (case' a3 => skip))
  | ((with_reducible refine' lk_kp_nl ?a1 ?a2 ?a3 ?a4); (case a1 => with_reducible assumption); (case a2 => walk_at "st"); (case a3 => walk_at "nl"); (case' a4 => skip))
  | ((with_reducible refine' lk_kp ?a1 ?a2 ?a3); (case a1 => with_reducible assumption); (case a2 => walk_at "ne"); (case' a3 => skip))
  | fail "lk1")
local macro_rules | `(tactic| walk_at "nt") => `(tactic| first
  | (intro _ z; cases z)
  | fail "nt")
local macro_rules | `(tactic| walk_at "nl") => `(tactic| first
  | (intro _ z; cases z)
  | fail "nl")
local macro_rules | `(tactic| walk_at "ne") => `(tactic| first
  | with_reducible assumption
  | ((with_reducible refine' ne_st ?a1 ?a2); (case a1 => with_reducible assumption); (case a2 => walk_at "st"))
  | fail "ne")
local macro_rules | `(tactic| walk_at "st") => `(tactic| first
  | with_reducible assumption
  | with_reducible exact st_new (by with_reducible assumption) (by walk_at "st")
  | with_reducible exact st_same (by with_reducible assumption) (by walk_at "st")
  | with_reducible exact st_go (by with_reducible assumption) (by walk_at "st")
  | with_reducible exact st_ne (by walk_at "ns") (by walk_at "st")
  | fail "st")
local macro_rules | `(tactic| walk_at "ns") => `(tactic| first
  | with_reducible assumption
  | with_reducible exact Ne.symm (by with_reducible assumption)
  | with_reducible exact Ne.symm (ne_st (by with_reducible assumption) (by walk_at "st"))
  | fail "ns")
local macro_rules | `(tactic| walk_at "fr") => `(tactic| first
  | with_reducible assumption
  | with_reducible exact Same.refl _
  | with_reducible exact Go.refl _ _
  | with_reducible exact Kp.refl _ _
  | with_reducible exact LamX.ExtN.refl _
  | with_reducible exact nw_refl
  | (walk_at "fr1"; walk_at "fr")
  | fail "fr")
local macro_rules | `(tactic| walk_at "fr1") => `(tactic| first
  | ((with_reducible refine' fr_new ?a1 ?a2); (case a1 => with_reducible assumption); (case' a2 => skip))
  | ((with_reducible refine' go_new ?a1 ?a2); (case a1 => with_reducible assumption); (case' a2 => skip))
  | ((with_reducible refine' kp_new ?a1 ?a2); (case a1 => with_reducible assumption); (case' a2 => skip))
  | ((with_reducible refine' fr_same ?a1 ?a2); (case a1 => with_reducible assumption); (case' a2 => skip))
  | ((with_reducible refine' go_same ?a1 ?a2); (case a1 => with_reducible assumption); (case' a2 => skip))
  | ((with_reducible refine' kp_same ?a1 ?a2); (case a1 => with_reducible assumption); (case' a2 => skip))
  | ((with_reducible refine' go_go ?a1 ?a2); (case a1 => with_reducible assumption); (case' a2 => skip))
  | ((with_reducible refine' go_kp ?a1 ?a2 ?a3 ?a4); (case a1 => with_reducible assumption); (case a2 => with_reducible assumption); (case a3 => walk_at "st"); (case' a4 => skip))
  | ((with_reducible refine' kp_kp ?a1 ?a2); (case a1 => with_reducible assumption); (case' a2 => skip))
  | ((with_reducible refine' kp_upd ?a1); (case' a1 => skip))
  | ((with_reducible refine' go_set2 ?a1 ?a2 ?a3 ?a4); (case a1 => walk_at "lk"); (case a2 => with_reducible assumption); (case a3 => walk_at "fr"); (case' a4 => skip))
  | ((with_reducible refine' fr_set2 ?a1 ?a2 ?a3); (case a1 => with_reducible assumption); (case a2 => walk_at "fr"); (case' a3 => skip))
  | ((with_reducible refine' en_new ?a1 ?a2); (case a1 => with_reducible assumption); (case' a2 => skip))
  | ((with_reducible refine' en_same ?a1 ?a2); (case a1 => with_reducible assumption); (case' a2 => skip))
  | ((with_reducible refine' en_go ?a1 ?a2); (case a1 => with_reducible assumption); (case' a2 => skip))
  | ((with_reducible refine' en_set2 ?a1 ?a2 ?a3); (case a1 => with_reducible assumption); (case a2 => walk_at "fr"); (case' a3 => skip))
  | ((with_reducible refine' en_kp ?a1 ?a2 ?a3 ?a4); (case a1 => with_reducible assumption); (case a2 => with_reducible assumption); (case a3 => walk_at "fr"); (case' a4 => skip))
  | ((with_reducible refine' nw_new ?a1 ?a2); (case a1 => with_reducible assumption); (case' a2 => skip))
  | ((with_reducible refine' nw_same ?a1 ?a2); (case a1 => with_reducible assumption); (case' a2 => skip))
  | ((with_reducible refine' nw_go ?a1 ?a2); (case a1 => with_reducible assumption); (case' a2 => skip))
  | ((with_reducible refine' nw_kp ?a1 ?a2 ?a3); (case a1 => with_reducible assumption); (case a2 => walk_at "st"); (case' a3 => skip))
  | ((with_reducible refine' nw_set ?a1 ?a2); (case a1 => walk_at "lk"); (case' a2 => skip))
  | ((with_reducible refine' nw_set2 ?a1 ?a2 ?a3); (case a1 => with_reducible assumption); (case a2 => walk_at "fr"); (case' a3 => skip))
  | fail "fr1")
local macro_rules | `(tactic| walk_at "tb") => `(tactic| first
  | with_reducible assumption
  | (walk_at "tb1"; walk_at "tb")
  | fail "tb")
local macro_rules | `(tactic| walk_at "tb1") => `(tactic| first
  | ((with_reducible refine' tabs_new ?a1 ?a2); (case a1 => with_reducible assumption); (case' a2 => skip))
  | ((with_reducible refine' tabs_same ?a1 ?a2); (case a1 => with_reducible assumption); (case' a2 => skip))
  | ((with_reducible refine' tabs_go ?a1 ?a2); (case a1 => with_reducible assumption); (case' a2 => skip))
  | ((with_reducible refine' tabs_kp ?a1 ?a2 ?a3); (case a1 => with_reducible assumption); (case a2 => walk_at "st"); (case' a3 => skip))
  | ((with_reducible refine' tabs_set ?a1 ?a2); (case a1 => walk_at "lk"); (case' a2 => skip))
  | fail "tb1")
local macro_rules | `(tactic| walk_at "dg") => `(tactic| first
  | assumption
  | (refine' dp_ext ?a1 ?a2; (case a1 => assumption); (case a2 => walk_at "fr"))
  | (refine' dn_use ?a1 ?a2; (case a1 => assumption); (case a2 => walk_at "fr"))
  | fail "dg")
local macro_rules | `(tactic| walk_at "dp") => `(tactic| first
  | assumption
  | exact .str _
  | exact .int _
  | exact .bl _
  | exact .non
  | (refine' Dp.lst (SqL.of ?a1) ?a2; (case a1 => walk_at "lk"); (case a2 => walk_at "dpa"))
  | (refine' Dp.tup (SqT.of ?a1) ?a2; (case a1 => walk_at "lk"); (case a2 => walk_at "dpa"))
  | (walk_at "dg")
  | fail "dp")
local macro_rules | `(tactic| walk_at "dpa") => `(tactic| first
  | assumption
  | exact .nil
  | (refine' DpAll.cons ?a1 ?a2; (case a1 => walk_at "dp"); (case a2 => walk_at "dpa"))
  | fail "dpa")
local macro_rules | `(tactic| walk_at "dx") => `(tactic| first
  | assumption
  | exact .str _
  | exact .int _
  | exact .bl _
  | exact .non
  | (refine' Dx.lst (SqL.of ?a1) ?a2; (case a1 => walk_at "lk"); (case a2 => walk_at "dxa"))
  | (refine' Dx.tup (SqT.of ?a1) ?a2; (case a1 => walk_at "lk"); (case a2 => walk_at "dxa"))
  | (refine' Dx.dct (.inl ?a1) ?a2; (case a1 => walk_at "lk"); (case a2 => exact .nil))
  | (refine' dx_ext ?a1 ?a2; (case a1 => assumption); (case a2 => walk_at "fr"))
  | fail "dx")
local macro_rules | `(tactic| walk_at "dxa") => `(tactic| first
  | assumption
  | exact .nil
  | (refine' DxAll.cons ?a1 ?a2; (case a1 => walk_at "dx"); (case a2 => walk_at "dxa"))
  | fail "dxa")
local macro_rules | `(tactic| walk_at "ty") => `(tactic| first
  | assumption
  | (refine' ty_ext ?a1 ?a2; (case a1 => assumption); (case a2 => walk_at "fr"))
  | fail "ty")
local macro_rules | `(tactic| walk_at "shp") => `(tactic| first
  | assumption
  | (simp only [SeqAt.shaped, lay_l, lay_t, lay_i, lay_b, lay_n, lay_c, lay_e, PyData.depth, PyData.depthAll, Bool.and_true, Bool.true_and, Bool.and_eq_true, decide_eq_true_eq]
     repeat' (first | assumption | (refine And.intro ?_ ?_) | (exact rfl) | (decide +kernel) | omega))
  | decide +kernel)
local macro_rules | `(tactic| walk_at "side") => `(tactic| first
  | assumption
  | (intros; trivial)
  | omega
  | (walk_at "lk")
  | (walk_at "st")
  | (walk_at "sz")
  | (walk_at "tb")
  | (walk_at "fr"))
local macro_rules | `(tactic| walk_at "cl") => `(tactic| ((repeat' (apply Exists.intro)); refine And.intro rfl ?_; repeat (refine And.intro (by walk_at "side") ?_)))
local macro_rules | `(tactic| walk_at "eqd") => `(tactic| (refine ⟨_, _, by walk_at "dp", by walk_at "dp", by walk_at "shp", by walk_at "shp", ?_⟩; rw [eqv_same (by walk_at "shp")]))
local macro_rules | `(tactic| walk_at "new") => `(tactic| refine fun (p : Addr) (hp : (_ : Hp) p = none) => ?_)
local macro_rules | `(tactic| walk_at "rdn") => `(tactic| (repeat' (first | walk_at "rd" | walk_at "new")))

theorem ok_law (T : Tx P w K mg base) {cL PL : Addr} {f : Addr} {fd : FuncData} {Tb : List (Addr × Str)} (hm : (PL, ("law.<locals>.<lambda>" : Str)) ∈ Tb) (hu : ∀ p ∈ Tb, p.1 = PL → p.2 = ("law.<locals>.<lambda>" : Str)) (F : FunC K "law" s_law f fd cL) (TB : LamX.TabB base mg cL PL) (G__law_stream : FnOk P w K mg base CX0 2 T.d__law_stream.f T.d__law_stream.fd ["item", "k"] sp__law_stream) (G__law_phrase : FnOk P w K mg base CX0 4 T.d__law_phrase.f T.d__law_phrase.fd ["stream"] sp__law_phrase) (G__law_right : Mx.FnG P w K mg base CX0 9 T.d__law_right.f T.d__law_right.fd ["phrase"] (sp__law_right K Tb)) (G__law_pick : FnOk P w K mg base CX0 3 T.d__law_pick.f T.d__law_pick.fd ["stream", "some"] sp__law_pick) (G_names_in : Gx.GFn2 P w K mg base 4 T.d_names_in.f T.d_names_in.fd ["text"] (SN K T.a_InvalidText) Ut.new) :
    FnG P w K mg base CX0 12 f fd ["script"] (sp_law K Tb) := by
  have sc := sc_law
  obtain ⟨oc, od, kV, doc, pm, an, cdT, ct, osl, fdT, lkT, cdT'⟩ := T.d__law_told.F.ex
  have bT := T.d__law_told.b
  have cdT := cdT'
  rw [fdT] at lkT bT
  refine okGC F sc (fun vs H Q E h => ?_) (fun A outer s H vs Q E hr h => ?_)
  · obtain ⟨a, ns, rfl, hs, hn, tb, q⟩ := h
    rfl
  · obtain ⟨a, ns, rfl, hs, hn, tb, q⟩ := h
    refine ⟨_, (pss_cons (ps_for (passes_of rfl) rfl (pi_enum (by rfl) T.n_enumerate (pa_cons (pe_slice sl_list (pe_op op_catR (pv 0) (pe_lst (pa_cons pe_int pa_nil))) po_none (po_some pe_int)) pa_nil)) (pg_tup (by rfl) (pgs_cons (pg_name (i := 1) sc.nd rfl (Or.inl rfl)) (pgs_cons (pg_name (i := 2) sc.nd rfl (Or.inl rfl)) pgs_nil))) (pss_cons (ps_set (i := 3) sc.nd rfl (Or.inl rfl) (pe_call G__law_stream (hr.r.mono (by decide)) rfl T.d__law_stream.m T.d__law_stream.F.kp T.d__law_stream.b .nil pass0 (pa_cons (pv 2) (pa_cons (pv 1) pa_nil))))
      (pss_cons (ps_for (passes_of rfl) rfl (pi_range1 rfl T.n_range (pa_cons pe_int pa_nil)) (pg_name (i := 4) sc.nd rfl (Or.inl rfl)) (pss_one (ps_if (pt_not (pt_val (pg_call G__law_right (hr.mono (by decide)) rfl T.d__law_right.m T.d__law_right.F.kp T.d__law_right.b .nil pass0 (pa_cons (pe_call G__law_phrase (hr.r.mono (by decide)) rfl T.d__law_phrase.m T.d__law_phrase.F.kp T.d__law_phrase.b .nil pass0 (pa_cons (pv 3) pa_nil)) pa_nil)))) (pss_one (ps_ret pe_bl)) pss_nil)))
      (pss_cons (ps_set (i := 5) sc.nd rfl (Or.inr rfl) (pe_call G__law_pick (hr.r.mono (by decide)) rfl T.d__law_pick.m T.d__law_pick.F.kp T.d__law_pick.b .nil pass0 (pa_cons (pv 3) (pa_cons (pe_lst (pa_cons pe_non (pa_cons pe_bl (pa_cons pe_int (pa_cons pe_int (pa_cons (pe_tup (pa_cons pe_str pa_nil)) (pa_cons (pe_lst (pa_cons pe_str pa_nil)) (pa_cons pe_dnewK (pa_cons (pe_lst pa_nil) (pa_cons (pe_tup pa_nil) pa_nil)))))))))) pa_nil))))
      (pss_one (ps_if (pt_cmpR (op_neD hr.r.units) ((LamX.pe_lamcall (t := fun E => Gx.tListG2 (SN K T.a_InvalidText) K (Gx.tCall2 (SN K T.a_InvalidText) Ut.new (["text"] : List Str).length [] (tCons (tVar 5) tNil)) (fun cls d _ H => E cls d H)) (T := Tb) (k := 7) (c := cL) (P := PL) rfl T.d__law_told.m T.d__law_told.F.kp lkT cdT bT sc__law_told rfl (Or.inl rfl) (told_gives (X := _) T _ _ _) TB rfl hm hu (hr.r.mono (by decide)) (LamX.lamS_by (sc := defScope s_law) (by decide +kernel)) rfl (fun _ _ _ _ _ => rfl) (fun A outer s H E f c' hr2 => Gx.pe_listG2 (takes_of rfl rfl rfl rfl) (hr2.mono (by decide)) (Gx.pgen2_call (S := SN K T.a_InvalidText) (start := Ut.new) G_names_in (hr2.mono (by decide)) rfl T.d_names_in.m T.d_names_in.F.kp T.d_names_in.b .nil (pa_cons (pv 5) pa_nil)) (by rfl) T.n_list (by decide +kernel)))) (pe_tup (pa_cons pe_str (pa_cons pe_non pa_nil))) (nomark _)) (pss_one (ps_ret pe_bl)) pss_nil))))))
      (pss_one (ps_ret (pe_cmpR (op_eqD hr.r.units) (pe_lc (own := [("one", 6)]) (g := gName 6) rfl sc.nd (pi_list (pe_lst (pa_cons pe_str (pa_cons pe_str (pa_cons pe_str (pa_cons pe_str (pa_cons pe_str (pa_cons pe_str (pa_cons pe_str (pa_cons pe_str pa_nil)))))))))) (blkOk_by (own := [("one", 6)]) (N := ["script", "k", "item", "stream", "turn", "odd", "one"]) (sc := defScope s_law) (by decide +kernel)) (fun _ _ _ _ _ => pg_name (i := 6) sc.nd rfl (Or.inl rfl)) (fun _ _ _ _ _ => (pts_one (pt_not (pt_val (pg_call G__law_right (hr.mono (by decide)) rfl T.d__law_right.m T.d__law_right.F.kp T.d__law_right.b .nil pass0 (pa_cons (pv 6) pa_nil)))))) (fun _ _ _ _ _ => pv 6)) (pe_lst pa_nil) (nomark _))))), ?_⟩
    walk_at "rds"
    intro p1 hp1
    walk_at "rds"
    refine ⟨a, p1, _, _, rfl, rfl, lsx_ext hs (by walk_at "fr"), .of upd_same, by rw [List.length_map]; unfold sizeLine; show ns.length + 1 ≤ _; omega, fun p2 hp2 => ?_⟩
    walk_at "rds"
    refine ⟨p2, _, rfl, SqL.of upd_same, fun p3 hp3 => ?_⟩
    have hx : ∀ x ∈ cutV (ns.map V.int ++ [.int 0]) none (some 8), ∃ z, x = .int z := fun x h => ints_mem (cutV_mem h)
    have hl : (cutV (ns.map V.int ++ [.int 0]) none (some 8)).length ≤ 8 := cutV_front _ 8
    generalize cutV (ns.map V.int ++ [.int 0]) none (some 8) = xs at *
    have tb3 : LamX.Tabs Tb (upd (upd (upd H p1 (.lst [.int 0])) p2 (.lst (ns.map V.int ++ [.int 0]))) p3 (.lst xs)) := by walk_at "tb"
    have e3 : (upd (upd (upd H p1 (.lst [.int 0])) p2 (.lst (ns.map V.int ++ [.int 0]))) p3 (.lst xs)) p3 = some (.lst xs) := upd_same
    generalize (upd (upd (upd H p1 (.lst [.int 0])) p2 (.lst (ns.map V.int ++ [.int 0]))) p3 (.lst xs)) = H3 at *
    clear hp1 hp2 hp3
    walk_at "rds"
    refine ⟨p3, xs, rfl, SqL.of e3, ?_⟩
    refine for_it (walk_enum (xs := xs)) (fun i σ H' => Go Tb H3 H' ∧ ∃ v1 v2 v3 v4 v5, σ = [some (.ref a), v1, v2, v3, v4, v5, none]) ⟨Go.refl _ _, _, _, _, _, _, rfl⟩ (fun i σ H' _ hv => SqL.of (hv.1.lst e3)) ?_ ?_
    · rintro i x σ H4 H5 hi ⟨g4, v1, v2, v3, v4, v5, rfl⟩ ⟨t, y1, y2, rfl, ht, rfl, e4, e5⟩
      obtain rfl := Option.some.inj e4
      obtain ⟨z, rfl⟩ := hx _ (List.mem_of_getElem? e5)
      show gTup _ _ _ _ _ (upd H4 t (.tup [.int (i : Int), .int z])) _
      have tbB : LamX.Tabs Tb (upd H4 t (.tup [.int (i : Int), .int z])) := by walk_at "tb"
      have gB : Go Tb H3 (upd H4 t (.tup [.int (i : Int), .int z])) := by walk_at "fr"
      have f5 : upd H4 t (.tup [.int (i : Int), .int z]) t = some (.tup [.int (i : Int), .int z]) := upd_same
      generalize upd H4 t (.tup [.int (i : Int), .int z]) = HB at *
      clear tb3 g4 ht
      refine ⟨t, [.int (i : Int), .int z], rfl, SqT.of f5, rfl, ?_⟩
      refine ⟨_, _, rfl, ?_⟩
      refine ⟨_, _, rfl, ?_⟩
      walk_at "rds"
      refine ⟨z, i, rfl, by omega, by omega, fun st H6 hst s6 sa => ?_⟩
      walk_at "rds"
      refine for_range (fun j σ H' => Go Tb HB H' ∧ StAt st (100 * (j : Int)) H' ∧ ∃ v4 v5, σ = [some (.ref a), some (.int (i : Int)), some (.int z), some (.ref st), v4, v5, none]) ⟨Go.same s6, sa.mono (by decide), _, _, rfl⟩ ?_ ?_
      · rintro j σ H7 hj ⟨g7, sa7, v4, v5, rfl⟩
        have hj3 : j < 3 := hj
        have tb7 : LamX.Tabs Tb H7 := by walk_at "tb"
        walk_at "rds"
        refine ⟨st, _, rfl, sa7, by omega, fun w H8 hw hw8 kp8 sa8 => ?_⟩
        have g8 : Go Tb HB H8 := by walk_at "fr"
        have tb8 : LamX.Tabs Tb H8 := by walk_at "tb"
        have wl : (tl w).length ≤ 1000 := by
          have : (tl w).length = w.cps.size := by show w.cps.toList.length = _; simp
          omega
        walk_at "rds"
        intro H9 g9
        walk_at "rds"
        have sa9 := st_go g9 sa8
        exact ⟨by walk_at "fr", StAt.mono sa9 (by omega), _, _, rfl⟩
      · rintro σ H7 ⟨g7, sa7, v4, v5, rfl⟩
        have sa7' : StAt st 300 H7 := sa7
        clear sa7
        walk_at "rds"
        intro pa hpa
        walk_at "rds"
        intro pb hpb
        walk_at "rds"
        intro pc hpc
        walk_at "rds"
        intro pd hpd
        walk_at "rds"
        intro pe hpe
        walk_at "rds"
        intro L hL
        walk_at "rds"
        have npb : pb ≠ st := ne_st hpb (by walk_at "st")
        have npd : pd ≠ st := ne_st hpd (by walk_at "st")
        have nL : L ≠ st := ne_st hL (by walk_at "st")
        obtain ⟨HL, eHL⟩ : ∃ HL, HL = upd (upd (upd (upd (upd (upd H7 pa (.tup [.str "a"])) pb (.lst [.str "a"])) pc (.dK [])) pd (.lst [])) pe (.tup [])) L (.lst [.non, .bl true, .int 0, .int 7, .ref pa, .ref pb, .ref pc, .ref pd, .ref pe]) := ⟨_, rfl⟩
        have fa : HL pa = some (.tup [.str "a"]) := by rw [eHL]; walk_at "lk"
        have fb : HL pb = some (.lst [.str "a"]) := by rw [eHL]; walk_at "lk"
        have fc : HL pc = some (.dK []) := by rw [eHL]; walk_at "lk"
        have fd' : HL pd = some (.lst []) := by rw [eHL]; walk_at "lk"
        have fe : HL pe = some (.tup []) := by rw [eHL]; walk_at "lk"
        have fL : HL L = some (.lst [.non, .bl true, .int 0, .int 7, .ref pa, .ref pb, .ref pc, .ref pd, .ref pe]) := by rw [eHL]; exact upd_same
        have gL : Go Tb HB HL := by rw [eHL]; walk_at "fr"
        have saL : StAt st 300 HL := by rw [eHL]; walk_at "st"
        have tbL : LamX.Tabs Tb HL := by rw [eHL]; walk_at "tb"
        rw [← eHL]
        clear eHL
        refine ⟨st, _, .ref L, rfl, saL, by omega, .inl ⟨L, _, rfl, nL, fL, Nat.succ_pos _, (by show 9 < 1000000; decide), fun jo y H12 hj kp12 sa12 => ?_⟩⟩
        have odd : NoStr K H12 y := by
          have hm := List.mem_of_getElem? hj
          simp only [List.mem_cons, List.not_mem_nil, or_false] at hm
          rcases hm with rfl | rfl | rfl | rfl | rfl | rfl | rfl | rfl | rfl
          · exact ⟨"NoneType", .base .non, by decide +kernel⟩
          · exact ⟨"bool", .base (.bl _), by decide +kernel⟩
          · exact ⟨"int", .base (.int _), by decide +kernel⟩
          · exact ⟨"int", .base (.int _), by decide +kernel⟩
          · exact ⟨"tuple", .base (.tup (by walk_at "lk")), by decide +kernel⟩
          · exact ⟨"list", .base (.lst (by walk_at "lk")), by decide +kernel⟩
          · exact ⟨"dict", .base (.dK (by walk_at "lk")), by decide +kernel⟩
          · exact ⟨"list", .base (.lst (by walk_at "lk")), by decide +kernel⟩
          · exact ⟨"tuple", .base (.tup (by walk_at "lk")), by decide +kernel⟩
        have tb12 : LamX.Tabs Tb H12 := by walk_at "tb"
        have g12 : Go Tb HB H12 := by walk_at "fr"
        clear fa fb fc fd' fe fL gL saL hj kp12 nL npb npd tbL
        refine lam_in (by walk_at "tb") (fun H13 g13 => ?_)
        intro p0 hp0
        walk_at "rds"
        refine list_odd (nostr_ext odd (by walk_at "fr")) T.si_InvalidText (fun H14 d1 s14 hd1 => ?_)
        refine told_text T upd_same (fun ax px hax hpx => ?_)
        walk_at "rds"
        intro pn hpn
        walk_at "eqd"
        refine ⟨_, rfl, itF rfl ?_⟩
        walk_at "rds"
        exact ⟨go_go (H := HB) (by walk_at "fr") gB, _, _, _, _, _, rfl⟩
    · rintro σ H4 ⟨g4, v1, v2, v3, v4, v5, rfl⟩
      have tb4 : LamX.Tabs Tb H4 := by walk_at "tb"
      walk_at "rds"
      intro pl hpl
      refine ⟨pl, rfl, ⟨_, SqL.of upd_same⟩, ?_⟩
      have fl : upd H4 pl (.lst (oddT.map V.str)) pl = some (.lst (oddT.map V.str)) := upd_same
      have tb5 : LamX.Tabs Tb (upd H4 pl (.lst (oddT.map V.str))) := by walk_at "tb"
      intro D hD
      refine lc_fltG (Tb := Tb) (walk_list (xs := oddT.map V.str)) (fun _ => false) (fun i => .str (oddT.getD i "")) hD (by decide) (fun H1 sm => SqL.of (sm.lst fl)) (fun i H1 x H2 y => y.1 ▸ Same.refl _) ?_ ?_
      · rintro i x H6 H7 Nx Mo hi sm ⟨rfl, hx⟩ k1 k2
        obtain ⟨w, hw, rfl⟩ := List.mem_map.mp (List.mem_of_getElem? hx)
        obtain ⟨w1, w2⟩ := oddT_ok w hw
        have tb6 : LamX.Tabs Tb H7 := sm.2 tb5
        refine ⟨rfl, ?_⟩
        walk_at "rds"
        intro H8 g8
        walk_at "rds"
        exact k2 rfl _ g8
      · intro H6 sm6 hl6
        rw [picked_none] at hl6
        walk_at "rds"
        intro pe hpe
        refine ⟨.list [], .list [], .lst (SqL.of (lk_new hpe hl6)) .nil, .lst (SqL.of upd_same) .nil, rfl, rfl, ?_⟩
        exact q _

end
end K3

set_option maxHeartbeats 1000000
namespace K3
open PySem PySem.Spec PyProof.Rows L2 Mx
local macro_rules | `(tactic| walk_at "sz") => `(tactic| first | assumption | decide | omega | (unfold sizeLine; omega) | exact Nat.le_of_ble_eq_true rfl)
local macro_rules | `(tactic| walk_at "hp") => `(tactic| (first | assumption | exact upd_same | (rw [upd_ne (by assumption)]; assumption)))
local macro_rules | `(tactic| walk_at "rd") => `(tactic| (first
  | refine ⟨_, rfl, ?_⟩
  | (refine ⟨_, _, rfl, rfl, ?rdc, ?_⟩; (case rdc => first | (show (0 : Int) < _; omega) | (exact ⟨by omega, by omega⟩) | (exact .inl ⟨by omega, by omega⟩) | (exact .inr ⟨by omega, by omega⟩) | exact ⟨by decide, by decide, by decide⟩))
  | refine ⟨_, _, rfl, rfl, ?_⟩
  | refine .inl ⟨_, rfl, ?_⟩
  | refine ⟨rfl, ?_⟩
  | refine ⟨⟨_, rfl⟩, ?_⟩
  | refine ⟨⟨_, SqL.of (by walk_at "hp")⟩, ?_⟩
  | refine ⟨_, _, _, _, rfl, rfl, SqL.of (by walk_at "hp"), (by rfl), ?_⟩
  | refine ⟨_, _, _, _, rfl, rfl, (by walk_at "hp"), (by rfl), ?_⟩
  | refine ⟨_, _, rfl, ⟨by walk_at "sz", rfl⟩, ?_⟩
  | refine ⟨_, _, _, rfl, rfl, by walk_at "sz", by assumption, ?_⟩
  | refine And.intro (by walk_at "sz") ?_
  | refine itT rfl ?_
  | refine itF rfl ?_
  | refine itT (by assumption) ?_
  | refine itF (by assumption) ?_
  | refine itT (decide_eq_true (by omega)) ?_
  | refine itF (decide_eq_false (by omega)) ?_
  | refine itT (dVi (by omega)) ?_
  | refine itF (dViN (by omega)) ?_
  | refine itT (notT (by assumption)) ?_
  | refine itF (notF (by assumption)) ?_
  | refine itT (notT (dViN (by omega))) ?_
  | refine itF (notF (dVi (by omega))) ?_
  | refine itT (decide_eq_true rfl) ?_
  | refine itF (notF (decide_eq_true rfl)) ?_
  | refine ite2 (fun _ => ?_) (fun _ => ?_)
  | with_reducible refine tC_ ?_
  | with_reducible refine tNext_ ?_
  | with_reducible refine tNil_ ?_
  | with_reducible refine tYes_ ?_))
local macro_rules | `(tactic| walk_at "rds") => `(tactic| repeat' (walk_at "rd"))
/-! ### the end -/
section
variable {P : Program} {w : World} {K : PySem.W.Frag} {mg : Str → Option Value} {base : Heap}
theorem ok_IllFormed___init__ {CM C fI : Addr} {fd : FuncData} (B : BaseT K mg "MarkupError" CM) (F : Fun K "__init__" "IllFormed.__init__" s_IllFormed___init__ fI fd) (fn : PySem.W.findIn K (.ref C) "position" = some none) : FnOk P w K mg base CX0 1 fI fd ["self", "position"] (spXI K C "position") := by
  have sc := sc_IllFormed___init__
  refine F.ok sc (fun vs H Q E h => ?_) (fun cdv A outer s H vs Q E hr h => ?_)
  · obtain ⟨a, y, rfl, _⟩ := h
    rfl
  · obtain ⟨a, y, rfl, ox, ha, q⟩ := h
    refine ⟨_, pss_cons (ps_expr (pe_minit B rfl (pa_cons (pv 0) (pa_cons pe_str pa_nil)))) (pss_one (ps_ost (pv 0) (pv 1))), ?_⟩
    walk_at "rds"
    refine ⟨a, C, _, rfl, (by show 1 ≤ 1000; decide), ox, ha, ?_⟩
    walk_at "rds"
    exact ⟨a, C, rfl, ox, fn, .inl ⟨ha, fun dx h1 h2 => q dx h1 h2⟩⟩

theorem ok_InvalidText___init__ {CM C fI : Addr} {fd : FuncData} (B : BaseT K mg "MarkupError" CM) (F : Fun K "__init__" "InvalidText.__init__" s_InvalidText___init__ fI fd) (fn : PySem.W.findIn K (.ref C) "index" = some none) : FnOk P w K mg base CX0 1 fI fd ["self", "index"] (spXI K C "index") := by
  have sc := sc_InvalidText___init__
  refine F.ok sc (fun vs H Q E h => ?_) (fun cdv A outer s H vs Q E hr h => ?_)
  · obtain ⟨a, y, rfl, _⟩ := h
    rfl
  · obtain ⟨a, y, rfl, ox, ha, q⟩ := h
    refine ⟨_, pss_cons (ps_expr (pe_minit B rfl (pa_cons (pv 0) (pa_cons pe_str pa_nil)))) (pss_one (ps_ost (pv 0) (pv 1))), ?_⟩
    walk_at "rds"
    refine ⟨a, C, _, rfl, (by show 1 ≤ 1000; decide), ox, ha, ?_⟩
    walk_at "rds"
    exact ⟨a, C, rfl, ox, fn, .inl ⟨ha, fun dx h1 h2 => q dx h1 h2⟩⟩

theorem ok_InvalidNumber___init__ {CM C fI : Addr} {fd : FuncData} (B : BaseT K mg "MarkupError" CM) (F : Fun K "__init__" "InvalidNumber.__init__" s_InvalidNumber___init__ fI fd) (fn : PySem.W.findIn K (.ref C) "number" = some none) : FnOk P w K mg base CX0 1 fI fd ["self", "number"] (spXI K C "number") := by
  have sc := sc_InvalidNumber___init__
  refine F.ok sc (fun vs H Q E h => ?_) (fun cdv A outer s H vs Q E hr h => ?_)
  · obtain ⟨a, y, rfl, _⟩ := h
    rfl
  · obtain ⟨a, y, rfl, ox, ha, q⟩ := h
    refine ⟨_, pss_cons (ps_expr (pe_minit B rfl (pa_cons (pv 0) (pa_cons pe_str pa_nil)))) (pss_one (ps_ost (pv 0) (pv 1))), ?_⟩
    walk_at "rds"
    refine ⟨a, C, _, rfl, (by show 1 ≤ 1000; decide), ox, ha, ?_⟩
    walk_at "rds"
    exact ⟨a, C, rfl, ox, fn, .inl ⟨ha, fun dx h1 h2 => q dx h1 h2⟩⟩

end
theorem all_mk {l : PySem.W.OpenLaw} {w : World} {K : PySem.W.Frag} {h : Heap} {mg : Str → Option Value} {fa : Addr} (X : K.In h) (G : h.Ns mainGlobals mg) (hfa : mg "law" = some (.ref fa))
    {f_Cursor___init__ : Addr} {od_Cursor___init__ an_Cursor___init__ : Option Addr} {sl_Cursor___init__ : Array (Option Value)} {oc_Cursor___init__ kV_Cursor___init__ dc_Cursor___init__ pm_Cursor___init__ ct_Cursor___init__ : Value}
    {cda cc : Addr} {ccl : Value} {cdd : Option Addr} {cvs : Array Value} {ccs : Array (Option Value)} {cfile : Str} {ctf : Tok} {cl : Value} {cld : Option Addr} {csl : Array (Option Value)}
    {f_Lines___init__ : Addr} {od_Lines___init__ an_Lines___init__ : Option Addr} {sl_Lines___init__ : Array (Option Value)} {oc_Lines___init__ kV_Lines___init__ dc_Lines___init__ pm_Lines___init__ cd_Lines___init__ ct_Lines___init__ : Value}
    {f_Cursor_offset : Addr} {od_Cursor_offset an_Cursor_offset : Option Addr} {sl_Cursor_offset : Array (Option Value)} {oc_Cursor_offset kV_Cursor_offset dc_Cursor_offset pm_Cursor_offset cd_Cursor_offset ct_Cursor_offset : Value}
    {p_Cursor_offset : Addr} {rest_Cursor_offset : List Value}
    {f_Cursor_go_to : Addr} {od_Cursor_go_to an_Cursor_go_to : Option Addr} {sl_Cursor_go_to : Array (Option Value)} {oc_Cursor_go_to kV_Cursor_go_to dc_Cursor_go_to pm_Cursor_go_to cd_Cursor_go_to ct_Cursor_go_to : Value}
    {f_Cursor_passed_to : Addr} {od_Cursor_passed_to an_Cursor_passed_to : Option Addr} {sl_Cursor_passed_to : Array (Option Value)} {oc_Cursor_passed_to kV_Cursor_passed_to dc_Cursor_passed_to pm_Cursor_passed_to cd_Cursor_passed_to ct_Cursor_passed_to : Value}
    {f_Cursor_take_name : Addr} {od_Cursor_take_name an_Cursor_take_name : Option Addr} {sl_Cursor_take_name : Array (Option Value)} {oc_Cursor_take_name kV_Cursor_take_name dc_Cursor_take_name pm_Cursor_take_name cd_Cursor_take_name ct_Cursor_take_name : Value}
    {f_check_text : Addr} {od_check_text an_check_text : Option Addr} {sl_check_text : Array (Option Value)} {oc_check_text kV_check_text dc_check_text pm_check_text cd_check_text ct_check_text : Value}
    {f_part_end : Addr} {od_part_end an_part_end : Option Addr} {sl_part_end : Array (Option Value)} {oc_part_end kV_part_end dc_part_end pm_part_end cd_part_end ct_part_end : Value}
    {f_name_end : Addr} {od_name_end an_name_end : Option Addr} {sl_name_end : Array (Option Value)} {oc_name_end kV_name_end dc_name_end pm_name_end cd_name_end ct_name_end : Value}
    {f_names_in : Addr} {od_names_in an_names_in : Option Addr} {sl_names_in : Array (Option Value)} {oc_names_in kV_names_in dc_names_in pm_names_in cd_names_in ct_names_in : Value}
    {f_is_between : Addr} {od_is_between an_is_between : Option Addr} {sl_is_between : Array (Option Value)} {oc_is_between kV_is_between dc_is_between pm_is_between dV_is_between cd_is_between ct_is_between : Value}
    {f_check_number : Addr} {od_check_number an_check_number : Option Addr} {sl_check_number : Array (Option Value)} {oc_check_number kV_check_number dc_check_number pm_check_number dV_check_number cd_check_number ct_check_number : Value}
    {f__law_mixed : Addr} {od__law_mixed an__law_mixed : Option Addr} {sl__law_mixed : Array (Option Value)} {oc__law_mixed kV__law_mixed dc__law_mixed pm__law_mixed cd__law_mixed ct__law_mixed : Value}
    {f__law_stream : Addr} {od__law_stream an__law_stream : Option Addr} {sl__law_stream : Array (Option Value)} {oc__law_stream kV__law_stream dc__law_stream pm__law_stream cd__law_stream ct__law_stream : Value}
    {f__law_draw : Addr} {od__law_draw an__law_draw : Option Addr} {sl__law_draw : Array (Option Value)} {oc__law_draw kV__law_draw dc__law_draw pm__law_draw cd__law_draw ct__law_draw : Value}
    {f__law_signs : Addr} {od__law_signs an__law_signs : Option Addr} {sl__law_signs : Array (Option Value)} {oc__law_signs kV__law_signs dc__law_signs pm__law_signs cd__law_signs ct__law_signs : Value}
    {f__law_pick : Addr} {od__law_pick an__law_pick : Option Addr} {sl__law_pick : Array (Option Value)} {oc__law_pick kV__law_pick dc__law_pick pm__law_pick cd__law_pick ct__law_pick : Value}
    {f__law_is_part : Addr} {od__law_is_part an__law_is_part : Option Addr} {sl__law_is_part : Array (Option Value)} {oc__law_is_part kV__law_is_part dc__law_is_part pm__law_is_part cd__law_is_part ct__law_is_part : Value}
    {f__law_is_name : Addr} {od__law_is_name an__law_is_name : Option Addr} {sl__law_is_name : Array (Option Value)} {oc__law_is_name kV__law_is_name dc__law_is_name pm__law_is_name cd__law_is_name ct__law_is_name : Value}
    {f__law_told : Addr} {od__law_told an__law_told : Option Addr} {sl__law_told : Array (Option Value)} {oc__law_told kV__law_told dc__law_told pm__law_told cd__law_told ct__law_told : Value}
    {f__law_phrase : Addr} {od__law_phrase an__law_phrase : Option Addr} {sl__law_phrase : Array (Option Value)} {oc__law_phrase kV__law_phrase dc__law_phrase pm__law_phrase cd__law_phrase ct__law_phrase : Value}
    {f__law_end : Addr} {od__law_end an__law_end : Option Addr} {sl__law_end : Array (Option Value)} {oc__law_end kV__law_end dc__law_end pm__law_end cd__law_end ct__law_end : Value}
    {f__law_names : Addr} {od__law_names an__law_names : Option Addr} {sl__law_names : Array (Option Value)} {oc__law_names kV__law_names dc__law_names pm__law_names cd__law_names ct__law_names : Value}
    {f__law_first : Addr} {od__law_first an__law_first : Option Addr} {sl__law_first : Array (Option Value)} {oc__law_first kV__law_first dc__law_first pm__law_first cd__law_first ct__law_first : Value}
    {f__law_right : Addr} {od__law_right an__law_right : Option Addr} {sl__law_right : Array (Option Value)} {oc__law_right kV__law_right dc__law_right pm__law_right ct__law_right : Value}
    {cL__law_right P__law_right : Addr}
    {f_law : Addr} {od_law an_law : Option Addr} {sl_law : Array (Option Value)} {oc_law kV_law dc_law pm_law ct_law : Value}
    {cL_law P_law : Addr}
    {t_LETTERS : Tok}
    {t_INNER : Tok}
    {C_IllFormed : Addr}
    {C_InvalidText : Addr}
    {C_InvalidNumber : Addr}
    {C_MarkupError : Addr}
    {C_MarkupStateError : Addr}
    {C_LimitError : Addr}
    {C_InvalidKind : Addr}
    {C_Cursor : Addr}
    {nmE_IllFormed : _} {qnE_IllFormed : _} {NSE_IllFormed : _} {bsE_IllFormed : _} {snE_IllFormed : _} {subE_IllFormed : _} {abE_IllFormed : _} {colE_IllFormed : _} {ddE_IllFormed : _} {k0E_IllFormed : _} {k1E_IllFormed : _} {k2E_IllFormed : _} {k3E_IllFormed : _} {k5E_IllFormed : _}
    {I_IllFormed : Addr} {odI_IllFormed anI_IllFormed : Option Addr} {slI_IllFormed : Array (Option Value)} {ocI_IllFormed kVI_IllFormed dcI_IllFormed pmI_IllFormed cdI_IllFormed ctI_IllFormed : Value}
    {nmE_InvalidText : _} {qnE_InvalidText : _} {NSE_InvalidText : _} {bsE_InvalidText : _} {snE_InvalidText : _} {subE_InvalidText : _} {abE_InvalidText : _} {colE_InvalidText : _} {ddE_InvalidText : _} {k0E_InvalidText : _} {k1E_InvalidText : _} {k2E_InvalidText : _} {k3E_InvalidText : _} {k5E_InvalidText : _}
    {I_InvalidText : Addr} {odI_InvalidText anI_InvalidText : Option Addr} {slI_InvalidText : Array (Option Value)} {ocI_InvalidText kVI_InvalidText dcI_InvalidText pmI_InvalidText cdI_InvalidText ctI_InvalidText : Value}
    {nmE_InvalidNumber : _} {qnE_InvalidNumber : _} {NSE_InvalidNumber : _} {bsE_InvalidNumber : _} {snE_InvalidNumber : _} {subE_InvalidNumber : _} {abE_InvalidNumber : _} {colE_InvalidNumber : _} {ddE_InvalidNumber : _} {k0E_InvalidNumber : _} {k1E_InvalidNumber : _} {k2E_InvalidNumber : _} {k3E_InvalidNumber : _} {k5E_InvalidNumber : _}
    {I_InvalidNumber : Addr} {odI_InvalidNumber anI_InvalidNumber : Option Addr} {slI_InvalidNumber : Array (Option Value)} {ocI_InvalidNumber kVI_InvalidNumber dcI_InvalidNumber pmI_InvalidNumber cdI_InvalidNumber ctI_InvalidNumber : Value}
    (tb__law_right : PySem.W.CodeHd h cL__law_right P__law_right)
    (tg__law_right : h.get? P__law_right = some { cls := .none, data := .fields #[] })
    (np__law_right : K.lookup P__law_right = none)
    (hu__law_right : ∀ p ∈ ([(P__law_right, "_law_right.<locals>.<lambda>"), (P_law, "law.<locals>.<lambda>")] : List (Addr × Str)), p.1 = P__law_right → p.2 = ("_law_right.<locals>.<lambda>" : Str))
    (tb_law : PySem.W.CodeHd h cL_law P_law)
    (tg_law : h.get? P_law = some { cls := .none, data := .fields #[] })
    (np_law : K.lookup P_law = none)
    (hu_law : ∀ p ∈ ([(P__law_right, "_law_right.<locals>.<lambda>"), (P_law, "law.<locals>.<lambda>")] : List (Addr × Str)), p.1 = P_law → p.2 = ("law.<locals>.<lambda>" : Str))
    (a_check_text : PySem.W.nsIn K mainGlobals "check_text" = some (some (.ref f_check_text)))
    (l_check_text : K.lookup f_check_text = some ⟨oc_check_text, od_check_text, .func (PySem.W.fnOf "check_text" "check_text" (defArgs s_check_text) (defBody s_check_text) (defScope s_check_text) .none kV_check_text dc_check_text pm_check_text an_check_text cd_check_text ct_check_text), sl_check_text⟩)
    (c_check_text : PySem.W.codeIn K cd_check_text "check_text" = true)
    (k_check_text : PySem.W.keepIn K (.ref f_check_text) = true)
    (a_part_end : PySem.W.nsIn K mainGlobals "part_end" = some (some (.ref f_part_end)))
    (l_part_end : K.lookup f_part_end = some ⟨oc_part_end, od_part_end, .func (PySem.W.fnOf "part_end" "part_end" (defArgs s_part_end) (defBody s_part_end) (defScope s_part_end) .none kV_part_end dc_part_end pm_part_end an_part_end cd_part_end ct_part_end), sl_part_end⟩)
    (c_part_end : PySem.W.codeIn K cd_part_end "part_end" = true)
    (k_part_end : PySem.W.keepIn K (.ref f_part_end) = true)
    (a_name_end : PySem.W.nsIn K mainGlobals "name_end" = some (some (.ref f_name_end)))
    (l_name_end : K.lookup f_name_end = some ⟨oc_name_end, od_name_end, .func (PySem.W.fnOf "name_end" "name_end" (defArgs s_name_end) (defBody s_name_end) (defScope s_name_end) .none kV_name_end dc_name_end pm_name_end an_name_end cd_name_end ct_name_end), sl_name_end⟩)
    (c_name_end : PySem.W.codeIn K cd_name_end "name_end" = true)
    (k_name_end : PySem.W.keepIn K (.ref f_name_end) = true)
    (a_names_in : PySem.W.nsIn K mainGlobals "names_in" = some (some (.ref f_names_in)))
    (l_names_in : K.lookup f_names_in = some ⟨oc_names_in, od_names_in, .func (PySem.W.fnOf "names_in" "names_in" (defArgs s_names_in) (defBody s_names_in) (defScope s_names_in) .none kV_names_in dc_names_in pm_names_in an_names_in cd_names_in ct_names_in), sl_names_in⟩)
    (c_names_in : PySem.W.codeIn K cd_names_in "names_in" = true)
    (k_names_in : PySem.W.keepIn K (.ref f_names_in) = true)
    (a_is_between : PySem.W.nsIn K mainGlobals "is_between" = some (some (.ref f_is_between)))
    (l_is_between : K.lookup f_is_between = some ⟨oc_is_between, od_is_between, .func (PySem.W.fnOf "is_between" "is_between" (defArgs s_is_between) (defBody s_is_between) (defScope s_is_between) dV_is_between kV_is_between dc_is_between pm_is_between an_is_between cd_is_between ct_is_between), sl_is_between⟩)
    (q1_dfl_is_between : He.dflB K dV_is_between [.non] = true)
    (c_is_between : PySem.W.codeIn K cd_is_between "is_between" = true)
    (k_is_between : PySem.W.keepIn K (.ref f_is_between) = true)
    (a_check_number : PySem.W.nsIn K mainGlobals "check_number" = some (some (.ref f_check_number)))
    (l_check_number : K.lookup f_check_number = some ⟨oc_check_number, od_check_number, .func (PySem.W.fnOf "check_number" "check_number" (defArgs s_check_number) (defBody s_check_number) (defScope s_check_number) dV_check_number kV_check_number dc_check_number pm_check_number an_check_number cd_check_number ct_check_number), sl_check_number⟩)
    (q1_dfl_check_number : He.dflB K dV_check_number [.non] = true)
    (c_check_number : PySem.W.codeIn K cd_check_number "check_number" = true)
    (k_check_number : PySem.W.keepIn K (.ref f_check_number) = true)
    (a__law_mixed : PySem.W.nsIn K mainGlobals "_law_mixed" = some (some (.ref f__law_mixed)))
    (l__law_mixed : K.lookup f__law_mixed = some ⟨oc__law_mixed, od__law_mixed, .func (PySem.W.fnOf "_law_mixed" "_law_mixed" (defArgs s__law_mixed) (defBody s__law_mixed) (defScope s__law_mixed) .none kV__law_mixed dc__law_mixed pm__law_mixed an__law_mixed cd__law_mixed ct__law_mixed), sl__law_mixed⟩)
    (c__law_mixed : PySem.W.codeIn K cd__law_mixed "_law_mixed" = true)
    (k__law_mixed : PySem.W.keepIn K (.ref f__law_mixed) = true)
    (a__law_stream : PySem.W.nsIn K mainGlobals "_law_stream" = some (some (.ref f__law_stream)))
    (l__law_stream : K.lookup f__law_stream = some ⟨oc__law_stream, od__law_stream, .func (PySem.W.fnOf "_law_stream" "_law_stream" (defArgs s__law_stream) (defBody s__law_stream) (defScope s__law_stream) .none kV__law_stream dc__law_stream pm__law_stream an__law_stream cd__law_stream ct__law_stream), sl__law_stream⟩)
    (c__law_stream : PySem.W.codeIn K cd__law_stream "_law_stream" = true)
    (k__law_stream : PySem.W.keepIn K (.ref f__law_stream) = true)
    (a__law_draw : PySem.W.nsIn K mainGlobals "_law_draw" = some (some (.ref f__law_draw)))
    (l__law_draw : K.lookup f__law_draw = some ⟨oc__law_draw, od__law_draw, .func (PySem.W.fnOf "_law_draw" "_law_draw" (defArgs s__law_draw) (defBody s__law_draw) (defScope s__law_draw) .none kV__law_draw dc__law_draw pm__law_draw an__law_draw cd__law_draw ct__law_draw), sl__law_draw⟩)
    (c__law_draw : PySem.W.codeIn K cd__law_draw "_law_draw" = true)
    (k__law_draw : PySem.W.keepIn K (.ref f__law_draw) = true)
    (a__law_signs : PySem.W.nsIn K mainGlobals "_law_signs" = some (some (.ref f__law_signs)))
    (l__law_signs : K.lookup f__law_signs = some ⟨oc__law_signs, od__law_signs, .func (PySem.W.fnOf "_law_signs" "_law_signs" (defArgs s__law_signs) (defBody s__law_signs) (defScope s__law_signs) .none kV__law_signs dc__law_signs pm__law_signs an__law_signs cd__law_signs ct__law_signs), sl__law_signs⟩)
    (c__law_signs : PySem.W.codeIn K cd__law_signs "_law_signs" = true)
    (k__law_signs : PySem.W.keepIn K (.ref f__law_signs) = true)
    (a__law_pick : PySem.W.nsIn K mainGlobals "_law_pick" = some (some (.ref f__law_pick)))
    (l__law_pick : K.lookup f__law_pick = some ⟨oc__law_pick, od__law_pick, .func (PySem.W.fnOf "_law_pick" "_law_pick" (defArgs s__law_pick) (defBody s__law_pick) (defScope s__law_pick) .none kV__law_pick dc__law_pick pm__law_pick an__law_pick cd__law_pick ct__law_pick), sl__law_pick⟩)
    (c__law_pick : PySem.W.codeIn K cd__law_pick "_law_pick" = true)
    (k__law_pick : PySem.W.keepIn K (.ref f__law_pick) = true)
    (a__law_is_part : PySem.W.nsIn K mainGlobals "_law_is_part" = some (some (.ref f__law_is_part)))
    (l__law_is_part : K.lookup f__law_is_part = some ⟨oc__law_is_part, od__law_is_part, .func (PySem.W.fnOf "_law_is_part" "_law_is_part" (defArgs s__law_is_part) (defBody s__law_is_part) (defScope s__law_is_part) .none kV__law_is_part dc__law_is_part pm__law_is_part an__law_is_part cd__law_is_part ct__law_is_part), sl__law_is_part⟩)
    (c__law_is_part : PySem.W.codeIn K cd__law_is_part "_law_is_part" = true)
    (k__law_is_part : PySem.W.keepIn K (.ref f__law_is_part) = true)
    (a__law_is_name : PySem.W.nsIn K mainGlobals "_law_is_name" = some (some (.ref f__law_is_name)))
    (l__law_is_name : K.lookup f__law_is_name = some ⟨oc__law_is_name, od__law_is_name, .func (PySem.W.fnOf "_law_is_name" "_law_is_name" (defArgs s__law_is_name) (defBody s__law_is_name) (defScope s__law_is_name) .none kV__law_is_name dc__law_is_name pm__law_is_name an__law_is_name cd__law_is_name ct__law_is_name), sl__law_is_name⟩)
    (c__law_is_name : PySem.W.codeIn K cd__law_is_name "_law_is_name" = true)
    (k__law_is_name : PySem.W.keepIn K (.ref f__law_is_name) = true)
    (a__law_told : PySem.W.nsIn K mainGlobals "_law_told" = some (some (.ref f__law_told)))
    (l__law_told : K.lookup f__law_told = some ⟨oc__law_told, od__law_told, .func (PySem.W.fnOf "_law_told" "_law_told" (defArgs s__law_told) (defBody s__law_told) (defScope s__law_told) .none kV__law_told dc__law_told pm__law_told an__law_told cd__law_told ct__law_told), sl__law_told⟩)
    (c__law_told : PySem.W.codeIn K cd__law_told "_law_told" = true)
    (k__law_told : PySem.W.keepIn K (.ref f__law_told) = true)
    (a__law_phrase : PySem.W.nsIn K mainGlobals "_law_phrase" = some (some (.ref f__law_phrase)))
    (l__law_phrase : K.lookup f__law_phrase = some ⟨oc__law_phrase, od__law_phrase, .func (PySem.W.fnOf "_law_phrase" "_law_phrase" (defArgs s__law_phrase) (defBody s__law_phrase) (defScope s__law_phrase) .none kV__law_phrase dc__law_phrase pm__law_phrase an__law_phrase cd__law_phrase ct__law_phrase), sl__law_phrase⟩)
    (c__law_phrase : PySem.W.codeIn K cd__law_phrase "_law_phrase" = true)
    (k__law_phrase : PySem.W.keepIn K (.ref f__law_phrase) = true)
    (a__law_end : PySem.W.nsIn K mainGlobals "_law_end" = some (some (.ref f__law_end)))
    (l__law_end : K.lookup f__law_end = some ⟨oc__law_end, od__law_end, .func (PySem.W.fnOf "_law_end" "_law_end" (defArgs s__law_end) (defBody s__law_end) (defScope s__law_end) .none kV__law_end dc__law_end pm__law_end an__law_end cd__law_end ct__law_end), sl__law_end⟩)
    (c__law_end : PySem.W.codeIn K cd__law_end "_law_end" = true)
    (k__law_end : PySem.W.keepIn K (.ref f__law_end) = true)
    (a__law_names : PySem.W.nsIn K mainGlobals "_law_names" = some (some (.ref f__law_names)))
    (l__law_names : K.lookup f__law_names = some ⟨oc__law_names, od__law_names, .func (PySem.W.fnOf "_law_names" "_law_names" (defArgs s__law_names) (defBody s__law_names) (defScope s__law_names) .none kV__law_names dc__law_names pm__law_names an__law_names cd__law_names ct__law_names), sl__law_names⟩)
    (c__law_names : PySem.W.codeIn K cd__law_names "_law_names" = true)
    (k__law_names : PySem.W.keepIn K (.ref f__law_names) = true)
    (a__law_first : PySem.W.nsIn K mainGlobals "_law_first" = some (some (.ref f__law_first)))
    (l__law_first : K.lookup f__law_first = some ⟨oc__law_first, od__law_first, .func (PySem.W.fnOf "_law_first" "_law_first" (defArgs s__law_first) (defBody s__law_first) (defScope s__law_first) .none kV__law_first dc__law_first pm__law_first an__law_first cd__law_first ct__law_first), sl__law_first⟩)
    (c__law_first : PySem.W.codeIn K cd__law_first "_law_first" = true)
    (k__law_first : PySem.W.keepIn K (.ref f__law_first) = true)
    (a__law_right : PySem.W.nsIn K mainGlobals "_law_right" = some (some (.ref f__law_right)))
    (l__law_right : K.lookup f__law_right = some ⟨oc__law_right, od__law_right, .func (PySem.W.fnOf "_law_right" "_law_right" (defArgs s__law_right) (defBody s__law_right) (defScope s__law_right) .none kV__law_right dc__law_right pm__law_right an__law_right (.ref cL__law_right) ct__law_right), sl__law_right⟩)
    (c__law_right : PySem.W.codeIn K (.ref cL__law_right) "_law_right" = true)
    (k__law_right : PySem.W.keepIn K (.ref f__law_right) = true)
    (a_law : PySem.W.nsIn K mainGlobals "law" = some (some (.ref f_law)))
    (l_law : K.lookup f_law = some ⟨oc_law, od_law, .func (PySem.W.fnOf "law" "law" (defArgs s_law) (defBody s_law) (defScope s_law) .none kV_law dc_law pm_law an_law (.ref cL_law) ct_law), sl_law⟩)
    (c_law : PySem.W.codeIn K (.ref cL_law) "law" = true)
    (k_law : PySem.W.keepIn K (.ref f_law) = true)
    (n_isinstance : PySem.W.nsIn K mainGlobals "isinstance" = some none)
    (n_str : PySem.W.nsIn K mainGlobals "str" = some none)
    (n_int : PySem.W.nsIn K mainGlobals "int" = some none)
    (n_bool : PySem.W.nsIn K mainGlobals "bool" = some none)
    (n_len : PySem.W.nsIn K mainGlobals "len" = some none)
    (n_range : PySem.W.nsIn K mainGlobals "range" = some none)
    (n_max : PySem.W.nsIn K mainGlobals "max" = some none)
    (n_enumerate : PySem.W.nsIn K mainGlobals "enumerate" = some none)
    (n_list : PySem.W.nsIn K mainGlobals "list" = some none)
    (n_super : PySem.W.nsIn K mainGlobals "super" = some none)
    (g_LETTERS : PySem.W.nsIn K mainGlobals "LETTERS" = some (some (.str "abcdefghijklmnopqrstuvwxyzABCDEFGHIJKLMNOPQRSTUVWXYZ_" t_LETTERS)))
    (g_INNER : PySem.W.nsIn K mainGlobals "INNER" = some (some (.str "abcdefghijklmnopqrstuvwxyzABCDEFGHIJKLMNOPQRSTUVWXYZ_0123456789-." t_INNER)))
    (b_IllFormed : PySem.W.nsIn K mainGlobals "IllFormed" = some (some (.ref C_IllFormed)))
    (b_InvalidText : PySem.W.nsIn K mainGlobals "InvalidText" = some (some (.ref C_InvalidText)))
    (b_InvalidNumber : PySem.W.nsIn K mainGlobals "InvalidNumber" = some (some (.ref C_InvalidNumber)))
    (b_MarkupError : PySem.W.nsIn K mainGlobals "MarkupError" = some (some (.ref C_MarkupError)))
    (b_MarkupStateError : PySem.W.nsIn K mainGlobals "MarkupStateError" = some (some (.ref C_MarkupStateError)))
    (b_LimitError : PySem.W.nsIn K mainGlobals "LimitError" = some (some (.ref C_LimitError)))
    (b_InvalidKind : PySem.W.nsIn K mainGlobals "InvalidKind" = some (some (.ref C_InvalidKind)))
    (b_Cursor : PySem.W.nsIn K mainGlobals "Cursor" = some (some (.ref C_Cursor)))
    (m1 : PySem.W.readsIn K C_MarkupError (.type "type") = true)
    (m2 : PySem.W.specialIn K (.ref C_MarkupError) "__getattribute__" = some (some (.builtin "type.__getattribute__")))
    (m3 : PySem.W.findCls K (.ref C_MarkupError) (.type "type") "__init__" = some (.val (.builtin "ValueError.__init__")))
    (u1 : PySem.W.specialIn K (.builtin "object.__class__") "__get__" = some (some (.builtin "getset_descriptor.__get__")))
    (u2 : PySem.W.takesIn K (.builtin "object.__class__") = some true)
    (o1_IllFormed : K.lookup C_IllFormed = some (excClassObj nmE_IllFormed qnE_IllFormed C_IllFormed NSE_IllFormed bsE_IllFormed [.ref C_MarkupError, .type "ValueError", .type "Exception", .type "BaseException", .type "object"] true snE_IllFormed subE_IllFormed abE_IllFormed colE_IllFormed ddE_IllFormed k0E_IllFormed k1E_IllFormed k2E_IllFormed k3E_IllFormed k5E_IllFormed "ValueError.__new__"))
    (o2_IllFormed : PySem.W.findIn K (.ref C_IllFormed) "__setattr__" = some (some (.builtin "object.__setattr__")))
    (o3_IllFormed : PySem.W.subIn K (.ref C_IllFormed) (.type "BaseException") = some true)
    (o4_IllFormed : PySem.W.typeIn K (.ref C_IllFormed) = some (.type "type"))
    (o5_IllFormed : PySem.W.keepIn K (.ref C_IllFormed) = true)
    (i1_IllFormed : PySem.W.findIn K (.ref C_IllFormed) "__init__" = some (some (.ref I_IllFormed)))
    (i2_IllFormed : PySem.W.typeIn K (.ref I_IllFormed) = some (.type "function"))
    (i3_IllFormed : K.lookup I_IllFormed = some ⟨ocI_IllFormed, odI_IllFormed, .func (PySem.W.fnOf "__init__" "IllFormed.__init__" (defArgs s_IllFormed___init__) (defBody s_IllFormed___init__) (defScope s_IllFormed___init__) .none kVI_IllFormed dcI_IllFormed pmI_IllFormed anI_IllFormed cdI_IllFormed ctI_IllFormed), slI_IllFormed⟩)
    (i4_IllFormed : PySem.W.codeIn K cdI_IllFormed "IllFormed.__init__" = true)
    (i5_IllFormed : PySem.W.keepIn K (.ref I_IllFormed) = true)
    (i6_IllFormed : PySem.W.findIn K (.ref C_IllFormed) "position" = some none)
    (q1_IllFormed : (PySem.W.clsIn K C_IllFormed).isSome = true)
    (q2_IllFormed : PySem.W.findIn K (.ref C_IllFormed) "__getattribute__" = some (some (.builtin "BaseException.__getattribute__")))
    (q3_IllFormed : PySem.W.findIn K (.ref C_IllFormed) "__getattr__" = some none)
    (q4_IllFormed : PySem.W.findIn K (.ref C_IllFormed) "__class__" = some (some (.builtin "object.__class__")))
    (q5_IllFormed : PySem.W.mroIn K C_IllFormed (.type "object") = some true)
    (q6_IllFormed : PySem.W.hasDictIn K C_IllFormed = true)
    (o1_InvalidText : K.lookup C_InvalidText = some (excClassObj nmE_InvalidText qnE_InvalidText C_InvalidText NSE_InvalidText bsE_InvalidText [.ref C_MarkupError, .type "ValueError", .type "Exception", .type "BaseException", .type "object"] true snE_InvalidText subE_InvalidText abE_InvalidText colE_InvalidText ddE_InvalidText k0E_InvalidText k1E_InvalidText k2E_InvalidText k3E_InvalidText k5E_InvalidText "ValueError.__new__"))
    (o2_InvalidText : PySem.W.findIn K (.ref C_InvalidText) "__setattr__" = some (some (.builtin "object.__setattr__")))
    (o3_InvalidText : PySem.W.subIn K (.ref C_InvalidText) (.type "BaseException") = some true)
    (o4_InvalidText : PySem.W.typeIn K (.ref C_InvalidText) = some (.type "type"))
    (o5_InvalidText : PySem.W.keepIn K (.ref C_InvalidText) = true)
    (i1_InvalidText : PySem.W.findIn K (.ref C_InvalidText) "__init__" = some (some (.ref I_InvalidText)))
    (i2_InvalidText : PySem.W.typeIn K (.ref I_InvalidText) = some (.type "function"))
    (i3_InvalidText : K.lookup I_InvalidText = some ⟨ocI_InvalidText, odI_InvalidText, .func (PySem.W.fnOf "__init__" "InvalidText.__init__" (defArgs s_InvalidText___init__) (defBody s_InvalidText___init__) (defScope s_InvalidText___init__) .none kVI_InvalidText dcI_InvalidText pmI_InvalidText anI_InvalidText cdI_InvalidText ctI_InvalidText), slI_InvalidText⟩)
    (i4_InvalidText : PySem.W.codeIn K cdI_InvalidText "InvalidText.__init__" = true)
    (i5_InvalidText : PySem.W.keepIn K (.ref I_InvalidText) = true)
    (i6_InvalidText : PySem.W.findIn K (.ref C_InvalidText) "index" = some none)
    (q1_InvalidText : (PySem.W.clsIn K C_InvalidText).isSome = true)
    (q2_InvalidText : PySem.W.findIn K (.ref C_InvalidText) "__getattribute__" = some (some (.builtin "BaseException.__getattribute__")))
    (q3_InvalidText : PySem.W.findIn K (.ref C_InvalidText) "__getattr__" = some none)
    (q4_InvalidText : PySem.W.findIn K (.ref C_InvalidText) "__class__" = some (some (.builtin "object.__class__")))
    (q5_InvalidText : PySem.W.mroIn K C_InvalidText (.type "object") = some true)
    (q6_InvalidText : PySem.W.hasDictIn K C_InvalidText = true)
    (o1_InvalidNumber : K.lookup C_InvalidNumber = some (excClassObj nmE_InvalidNumber qnE_InvalidNumber C_InvalidNumber NSE_InvalidNumber bsE_InvalidNumber [.ref C_MarkupError, .type "ValueError", .type "Exception", .type "BaseException", .type "object"] true snE_InvalidNumber subE_InvalidNumber abE_InvalidNumber colE_InvalidNumber ddE_InvalidNumber k0E_InvalidNumber k1E_InvalidNumber k2E_InvalidNumber k3E_InvalidNumber k5E_InvalidNumber "ValueError.__new__"))
    (o2_InvalidNumber : PySem.W.findIn K (.ref C_InvalidNumber) "__setattr__" = some (some (.builtin "object.__setattr__")))
    (o3_InvalidNumber : PySem.W.subIn K (.ref C_InvalidNumber) (.type "BaseException") = some true)
    (o4_InvalidNumber : PySem.W.typeIn K (.ref C_InvalidNumber) = some (.type "type"))
    (o5_InvalidNumber : PySem.W.keepIn K (.ref C_InvalidNumber) = true)
    (i1_InvalidNumber : PySem.W.findIn K (.ref C_InvalidNumber) "__init__" = some (some (.ref I_InvalidNumber)))
    (i2_InvalidNumber : PySem.W.typeIn K (.ref I_InvalidNumber) = some (.type "function"))
    (i3_InvalidNumber : K.lookup I_InvalidNumber = some ⟨ocI_InvalidNumber, odI_InvalidNumber, .func (PySem.W.fnOf "__init__" "InvalidNumber.__init__" (defArgs s_InvalidNumber___init__) (defBody s_InvalidNumber___init__) (defScope s_InvalidNumber___init__) .none kVI_InvalidNumber dcI_InvalidNumber pmI_InvalidNumber anI_InvalidNumber cdI_InvalidNumber ctI_InvalidNumber), slI_InvalidNumber⟩)
    (i4_InvalidNumber : PySem.W.codeIn K cdI_InvalidNumber "InvalidNumber.__init__" = true)
    (i5_InvalidNumber : PySem.W.keepIn K (.ref I_InvalidNumber) = true)
    (i6_InvalidNumber : PySem.W.findIn K (.ref C_InvalidNumber) "number" = some none)
    (q1_InvalidNumber : (PySem.W.clsIn K C_InvalidNumber).isSome = true)
    (q2_InvalidNumber : PySem.W.findIn K (.ref C_InvalidNumber) "__getattribute__" = some (some (.builtin "BaseException.__getattribute__")))
    (q3_InvalidNumber : PySem.W.findIn K (.ref C_InvalidNumber) "__getattr__" = some none)
    (q4_InvalidNumber : PySem.W.findIn K (.ref C_InvalidNumber) "__class__" = some (some (.builtin "object.__class__")))
    (q5_InvalidNumber : PySem.W.mroIn K C_InvalidNumber (.type "object") = some true)
    (q6_InvalidNumber : PySem.W.hasDictIn K C_InvalidNumber = true)
    (xe_InvalidText : PySem.W.exmAny K (.ref C_InvalidText) [.ref C_MarkupError, .ref C_MarkupStateError, .ref C_LimitError] = some true)
    (xs_InvalidText : PySem.W.subIn K (.ref C_InvalidText) (.type "StopIteration") = some false)
    (xk1_InvalidText : PySem.W.kitOne K (.ref C_InvalidText) (.ref C_IllFormed) = some false)
    (xk2_InvalidText : PySem.W.kitOne K (.ref C_InvalidText) (.ref C_InvalidText) = some true)
    (xe_IllFormed : PySem.W.exmAny K (.ref C_IllFormed) [.ref C_MarkupError, .ref C_MarkupStateError, .ref C_LimitError] = some true)
    (xs_IllFormed : PySem.W.subIn K (.ref C_IllFormed) (.type "StopIteration") = some false)
    (xk1_IllFormed : PySem.W.kitOne K (.ref C_IllFormed) (.ref C_IllFormed) = some true)
    (wc_pg : PySem.W.plainGet K C_Cursor Str.empty = true)
    (wc_hd : PySem.W.hasDictIn K C_Cursor = true)
    (wc_po : PySem.W.plainOver K C_Cursor = true)
    (wc_sa : PySem.W.findIn K (.ref C_Cursor) "__setattr__" = some (some (.builtin "object.__setattr__")))
    (wc_na_own_text : PySem.W.findIn K (.ref C_Cursor) "own_text" = some none)
    (wc_na_begins : PySem.W.findIn K (.ref C_Cursor) "begins" = some none)
    (wc_na_spot : PySem.W.findIn K (.ref C_Cursor) "spot" = some none)
    (wc_mk : PySem.W.makesIn K C_Cursor = true)
    (wc_kp : PySem.W.keepIn K (.ref C_Cursor) = true)
    (wc_mro : PySem.W.mroIn K C_Cursor (.ref C_Cursor) = some true)
    (wc_cls : (PySem.W.clsIn K C_Cursor).isSome = true)
    (w1_Cursor___init__ : PySem.W.findIn K (.ref C_Cursor) "__init__" = some (some (.ref f_Cursor___init__)))
    (w2_Cursor___init__ : K.lookup f_Cursor___init__ = some ⟨oc_Cursor___init__, od_Cursor___init__, .func (PySem.W.ksFn "__init__" "Cursor.__init__" (defArgs s_Cursor___init__) (defBody s_Cursor___init__) (defScope s_Cursor___init__) .none kV_Cursor___init__ dc_Cursor___init__ pm_Cursor___init__ an_Cursor___init__ (.ref cda) ct_Cursor___init__ cc), sl_Cursor___init__⟩)
    (w3_Cursor___init__ : PySem.W.codeIn K (.ref cda) "Cursor.__init__" = true)
    (w5_Cursor___init__ : PySem.W.isFn K (.ref f_Cursor___init__) = true)
    (w6_Cursor___init__ : K.lookup cda = some ⟨ccl, cdd, .fields cvs, ccs⟩)
    (w7_Cursor___init__ : cvs[2]? = some (.str cfile ctf))
    (w8_Cursor___init__ : ((l.prog.main.file : Str) == cfile) = true)
    (w9_Cursor___init__ : K.lookup cc = some ⟨cl, cld, .cell (some (.ref C_Cursor)), csl⟩)
    (wt_Cursor___init__ : (l.prog.main.scope.names.lookup ("super" : Str)).isSome = false)
    (wo_Cursor___init__ : PySem.W.nsIn K cStatics "thirdparty.any" = some none)
    (w1_Lines___init__ : PySem.W.ks_superIn K C_Cursor C_Cursor "__init__" = some (some (.ref f_Lines___init__)))
    (w2_Lines___init__ : K.lookup f_Lines___init__ = some ⟨oc_Lines___init__, od_Lines___init__, .func (PySem.W.fnOf "__init__" "Lines.__init__" (defArgs s_Lines___init__) (defBody s_Lines___init__) (defScope s_Lines___init__) .none kV_Lines___init__ dc_Lines___init__ pm_Lines___init__ an_Lines___init__ cd_Lines___init__ ct_Lines___init__), sl_Lines___init__⟩)
    (w3_Lines___init__ : PySem.W.codeIn K cd_Lines___init__ "Lines.__init__" = true)
    (w4_Lines___init__ : PySem.W.keepIn K (.ref f_Lines___init__) = true)
    (w5_Lines___init__ : PySem.W.isFn K (.ref f_Lines___init__) = true)
    (wy_Lines___init__ : PySem.W.typeIn K (.ref f_Lines___init__) = some (.type "function"))
    (wf_Lines___init__ : PySem.W.fnIn K f_Lines___init__ = true)
    (w1_Cursor_offset : PySem.W.findIn K (.ref C_Cursor) "offset" = some (some (.ref p_Cursor_offset)))
    (w6_Cursor_offset : PySem.W.specialIn K (.ref p_Cursor_offset) "__get__" = some (some (.builtin "property.__get__")))
    (w7_Cursor_offset : PySem.W.takesIn K (.ref p_Cursor_offset) = some true)
    (w8_Cursor_offset : PySem.W.recIn K p_Cursor_offset "property" = some (.ref f_Cursor_offset :: rest_Cursor_offset))
    (w2_Cursor_offset : K.lookup f_Cursor_offset = some ⟨oc_Cursor_offset, od_Cursor_offset, .func (PySem.W.fnOf "offset" "Cursor.offset" (defArgs s_Cursor_offset) (defBody s_Cursor_offset) (defScope s_Cursor_offset) .none kV_Cursor_offset dc_Cursor_offset pm_Cursor_offset an_Cursor_offset cd_Cursor_offset ct_Cursor_offset), sl_Cursor_offset⟩)
    (w3_Cursor_offset : PySem.W.codeIn K cd_Cursor_offset "Cursor.offset" = true)
    (w4_Cursor_offset : PySem.W.keepIn K (.ref f_Cursor_offset) = true)
    (w5_Cursor_offset : PySem.W.isFn K (.ref f_Cursor_offset) = true)
    (w1_Cursor_go_to : PySem.W.findIn K (.ref C_Cursor) "go_to" = some (some (.ref f_Cursor_go_to)))
    (w2_Cursor_go_to : K.lookup f_Cursor_go_to = some ⟨oc_Cursor_go_to, od_Cursor_go_to, .func (PySem.W.fnOf "go_to" "Cursor.go_to" (defArgs s_Cursor_go_to) (defBody s_Cursor_go_to) (defScope s_Cursor_go_to) .none kV_Cursor_go_to dc_Cursor_go_to pm_Cursor_go_to an_Cursor_go_to cd_Cursor_go_to ct_Cursor_go_to), sl_Cursor_go_to⟩)
    (w3_Cursor_go_to : PySem.W.codeIn K cd_Cursor_go_to "Cursor.go_to" = true)
    (w4_Cursor_go_to : PySem.W.keepIn K (.ref f_Cursor_go_to) = true)
    (w5_Cursor_go_to : PySem.W.isFn K (.ref f_Cursor_go_to) = true)
    (w1_Cursor_passed_to : PySem.W.findIn K (.ref C_Cursor) "passed_to" = some (some (.ref f_Cursor_passed_to)))
    (w2_Cursor_passed_to : K.lookup f_Cursor_passed_to = some ⟨oc_Cursor_passed_to, od_Cursor_passed_to, .func (PySem.W.fnOf "passed_to" "Cursor.passed_to" (defArgs s_Cursor_passed_to) (defBody s_Cursor_passed_to) (defScope s_Cursor_passed_to) .none kV_Cursor_passed_to dc_Cursor_passed_to pm_Cursor_passed_to an_Cursor_passed_to cd_Cursor_passed_to ct_Cursor_passed_to), sl_Cursor_passed_to⟩)
    (w3_Cursor_passed_to : PySem.W.codeIn K cd_Cursor_passed_to "Cursor.passed_to" = true)
    (w4_Cursor_passed_to : PySem.W.keepIn K (.ref f_Cursor_passed_to) = true)
    (w5_Cursor_passed_to : PySem.W.isFn K (.ref f_Cursor_passed_to) = true)
    (w1_Cursor_take_name : PySem.W.findIn K (.ref C_Cursor) "take_name" = some (some (.ref f_Cursor_take_name)))
    (w2_Cursor_take_name : K.lookup f_Cursor_take_name = some ⟨oc_Cursor_take_name, od_Cursor_take_name, .func (PySem.W.fnOf "take_name" "Cursor.take_name" (defArgs s_Cursor_take_name) (defBody s_Cursor_take_name) (defScope s_Cursor_take_name) .none kV_Cursor_take_name dc_Cursor_take_name pm_Cursor_take_name an_Cursor_take_name cd_Cursor_take_name ct_Cursor_take_name), sl_Cursor_take_name⟩)
    (w3_Cursor_take_name : PySem.W.codeIn K cd_Cursor_take_name "Cursor.take_name" = true)
    (w4_Cursor_take_name : PySem.W.keepIn K (.ref f_Cursor_take_name) = true)
    (w5_Cursor_take_name : PySem.W.isFn K (.ref f_Cursor_take_name) = true) :
    LawG l w K CX0 12 63 "script" mg fa h := by
  have e := hfa.symm.trans (PySem.W.mg_of X G a_law)
  cases e
  refine ⟨PySem.W.fnOf "law" "law" (defArgs s_law) (defBody s_law) (defScope s_law) .none kV_law dc_law pm_law an_law (.ref cL_law) ct_law, [(cL__law_right, P__law_right), (cL_law, P_law)], sp_law K [(P__law_right, "_law_right.<locals>.<lambda>"), (P_law, "law.<locals>.<lambda>")], ?_, ?_, ?_, fun s v => .of_eq rfl, ?_, ?_⟩
  · intro p hp
    simp only [List.mem_cons, List.not_mem_nil, or_false] at hp
    rcases hp with rfl | rfl
    · exact tg__law_right
    · exact tg_law
  · intro p hp
    simp only [List.mem_cons, List.not_mem_nil, or_false] at hp
    rcases hp with rfl | rfl
    · exact np__law_right
    · exact np_law
  · intro p hp
    simp only [List.mem_cons, List.not_mem_nil, or_false] at hp
    rcases hp with rfl | rfl
    · exact tb__law_right
    · exact tb_law
  · intro H a ns hn _ ht hs
    refine ⟨a, ns, rfl, hs, hn, fun p hp => ?_, fun _ => rfl⟩
    simp only [List.mem_cons, List.not_mem_nil, or_false] at hp
    rcases hp with rfl | rfl
    · exact LamX.TabS.nil (ht (cL__law_right, P__law_right) (by simp))
    · exact LamX.TabS.nil (ht (cL_law, P_law) (by simp))
  intro base inB nsB tabB
  have F_check_text := fun_mk (st := s_check_text) l_check_text c_check_text k_check_text
  have B_check_text := F_check_text.binds (ps := ["text"]) fun _ _ _ _ _ _ us hl => match us, hl with | [_], _ => rfl
  have F_part_end := fun_mk (st := s_part_end) l_part_end c_part_end k_part_end
  have B_part_end := F_part_end.binds (ps := ["text", "begin"]) fun _ _ _ _ _ _ us hl => match us, hl with | [_, _], _ => rfl
  have F_name_end := fun_mk (st := s_name_end) l_name_end c_name_end k_name_end
  have B_name_end := F_name_end.binds (ps := ["text", "begin"]) fun _ _ _ _ _ _ us hl => match us, hl with | [_, _], _ => rfl
  have F_names_in := fun_mk (st := s_names_in) l_names_in c_names_in k_names_in
  have B_names_in := F_names_in.binds (ps := ["text"]) fun _ _ _ _ _ _ us hl => match us, hl with | [_], _ => rfl
  have F_is_between : L2.FunD K "is_between" "is_between" (defArgs s_is_between) (defBody s_is_between) (defScope s_is_between) [.non] [] f_is_between _ := ⟨⟨_, _, _, _, _, _, _, _, _, _, rfl, l_is_between, c_is_between, He.dflB_ok q1_dfl_is_between, .inl rfl⟩, k_is_between⟩
  obtain ⟨ds_is_between, v_is_between, b_is_between⟩ := F_is_between.binds1 (ps := ["value", "least", "most"]) 3 1 (by simp) (by rfl) (fun T kV doc pm an cdv ct us its h1 h2 => match us, its, h1, h2 with | [_, _, _], [_], _, _ => ⟨_, rfl, rfl⟩)
  cases v_is_between
  obtain ⟨e_is_between, w_is_between, y_is_between⟩ := F_is_between.binds1 (ps := ["value", "least", "most"]) 2 0 (by simp) (by rfl) (fun T kV doc pm an cdv ct us its h1 h2 => match us, its, h1, h2 with | [_, _], [_], _, _ => ⟨_, rfl, rfl⟩)
  have F_check_number : L2.FunD K "check_number" "check_number" (defArgs s_check_number) (defBody s_check_number) (defScope s_check_number) [.non] [] f_check_number _ := ⟨⟨_, _, _, _, _, _, _, _, _, _, rfl, l_check_number, c_check_number, He.dflB_ok q1_dfl_check_number, .inl rfl⟩, k_check_number⟩
  obtain ⟨ds_check_number, v_check_number, b_check_number⟩ := F_check_number.binds1 (ps := ["value", "least", "most"]) 3 1 (by simp) (by rfl) (fun T kV doc pm an cdv ct us its h1 h2 => match us, its, h1, h2 with | [_, _, _], [_], _, _ => ⟨_, rfl, rfl⟩)
  cases v_check_number
  obtain ⟨e_check_number, w_check_number, y_check_number⟩ := F_check_number.binds1 (ps := ["value", "least", "most"]) 2 0 (by simp) (by rfl) (fun T kV doc pm an cdv ct us its h1 h2 => match us, its, h1, h2 with | [_, _], [_], _, _ => ⟨_, rfl, rfl⟩)
  have F__law_mixed := fun_mk (st := s__law_mixed) l__law_mixed c__law_mixed k__law_mixed
  have B__law_mixed := F__law_mixed.binds (ps := ["number", "k"]) fun _ _ _ _ _ _ us hl => match us, hl with | [_, _], _ => rfl
  have F__law_stream := fun_mk (st := s__law_stream) l__law_stream c__law_stream k__law_stream
  have B__law_stream := F__law_stream.binds (ps := ["item", "k"]) fun _ _ _ _ _ _ us hl => match us, hl with | [_, _], _ => rfl
  have F__law_draw := fun_mk (st := s__law_draw) l__law_draw c__law_draw k__law_draw
  have B__law_draw := F__law_draw.binds (ps := ["stream", "top"]) fun _ _ _ _ _ _ us hl => match us, hl with | [_, _], _ => rfl
  have F__law_signs := fun_mk (st := s__law_signs) l__law_signs c__law_signs k__law_signs
  have B__law_signs := F__law_signs.binds (ps := []) fun _ _ _ _ _ _ us hl => match us, hl with | [], _ => rfl
  have F__law_pick := fun_mk (st := s__law_pick) l__law_pick c__law_pick k__law_pick
  have B__law_pick := F__law_pick.binds (ps := ["stream", "some"]) fun _ _ _ _ _ _ us hl => match us, hl with | [_, _], _ => rfl
  have F__law_is_part := fun_mk (st := s__law_is_part) l__law_is_part c__law_is_part k__law_is_part
  have B__law_is_part := F__law_is_part.binds (ps := ["word"]) fun _ _ _ _ _ _ us hl => match us, hl with | [_], _ => rfl
  have F__law_is_name := fun_mk (st := s__law_is_name) l__law_is_name c__law_is_name k__law_is_name
  have B__law_is_name := F__law_is_name.binds (ps := ["word"]) fun _ _ _ _ _ _ us hl => match us, hl with | [_], _ => rfl
  have F__law_told := fun_mk (st := s__law_told) l__law_told c__law_told k__law_told
  have B__law_told := F__law_told.binds (ps := ["call"]) fun _ _ _ _ _ _ us hl => match us, hl with | [_], _ => rfl
  have F__law_phrase := fun_mk (st := s__law_phrase) l__law_phrase c__law_phrase k__law_phrase
  have B__law_phrase := F__law_phrase.binds (ps := ["stream"]) fun _ _ _ _ _ _ us hl => match us, hl with | [_], _ => rfl
  have F__law_end := fun_mk (st := s__law_end) l__law_end c__law_end k__law_end
  have B__law_end := F__law_end.binds (ps := ["phrase", "at"]) fun _ _ _ _ _ _ us hl => match us, hl with | [_, _], _ => rfl
  have F__law_names := fun_mk (st := s__law_names) l__law_names c__law_names k__law_names
  have B__law_names := F__law_names.binds (ps := ["phrase"]) fun _ _ _ _ _ _ us hl => match us, hl with | [_], _ => rfl
  have F__law_first := fun_mk (st := s__law_first) l__law_first c__law_first k__law_first
  have B__law_first := F__law_first.binds (ps := ["phrase", "many"]) fun _ _ _ _ _ _ us hl => match us, hl with | [_, _], _ => rfl
  have F__law_right := fun_mk (st := s__law_right) l__law_right c__law_right k__law_right
  have B__law_right := F__law_right.binds (ps := ["phrase"]) fun _ _ _ _ _ _ us hl => match us, hl with | [_], _ => rfl
  have BM : BaseT K mg "MarkupError" C_MarkupError := ⟨PySem.W.mg_of X G b_MarkupError, m1, m2, m3⟩
  have FI_IllFormed := fun_mk (st := s_IllFormed___init__) i3_IllFormed i4_IllFormed i5_IllFormed
  have OX_IllFormed : OexC K C_IllFormed := ⟨⟨_, _, _, _, _, _, _, _, _, _, _, _, _, _, _, o1_IllFormed, rfl⟩, o2_IllFormed, o3_IllFormed, o4_IllFormed, o5_IllFormed⟩
  have FI_InvalidText := fun_mk (st := s_InvalidText___init__) i3_InvalidText i4_InvalidText i5_InvalidText
  have OX_InvalidText : OexC K C_InvalidText := ⟨⟨_, _, _, _, _, _, _, _, _, _, _, _, _, _, _, o1_InvalidText, rfl⟩, o2_InvalidText, o3_InvalidText, o4_InvalidText, o5_InvalidText⟩
  have FI_InvalidNumber := fun_mk (st := s_InvalidNumber___init__) i3_InvalidNumber i4_InvalidNumber i5_InvalidNumber
  have OX_InvalidNumber : OexC K C_InvalidNumber := ⟨⟨_, _, _, _, _, _, _, _, _, _, _, _, _, _, _, o1_InvalidNumber, rfl⟩, o2_InvalidNumber, o3_InvalidNumber, o4_InvalidNumber, o5_InvalidNumber⟩
  obtain ⟨T, e__law_right⟩ : ∃ T : Tx l.prog w K mg base, (T.d__law_right.f = f__law_right ∧ T.d__law_right.fd = PySem.W.fnOf "_law_right" "_law_right" (defArgs s__law_right) (defBody s__law_right) (defScope s__law_right) .none kV__law_right dc__law_right pm__law_right an__law_right (.ref cL__law_right) ct__law_right) := ⟨{
    d_check_text := ⟨_, _, F_check_text, PySem.W.mg_of X G a_check_text, B_check_text⟩
    d_part_end := ⟨_, _, F_part_end, PySem.W.mg_of X G a_part_end, B_part_end⟩
    d_name_end := ⟨_, _, F_name_end, PySem.W.mg_of X G a_name_end, B_name_end⟩
    d_names_in := ⟨_, _, F_names_in, PySem.W.mg_of X G a_names_in, B_names_in⟩
    d_is_between := ⟨_, _, F_is_between, PySem.W.mg_of X G a_is_between, b_is_between, _, w_is_between, y_is_between⟩
    d_check_number := ⟨_, _, F_check_number, PySem.W.mg_of X G a_check_number, b_check_number, _, w_check_number, y_check_number⟩
    d__law_mixed := ⟨_, _, F__law_mixed, PySem.W.mg_of X G a__law_mixed, B__law_mixed⟩
    d__law_stream := ⟨_, _, F__law_stream, PySem.W.mg_of X G a__law_stream, B__law_stream⟩
    d__law_draw := ⟨_, _, F__law_draw, PySem.W.mg_of X G a__law_draw, B__law_draw⟩
    d__law_signs := ⟨_, _, F__law_signs, PySem.W.mg_of X G a__law_signs, B__law_signs⟩
    d__law_pick := ⟨_, _, F__law_pick, PySem.W.mg_of X G a__law_pick, B__law_pick⟩
    d__law_is_part := ⟨_, _, F__law_is_part, PySem.W.mg_of X G a__law_is_part, B__law_is_part⟩
    d__law_is_name := ⟨_, _, F__law_is_name, PySem.W.mg_of X G a__law_is_name, B__law_is_name⟩
    d__law_told := ⟨_, _, F__law_told, PySem.W.mg_of X G a__law_told, B__law_told⟩
    d__law_phrase := ⟨_, _, F__law_phrase, PySem.W.mg_of X G a__law_phrase, B__law_phrase⟩
    d__law_end := ⟨_, _, F__law_end, PySem.W.mg_of X G a__law_end, B__law_end⟩
    d__law_names := ⟨_, _, F__law_names, PySem.W.mg_of X G a__law_names, B__law_names⟩
    d__law_first := ⟨_, _, F__law_first, PySem.W.mg_of X G a__law_first, B__law_first⟩
    d__law_right := ⟨_, _, F__law_right, PySem.W.mg_of X G a__law_right, B__law_right⟩
    n_isinstance := PySem.W.mg_none_of X G n_isinstance
    n_str := PySem.W.mg_none_of X G n_str
    n_int := PySem.W.mg_none_of X G n_int
    n_bool := PySem.W.mg_none_of X G n_bool
    n_len := PySem.W.mg_none_of X G n_len
    n_range := PySem.W.mg_none_of X G n_range
    n_max := PySem.W.mg_none_of X G n_max
    n_enumerate := PySem.W.mg_none_of X G n_enumerate
    n_list := PySem.W.mg_none_of X G n_list
    n_super := PySem.W.mg_none_of X G n_super
    g_LETTERS := ⟨_, PySem.W.mg_of X G g_LETTERS, ⟨_, rfl⟩⟩
    g_INNER := ⟨_, PySem.W.mg_of X G g_INNER, ⟨_, rfl⟩⟩
    a_IllFormed := C_IllFormed
    i_IllFormed := I_IllFormed
    fd_IllFormed := _
    x_IllFormed := ⟨OX_IllFormed, PySem.W.mg_of X G b_IllFormed, i1_IllFormed, i2_IllFormed, ok_IllFormed___init__ BM FI_IllFormed i6_IllFormed, FI_IllFormed.binds (ps := ["self", "position"]) fun _ _ _ _ _ _ us hl => match us, hl with | [_, _], _ => rfl⟩
    a_InvalidText := C_InvalidText
    i_InvalidText := I_InvalidText
    fd_InvalidText := _
    x_InvalidText := ⟨OX_InvalidText, PySem.W.mg_of X G b_InvalidText, i1_InvalidText, i2_InvalidText, ok_InvalidText___init__ BM FI_InvalidText i6_InvalidText, FI_InvalidText.binds (ps := ["self", "index"]) fun _ _ _ _ _ _ us hl => match us, hl with | [_, _], _ => rfl⟩
    a_InvalidNumber := C_InvalidNumber
    i_InvalidNumber := I_InvalidNumber
    fd_InvalidNumber := _
    x_InvalidNumber := ⟨OX_InvalidNumber, PySem.W.mg_of X G b_InvalidNumber, i1_InvalidNumber, i2_InvalidNumber, ok_InvalidNumber___init__ BM FI_InvalidNumber i6_InvalidNumber, FI_InvalidNumber.binds (ps := ["self", "number"]) fun _ _ _ _ _ _ us hl => match us, hl with | [_, _], _ => rfl⟩
    kb_names_in := kb_of F_names_in fun _ _ _ _ _ _ us ws hl => match us, ws, hl with | [], [_], _ => rfl | [_], [], _ => rfl
    a_MarkupError := C_MarkupError
    m_MarkupError := PySem.W.mg_of X G b_MarkupError
    a_MarkupStateError := C_MarkupStateError
    m_MarkupStateError := PySem.W.mg_of X G b_MarkupStateError
    a_LimitError := C_LimitError
    m_LimitError := PySem.W.mg_of X G b_LimitError
    a_InvalidKind := C_InvalidKind
    m_InvalidKind := PySem.W.mg_of X G b_InvalidKind
    xc_InvalidText := ⟨q1_InvalidText, q2_InvalidText, q3_InvalidText, o3_InvalidText, q4_InvalidText, u1, u2, q5_InvalidText, q6_InvalidText⟩
    ex_InvalidText := xe_InvalidText
    fn_InvalidText := i6_InvalidText
    si_InvalidText := xs_InvalidText
    k1_InvalidText := xk1_InvalidText
    k2_InvalidText := xk2_InvalidText
    xc_IllFormed := ⟨q1_IllFormed, q2_IllFormed, q3_IllFormed, o3_IllFormed, q4_IllFormed, u1, u2, q5_IllFormed, q6_IllFormed⟩
    ex_IllFormed := xe_IllFormed
    fn_IllFormed := i6_IllFormed
    si_IllFormed := xs_IllFormed
    k1_IllFormed := xk1_IllFormed
    C_Cursor := C_Cursor
    cl_Cursor := ⟨wc_pg, wc_hd, wc_po, wc_sa⟩
    mg_Cursor := PySem.W.mg_of X G b_Cursor
    na_own_text := wc_na_own_text
    na_begins := wc_na_begins
    na_spot := wc_na_spot
    f_Lines___init__ := f_Lines___init__
    fd_Lines___init__ := _
    F_Lines___init__ := fun_mk (st := s_Lines___init__) w2_Lines___init__ w3_Lines___init__ w4_Lines___init__
    b_Lines___init__ := (fun_mk (st := s_Lines___init__) w2_Lines___init__ w3_Lines___init__ w4_Lines___init__).binds (ps := ["self", "text"]) fun _ _ _ _ _ _ us hl => match us, hl with | [_, _], _ => rfl
    f_Cursor_offset := f_Cursor_offset
    fd_Cursor_offset := _
    F_Cursor_offset := fun_mk (st := s_Cursor_offset) w2_Cursor_offset w3_Cursor_offset w4_Cursor_offset
    b_Cursor_offset := (fun_mk (st := s_Cursor_offset) w2_Cursor_offset w3_Cursor_offset w4_Cursor_offset).binds (ps := ["self"]) fun _ _ _ _ _ _ us hl => match us, hl with | [_], _ => rfl
    p_Cursor_offset := p_Cursor_offset
    pr_Cursor_offset := ⟨w1_Cursor_offset, w6_Cursor_offset, w7_Cursor_offset, _, w8_Cursor_offset⟩
    f_Cursor_go_to := f_Cursor_go_to
    fd_Cursor_go_to := _
    F_Cursor_go_to := fun_mk (st := s_Cursor_go_to) w2_Cursor_go_to w3_Cursor_go_to w4_Cursor_go_to
    b_Cursor_go_to := (fun_mk (st := s_Cursor_go_to) w2_Cursor_go_to w3_Cursor_go_to w4_Cursor_go_to).binds (ps := ["self", "position"]) fun _ _ _ _ _ _ us hl => match us, hl with | [_, _], _ => rfl
    me_Cursor_go_to := ⟨w1_Cursor_go_to, w5_Cursor_go_to, w4_Cursor_go_to⟩
    f_Cursor_passed_to := f_Cursor_passed_to
    fd_Cursor_passed_to := _
    F_Cursor_passed_to := fun_mk (st := s_Cursor_passed_to) w2_Cursor_passed_to w3_Cursor_passed_to w4_Cursor_passed_to
    b_Cursor_passed_to := (fun_mk (st := s_Cursor_passed_to) w2_Cursor_passed_to w3_Cursor_passed_to w4_Cursor_passed_to).binds (ps := ["self", "position"]) fun _ _ _ _ _ _ us hl => match us, hl with | [_, _], _ => rfl
    me_Cursor_passed_to := ⟨w1_Cursor_passed_to, w5_Cursor_passed_to, w4_Cursor_passed_to⟩
    f_Cursor_take_name := f_Cursor_take_name
    fd_Cursor_take_name := _
    F_Cursor_take_name := fun_mk (st := s_Cursor_take_name) w2_Cursor_take_name w3_Cursor_take_name w4_Cursor_take_name
    b_Cursor_take_name := (fun_mk (st := s_Cursor_take_name) w2_Cursor_take_name w3_Cursor_take_name w4_Cursor_take_name).binds (ps := ["self"]) fun _ _ _ _ _ _ us hl => match us, hl with | [_], _ => rfl
    me_Cursor_take_name := ⟨w1_Cursor_take_name, w5_Cursor_take_name, w4_Cursor_take_name⟩
    f_Cursor___init__ := f_Cursor___init__
    fd_Cursor___init__ := _
    ci_Cursor___init__ := ⟨_, _, _, _, _, _, _, _, _, _, rfl, w2_Cursor___init__, w3_Cursor___init__, ⟨⟨_, rfl, rfl⟩, ⟨_, _, _, _, _, _, w6_Cursor___init__, w7_Cursor___init__, w8_Cursor___init__⟩, ⟨_, _, _, w9_Cursor___init__⟩, Option.isSome_iff_exists.mp wc_cls, PySem.W.mg_none_of X G n_super, wt_Cursor___init__, wo_Cursor___init__⟩⟩
    b_Cursor___init__ := .all fun us hl => match us, hl with | [_, _], _ => rfl
    mk_Cursor := ⟨wc_mk, w1_Cursor___init__, w5_Cursor___init__, wc_kp⟩
    mro_Cursor := wc_mro
    sup_Cursor := w1_Lines___init__
    tI_Lines := wy_Lines___init__
    fI_Lines := wf_Lines___init__
     }, ⟨rfl, rfl⟩⟩
  have G__law_mixed := ok__law_mixed T
  have G__law_stream := ok__law_stream T G__law_mixed
  have G__law_draw := ok__law_draw T G__law_mixed
  have G__law_signs := ok__law_signs T
  have G__law_pick := ok__law_pick T G__law_draw
  have G__law_phrase := ok__law_phrase T G__law_draw G__law_signs G__law_pick
  have G_check_text := ok_check_text T
  have G_part_end := ok_part_end T
  have G_name_end := ok_name_end T G_part_end
  have G_is_between := ok_is_between T
  have G_check_number := ok_check_number T G_is_between
  have G_names_in := ok_names_in T G_check_text G_name_end
  have G_Lines___init__ := ok_Lines___init__ T G_check_text
  have G_Cursor___init__ := ok_Cursor___init__ T G_Lines___init__
  have G_Cursor_offset := ok_Cursor_offset T
  have G_Cursor_go_to := ok_Cursor_go_to T G_check_number
  have G_Cursor_passed_to := ok_Cursor_passed_to T
  have G_Cursor_take_name := ok_Cursor_take_name T G_name_end G_Cursor_passed_to
  have G__law_is_part := ok__law_is_part T
  have G__law_is_name := ok__law_is_name T G__law_is_part
  have G__law_end := ok__law_end T G__law_is_name
  have G__law_names := ok__law_names T G__law_end
  have G__law_first := ok__law_first T G_names_in
  have G__law_right := ok__law_right T (cL := cL__law_right) (PL := P__law_right) (Tb := [(P__law_right, "_law_right.<locals>.<lambda>"), (P_law, "law.<locals>.<lambda>")]) (by simp) hu__law_right ⟨⟨_, _, _, _, _, _, _, _, e__law_right.2, by rw [e__law_right.1, e__law_right.2]; exact l__law_right, c__law_right⟩⟩ (tabB (cL__law_right, P__law_right) (by simp)) G__law_names G_names_in G__law_first G__law_end G_Cursor_go_to G_Cursor_take_name G_Cursor_offset G_Cursor___init__
  exact ok_law T (cL := cL_law) (PL := P_law) (Tb := [(P__law_right, "_law_right.<locals>.<lambda>"), (P_law, "law.<locals>.<lambda>")]) (by simp) hu_law ⟨⟨_, _, _, _, _, _, _, _, rfl, l_law, c_law⟩⟩ (tabB (cL_law, P_law) (by simp)) G__law_stream G__law_phrase G__law_right G__law_pick G_names_in
end K3
open PySem PySem.W PyProof.Rows
set_option maxHeartbeats 0
theorem PySem.Challenge.cw_markstream_k03_names_in_texts_holds : PySem.Challenge.rw_markstream_k03_names_in_texts.Holds := by
  w_on; o_law; k_head; (case hw => w_witness2)
  k_fill
  refine Mx.walkG (l := PySem.Challenge.rw_markstream_k03_names_in_texts) (n := 63) (k := 12) (x := "script") (CX := fun _ => L2.CX0) rfl (by decide) rfl ⟨⟨rfl, by decide, by decide⟩, rfl⟩ (fun w h Y => by first | exact PySem.W.km_in_of Y | exact PySem.W.kIn_of Y) ?F (fun _ _ _ _ _ z => z)
  case F =>
    rintro w mg mb fa h ⟨ls, mean, Tp⟩ Y KX G hmg
    refine' K3.all_mk (P__law_right := 478) (P_law := 485) KX G hmg (PySem.W.codeHd_of_K KX ?tab__law_right) (PySem.W.km_tabs_of Y _ (by decide)) ?np__law_right (by decide +kernel) (PySem.W.codeHd_of_K KX ?tab_law) (PySem.W.km_tabs_of Y _ (by decide)) ?np_law (by decide +kernel) ?a_check_text ?l_check_text ?c_check_text ?k_check_text ?a_part_end ?l_part_end ?c_part_end ?k_part_end ?a_name_end ?l_name_end ?c_name_end ?k_name_end ?a_names_in ?l_names_in ?c_names_in ?k_names_in ?a_is_between ?l_is_between ?q1_dfl_is_between ?c_is_between ?k_is_between ?a_check_number ?l_check_number ?q1_dfl_check_number ?c_check_number ?k_check_number ?a__law_mixed ?l__law_mixed ?c__law_mixed ?k__law_mixed ?a__law_stream ?l__law_stream ?c__law_stream ?k__law_stream ?a__law_draw ?l__law_draw ?c__law_draw ?k__law_draw ?a__law_signs ?l__law_signs ?c__law_signs ?k__law_signs ?a__law_pick ?l__law_pick ?c__law_pick ?k__law_pick ?a__law_is_part ?l__law_is_part ?c__law_is_part ?k__law_is_part ?a__law_is_name ?l__law_is_name ?c__law_is_name ?k__law_is_name ?a__law_told ?l__law_told ?c__law_told ?k__law_told ?a__law_phrase ?l__law_phrase ?c__law_phrase ?k__law_phrase ?a__law_end ?l__law_end ?c__law_end ?k__law_end ?a__law_names ?l__law_names ?c__law_names ?k__law_names ?a__law_first ?l__law_first ?c__law_first ?k__law_first ?a__law_right ?l__law_right ?c__law_right ?k__law_right ?a_law ?l_law ?c_law ?k_law ?n_isinstance ?n_str ?n_int ?n_bool ?n_len ?n_range ?n_max ?n_enumerate ?n_list ?n_super ?g_LETTERS ?g_INNER ?b_IllFormed ?b_InvalidText ?b_InvalidNumber ?b_MarkupError ?b_MarkupStateError ?b_LimitError ?b_InvalidKind ?b_Cursor ?m1 ?m2 ?m3 ?u1 ?u2 ?o1_IllFormed ?o2_IllFormed ?o3_IllFormed ?o4_IllFormed ?o5_IllFormed ?i1_IllFormed ?i2_IllFormed ?i3_IllFormed ?i4_IllFormed ?i5_IllFormed ?i6_IllFormed ?q1_IllFormed ?q2_IllFormed ?q3_IllFormed ?q4_IllFormed ?q5_IllFormed ?q6_IllFormed ?o1_InvalidText ?o2_InvalidText ?o3_InvalidText ?o4_InvalidText ?o5_InvalidText ?i1_InvalidText ?i2_InvalidText ?i3_InvalidText ?i4_InvalidText ?i5_InvalidText ?i6_InvalidText ?q1_InvalidText ?q2_InvalidText ?q3_InvalidText ?q4_InvalidText ?q5_InvalidText ?q6_InvalidText ?o1_InvalidNumber ?o2_InvalidNumber ?o3_InvalidNumber ?o4_InvalidNumber ?o5_InvalidNumber ?i1_InvalidNumber ?i2_InvalidNumber ?i3_InvalidNumber ?i4_InvalidNumber ?i5_InvalidNumber ?i6_InvalidNumber ?q1_InvalidNumber ?q2_InvalidNumber ?q3_InvalidNumber ?q4_InvalidNumber ?q5_InvalidNumber ?q6_InvalidNumber ?xe_InvalidText ?xs_InvalidText ?xk1_InvalidText ?xk2_InvalidText ?xe_IllFormed ?xs_IllFormed ?xk1_IllFormed ?wc_pg ?wc_hd ?wc_po ?wc_sa ?wc_na_own_text ?wc_na_begins ?wc_na_spot ?wc_mk ?wc_kp ?wc_mro ?wc_cls ?w1_Cursor___init__ ?w2_Cursor___init__ ?w3_Cursor___init__ ?w5_Cursor___init__ ?w6_Cursor___init__ ?w7_Cursor___init__ ?w8_Cursor___init__ ?w9_Cursor___init__ ?wt_Cursor___init__ ?wo_Cursor___init__ ?w1_Lines___init__ ?w2_Lines___init__ ?w3_Lines___init__ ?w4_Lines___init__ ?w5_Lines___init__ ?wy_Lines___init__ ?wf_Lines___init__ ?w1_Cursor_offset ?w6_Cursor_offset ?w7_Cursor_offset ?w8_Cursor_offset ?w2_Cursor_offset ?w3_Cursor_offset ?w4_Cursor_offset ?w5_Cursor_offset ?w1_Cursor_go_to ?w2_Cursor_go_to ?w3_Cursor_go_to ?w4_Cursor_go_to ?w5_Cursor_go_to ?w1_Cursor_passed_to ?w2_Cursor_passed_to ?w3_Cursor_passed_to ?w4_Cursor_passed_to ?w5_Cursor_passed_to ?w1_Cursor_take_name ?w2_Cursor_take_name ?w3_Cursor_take_name ?w4_Cursor_take_name ?w5_Cursor_take_name
    (case a_check_text => k_is)
    (case l_check_text => k_is)
    (case c_check_text => k_is)
    (case k_check_text => k_is)
    (case a_part_end => k_is)
    (case l_part_end => k_is)
    (case c_part_end => k_is)
    (case k_part_end => k_is)
    (case a_name_end => k_is)
    (case l_name_end => k_is)
    (case c_name_end => k_is)
    (case k_name_end => k_is)
    (case a_names_in => k_is)
    (case l_names_in => k_is)
    (case c_names_in => k_is)
    (case k_names_in => k_is)
    (case a_is_between => k_is)
    (case l_is_between => k_is)
    (case q1_dfl_is_between => kernel_rfl)
    (case c_is_between => k_is)
    (case k_is_between => k_is)
    (case a_check_number => k_is)
    (case l_check_number => k_is)
    (case q1_dfl_check_number => kernel_rfl)
    (case c_check_number => k_is)
    (case k_check_number => k_is)
    (case a__law_mixed => k_is)
    (case l__law_mixed => k_is)
    (case c__law_mixed => k_is)
    (case k__law_mixed => k_is)
    (case a__law_stream => k_is)
    (case l__law_stream => k_is)
    (case c__law_stream => k_is)
    (case k__law_stream => k_is)
    (case a__law_draw => k_is)
    (case l__law_draw => k_is)
    (case c__law_draw => k_is)
    (case k__law_draw => k_is)
    (case a__law_signs => k_is)
    (case l__law_signs => k_is)
    (case c__law_signs => k_is)
    (case k__law_signs => k_is)
    (case a__law_pick => k_is)
    (case l__law_pick => k_is)
    (case c__law_pick => k_is)
    (case k__law_pick => k_is)
    (case a__law_is_part => k_is)
    (case l__law_is_part => k_is)
    (case c__law_is_part => k_is)
    (case k__law_is_part => k_is)
    (case a__law_is_name => k_is)
    (case l__law_is_name => k_is)
    (case c__law_is_name => k_is)
    (case k__law_is_name => k_is)
    (case a__law_told => k_is)
    (case l__law_told => k_is)
    (case c__law_told => k_is)
    (case k__law_told => k_is)
    (case a__law_phrase => k_is)
    (case l__law_phrase => k_is)
    (case c__law_phrase => k_is)
    (case k__law_phrase => k_is)
    (case a__law_end => k_is)
    (case l__law_end => k_is)
    (case c__law_end => k_is)
    (case k__law_end => k_is)
    (case a__law_names => k_is)
    (case l__law_names => k_is)
    (case c__law_names => k_is)
    (case k__law_names => k_is)
    (case a__law_first => k_is)
    (case l__law_first => k_is)
    (case c__law_first => k_is)
    (case k__law_first => k_is)
    (case a__law_right => k_is)
    (case l__law_right => k_is)
    (case c__law_right => k_is)
    (case k__law_right => k_is)
    (case a_law => k_is)
    (case l_law => k_is)
    (case c_law => k_is)
    (case k_law => k_is)
    (case n_isinstance => k_is)
    (case n_str => k_is)
    (case n_int => k_is)
    (case n_bool => k_is)
    (case n_len => k_is)
    (case n_range => k_is)
    (case n_max => k_is)
    (case n_enumerate => k_is)
    (case n_list => k_is)
    (case n_super => k_is)
    (case g_LETTERS => k_is)
    (case g_INNER => k_is)
    (case b_IllFormed => k_is)
    (case b_InvalidText => k_is)
    (case b_InvalidNumber => k_is)
    (case b_MarkupError => k_is)
    (case b_MarkupStateError => k_is)
    (case b_LimitError => k_is)
    (case b_InvalidKind => k_is)
    (case b_Cursor => k_is)
    (case m1 => k_is)
    (case m2 => k_is)
    (case m3 => k_is)
    (case u1 => k_is)
    (case u2 => k_is)
    (case o1_IllFormed => k_is)
    (case o2_IllFormed => k_is)
    (case o3_IllFormed => k_is)
    (case o4_IllFormed => k_is)
    (case o5_IllFormed => k_is)
    (case i1_IllFormed => k_is)
    (case i2_IllFormed => k_is)
    (case i3_IllFormed => k_is)
    (case i4_IllFormed => k_is)
    (case i5_IllFormed => k_is)
    (case i6_IllFormed => k_is)
    (case q1_IllFormed => kernel_rfl)
    (case q2_IllFormed => k_is)
    (case q3_IllFormed => k_is)
    (case q4_IllFormed => k_is)
    (case q5_IllFormed => k_is)
    (case q6_IllFormed => k_is)
    (case o1_InvalidText => k_is)
    (case o2_InvalidText => k_is)
    (case o3_InvalidText => k_is)
    (case o4_InvalidText => k_is)
    (case o5_InvalidText => k_is)
    (case i1_InvalidText => k_is)
    (case i2_InvalidText => k_is)
    (case i3_InvalidText => k_is)
    (case i4_InvalidText => k_is)
    (case i5_InvalidText => k_is)
    (case i6_InvalidText => k_is)
    (case q1_InvalidText => kernel_rfl)
    (case q2_InvalidText => k_is)
    (case q3_InvalidText => k_is)
    (case q4_InvalidText => k_is)
    (case q5_InvalidText => k_is)
    (case q6_InvalidText => k_is)
    (case o1_InvalidNumber => k_is)
    (case o2_InvalidNumber => k_is)
    (case o3_InvalidNumber => k_is)
    (case o4_InvalidNumber => k_is)
    (case o5_InvalidNumber => k_is)
    (case i1_InvalidNumber => k_is)
    (case i2_InvalidNumber => k_is)
    (case i3_InvalidNumber => k_is)
    (case i4_InvalidNumber => k_is)
    (case i5_InvalidNumber => k_is)
    (case i6_InvalidNumber => k_is)
    (case q1_InvalidNumber => kernel_rfl)
    (case q2_InvalidNumber => k_is)
    (case q3_InvalidNumber => k_is)
    (case q4_InvalidNumber => k_is)
    (case q5_InvalidNumber => k_is)
    (case q6_InvalidNumber => k_is)
    (case xe_InvalidText => kernel_rfl)
    (case xs_InvalidText => first | k_is | kernel_rfl)
    (case xk1_InvalidText => kernel_rfl)
    (case xk2_InvalidText => kernel_rfl)
    (case xe_IllFormed => kernel_rfl)
    (case xs_IllFormed => first | k_is | kernel_rfl)
    (case xk1_IllFormed => kernel_rfl)
    (case wc_pg => first | k_is | kernel_rfl)
    (case wc_hd => first | k_is | kernel_rfl)
    (case wc_po => first | k_is | kernel_rfl)
    (case wc_sa => first | k_is | kernel_rfl)
    (case wc_na_own_text => first | k_is | kernel_rfl)
    (case wc_na_begins => first | k_is | kernel_rfl)
    (case wc_na_spot => first | k_is | kernel_rfl)
    (case wc_mk => first | k_is | kernel_rfl)
    (case wc_kp => first | k_is | kernel_rfl)
    (case wc_mro => first | k_is | kernel_rfl)
    (case wc_cls => first | k_is | kernel_rfl)
    (case w1_Cursor___init__ => first | k_is | kernel_rfl)
    (case w2_Cursor___init__ => first | k_is | kernel_rfl)
    (case w3_Cursor___init__ => first | k_is | kernel_rfl)
    (case w5_Cursor___init__ => first | k_is | kernel_rfl)
    (case w6_Cursor___init__ => first | k_is | kernel_rfl)
    (case w7_Cursor___init__ => first | rfl | kernel_rfl)
    (case w8_Cursor___init__ => first | kernel_rfl | rfl | decide +kernel)
    (case w9_Cursor___init__ => first | k_is | kernel_rfl)
    (case wt_Cursor___init__ => first | kernel_rfl | rfl | decide +kernel)
    (case wo_Cursor___init__ => first | k_is | kernel_rfl)
    (case w1_Lines___init__ => first | ks_is | kernel_rfl)
    (case w2_Lines___init__ => first | k_is | kernel_rfl)
    (case w3_Lines___init__ => first | k_is | kernel_rfl)
    (case w4_Lines___init__ => first | k_is | kernel_rfl)
    (case w5_Lines___init__ => first | k_is | kernel_rfl)
    (case wy_Lines___init__ => first | k_is | kernel_rfl)
    (case wf_Lines___init__ => first | k_is | kernel_rfl)
    (case w1_Cursor_offset => first | k_is | kernel_rfl)
    (case w6_Cursor_offset => first | k_is | kernel_rfl)
    (case w7_Cursor_offset => first | k_is | kernel_rfl)
    (case w8_Cursor_offset => first | k_is | kernel_rfl)
    (case w2_Cursor_offset => first | k_is | kernel_rfl)
    (case w3_Cursor_offset => first | k_is | kernel_rfl)
    (case w4_Cursor_offset => first | k_is | kernel_rfl)
    (case w5_Cursor_offset => first | k_is | kernel_rfl)
    (case w1_Cursor_go_to => first | k_is | kernel_rfl)
    (case w2_Cursor_go_to => first | k_is | kernel_rfl)
    (case w3_Cursor_go_to => first | k_is | kernel_rfl)
    (case w4_Cursor_go_to => first | k_is | kernel_rfl)
    (case w5_Cursor_go_to => first | k_is | kernel_rfl)
    (case w1_Cursor_passed_to => first | k_is | kernel_rfl)
    (case w2_Cursor_passed_to => first | k_is | kernel_rfl)
    (case w3_Cursor_passed_to => first | k_is | kernel_rfl)
    (case w4_Cursor_passed_to => first | k_is | kernel_rfl)
    (case w5_Cursor_passed_to => first | k_is | kernel_rfl)
    (case w1_Cursor_take_name => first | k_is | kernel_rfl)
    (case w2_Cursor_take_name => first | k_is | kernel_rfl)
    (case w3_Cursor_take_name => first | k_is | kernel_rfl)
    (case w4_Cursor_take_name => first | k_is | kernel_rfl)
    (case w5_Cursor_take_name => first | k_is | kernel_rfl)
    (case np__law_right => kernel_rfl)
    (case tab__law_right => kernel_rfl)
    (case np_law => kernel_rfl)
    (case tab_law => kernel_rfl)
