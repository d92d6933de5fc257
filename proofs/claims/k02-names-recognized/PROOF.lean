import PyProof.Rows.All
import Wide.All
import OpenK.AllK
import Wide.FinOn
import HandS.ForMost
import HandS.ForExc
import HandS.Lambda
import HandS.IsInst
import HandS.Defaults
import HandS.ExcInit
import HandS.TryMany
import HandS.StrMore
import PyProof.ReprRoads
import PyProof.Draws
import KE.KExcIs
import HandS.EndTab
import HandS.Walk
import PySem.Challenge.RW_markstream_k02_names_recognized
set_option Elab.async false
set_option linter.all false
set_option maxRecDepth 100000
set_option maxHeartbeats 4000000
namespace Mx
open PySem PySem.Spec PyProof.Rows L2

/-! ### promises that may lean on an empty list of guards (repr) -/
structure RmG (k : Nat) (A : Around) : Prop where
  r : Room k A
  g : A.guards = some []
theorem RmG.mono {j k : Nat} {A : Around} (h : RmG k A) (l : j ≤ k) : RmG j A := ⟨h.r.mono l, h.g⟩
theorem RmG.deeper {k : Nat} {A : Around} (h : RmG (k + 1) A) (env : Env) : RmG k (A.deeper env) := ⟨h.r.deeper env, h.g⟩

structure FnG (P : Program) (w : World) (K : PySem.W.Frag) (mg : Str → Option Value) (base : Heap) (CX : CXT) (k : Nat) (f : Addr) (fd : FuncData) (ps : List Str) (sp : Sp) : Prop where
  len : ∀ vs H Q E, sp vs H Q E → vs.length = ps.length
  run : ∀ (A : Around) (outer : List Env) (s : Shared) (H : Hp) (args : Args) (us : List Value) (vs : List V) (Q : VK) (E : XK),
    RmG k A → Env0 P w K mg base A outer s H → BindsTo s fd args (ps.zip us) → Vals vs us → sp vs H Q E →
    codeAny (model P w) A (.call (.ref f) args) (CR CX outer P w H s Q E) s
theorem FnG.of {P : Program} {w : World} {K : PySem.W.Frag} {mg : Str → Option Value} {base : Heap} {CX : CXT} {j k : Nat} {f : Addr} {fd : FuncData} {ps : List Str} {sp : Sp}
    (F : FnOk P w K mg base CX j f fd ps sp) (h : j ≤ k) : FnG P w K mg base CX k f fd ps sp :=
  ⟨F.len, fun A o s H as us vs Q E hr => F.run A o s H as us vs Q E (hr.r.mono h)⟩
theorem FnG.mono {P : Program} {w : World} {K : PySem.W.Frag} {mg : Str → Option Value} {base : Heap} {CX : CXT} {j k : Nat} {f : Addr} {fd : FuncData} {ps : List Str} {sp : Sp}
    (F : FnG P w K mg base CX j f fd ps sp) (h : j ≤ k) : FnG P w K mg base CX k f fd ps sp :=
  ⟨F.len, fun A o s H as us vs Q E hr => F.run A o s H as us vs Q E (hr.mono h)⟩

section
variable {X : Cx} {CX : CXT} {k : Nat} {f C : Addr} {fd : FuncData} {ps ks : List Str} {sp : Sp} {dvs : List V} {ds : List Value} {E : XK} {x m : Str} {p pos apos : Pos} {e o : Expr} {es : List Expr} {kws : List Keyword} {ta : TE} {t tk : TA}
  {g : List Value → List Value → List Value} {gV : List V → List V → List V}
/-- the answer of a callee's run, for the caller -/
theorem back {pins : List (Addr × Obj)} {σ : L2.St} {H : Hp} {s : Shared} {Q : VK} (hx : Passes CX X E) (I : Inv X pins σ H s) :
    ∀ (r : Result) (s' : Shared), CR CX X.stack X.prog X.w H s Q E r s' → (match r with | .ok (.ret u) => EP X pins σ Q u s' | .ok _ => False | .error e => X.xe e s')
  | .error _, _, h => hx _ _ _ _ _ _ I h
  | .ok (.ret _), _, h => I.after h
  | .ok .next, _, h => h
  | .ok .brk, _, h => h
  | .ok .cont, _, h => h
theorem runKW {pins : List (Addr × Obj)} {σ : L2.St} {H : Hp} {s : Shared} {Q : VK} {us ws : List Value} {vs zs : List V} (F : FnG X.prog X.w X.K X.mg X.base CX k f fd ps sp)
    (hr : RmG k X.A) (hb : KBinds X.K fd ps ks g gV) (hx : Passes CX X E) (I : Inv X pins σ H s) (r : Vals vs us) (rz : Vals zs ws) (h : sp (gV vs zs) H Q E) :
    wpAny (model X.prog X.w) X.A (call (.ref f) us (ks.zip ws)) (EP X pins σ Q) X.xe s := by
  have r2 := hb.rel r rz
  have hl : (g us ws).length = ps.length := r2.length.symm.trans (F.len _ _ _ _ h)
  refine wpAny_call (codeAny_mono (F.run _ _ _ _ _ _ _ _ _ hr I.env0 (hb.to s us ws I.kIn hl) r2 h) fun q s' hq => ?_)
  exact back hx I q s' hq
theorem runPos {pins : List (Addr × Obj)} {σ : L2.St} {H : Hp} {s : Shared} {Q : VK} {us : List Value} {vs : List V} (F : FnG X.prog X.w X.K X.mg X.base CX k f fd ps sp)
    (hr : RmG k X.A) (hb : Binds X.K fd ps ds) (hd : Vals dvs ds) (hx : Passes CX X E) (I : Inv X pins σ H s) (r : Vals vs us) (h : sp (vs ++ dvs) H Q E) :
    wpAny (model X.prog X.w) X.A (call (.ref f) us) (EP X pins σ Q) X.xe s := by
  have r2 : Vals (vs ++ dvs) (us ++ ds) := r.append hd
  have hl : (us ++ ds).length = ps.length := r2.length.symm.trans (F.len _ _ _ _ h)
  refine wpAny_call (codeAny_mono (F.run _ _ _ _ _ _ _ _ _ hr I.env0 (hb s us I.kIn hl) r2 h) fun q s' hq => ?_)
  exact back hx I q s' hq
/-- f(e, ..) of such a def -/
theorem pg_call (F : FnG X.prog X.w X.K X.mg X.base CX k f fd ps sp) (hr : RmG k X.A) (hg : Gl X x) (hm : X.mg x = some (.ref f)) (hk : PySem.W.keepIn X.K (.ref f) = true)
    (hb : Binds X.K fd ps ds) (hd : Vals dvs ds) (hx : Passes CX X E) (ha : PA X (e :: es) t) (hdb : (x == ("__debug__" : Str)) = false := by decide)
    (he : starEach (e :: es) X.env = (false, eval e X.env) :: starEach es X.env := by rfl) (hpl : (backTo pos (starEach es X.env)).any (·.1) = false := by rfl) :
    PE X (.Call (.Name x p) (e :: es) [] pos) (tCall sp dvs E t) :=
  ⟨fun pins s σ H Q I h => wpAny_Call_Name_kw (ld_glob I hg hm (PySem.W.callWith_K (h₀ := X.base) I.ok.mod.kin hk
    (thn (ha.run pos pins s σ H _ I h) fun us s1 ⟨vs, H1, I1, r, q⟩ => ⟨I1.kIn, runPos F hr hb hd hx I1 r q⟩) he hpl) hdb)⟩
theorem pg_call0 (F : FnG X.prog X.w X.K X.mg X.base CX k f fd ps sp) (hr : RmG k X.A) (hg : Gl X x) (hm : X.mg x = some (.ref f)) (hk : PySem.W.keepIn X.K (.ref f) = true)
    (hb : Binds X.K fd ps ds) (hd : Vals dvs ds) (hx : Passes CX X E) (hdb : (x == ("__debug__" : Str)) = false := by decide) : PE X (.Call (.Name x p) [] [] pos) (tCall sp dvs E tNil) :=
  ⟨fun pins s σ H Q I h => wpAny_Call_Name_kw (ld_glob I hg hm (PySem.W.callWith_K0 I.kIn hk (runPos (us := []) F hr hb hd hx I .nil h)) hdb)⟩
/-- f(k = v, ..), no positional argument -/
theorem pe_kw0 (F : FnOk X.prog X.w X.K X.mg X.base CX k f fd ps sp) (hr : Room k X.A) (hg : Gl X x) (hm : X.mg x = some (.ref f)) (hk : PySem.W.keepIn X.K (.ref f) = true)
    (hb : KBinds X.K fd ps ks g gV) (hx : Passes CX X E) (hkw : PK X kws tk) (hall : (backToKw pos (keywordEach kws X.env)).all (·.1.isSome) = true := by rfl)
    (hks : (backToKw pos (keywordEach kws X.env)).filterMap (·.1) = ks := by rfl) (hdb : (x == ("__debug__" : Str)) = false := by decide)
    (hpl : ((backTo pos (starEach [] X.env)).any (·.1) || (backToKw pos (keywordEach kws X.env)).any (·.1.isNone)) = false := by rfl) :
    PE X (.Call (.Name x p) [] kws pos) (tCallK sp gV E tNil tk) :=
  ⟨fun pins s σ H Q I h => wpAny_Call_Name_kw (ld_glob I hg hm (PySem.W.callWith_KW0 (h₀ := X.base) I.ok.mod.kin hk hall
    (thn (hkw.run pos pins s σ H _ I h) fun ws s1 ⟨zs, H1, I1, rz, q⟩ => ⟨I1.kIn, by rw [hks]; exact run_fnk F hr hb hx I1 .nil rz q⟩) hpl) hdb)⟩
end

section
variable {P : Program} {w : World} {K : PySem.W.Frag} {mg : Str → Option Value} {base : Heap}
/-- a def by its body, with the guards told -/
theorem okG {CX : CXT} {x qual : Str} {st : Stmt} {f : Addr} {fd : FuncData} {N ps : List Str} {k : Nat} {sp : Sp} (F : Fun K x qual st f fd) (S : FnScope N ps (defScope st)) (len : ∀ vs H Q E, sp vs H Q E → vs.length = ps.length)
    (hbody : ∀ (cdv : Value) (A : Around) (outer : List Env) (s : Shared) (H : Hp) (vs : List V) (Q : VK) (E : XK), RmG k (A.deeper (envOfC qual (defScope st) s.heap.objs.size f cdv)) → sp vs H Q E →
      ∃ t, PSs (cxOf CX P w K mg base N qual (defScope st) f cdv A outer s H E) (defBody st) t ∧ t { nx := fun _ H' => Q .non H', rt := Q } (start N vs) H) : FnG P w K mg base CX (k + 1) f fd ps sp := by
  obtain ⟨oc, od, kV, doc, pm, an, cdv, ct, osl, rfl, lk, hcd⟩ := F.ex
  refine ⟨len, fun A outer s H args us vs Q E hr e0 hb r hsp => ?_⟩
  have KX : K.In s.heap := e0.mod.kin.keeps fun b o e => (e0.bs b o e).1
  have hk : ((ps.zip us).all fun y => (defScope st).names.lookup y.1 == some .local || (defScope st).names.lookup y.1 == some .cell) = true := List.all_eq_true.mpr fun y hy => by
    rcases S.par y.1 (List.of_mem_zip (a := y.1) (b := y.2) hy).1 with q | q <;> rw [q] <;> rfl
  refine Att.call_fn KX (e0.mod.nolimit.keeps fun b o e => (e0.bs b o e).1) lk hcd hr.r.depth hb hk (fun s1 x => ?_) S.co S.gen S.kind
  obtain ⟨t, ht, hq⟩ := hbody cdv A outer s H vs Q E (hr.deeper _) hsp
  have I := inv_start (CX := CX) (E := E) (f := f) (cd := cdv) (qual := qual) (outer := outer) S hr.r.hd e0 (len _ _ _ _ hsp) r x
  refine wpAny_mono (ht.run [] s1 _ H _ I hq) (fun fl s' hs => ?_) fun _ _ hs => hs
  cases fl with
  | ret u =>
    obtain ⟨v, _, H', J, rv, q⟩ := hs
    exact ⟨v, H', J.os, J.bare, J.base, J.hok, rv, q⟩
  | next =>
    obtain ⟨_, H', J, q⟩ := hs
    exact ⟨.non, H', J.os, J.bare, J.base, J.hok, rfl, q⟩
  | brk => exact hs.elim fun _ h => h.elim fun _ h => False.elim h.2
  | cont => exact hs.elim fun _ h => h.elim fun _ h => False.elim h.2
end
end Mx

namespace Mx
open PySem PySem.Spec PyProof.Rows L2

/-! ### operators -/
/-- a list that may be read, its object told whole -/
def LsX (K : PySem.W.Frag) (H : Hp) (a : Addr) (xs : List V) : Prop := Rd H a (.lst xs) ∨
  ∃ (its : List Value) (n : Nat), K.lookup a = some { cls := .type "list", data := .seq its.toArray n } ∧ xs.length ≤ sizeLine ∧ Vals xs its
theorem LsX.of {K : PySem.W.Frag} {H : Hp} {a : Addr} {xs : List V} (h : H a = some (.lst xs)) : LsX K H a xs := .inl (.inl h)
theorem LsX.sq {K : PySem.W.Frag} {H : Hp} {a : Addr} {xs : List V} (h : LsX K H a xs) : SqL K H a xs := by
  rcases h with h | ⟨its, n, h, z, r⟩
  · exact .inl h
  · exact .inr ⟨_, its.toArray, n, h, rfl, rfl, rfl, by rw [List.size_toArray, ← r.length]; exact z, by simpa using r⟩
theorem LsX.at {X : Cx} {pins : List (Addr × Obj)} {σ : L2.St} {H : Hp} {s : Shared} {a : Addr} {xs : List V} (I : Inv X pins σ H s) (h : LsX X.K H a xs) :
    ∃ (its : List Value) (n : Nat), Vals xs its ∧ xs.length ≤ sizeLine ∧ s.heap.get? a = some { cls := .type "list", data := .seq its.toArray n } := by
  rcases h with h | ⟨its, n, h, z, r⟩
  · obtain ⟨z, its, n, r, e⟩ := h.ok I.hok
    exact ⟨its, n, r, z, e⟩
  · exact ⟨its, n, r, z, I.kIn _ _ h⟩
theorem LsX.keep {K : PySem.W.Frag} {H H' : Hp} {a : Addr} {xs : List V} (h : LsX K H a xs) (e : ∀ o, H a = some o → H' a = some o) : LsX K H' a xs := by
  rcases h with (h | ⟨o, h⟩) | h
  · exact .inl (.inl (e _ h))
  · exact .inl (.inr ⟨o, e _ h⟩)
  · exact .inr h
/-- two lists, read alone, one behind the other -/
def rCatR (K : PySem.W.Frag) : R2 := fun x y H Q => ∃ a b xs ys, x = .ref a ∧ y = .ref b ∧ LsX K H a xs ∧ LsX K H b ys ∧ xs.length + ys.length ≤ sizeLine ∧
  ∀ p, H p = none → Q (.ref p) (upd H p (.lst (xs ++ ys)))
theorem op_catR {X : Cx} : OpR X (binaryOp .Add) (rCatR X.K) := by
  intro pins s σ H x y v u Q I rx ry h
  obtain ⟨a, b, xs, ys, rfl, rfl, hA, hB, hz, q⟩ := h
  cases rx
  cases ry
  obtain ⟨ia, na, ra, za, ea⟩ := hA.at I
  obtain ⟨ib, nb, rb, zb, eb⟩ := hB.at I
  refine PySem.P.add_list ea eb ?_ (by rw [List.size_toArray, List.size_toArray, ← ra.length, ← rb.length]; exact hz)
  rw [show ia.toArray ++ ib.toArray = (ia ++ ib).toArray from by simp]
  exact ⟨.ref _, _, I.lnew (t' := s.toks) (ra.append rb) (by rw [List.length_append]; exact hz), rfl, q _ I.fresh⟩

/-! ### repr of data -/
def rRepr (K : PySem.W.Frag) : List V → Hp → VK → Prop := fun xs H Q => ∃ (a : Addr) (d : PyData), xs = [.ref a] ∧ Dp K H (.ref a) d ∧ d.showable = true ∧ d.hasDict = false ∧ d.depth ≤ 60 ∧ d.shown.length ≤ sizeLine ∧ Q (.str d.shown) H
theorem call_repr {X : Cx} {k : Nat} (hr : RmG k X.A) : CallR X (.builtin "repr") (rRepr X.K) := by
  intro pins s σ H vs us Q I r h
  obtain ⟨a, d, rfl, hd, h1, h2, h3, h4, q⟩ := h
  cases r with
  | cons ra rn =>
    cases rn
    cases ra
    obtain ⟨as, hr2⟩ := Dp.reads I d _ _ hd rfl
    have hu := hr.r.un
    refine repr_of_reads' hr2 h1 (PyData.noDict_hsm h2) hr.g (by omega) (fun _ _ e => e) (fun h' u tk hk => ?_) h4
    exact ⟨.str d.shown, H, I.kept hk, ⟨u, rfl⟩, q⟩

/-! ### enumerate of a text -/
def Itet (x : Str) : It :=
  ⟨fun i _ => i < x.cps.size, fun i H v H' => ∃ T c, v = .ref T ∧ H T = none ∧ x.cps[i]? = some c ∧ H' = upd H T (.tup [.int (i : Nat), .str ⟨#[c]⟩]), fun i _ => i = x.cps.size⟩
def IsEt (x : Str) (t : Tok) (e it : Addr) (i : Nat) (h : Heap) : Prop :=
  (∃ old, IsEnum h e it ((i : Nat) : Int) old) ∧ h.IsStrIter it (strIterType x) x t i ∧ e ≠ it
theorem drawsS {prog : Program} {w : World} {A : Around} (hh : A.handled = none) (it : Addr) (x : Str) (t : Tok) :
    Draws prog w A it [it] x.cps.size (fun i v => ∃ c u, x.cps[i]? = some c ∧ v = .str ⟨#[c]⟩ u) (fun i h => h.IsStrIter it (strIterType x) x t i) := by
  have z : strIterType x = "str_ascii_iterator" ∨ strIterType x = "str_iterator" := by
    unfold strIterType
    split <;> simp
  rcases z with e | e <;> rw [e]
  · exact Draws.strAscii hh it x t
  · exact Draws.strWide hh it x t
theorem turn_et {P : Program} {w : World} {K : PySem.W.Frag} {elts : List Expr} {kk : Nat} {tpos : Pos} (x : Str) (t : Tok) (e it : Addr) :
    Turn P w K (.Tuple elts kk tpos) (Itet x) [e, it] e (IsEt x t e it) where
  mem := by simp
  obj := fun i h st b hb => by
    obtain ⟨⟨old, he⟩, ⟨o, ho, hc, hd⟩, _⟩ := st
    rcases List.mem_cons.mp hb with z | z
    · exact ⟨_, z ▸ he, fun v q => by cases q⟩
    · exact ⟨o, (List.mem_singleton.mp z) ▸ ho, fun v q => by rw [hd] at q; cases q⟩
  keep := fun i h h' st k => ⟨let ⟨old, he⟩ := st.1; ⟨old, k e (by simp) _ he⟩, let ⟨o, ho, r⟩ := st.2.1; ⟨o, k it (by simp) _ ho, r⟩, st.2.2⟩
  item := by
    intro X hP hw hK hc i pins s σ H E I hf st hg
    subst hP hw hK
    obtain ⟨⟨old, he⟩, hit, hne⟩ := st
    have le : e < s.heap.objs.size := Heap.lt_size he
    have li : it < s.heap.objs.size := by obtain ⟨_, q, _⟩ := id hit; exact Heap.lt_size q
    have D := drawsS (prog := X.prog) (w := X.w) (A := X.A.in1) (I.ok.hd hc) it x t
    refine wpAny_pyNext_enum_itemD D he hit hg hne (by simpa using hne) fun z h' tk hz ho hit' hT hsz hk => ?_
    obtain ⟨c, u, hcx, rfl⟩ := hz
    refine ⟨_, rfl, wpAny_letOwnedTupleGo_enum (s := { s with heap := h', toks := tk + 1 }) ho fun h'' he' sb => ?_⟩
    have hT2 : h''.get? s.heap.objs.size = some { cls := .type "tuple", data := .seq #[.int i tk, .str ⟨#[c]⟩ u] } := (sb.2 _ (Nat.ne_of_gt le)).trans hT
    have new : ObjOk X.prog X.w (upd H s.heap.objs.size (.tup [.int (i : Nat), .str ⟨#[c]⟩])) h'' s.heap.objs.size (.tup [.int (i : Nat), .str ⟨#[c]⟩]) :=
      ⟨(by decide : 2 ≤ sizeLine), _, .cons ⟨_, rfl⟩ (.cons ⟨_, rfl⟩ .nil), _, hT2, rfl, _, rfl⟩
    have J : Inv X pins σ (upd H s.heap.objs.size (.tup [.int (i : Nat), .str ⟨#[c]⟩])) { s with heap := h'', toks := tk + 1 } :=
      I.turnedNew (ch := [e, it]) (fun b ob hb q => (sb.2 b (fun y => hb (by simp [y]))).trans (hk b ob (fun y => hb (by simp [y])) (fun y => hb (by simp [y])) q)) hf (Nat.le_refl _) new
    refine ⟨.ref s.heap.objs.size, _, J, rfl, ⟨_, c, rfl, I.hok.fresh (Nat.le_refl _), hcx, rfl⟩, ⟨⟨.str ⟨#[c]⟩ u, ?_⟩, ?_, hne⟩, fun b hb => ?_⟩
    · have e1 : ((i + 1 : Nat) : Int) = (i : Int) + 1 := by omega
      rw [e1]
      exact he'
    · obtain ⟨o, q, r⟩ := hit'
      exact ⟨o, (sb.2 it (Ne.symm hne)).trans q, r⟩
    · have lb : b < s.heap.objs.size := by
        rcases List.mem_cons.mp hb with z | z
        · exact z ▸ le
        · exact (List.mem_singleton.mp z) ▸ li
      rw [upd_ne (Nat.ne_of_lt lb)]
      exact (hf b hb).1
  done := by
    intro X hP hw hK hc i pins s σ H E I hf st hg
    subst hP hw hK
    obtain ⟨⟨old, he⟩, hit, hne⟩ := st
    have hg' : i = x.cps.size := hg
    subst hg'
    obtain ⟨f0, f1, f2, f3, f4, f5⟩ := hf it (by simp)
    exact wpAny_pyNext_enum_endD (St := fun i h => h.IsStrIter it (strIterType x) x t i) (drawsS (A := X.A.in1) (I.ok.hd hc) it x t) he hit fun h' eb => ⟨rfl, I.turned (t' := s.toks) (fun b o hb q => eb b o hb q) f0 f1 f3 f4 f5⟩
  self := fun A i s Q E st h => let ⟨⟨_, he⟩, _⟩ := st; wpAny_pyIter_enum he h
def iEt (ta : TA) : TI := fun σ H R => ta σ H fun vs H1 => ∃ x, vs = [.str x] ∧ R (Itet x) H1
theorem pi_enumT {X : Cx} {e : Expr} {ta : TA} {p pos tpos : Pos} {elts : List Expr} {kk : Nat} (hg : Gl X "enumerate") (hm : X.mg "enumerate" = none) (ha : PA X [e] ta)
    (hs : starEach [e] X.env = [(false, eval e X.env)] := by rfl) : PI X (.Tuple elts kk tpos) (.Call (.Name "enumerate" p) [e] [] pos) (iEt ta) := by
  refine ⟨fun pins s σ H R I h => Call_ (ld_blt I hg hm boot_enumerate (PyProof.Rows.callWith_type1 (thn (ha.run pos pins s σ H _ I h) fun us s1 ⟨vs, H1, I1, r1, q1⟩ => ?_) hs rfl))⟩
  obtain ⟨x, ex, q⟩ := q1
  subst ex
  cases r1 with
  | cons r rr =>
    cases rr
    obtain ⟨t, rfl⟩ := r
    refine call_enumerate_str fun h' he hit hsz hk => wpAny_pyIter_enum he ?_
    have I2 : Inv X pins σ H1 { s1 with heap := h' } := I1.kept (t' := s1.toks) hk
    refine ⟨s1.heap.objs.size + 1, [s1.heap.objs.size + 1, s1.heap.objs.size], _, _, H1, rfl, I2, turn_et x t (s1.heap.objs.size + 1) s1.heap.objs.size, ⟨⟨.none, he⟩, hit, Nat.succ_ne_self _⟩, fun b hb => ?_, q⟩
    have le : s1.heap.objs.size ≤ b := by
      rcases List.mem_cons.mp hb with z | z
      · rw [z]; exact Nat.le_add_right _ _
      · rw [List.mem_singleton.mp z]; exact Nat.le_refl _
    exact I1.fpOk le (I1.hok.fresh le)
end Mx

namespace Mx
open PySem PySem.Spec PyProof.Rows L2

/-! ### exceptions whose __init__ calls that of their base by its name -/
/-- a base class over ValueError, read by its name -/
structure BaseT (K : PySem.W.Frag) (mg : Str → Option Value) (bn : Str) (CM : Addr) : Prop where
  mgM : mg bn = some (.ref CM)
  rd : PySem.W.readsIn K CM (.type "type") = true
  ga : PySem.W.specialIn K (.ref CM) "__getattribute__" = some (some (.builtin "type.__getattribute__"))
  at_ : PySem.W.findCls K (.ref CM) (.type "type") "__init__" = some (.val (.builtin "ValueError.__init__"))
section
variable {X : Cx} {o e : Expr} {es : List Expr} {ta : TA} {p1 p2 pos : Pos}
theorem pe_minit {bn : Str} {CM : Addr} {pl : Sem Bool} (T : BaseT X.K X.mg bn CM) (hg : Gl X bn) (ha : PA X (e :: es) ta)
    (hc : eval (.Call (.Attribute (.Name bn p1) "__init__" p2) (e :: es) [] pos) X.env = (do
      let ov ← eval (.Name bn p1) X.env
      standAt p2.atName
      let (f, first) ← holding [ov] (getMethod ov "__init__" pl)
      callWith pos f first (backTo pos (starEach (e :: es) X.env)) (backToKw pos (keywordEach [] X.env))) := by rfl)
    (he : starEach (e :: es) X.env = (false, eval e X.env) :: starEach es X.env := by rfl) (hpl : (backTo pos (starEach es X.env)).any (·.1) = false := by rfl)
    (hdb : (bn == ("__debug__" : Str)) = false := by decide) :
    PE X (.Call (.Attribute (.Name bn p1) "__init__" p2) (e :: es) [] pos) (tVeI X.K ta) := by
  refine ⟨fun pins s σ H Q I h => PySem.W.methodCall_KW (ld_glob I hg T.mgM ?_ hdb) hc⟩
  refine PySem.W.method_cls I.kIn T.ga (PySem.W.cls_value I.kIn T.rd T.at_ (by decide +kernel) ?_)
  refine PyProof.Rows.callWith_method1 (thn (ha.run pos pins _ σ H _ (I.tok _) h) fun us s1 ⟨vs, H1, I1, r1, a, C, ws, ev, hl, Tc, ea, q⟩ => ?_) he hpl
  subst ev
  cases r1 with
  | @cons _ u0 _ ur ra rw' =>
    obtain rfl : u0 = Value.ref a := ra
    have hz : ur.length ≤ sizeLine := by
      rw [← Paired.length rw']
      exact Nat.le_trans hl (by decide)
    exact oinit_ok Tc I1 ea hz fun s' J => ⟨.non, H1, J, rfl, q⟩
end
/-- what __init__(self, f) keeps -/
def spXI (K : PySem.W.Frag) (C : Addr) (f : Str) : Sp := fun vs H Q _ => ∃ (a : Addr) (y : V), vs = [.ref a, y] ∧ OexC K C ∧ H a = some (exo a C none) ∧
  ∀ dx, H dx = none → dx ≠ a → Q .non (upd (upd H dx (exd dx [(f, y)])) a (exo a C (some dx)))
/-- the facts of such a class with one field -/
structure ExT (P : Program) (w : World) (K : PySem.W.Frag) (mg : Str → Option Value) (base : Heap) (cn f : Str) (C fI : Addr) (fd : FuncData) (ps : List Str) : Prop where
  oex : OexC K C
  mgC : mg cn = some (.ref C)
  iC : PySem.W.findIn K (.ref C) "__init__" = some (some (.ref fI))
  tI : PySem.W.typeIn K (.ref fI) = some (.type "function")
  ok : FnOk P w K mg base CX0 1 fI fd ps (spXI K C f)
  bI : Binds K fd ps []
/-- C(e): the exception's class, its own dict -/
def tXM (C : Addr) (f : Str) (ta : TA) : L2.St → Hp → XK → Prop := fun σ H Q => ta σ H fun vs H1 => ∃ y, vs = [y] ∧ ∀ d, H1 d = none → Q (.ref C) (some d) (upd H1 d (.xd [(f, y)]))
/-- arguments, the wish made weaker behind them -/
def aMono (ta : TA) : TA := fun σ H Q => ∃ Q0 : List V → Hp → Prop, ta σ H Q0 ∧ ∀ vs H1, Q0 vs H1 → Q vs H1
theorem pa_mono {X : Cx} {es : List Expr} {ta : TA} (ha : PA X es ta) : PA X es (aMono ta) :=
  ⟨fun pos pins s σ H Q I ⟨Q0, h, k⟩ => wpAny_mono (ha.run pos pins s σ H Q0 I h) (fun _ _ ⟨vs, H1, I1, r, q⟩ => ⟨vs, H1, I1, r, k _ _ q⟩) fun _ _ z => z⟩
theorem pmk_x {X : Cx} {e : Expr} {ta : TA} {p pos : Pos} {cn f : Str} {C fI : Addr} {fd : FuncData} {ps : List Str} (T : ExT X.prog X.w X.K X.mg X.base cn f C fI fd ps) (hr : Room 2 X.A) (hg : Gl X cn) (ha : PA X [e] ta)
    (hdb : (cn == ("__debug__" : Str)) = false := by decide) (he : starEach [e] X.env = (false, eval e X.env) :: starEach [] X.env := by rfl) (hpl : (backTo pos (starEach [] X.env)).any (·.1) = false := by rfl) :
    PMk X (.Call (.Name cn p) [e] [] pos) (tXM C f ta) := by
  intro pins s σ H Q I h
  refine pmk_oex T.oex T.iC T.tI T.ok hr T.bI .nil pass0 hg T.mgC (pa_mono ha) hdb he hpl pins s σ H Q I ⟨_, h, fun vs H1 hq => ?_⟩
  obtain ⟨y, rfl, hq⟩ := hq
  refine ⟨(by show 1 ≤ 1000; omega), fun a ha => ⟨a, y, rfl, T.oex, upd_same, fun dx hx hn => ⟨rfl, dx, [(f, y)], upd_same, ?_, ?_, ?_⟩⟩⟩
  · rw [upd_ne hn, upd_same]
  · rw [upd_ne hn] at hx
    exact hx
  · rw [upd_ne hn] at hx
    have e1 : upd (L2.del (upd (upd (upd H1 a (exo a C none)) dx (exd dx [(f, y)])) a (exo a C (some dx))) a) dx (.xd [(f, y)]) = upd H1 dx (.xd [(f, y)]) := by
      funext b
      by_cases h1 : b = dx
      · rw [h1, upd_same, upd_same]
      · rw [upd_ne h1, upd_ne h1]
        by_cases h2 : b = a
        · rw [h2, del_same, ha]
        · rw [del_ne h2, upd_ne h2, upd_ne h1, upd_ne h2]
    rw [e1]
    exact hq dx hx
end Mx

namespace Mx
open PySem PySem.Spec PyProof.Rows L2

/-! ### a caught exception that is kept -/
/-- the object at a is an exception of the class cls, its dict at d -/
def xoO (a : Addr) (cls : Value) (d : Option Addr) : HO := .ext fun h => ∃ o vs, h.get? a = some o ∧ o.cls = cls ∧ o.dict = d ∧ o.data = .fields vs
theorem xo_at {P : Program} {w : World} {H : Hp} {h : Heap} {a : Addr} {cls : Value} {d : Option Addr} (hok : HOk P w H h) (e : H a = some (xoO a cls d)) :
    ∃ o vs, h.get? a = some o ∧ o.cls = cls ∧ o.dict = d ∧ o.data = .fields vs := by
  have x : ObjOk P w H h a (.ext fun h => ∃ o vs, h.get? a = some o ∧ o.cls = cls ∧ o.dict = d ∧ o.data = .fields vs) := hok a _ e
  exact x.1
theorem track {X : Cx} {pins : List (Addr × Obj)} {σ : L2.St} {H : Hp} {s : Shared} {a : Addr} {o : Obj} {vs : Array Value} {cls : Value} {d : Option Addr} (I : Inv X pins σ H s) (ho : s.heap.get? a = some o) (hz : Zc cls d o) (hd : o.data = .fields vs)
    (na : H a = none) (n0 : X.s_0.heap.get? a = none) (nL : a ≠ X.env.locals) (np : ∀ p ∈ X.pn ++ pins, p.1 ≠ a) : Inv X pins σ (upd H a (xoO a cls d)) s := by
  have ne : ∀ {b : Addr} {u : HO}, H b = some u → b ≠ a := fun {b u} e => ne_of_none e na
  have n0' : ∀ {b : Addr} {o : Obj}, X.s_0.heap.get? b = some o → b ≠ a := fun {b o} e z => by rw [z, n0] at e; cases e
  refine ⟨I.ok, I.os, I.bare, ⟨I.base.keep, I.base.slot, fun b ob e n hx => ?_, I.base.there, fun b xs e => ?_, fun b ob u e => ?_, fun b ps e => ?_⟩, I.loc, I.cell, ?_, fun x c e => ?_, fun p hp => ?_, fun b u e => ?_, I.len⟩
  · rw [upd_ne (n0' e)]
    exact I.base.free b ob e n hx
  · have q := I.base.tups b xs e
    rw [upd_ne (ne q)]
    exact q
  · have q := I.base.frzs b ob u e
    rw [upd_ne (ne q)]
    exact q
  · obtain ⟨m, q⟩ := I.base.tbls b ps e
    exact ⟨m, by rw [upd_ne (ne q)]; exact q⟩
  · rw [upd_ne (Ne.symm nL)]
    exact I.free
  · have hc : c ≠ a := fun z => by
      obtain ⟨v, oc, q, hv⟩ := I.cell x c e
      rw [z, ho] at q
      cases q
      rw [hd] at hv
      cases hv
    rw [upd_ne hc]
    exact I.freeC x c e
  · obtain ⟨e, n, r⟩ := I.pin p hp
    exact ⟨e, by rw [upd_ne (np p hp)]; exact n, r⟩
  · by_cases hb : b = a
    · subst hb
      rw [upd_same] at e
      cases e
      exact ⟨⟨o, vs, ho, hz.1, hz.2, hd⟩, ⟨o, ho⟩, fun h1 h2 z k => let ⟨o', vs', q, r⟩ := z; ⟨o', vs', k _ q, r⟩⟩
    · rw [upd_ne hb] at e
      exact (I.hok b u e).stay (fun _ _ _ q => q) (fun c q => by rw [upd_ne (ne q)]; exact q) fun c xs q => by rw [upd_ne (ne q)]; exact q

/-- what 'except (x1, x2, x3) as n' wishes: behind its suite the exception is told -/
def wT (K : PySem.W.Frag) (cs : List Value) (i : Nat) (ts : Addr → Value → Option Addr → TS) (Wout : WX) (D : Ends) : WX := fun cls d σ H =>
  ∃ b, PySem.W.exmAny K cls cs = some b ∧ (b = true → ∀ a, H a = none → ts a cls d { nx := fun σ' H' => D.nx (σ'.set i none) (upd H' a (xoO a cls d)), rt := fun _ _ => False, bk := fun _ _ => False, ct := fun _ _ => False } (σ.set i (some (.ref a))) H) ∧
    (b = false → Wout cls d σ H)
/-- a class of the text by its name -/
structure Nm (X : Cx) (x : Str) (c : Value) : Prop where
  g : Gl X x
  m : X.mg x = some c
  d : (x == ("__debug__" : Str)) = false
theorem ps_try_t3 {X : Cx} {x1 x2 x3 n : Str} {c1 c2 c3 : Value} {i kk : Nat} {body suite : List Stmt} {b₀ : Stmt} {q1 q2 q3 tp pos pos' : Pos} {tb : WX → TS} {ts : Addr → Value → Option Addr → TS} {Wout : WX}
    (hs : X.stack = X.env :: X.outer) (hf : X.env.frame = some X.env.locals) (hex : X.ex = []) (hN : X.N.Nodup) (hi : X.N[i]? = some n) (hln : X.env.kindOf n = some .local) (n1 : Nm X x1 c1) (n2 : Nm X x2 c2) (n3 : Nm X x3 c3) (tk : Takes X Wout)
    (hb : ∀ (W : WX) (pn : List (Addr × Obj)) (xe : Value → Shared → Prop), Takes (X.tr pn xe) W → PassesOwn (model X.prog X.w) X.A X.env xe → PSs (X.tr pn xe) body (tb W))
    (hsu : ∀ (a : Addr) (oe : Obj) (cls : Value) (d : Option Addr) (pn : List (Addr × Obj)), Zc cls d oe → (∃ vs, oe.data = .fields vs) → PSs (X.suite a ((a, oe) :: pn)) (b₀ :: suite) (ts a cls d)) :
    PS X (.Try body [.ExceptHandler (some (.Tuple [.Name x1 q1, .Name x2 q2, .Name x3 q3] kk tp)) (some n) (b₀ :: suite) pos'] [] [] pos) (fun D σ H => tb (wT X.K [c1, c2, c3] i ts Wout D) D σ H) := by
  refine ⟨fun pins s σ H D I h => wpAny_Try_except ?_⟩
  have ok := I.ok
  have hfr : X.A.frames = some (X.env :: X.outer) := ok.frames.trans (by rw [hs])
  refine wpAny_mono ((hb (wT X.K [c1, c2, c3] i ts Wout D) (X.pn ++ pins) (fun e s₁ => wpAny (model X.prog X.w) X.A (noteFrame e X.env) (fun _ s₂ => wpAny (model X.prog X.w) X.A (setFlight e none) (fun _ s₃ =>
    wpAny (model X.prog X.w) X.A (handleBy e X.env [.ExceptHandler (some (.Tuple [.Name x1 q1, .Name x2 q2, .Name x3 q3] kk tp)) (some n) (b₀ :: suite) pos']) (SP X pins D) X.xe s₃) X.xe s₂) X.xe s₁) (fun u s' xx => ?_) PassesOwn.looking).run [] s σ H D (I.toTry _) h) (fun f s1 hsp => ?_) (fun _ _ z => z)
  · obtain ⟨a, B, sI, pins', σ', H', cls, d, rfl, J', nb, up, sky, na, os, ag, b, hb1, hyes, hno⟩ := xx
    have J : Inv X pins σ' H' sI := J'.ofTry ok
    rw [show (X.tr (X.pn ++ pins) _).stack = X.env :: X.outer from hs] at sky
    show wpAny (model X.prog X.w) X.A (noteFrame (.ref a) X.env) _ _ _
    refine Sky.land Zc.steady hfr hf sky fun h3 fl3 up3 => ?_
    have J3 : Inv X pins σ' H' { s' with heap := h3 } := J.landed nb fl3.1 (up.trans up3) os ag
    obtain ⟨oe3, vs3, he3, hz3, hd3⟩ := fl3.there
    have nfr : a ∉ frs X.stack := fun hm => by
      rw [hs] at hm
      obtain ⟨_, o', e', hnf⟩ := fl3.2.2.1.mem hm
      rw [he3] at e'
      cases e'
      exact hnf _ hd3
    have nL : a ≠ X.env.locals := fun z => nfr (by rw [hs]; exact List.mem_filterMap.mpr ⟨X.env, List.mem_cons_self, by rw [hf, z]⟩)
    have nF : a ∉ X.fs := fun hm => nfr (by
      rw [hs]
      obtain ⟨e, he, q⟩ := List.mem_filterMap.mp hm
      exact List.mem_filterMap.mpr ⟨e, List.mem_cons_of_mem _ he, q⟩)
    have nI : sI.heap.get? a = none := by
      cases e : sI.heap.get? a with
      | none => rfl
      | some o =>
        have z := nb a o e nfr
        rw [fl3.2.1] at z
        cases z
    have n0 : X.s_0.heap.get? a = none := by
      cases e : X.s_0.heap.get? a with
      | none => rfl
      | some o =>
        obtain ⟨o', z⟩ := J.base.there a o e (by rw [hex]; simp)
        rw [nI] at z
        cases z
    have np : ∀ p ∈ X.pn ++ pins, p.1 ≠ a := fun p hp z => by
      have q := (J.pin p hp).1
      rw [z, nI] at q
      cases q
    have S3 := J3.suite he3 hd3 na nL nF
    refine wpAny_handleBy_cons (codeAny_handlers_test ?_) (by intro q; cases q)
    have nm : ∀ {x : Str} {c : Value} {q : Pos} {s2 : Shared} {Q E : Value → Shared → Prop}, Nm X x c → Inv (X.suite a ((a, oe3) :: (X.pn ++ pins))) [] σ' H' s2 → Q c s2 → wpAny (model X.prog X.w) (X.A.mark (some (.ref a))) (eval (.Name x q) X.env) Q E s2 :=
      fun {x c q s2 Q E} nx S z => ld_glob (X := X.suite a ((a, oe3) :: (X.pn ++ pins))) S nx.g nx.m z nx.d
    refine PyProof.Rows.Tuple_ (PyProof.Rows.spliced_more (nm n1 S3 (PyProof.Rows.spliced_more (nm n2 S3 (PyProof.Rows.spliced_more (nm n3 S3 (PyProof.Rows.spliced_none ?_)))))))
    refine wpAny_newObj_type ?_
    have kp : ∀ b o, h3.get? b = some o → (h3.push { cls := .type "tuple", dict := none, data := .seq [c1, c2, c3].toArray }).get? b = some o := fun b o e => Heap.get?_push_of_some _ e
    have LT : PySem.W.Looks (model X.prog X.w) (h3.push { cls := .type "tuple", dict := none, data := .seq [c1, c2, c3].toArray }) (typeOf (.ref a)) cls := fun A Q E s k q => wpAny_typeOf_ref (k _ _ (kp _ _ he3)) (by rw [hz3.1]; exact q)
    have LM := PySem.W.exm_tup3 (M := model X.prog X.w) (J3.kIn.keeps kp) LT (Heap.get?_push_size h3 rfl) hb1
    refine LM.here ?_
    have fl5 : HandSPX.FlyingZ B (X.env :: X.outer) a (Zc cls d) (h3.push { cls := .type "tuple", dict := none, data := .seq [c1, c2, c3].toArray }) := by
      obtain ⟨k1, k2, k3, oe, vs, T, oT, ts', he, hz, hd, h1, hr0, hr1, hr2, hr3⟩ := id fl3
      exact ⟨fun b o e => kp _ _ (k1 b o e), k2, Heap.FunFrames.of_keeps (fun b o e _ => ⟨o, kp b o e, rfl⟩) k3, oe, vs, T, oT, ts', kp _ _ he, hz, hd, h1, hr0, hr1, kp _ _ hr2, hr3⟩
    have up5 := (up.trans up3).trans (Heap.UpToSlots.of_keeps kp)
    cases b with
    | true =>
      refine codeAny_handlers_suite_as (HandSPX.lands_againZ fl5 fun h4 fl4 up4 => ?_)
      have J4 : Inv X pins σ' H' { s' with heap := h4 } := J.landed nb fl4.1 (up5.trans up4) os ag
      obtain ⟨oe4, vs4, he4, hz4, hd4⟩ := fl4.there
      refine store_ok (X := X.suite a ((a, oe4) :: (X.pn ++ pins))) (v := .ref a) (J4.suite he4 hd4 na nL nF) hN hi (.inl hln) rfl (fun s5 S5 => ?_) (.inr hln)
      refine wpAny_mono ((hsu a oe4 cls d (X.pn ++ pins) hz4 ⟨_, hd4⟩).run [] s5 _ H' _ S5 (hyes rfl a na)) (fun f s6 hsp => ?_) (fun _ _ z => False.elim z)
      cases f with
      | next =>
        obtain ⟨σ6, H6, S6, q6⟩ := hsp
        have p6 := S6.pin (a, oe4) (List.mem_append_left _ List.mem_cons_self)
        have I6 : Inv X ((a, oe4) :: pins) σ6 H6 s6 := (S6.unsuite ok).pins_of fun p hp => by
          rcases List.mem_cons.mp hp with e | h
          · rw [e]; exact p6
          · exact (S6.unsuite ok).pin p (List.mem_append_right _ h)
        exact gone_ok I6 hN hi hln fun s7 J7 => by
          have p7 := J7.pin (a, oe4) (List.mem_append_right _ List.mem_cons_self)
          have K7 : Inv X pins (σ6.set i none) H6 s7 := J7.pins_of fun p hp => J7.pin p (List.mem_append_right _ (List.mem_cons_of_mem _ hp))
          exact ⟨_, _, track K7 p7.1 hz4 hd4 p7.2.1 n0 nL np, q6⟩
      | brk => exact hsp.elim fun _ h => h.elim fun _ h => h.2.elim
      | cont => exact hsp.elim fun _ h => h.elim fun _ h => h.2.elim
      | ret u => exact hsp.elim fun _ h => h.elim fun _ h => h.elim fun _ h => h.2.2.elim
    | false =>
      show wpAny _ X.A (handleBy (.ref a) X.env []) _ _ _
      refine wpAny_handleBy_nil ?_
      obtain ⟨k1, k2, k3, oe, vs, T, oT, ts', he, hz, hd, h1, hr⟩ := id fl5
      unfold PySem.passOn
      refine wpAny_bind (wpAny_field he hd h1 ?_)
      rw [if_neg (show ¬ ((Value.ref T == Value.none) = true) from by simp)]
      have fin : ∀ {s5 : Shared}, s5 = { s' with heap := h3.push { cls := .type "tuple", dict := none, data := .seq [c1, c2, c3].toArray } } →
          wpAny (model X.prog X.w) X.A (setFlight (.ref a) X.env.frame) (fun _ s4 => wpAny (model X.prog X.w) X.A (throw (.ref a) : Sem Flow) (SP X pins D) X.xe s4) X.xe s5 := by
        intro s5 e5
        rw [hf, e5]
        exact HandSPX.setFlight_upZ fl5 fun h4 hh4 up4 => wpAny_throw (tk _ _ ⟨a, B, sI, pins, σ', H', cls, d, rfl, J, nb, up5.trans up4, .inr (.inr (by rw [hs]; exact hh4)), na, os, ag, hno rfl⟩)
      first
        | exact wpAny_bind (wpAny_pure (wpAny_bind (fin rfl)))
        | exact wpAny_bind (fin rfl)
  · cases f with
    | next =>
      obtain ⟨σ', H', J', q⟩ := hsp
      exact wpAny_execs_nil ⟨σ', H', J'.ofTry ok, q⟩
    | brk =>
      obtain ⟨σ', H', J', q⟩ := hsp
      exact ⟨σ', H', J'.ofTry ok, q⟩
    | cont =>
      obtain ⟨σ', H', J', q⟩ := hsp
      exact ⟨σ', H', J'.ofTry ok, q⟩
    | ret u =>
      obtain ⟨v, σ', H', J', r, q⟩ := hsp
      exact ⟨v, σ', H', J'.ofTry ok, r, q⟩
end Mx

namespace Mx
open PySem PySem.Spec PyProof.Rows L2

/-! ### a kept exception asked: isinstance, its fields -/
structure XcC (K : PySem.W.Frag) (C : Addr) : Prop where
  cl : (PySem.W.clsIn K C).isSome = true
  ga : PySem.W.findIn K (.ref C) "__getattribute__" = some (some (.builtin "BaseException.__getattribute__"))
  gt : PySem.W.findIn K (.ref C) "__getattr__" = some none
  sub : PySem.W.subIn K (.ref C) (.type "BaseException") = some true
  ha : PySem.W.findIn K (.ref C) "__class__" = some (some (.builtin "object.__class__"))
  hn : PySem.W.specialIn K (.builtin "object.__class__") "__get__" = some (some (.builtin "getset_descriptor.__get__"))
  tk : PySem.W.takesIn K (.builtin "object.__class__") = some true
  hm : PySem.W.mroIn K C (.type "object") = some true
  hd : PySem.W.hasDictIn K C = true
/-- an exception of the class at C, its fields -/
def XoAt (H : Hp) (a C : Addr) (fs : List (Str × V)) : Prop := ∃ d, H a = some (xoO a (.ref C) (some d)) ∧ H d = some (.xd fs)
theorem xo_inst {X : Cx} {pins : List (Addr × Obj)} {σ : L2.St} {H : Hp} {s : Shared} {a C : Addr} {fs : List (Str × V)} (I : Inv X pins σ H s) (h : XoAt H a C fs) :
    ∃ (ox od : Obj) (mA : Str → Option Value), PySem.W.InstAt s.heap a ox C (some od) ∧ (∀ f, PySem.W.lookIn f od = some (mA f)) ∧ ∀ f, RelO (fs.lookup f) (mA f) := by
  obtain ⟨d, h1, h2⟩ := h
  obtain ⟨o, vs, e1, e2, e3, e4⟩ := xo_at I.hok h1
  obtain ⟨mA, hns, hr⟩ : ObjOk X.prog X.w H s.heap d (.xd fs) := I.hok d _ h2
  obtain ⟨od, ho, hl⟩ := lookIn_ns hns
  exact ⟨o, od, mA, ⟨e1, e2, by unfold PySem.W.notCls; rw [e4] <;> rfl, by rw [e3]; exact ho⟩, hl, hr⟩
def rIsiX (K : PySem.W.Frag) : List V → Hp → VK → Prop := fun xs H Q => ∃ (a C : Addr) (fs : List (Str × V)) (c : V) (u : Value) (b : Bool), xs = [.ref a, c] ∧ ClsV c u ∧ XoAt H a C fs ∧ XcC K C ∧ PySem.W.kitOne K (.ref C) u = some b ∧ Q (.bl b) H
theorem call_isiX {X : Cx} : CallR X (.builtin "isinstance") (rIsiX X.K) := by
  intro pins s σ H xs us Q I r h
  obtain ⟨a, C, fs, c, u, b, rfl, k, hx, T, e, q⟩ := h
  obtain ⟨u1, u2, rfl, r1, r2⟩ := vals2 r
  have e2 := k.eq r2
  subst e2
  cases (show u1 = Value.ref a from r1)
  obtain ⟨ox, od, mA, J, _, _⟩ := xo_inst I hx
  exact PySem.W.kia_one (PySem.W.kitx_exc T.cl T.ga T.gt T.sub T.ha T.hn T.tk T.hm) I.kIn J e (fun z => by cases z) fun tk => ⟨.bl b, H, I.tok tk, rfl, q⟩
/-- e.f of a kept exception -/
def tXo (K : PySem.W.Frag) (f : Str) (te : TE) : TE := fun σ H Q => te σ H fun x H1 => ∃ (a C : Addr) (fs : List (Str × V)) (v : V), x = .ref a ∧ XoAt H1 a C fs ∧ XcC K C ∧ PySem.W.findIn K (.ref C) f = some none ∧ fs.lookup f = some v ∧ Q v H1
theorem pe_xo {X : Cx} {e : Expr} {te : TE} {pos : Pos} {f : Str} (he : PE X e te) (hb : attributeBase e f X.env (eval e X.env) = eval e X.env := by rfl) : PE X (.Attribute e f pos) (tXo X.K f te) := by
  refine ⟨fun pins s σ H Q I h => attr_of hb (thn (he.run pins s σ H _ I h) fun u s1 hh => ?_)⟩
  obtain ⟨x, H1, I1, rx, a, C, fs, v, ex, hx, T, hno, l, q⟩ := hh
  subst ex
  cases (show u = Value.ref a from rx)
  obtain ⟨ox, od, mA, J, hl, hr⟩ := xo_inst I1 hx
  obtain ⟨u, hu, ru⟩ := RelO.some_of (v := v) (o := mA f) (by rw [← l]; exact hr f)
  exact HandSPX.exc_get I1.kIn J T.ga T.gt T.sub (PySem.W.findObj_own T.hd hno rfl (by rw [hl, hu])) (handed_of ru) ⟨v, H1, I1.tok _, ru, q⟩
end Mx

namespace Mx
open PySem PySem.Spec PyProof.Rows L2

/-- a def of the module: where it stands, its name, its parameters -/
structure DefT (K : PySem.W.Frag) (mg : Str → Option Value) (x : Str) (st : Stmt) (ps : List Str) : Type where
  f : Addr
  fd : FuncData
  F : Fun K x x st f fd
  m : mg x = some (.ref f)
  b : Binds K fd ps []

/-! ### heaps: all but a stays -/
def Kp (a : Addr) (H H' : Hp) : Prop := ∀ b o, b ≠ a → H b = some o → H' b = some o
theorem Kp.refl (a : Addr) (H : Hp) : Kp a H H := fun _ _ _ h => h
theorem Kp.trans {a : Addr} {H H1 H2 : Hp} (x : Kp a H H1) (y : Kp a H1 H2) : Kp a H H2 := fun b o n h => y b o n (x b o n h)
theorem Kp.upd {a : Addr} {H H1 : Hp} {o : HO} (x : Kp a H H1) : Kp a H (upd H1 a o) := fun b u n h => by rw [upd_ne n]; exact x b u n h
theorem Kp.new {a p : Addr} {H H1 : Hp} {o : HO} (x : Kp a H H1) (h : H1 p = none) : Kp a H (L2.upd H1 p o) := fun b u n e => by
  have q := x b u n e
  rw [upd_ne (ne_of_none q h)]
  exact q
theorem Kp.of {a : Addr} {H H1 : Hp} (x : Same H H1) : Kp a H H1 := fun b o _ h => x b o h
theorem Same.new {p : Addr} {H H1 : Hp} {o : HO} (x : Same H H1) (h : H1 p = none) : Same H (L2.upd H1 p o) := fun b u e => by
  have q := x b u e
  rw [upd_ne (ne_of_none q h)]
  exact q
/-! ### the law's draws: a stream is a list of three ints at a, the second counts -/
def StAt (a : Addr) (c : Int) (H : Hp) : Prop := ∃ x m n : Int, H a = some (.lst [.int x, .int n, .int m]) ∧ 0 ≤ n ∧ n ≤ c
theorem StAt.mono {a : Addr} {c d : Int} {H : Hp} (h : StAt a c H) (l : c ≤ d) : StAt a d H := let ⟨x, m, n, e, h1, h2⟩ := h; ⟨x, m, n, e, h1, by omega⟩
theorem StAt.same {a : Addr} {c : Int} {H H' : Hp} (h : StAt a c H) (e : Same H H') : StAt a c H' := let ⟨x, m, n, q, h1, h2⟩ := h; ⟨x, m, n, e _ _ q, h1, h2⟩
/-- a constant of the module -/
theorem pe_gc {X : Cx} {x : Str} {pos : Pos} {v : V} (hg : Gl X x) (h : ∃ u, X.mg x = some u ∧ RelV v u) (hd : (x == ("__debug__" : Str)) = false := by decide) : PE X (.Name x pos) (tC v) :=
  let ⟨_, e, r⟩ := h
  pe_glob hg e r hd
/-! ### a for over enumerate of a text -/
theorem for_et {x : Str} {g : TG} {tb : TS} {D : Ends} {σ : L2.St} {H : Hp} (Pv : Nat → L2.St → Hp → Prop) (h0 : Pv 0 σ H)
    (hs : ∀ (i c : Nat) (T : Addr) σ H, x.cps[i]? = some c → H T = none → Pv i σ H → g (.ref T) σ (upd H T (.tup [.int (i : Nat), .str ⟨#[c]⟩])) fun σ2 H2 => tb { D with nx := Pv (i + 1), ct := Pv (i + 1), bk := D.nx } σ2 H2)
    (hd : ∀ σ H, Pv x.cps.size σ H → D.nx σ H) :
    ∃ W : Nat → Nat → L2.St → Hp → Prop, (∃ m, W 0 m σ H) ∧ ∀ i m σ H, W i m σ H →
      ((Itet x).stop i H ∧ D.nx σ H) ∨ ((Itet x).go i H ∧ ∃ N : L2.St → Hp → Prop, (∀ σ' H', N σ' H' → ∃ m', m' < m ∧ W (i + 1) m' σ' H') ∧ ∀ v H', (Itet x).yld i H v H' → g v σ H' fun σ2 H2 => tb { D with nx := N, ct := N, bk := D.nx } σ2 H2) := by
  refine ⟨fun i m σ H => m = x.cps.size - i ∧ i ≤ x.cps.size ∧ Pv i σ H, ⟨x.cps.size, by simp, Nat.zero_le _, h0⟩, ?_⟩
  rintro i m σ H ⟨rfl, hi, p⟩
  by_cases hlt : i < x.cps.size
  · refine .inr ⟨hlt, Pv (i + 1), fun σ' H' p' => ⟨x.cps.size - (i + 1), by omega, rfl, hlt, p'⟩, fun v H' y => ?_⟩
    obtain ⟨T, c, rfl, hT, hc, rfl⟩ := y
    exact hs i c T σ H hc hT p
  · have e : i = x.cps.size := by omega
    subst e
    exact .inl ⟨rfl, hd σ H p⟩
/-! ### places -/
theorem at_int {α : Type} {xs : List α} {r : Int} (r0 : 0 ≤ r) (r1 : r < (xs.length : Int)) : ∃ (i : Nat) (x : α), xs[i]? = some x ∧ atI xs r = some x ∧ (i : Int) = r := by
  have h : r.toNat < xs.length := by omega
  obtain ⟨n, rfl⟩ := Int.eq_ofNat_of_zero_le r0
  have h2 : n < xs.length := by omega
  exact ⟨n, xs[n], List.getElem?_eq_getElem h2, atI_nat (List.getElem?_eq_getElem h2), rfl⟩
theorem at_text {z : Str} {r : Int} (r0 : 0 ≤ r) (r1 : r < (z.cps.size : Int)) : ∃ cp : Nat, cp ∈ z.cps.toList ∧ atI z.cps.toList r = some cp := by
  obtain ⟨i, x, h, e, _⟩ := at_int (xs := z.cps.toList) r0 (by simpa using r1)
  exact ⟨x, List.mem_of_getElem? h, e⟩
theorem size_add (x y : Str) : (x ++ y).cps.size = x.cps.size + y.cps.size := by
  show (x.cps ++ y.cps).size = _
  simp
theorem itT {c : Bool} {A B : Prop} (h : c = true) (a : A) : if c = true then A else B := by rw [if_pos h]; exact a
theorem itF {c : Bool} {A B : Prop} (h : c = false) (b : B) : if c = true then A else B := by rw [if_neg (by rw [h]; decide)]; exact b
theorem dVi {i j : Int} (h : i = j) : decide (V.int i = V.int j) = true := by subst h; simp
theorem dViN {i j : Int} (h : ¬ i = j) : decide (V.int i = V.int j) = false := by
  refine decide_eq_false fun e => ?_
  injection e with e
  exact h e
theorem notT {b : Bool} (h : b = false) : (!b) = true := by rw [h]; rfl
theorem notF {b : Bool} (h : b = true) : (!b) = false := by rw [h]; rfl
theorem mem_add {x y : Str} {c : Nat} (h : c ∈ (x ++ y).cps.toList) : c ∈ x.cps.toList ∨ c ∈ y.cps.toList := by
  have e : (x ++ y).cps.toList = x.cps.toList ++ y.cps.toList := by rw [Str.cps_append, Array.toList_append]
  rw [e] at h
  exact List.mem_append.mp h
/-! ### readings without a question -/
theorem tC_ {v : V} {σ : L2.St} {H : Hp} {Q : VK} (h : Q v H) : tC v σ H Q := h
theorem tNext_ {D : Ends} {σ : L2.St} {H : Hp} (h : D.nx σ H) : tNext D σ H := h
theorem tNil_ {σ : L2.St} {H : Hp} {Q : List V → Hp → Prop} (h : Q [] H) : tNil σ H Q := h
end Mx

namespace Mx
open PySem PySem.Spec PyProof.Rows L2
/-! ### comprehensions that pick -/
def picked {α : Type} (n : Nat) (f : Nat → Bool) (y : Nat → α) : List α := ((List.range n).filter f).map y
theorem picked_zero {α : Type} (f : Nat → Bool) (y : Nat → α) : picked 0 f y = [] := rfl
theorem picked_yes {α : Type} {n : Nat} {f : Nat → Bool} (y : Nat → α) (h : f n = true) : picked (n + 1) f y = picked n f y ++ [y n] := by
  unfold picked
  rw [List.range_succ, List.filter_append, List.map_append, List.filter_cons, if_pos h]
  rfl
theorem picked_no {α : Type} {n : Nat} {f : Nat → Bool} (y : Nat → α) (h : f n = false) : picked (n + 1) f y = picked n f y := by
  unfold picked
  rw [List.range_succ, List.filter_append, List.map_append, List.filter_cons, if_neg (by rw [h]; decide)]
  simp
theorem picked_len {α : Type} (n : Nat) (f : Nat → Bool) (y : Nat → α) : (picked n f y).length ≤ n := by
  unfold picked
  rw [List.length_map]
  have := List.length_filter_le f (List.range n)
  rw [List.length_range] at this
  exact this
theorem picked_map {α β : Type} (n : Nat) (f : Nat → Bool) (y : Nat → α) (g : α → β) : picked n f (fun i => g (y i)) = (picked n f y).map g := by
  unfold picked
  rw [List.map_map]
  rfl
theorem picked_empty {α : Type} (n : Nat) (f : Nat → Bool) (y : Nat → α) : (picked n f y).isEmpty = !(List.range n).any f := by
  unfold picked
  rw [Bool.eq_iff_iff]
  simp
theorem picked_mem {α : Type} {n : Nat} {f : Nat → Bool} {y : Nat → α} {v : α} (h : v ∈ picked n f y) : ∃ i, i < n ∧ f i = true ∧ v = y i := by
  unfold picked at h
  obtain ⟨i, hi, e⟩ := List.mem_map.mp h
  have := List.mem_filter.mp hi
  exact ⟨i, List.mem_range.mp this.1, this.2, e.symm⟩
theorem picked_in {α : Type} {n i : Nat} {f : Nat → Bool} {y : Nat → α} (hi : i < n) (hf : f i = true) : y i ∈ picked n f y := by
  unfold picked
  exact List.mem_map.mpr ⟨i, List.mem_filter.mpr ⟨List.mem_range.mpr hi, hf⟩, rfl⟩
theorem Kp.same {D : Addr} {H H' : Hp} (h : Kp D H H') (hD : H D = none) : Same H H' := fun b o e => h b o (fun z => by rw [z, hD] at e; cases e) e
section
variable {J : It} {n : Nat} {G : Hp → Prop} {Y : Nat → Hp → V → Hp → Prop}
/-- [te for g in J if tt]: turn i is kept where f i, and gives y i; all that was stays -/
theorem lc_flt (w : Walk J n G Y) {g : TG} {tt : TT} {te : TE} {vs : List Nat} {σ : L2.St} {H1 : Hp} {D : Addr} {Qd : Hp → Prop} (f : Nat → Bool) (y : Nat → V) (hD : H1 D = none) (hn : n ≤ 1000000)
    (hG : ∀ H, Same H1 H → G H) (hY : ∀ i H x H', Y i H x H' → Same H H')
    (hs : ∀ i x H H' (Nx : V → Hp → Prop) (Mx : Hp → Prop), i < n → Same H1 H → Y i H x H' → (f i = true → ∀ H4, Same H' H4 → Nx (y i) H4) → (f i = false → ∀ H3, Same H' H3 → Mx H3) →
      g x (wipe σ vs) H' fun σ2 H2 => wipe σ2 vs = wipe σ vs ∧ tt σ2 H2 fun b H3 => if b = true then te σ2 H3 Nx else Mx H3)
    (hd : ∀ H, Same H1 H → H D = some (.lst (picked n f y)) → Qd H) :
    ∃ W : Nat → Nat → Hp → Prop, (∃ m, W 0 m (upd H1 D (.lst []))) ∧ ∀ i m H, W i m H →
      (J.stop i H ∧ Qd H) ∨ (J.go i H ∧ ∃ Nx : Hp → Prop, (∀ H', Nx H' → ∃ m', m' < m ∧ W (i + 1) m' H') ∧ ∀ x H', J.yld i H x H' → g x (wipe σ vs) H' fun σ2 H2 => wipe σ2 vs = wipe σ vs ∧ tt σ2 H2 fun b H3 =>
        if b = true then te σ2 H3 fun y H4 => ∃ acc, H4 D = some (.lst acc) ∧ acc.length < sizeLine ∧ Nx (upd H4 D (.lst (acc ++ [y]))) else Nx H3) := by
  refine lc_it w (fun i H => i ≤ n ∧ Kp D H1 H ∧ H D = some (.lst (picked i f y))) ⟨Nat.zero_le _, (Kp.refl _ _).upd, upd_same⟩ (fun i H _ p => hG H (p.2.1.same hD)) ?_ (fun H p => hd H (p.2.1.same hD) p.2.2)
  rintro i x H H' hi ⟨_, kp, e⟩ yy
  have sm := hY i H x H' yy
  refine hs i x H H' _ _ hi (kp.same hD) yy (fun hf H4 s4 => ?_) (fun hf H3 s3 => ?_)
  · refine ⟨_, s4 _ _ (sm _ _ e), ?_, hi, ?_, ?_⟩
    · have := picked_len i f y
      unfold sizeLine
      omega
    · exact ((kp.trans (Kp.of sm)).trans (Kp.of s4)).upd
    · rw [upd_same, picked_yes y hf]
  · exact ⟨hi, (kp.trans (Kp.of sm)).trans (Kp.of s3), by rw [picked_no y hf]; exact s3 _ _ (sm _ _ e)⟩
end
/-! ### exceptions told with the slots' number; readings made weaker -/
theorem takes_len {X : Cx} {W : WX} (tk : Takes X W) : Takes X (fun cls d σ H => σ.length = X.N.length → W cls d σ H) :=
  fun u s' ⟨a, B, sI, pins, σ, H, cls, d, e, I, nb, up, sky, na, os, ag, w⟩ => tk u s' ⟨a, B, sI, pins, σ, H, cls, d, e, I, nb, up, sky, na, os, ag, w I.len⟩
def eMono (te : TE) : TE := fun σ H Q => ∃ Q0 : VK, te σ H Q0 ∧ ∀ v H1, Q0 v H1 → Q v H1
theorem pe_mono {X : Cx} {e : Expr} {te : TE} (h : PE X e te) : PE X e (eMono te) :=
  ⟨fun pins s σ H Q I ⟨Q0, hh, k⟩ => wpAny_mono (h.run pins s σ H Q0 I hh) (fun _ _ ⟨v, H1, I1, r, q⟩ => ⟨v, H1, I1, r, k _ _ q⟩) fun _ _ z => z⟩
theorem cutV_mem {xs : List V} {lo hi : Option Int} {x : V} (h : x ∈ cutV xs lo hi) : x ∈ xs := List.mem_of_mem_drop (List.mem_of_mem_take h)
theorem cutV_front (xs : List V) (n : Nat) : (cutV xs none (some (n : Int))).length ≤ n := by
  unfold cutV
  rw [List.length_take, HT.sIx_nat]
  have : HT.sIx xs.length 0 none = 0 := rfl
  omega
theorem ints_mem {ns : List Int} {x : V} (h : x ∈ ns.map V.int ++ [.int 0]) : ∃ z, x = .int z := by
  rcases List.mem_append.mp h with h | h
  · obtain ⟨z, _, rfl⟩ := List.mem_map.mp h
    exact ⟨z, rfl⟩
  · exact ⟨0, List.mem_singleton.mp h⟩
/-! ### lists of texts as data -/
theorem dp_strsAll {K : PySem.W.Frag} {H : Hp} : ∀ l : List Str, DpAll K H (l.map V.str) (l.map PyData.str)
  | [] => .nil
  | z :: l => .cons (.str z) (dp_strsAll l)
theorem dp_strs {K : PySem.W.Frag} {H : Hp} {a : Addr} {l : List Str} (h : SqL K H a (l.map V.str)) : Dp K H (.ref a) (.list (l.map PyData.str)) := .lst h (dp_strsAll l)
theorem lay_strs : ∀ l : List Str, (∀ z ∈ l, ∀ c ∈ z.cps.toList, c < 0x110000) → PyData.canLayAll0 (l.map PyData.str) = true ∧ PyData.depthAll (l.map PyData.str) = 0
  | [], _ => ⟨rfl, rfl⟩
  | z :: l, h => by
    obtain ⟨h1, h2⟩ := lay_strs l fun y hy => h y (List.mem_cons_of_mem _ hy)
    refine ⟨?_, ?_⟩
    · show (z.cps.all (· < 0x110000) && PyData.canLayAll0 (l.map PyData.str)) = true
      rw [h1, Bool.and_true]
      rw [Array.all_eq_true]
      intro i hi
      exact decide_eq_true (h z List.mem_cons_self _ (by simp))
    · show max 0 (PyData.depthAll (l.map PyData.str)) = 0
      rw [h2]
      rfl
theorem shaped_strs {l : List Str} (h : ∀ z ∈ l, ∀ c ∈ z.cps.toList, c < 0x110000) : SeqAt.shaped (.list (l.map PyData.str)) = true := by
  obtain ⟨h1, h2⟩ := lay_strs l h
  show (PyData.canLayAll0 _ && decide (PyData.depthAll _ + 1 ≤ 64)) = true
  rw [h1, h2]
  rfl
theorem eqv_nil : ∀ l : List Str, PyData.eqv (.list (l.map PyData.str)) (.list []) = l.isEmpty
  | [] => rfl
  | _ :: _ => rfl
/-- a list of texts against the empty list -/
theorem eq_nil {K : PySem.W.Frag} {H : Hp} {a b : Addr} {l : List Str} {Q : VK} (ha : SqL K H a (l.map V.str)) (hb : SqL K H b []) (h : ∀ z ∈ l, ∀ c ∈ z.cps.toList, c < 0x110000) (q : Q (.bl l.isEmpty) H) : rEqD K (.ref a) (.ref b) H Q :=
  ⟨_, _, dp_strs ha, .lst hb .nil, shaped_strs h, rfl, by rw [eqv_nil]; exact q⟩
end Mx

namespace Mx
open PySem PySem.Spec PyProof.Rows L2
/-! ### heaps of a law that makes lambdas: all but tables stays, the tables keep their word -/
def Go (Tb : List (Addr × Str)) (H H' : Hp) : Prop := LamX.ExtN H H' ∧ (LamX.Tabs Tb H → LamX.Tabs Tb H')
theorem Go.refl (Tb : List (Addr × Str)) (H : Hp) : Go Tb H H := ⟨LamX.ExtN.refl H, id⟩
theorem Go.trans {Tb : List (Addr × Str)} {H H1 H2 : Hp} (x : Go Tb H H1) (y : Go Tb H1 H2) : Go Tb H H2 := ⟨x.1.trans y.1, fun t => y.2 (x.2 t)⟩
theorem Go.same {Tb : List (Addr × Str)} {H H' : Hp} (x : Same H H') : Go Tb H H' := ⟨.of x, fun t => t.ext x⟩
theorem Go.new {Tb : List (Addr × Str)} {H H1 : Hp} {p : Addr} {o : HO} (x : Go Tb H H1) (h : H1 p = none) : Go Tb H (L2.upd H1 p o) := x.trans (.same (Same.new (Same.refl _) h))
theorem Go.kp {Tb : List (Addr × Str)} {H0 H H' : Hp} {a : Addr} {c : Int} (x : Go Tb H0 H) (n : H0 a = none) (st : StAt a c H) (k : Kp a H H') : Go Tb H0 H' := by
  obtain ⟨u, m, v, e, _, _⟩ := st
  refine ⟨fun b o h1 h2 => k b o (ne_of_none h1 n) (x.1 b o h1 h2), fun t p hp => ?_⟩
  obtain ⟨ps, e1, e2, e3⟩ := x.2 t p hp
  refine ⟨ps, k _ _ (fun z => by rw [z, e] at e1; cases e1) e1, e2, fun pos cv h => ?_⟩
  obtain ⟨c', rfl, e5⟩ := e3 pos cv h
  exact ⟨c', rfl, k _ _ (fun z => by rw [z, e] at e5; unfold LamX.CodeO at e5; cases e5) e5⟩
theorem Go.lst {Tb : List (Addr × Str)} {H H' : Hp} {p : Addr} {xs : List V} (x : Go Tb H H') (h : H p = some (.lst xs)) : H' p = some (.lst xs) := x.1 p _ h fun ps z => by cases z
theorem Go.tup {Tb : List (Addr × Str)} {H H' : Hp} {p : Addr} {xs : List V} (x : Go Tb H H') (h : H p = some (.tup xs)) : H' p = some (.tup xs) := x.1 p _ h fun ps z => by cases z
theorem TyOf_go {K : PySem.W.Frag} {H H' : Hp} {x : V} {t : Value} (g : LamX.ExtN H H') (h : TyOf K H x t) : TyOf K H' x t := by
  cases h with
  | non => exact .non
  | bl y => exact .bl y
  | int i => exact .int i
  | str y => exact .str y
  | flt y => exact .flt y
  | lst e => exact .lst (g _ _ e fun ps z => by cases z)
  | frz e => exact .frz (g _ _ e fun ps z => by cases z)
  | tup e => exact .tup (g _ _ e fun ps z => by cases z)
  | dK e => exact .dK (g _ _ e fun ps z => by cases z)
  | dT e => exact .dT (g _ _ e fun ps z => by cases z)
  | ins e a b c d f => exact .ins (g _ _ e fun ps z => by cases z) a b c d f
theorem TyX_go {K : PySem.W.Frag} {H H' : Hp} {x : V} {t : Value} (g : LamX.ExtN H H') (h : TyX K H x t) : TyX K H' x t := by
  cases h with
  | base b => exact .base (TyOf_go g b)
  | byt y => exact .byt y
  | set e => exact .set (g _ _ e fun ps z => by cases z)
  | kList e c => exact .kList e c
  | kTuple e c => exact .kTuple e c
  | kDict e c => exact .kDict e c
  | fTuple e => exact .fTuple (g _ _ e fun ps z => by cases z)
  | fDict e => exact .fDict (g _ _ e fun ps z => by cases z)
theorem picked_none {α : Type} (n : Nat) (y : Nat → α) : picked n (fun _ => false) y = [] := by
  unfold picked
  simp
/-! ### the law's def: its code object told, guards told -/
structure FunC (K : PySem.W.Frag) (x : Str) (st : Stmt) (f : Addr) (fd : FuncData) (c : Addr) : Prop where
  ex : ∃ (oc : Value) (od : Option Addr) (kV doc pm : Value) (an : Option Addr) (ct : Value) (osl : Array (Option Value)),
    fd = PySem.W.fnOf x x (defArgs st) (defBody st) (defScope st) .none kV doc pm an (.ref c) ct ∧ K.lookup f = some ⟨oc, od, .func fd, osl⟩ ∧ PySem.W.codeIn K (.ref c) x = true
section
variable {P : Program} {w : World} {K : PySem.W.Frag} {mg : Str → Option Value} {base : Heap}
theorem okGC {CX : CXT} {x : Str} {st : Stmt} {f c : Addr} {fd : FuncData} {N ps : List Str} {k : Nat} {sp : Sp} (F : FunC K x st f fd c) (S : FnScope N ps (defScope st)) (len : ∀ vs H Q E, sp vs H Q E → vs.length = ps.length)
    (body : ∀ (A : Around) (outer : List Env) (s : Shared) (H : Hp) (vs : List V) (Q : VK) (E : XK), RmG k (A.deeper (envOfC x (defScope st) s.heap.objs.size f (.ref c))) → sp vs H Q E →
      ∃ t, PSs (cxOf CX P w K mg base N x (defScope st) f (.ref c) A outer s H E) (defBody st) t ∧ t { nx := fun _ H' => Q .non H', rt := Q } (start N vs) H) : FnG P w K mg base CX (k + 1) f fd ps sp := by
  obtain ⟨oc, od, kV, doc, pm, an, ct, osl, rfl, look, code⟩ := F.ex
  constructor
  · exact len
  intro A outer s H args us vs Q E room e0 binds rel want
  have names : ((ps.zip us).all fun y => (defScope st).names.lookup y.1 == some .local || (defScope st).names.lookup y.1 == some .cell) = true := by
    rw [List.all_eq_true]
    rintro ⟨n, u⟩ mem
    rcases S.par n (List.of_mem_zip mem).1 with q | q <;> simp [q]
  have inK : K.In s.heap := e0.mod.kin.keeps fun b o z => (e0.bs b o z).1
  have limit : s.heap.NoLimit := e0.mod.nolimit.keeps fun b o z => (e0.bs b o z).1
  refine Att.call_fn inK limit look code room.r.depth binds names (fun s1 entered => ?_) S.co S.gen S.kind
  obtain ⟨t, term, read⟩ := body A outer s H vs Q E (room.deeper _) want
  have begin_ := inv_start (CX := CX) (E := E) (f := f) (cd := .ref c) (qual := x) (outer := outer) S room.r.hd e0 (len _ _ _ _ want) rel entered
  refine wpAny_mono (term.run [] s1 _ H _ begin_ read) (fun flow s2 out => ?_) fun _ _ z => z
  match flow, out with
  | .ret u, ⟨v, _, H2, J, r, q⟩ => exact ⟨v, H2, J.os, J.bare, J.base, J.hok, r, q⟩
  | .next, ⟨_, H2, J, q⟩ => exact ⟨.non, H2, J.os, J.bare, J.base, J.hok, rfl, q⟩
  | .brk, ⟨_, _, _, q⟩ => exact q.elim
  | .cont, ⟨_, _, _, q⟩ => exact q.elim
end
/-- keywords (and positional arguments) of a def without defaults -/
theorem kb_of {K : PySem.W.Frag} {x qual : Str} {st : Stmt} {f : Addr} {fd : FuncData} {ps ks : List Str} (F : Fun K x qual st f fd)
    (h : ∀ (kV doc pm : Value) (an : Option Addr) (cdv ct : Value) (us ws : List Value), (us ++ ws).length = ps.length → bindArgs (PySem.W.fnOf x qual (defArgs st) (defBody st) (defScope st) .none kV doc pm an cdv ct) ⟨us, ks.zip ws⟩ = pure (ps.zip (us ++ ws))) :
    KBinds K fd ps ks (fun us ws => us ++ ws) (fun vs zs => vs ++ zs) := by
  obtain ⟨oc, od, kV, doc, pm, an, cdv, ct, osl, rfl, look, code⟩ := F.ex
  exact ⟨fun s us ws _ hl => .of_eq (h kV doc pm an cdv ct us ws hl), fun a b => a.append b⟩
/-! ### the head: a script, tables of code objects -/
/-- what is tracked when the law is called: the tables (empty), and the script if K does not tell it -/
def lawH (K : PySem.W.Frag) (ts : List Addr) (a : Addr) (o : Obj) (xs : List V) : Hp := fun b =>
  if b ∈ ts then some (.tbl #[]) else if b = a then (if (K.lookup a).isNone = true then some (.frz o (.lst xs)) else none) else none
section
variable {K : PySem.W.Frag} {ts : List Addr} {a b : Addr} {o : Obj} {xs : List V}
theorem lawH_tab (h : b ∈ ts) : lawH K ts a o xs b = some (.tbl #[]) := if_pos h
theorem lawH_kinds {u : HO} (h : lawH K ts a o xs b = some u) : (b ∈ ts ∧ u = .tbl #[]) ∨ (b = a ∧ K.lookup a = none ∧ u = .frz o (.lst xs)) := by
  unfold lawH at h
  split at h
  · rename_i m
    exact .inl ⟨m, (Option.some.inj h).symm⟩
  · split at h
    · rename_i e
      split at h
      · rename_i n
        exact .inr ⟨e, Option.isNone_iff_eq_none.mp n, (Option.some.inj h).symm⟩
      · cases h
    · cases h
end
section
variable {P : Program} {w : World} {K : PySem.W.Frag} {mg mb : Str → Option Value} {CX : CXT} {k : Nat} {fa a : Addr} {cs : List (Addr × Addr)} {fd : FuncData} {x : Str} {sp : Sp} {s : Shared} {vs : List Value} {ns : List Int}
theorem lawRun (inK : K.In s.heap) (glob : s.heap.Ns mainGlobals mg) (blt : s.heap.Ns builtinsNs mb) (boot : ∀ y : Str, y ≠ "__name__" → mb y = bootBuiltins y) (limit : s.heap.NoLimit) (gens : s.gens = #[])
    (tabs : ∀ p ∈ cs, s.heap.get? p.2 = some { cls := .none, data := .fields #[] }) (notK : ∀ p ∈ cs, K.lookup p.2 = none) (heads : ∀ p ∈ cs, PySem.W.CodeHd s.heap p.1 p.2)
    (main : ∃ (bm : Addr) (ob : Obj), mg "__builtins__" = some (.ref bm) ∧ bm ≠ builtinsNs ∧ s.heap.get? bm = some ob ∧ ob.cls = .type "module" ∧ ob.dict = some builtinsNs ∧ ob.data = .plain)
    (script : s.heap.get? a = some { cls := .type "list", data := .seq vs.toArray }) (whole : IntsAre vs ns) (short : ns.length ≤ sizeLine) (room : RmG k callerA)
    (F : ∀ base : Heap, K.In base → base.Ns mainGlobals mg → (∀ p ∈ cs, LamX.TabB base mg p.1 p.2) → FnG P w K mg base CX k fa fd [x] sp) (bind : ∀ (s : Shared) (u : Value), BindsTo s fd ⟨[u], []⟩ [(x, u)])
    (want : ∀ H : Hp, (∀ p ∈ cs, H p.2 = some (.tbl #[])) → LsX K H a (ns.map V.int) → sp [.ref a] H (fun v _ => v = .bl true) fun _ _ _ => False)
    (none_ : ∀ H e s', CX [] H s (fun _ _ _ => False) e s' → False) :
    codeAny (model P w) callerA (.call (.ref fa) ⟨[.ref a], []⟩) (fun r s' => r = .ok (.ret (.bool true)) ∧ OldK s.heap s'.heap ∧ s'.os = s.os ∧ AllBare s'.gens) s := by
  have rel : Vals (ns.map V.int) vs := vals_ints whole
  have isTab : ∀ b ∈ cs.map Prod.snd, s.heap.get? b = some { cls := .none, data := .fields #[] } := by
    intro b mem
    obtain ⟨p, hp, rfl⟩ := List.mem_map.mp mem
    exact tabs p hp
  have ofTab : ∀ p ∈ cs, p.2 ∈ cs.map Prod.snd := fun p hp => List.mem_map_of_mem hp
  generalize hH : lawH K (cs.map Prod.snd) a { cls := .type "list", data := .seq vs.toArray } (ns.map V.int) = H
  have tracked : ∀ {b : Addr} {u : HO}, H b = some u → (b ∈ cs.map Prod.snd ∧ u = .tbl #[]) ∨ (b = a ∧ K.lookup a = none ∧ u = .frz { cls := .type "list", data := .seq vs.toArray } (.lst (ns.map V.int))) := fun {b u} e => lawH_kinds (by rw [hH]; exact e)
  have atTab : ∀ p ∈ cs, H p.2 = some (.tbl #[]) := fun p hp => by rw [← hH]; exact lawH_tab (ofTab p hp)
  -- an object that is neither a list nor an empty table is not tracked
  have plain : ∀ {b : Addr} {o : Obj}, s.heap.get? b = some o → o ≠ { cls := .none, data := .fields #[] } → o ≠ { cls := .type "list", data := .seq vs.toArray } → H b = none := by
    intro b o e n1 n2
    cases q : H b with
    | none => rfl
    | some u =>
      rcases tracked q with ⟨m, _⟩ | ⟨rfl, _⟩
      · exact absurd (Option.some.inj (e.symm.trans (isTab b m))) n1
      · exact absurd (Option.some.inj (e.symm.trans script)) n2
  have below : ∀ {b : Addr} {o : Obj}, s.heap.get? b = some o → o ≠ { cls := .none, data := .fields #[] } → o ≠ { cls := .type "list", data := .seq vs.toArray } → (hidT s.heap H).get? b = some o := fun e n1 n2 => hidT_get e (plain e n1 n2)
  have spaces : ∀ {b : Addr} {m : Str → Option Value}, s.heap.Ns b m → (hidT s.heap H).Ns b m := by
    rintro b m ⟨o, es, ep, e, d, r⟩
    exact ⟨o, es, ep, below e (fun z => by rw [z] at d; cases d) (fun z => by rw [z] at d; cases d), d, r⟩
  have inB : K.In (hidT s.heap H) := by
    intro b o e
    refine hidT_get (inK b o e) ?_
    cases q : H b with
    | none => rfl
    | some u =>
      rcases tracked q with ⟨m, _⟩ | ⟨rfl, n, _⟩
      · obtain ⟨p, hp, rfl⟩ := List.mem_map.mp m
        rw [notK p hp] at e
        cases e
      · rw [n] at e
        cases e
  have mod : L2.Mod K mg (hidT s.heap H) := ⟨inB, spaces glob, ⟨mb, spaces blt, boot⟩, let ⟨mc, l1, l2⟩ := limit; ⟨mc, spaces l1, l2⟩⟩
  have bases : ∀ p ∈ cs, LamX.TabB (hidT s.heap H) mg p.1 p.2 := by
    intro p hp
    have tp := tabs p hp
    constructor
    · obtain ⟨o, us, file, tf, flags, tg, inF, text, tt, e1, r1, r2, r3, rest⟩ := heads p hp
      refine ⟨o, us, file, tf, flags, tg, inF, text, tt, below e1 (fun z => ?_) (fun z => ?_), r1, r2, r3, rest⟩
      · rw [z] at r2
        cases r2
        simp at r3
      · rw [z] at r2
        cases r2
    · obtain ⟨bm, ob, b1, b2, b3, b4, b5, b6⟩ := main
      refine ⟨bm, ob, b1, b2, fun z => ?_, fun z => ?_, below b3 (fun z => by rw [z] at b6; cases b6) (fun z => by rw [z] at b6; cases b6), b4, b5, b6⟩
      · obtain ⟨o, es, ep, e, d, _⟩ := glob
        rw [z, e] at b3
        obtain rfl := Option.some.inj b3
        rw [d] at b6
        cases b6
      · rw [z, tp] at b3
        obtain rfl := Option.some.inj b3
        cases b6
    · intro z
      obtain ⟨o, es, ep, e, d, _⟩ := glob
      rw [z, tp] at e
      obtain rfl := Option.some.inj e
      cases d
  have reads : LsX K H a (ns.map V.int) := by
    cases q : K.lookup a with
    | some o =>
      have e1 := Option.some.inj ((inK a o q).symm.trans script)
      exact .inr ⟨vs, 0, by rw [q, e1], by rw [List.length_map]; exact short, rel⟩
    | none =>
      refine .inl (.inr ⟨{ cls := .type "list", data := .seq vs.toArray }, ?_⟩)
      have no : a ∉ cs.map Prod.snd := fun m => by
        have z := (isTab a m).symm.trans script
        cases Option.some.inj z
      rw [← hH]
      unfold lawH
      rw [if_neg no, if_pos rfl, if_pos (by rw [q]; rfl)]
  have hok : HOk P w H s.heap := by
    intro b u e
    rcases tracked e with ⟨m, rfl⟩ | ⟨rfl, _, rfl⟩
    · exact isTab b m
    · exact ⟨script, by rw [List.length_map]; exact short, vs, _, rel, script⟩
  have e0 : Env0 P w K mg (hidT s.heap H) callerA [] s H := ⟨rfl, mod, fun b o e => of_hidT e, Nat.le_of_eq (hidT_size _ _), trivial, (fun b m => by cases m), hok, .of_eq gens⟩
  refine codeAny_mono ((F _ inB (spaces glob) bases).run callerA [] s H ⟨[.ref a], []⟩ [.ref a] [.ref a] _ _ room e0 (bind s (.ref a)) (.cons rfl .nil) (want H atTab reads)) ?_
  intro r s' out
  match r, out with
  | .error e, z => exact (none_ H e s' z).elim
  | .ok .next, z => exact z.elim
  | .ok .brk, z => exact z.elim
  | .ok .cont, z => exact z.elim
  | .ok (.ret u), ⟨v, H', os, bare, un, hok', r', (q : v = .bl true)⟩ =>
    subst q
    have u1 : u = Value.bool true := r'
    subst u1
    have grown : ∀ b ∈ cs.map Prod.snd, ∃ more : Array Value, s'.heap.get? b = some { cls := .none, data := .fields more } := by
      intro b mem
      obtain ⟨p, hp, rfl⟩ := List.mem_map.mp mem
      obtain ⟨more, z⟩ := un.tbls p.2 #[] (atTab p hp)
      exact ⟨_, hok' _ _ z⟩
    have stays : ∀ b o, b ∉ cs.map Prod.snd → s.heap.get? b = some o → s'.heap.get? b = some o := by
      intro b o no e
      cases t : H b with
      | none => exact un.keep b o e t (fun z => by cases z) (fun z => by cases z)
      | some u =>
        rcases tracked t with ⟨m, _⟩ | ⟨rfl, _, rfl⟩
        · exact absurd m no
        · have z1 := (hok _ _ t).1
          have z2 := (hok' _ _ (un.frzs _ _ _ t)).1
          rw [← e]
          exact z2.trans z1.symm
    refine ⟨rfl, ⟨fun b o e => ?_, fun b o e => ?_⟩, os, bare⟩
    · by_cases mem : b ∈ cs.map Prod.snd
      · obtain ⟨more, z⟩ := grown b mem
        obtain ⟨p, hp, rfl⟩ := List.mem_map.mp mem
        obtain rfl := Option.some.inj (e.symm.trans (tabs p hp))
        exact .inr (.inl ⟨((heads p hp).tab (tabs p hp)).isCodeTable, rfl, #[], more, rfl, by rw [Array.empty_append]; exact z⟩)
      · exact .inl (stays b o mem e)
    · by_cases mem : b ∈ cs.map Prod.snd
      · obtain ⟨more, z⟩ := grown b mem
        exact ⟨_, z⟩
      · exact ⟨o, stays b o mem e⟩
end
/-- what is known of the law's promise behind the top -/
def LawG (l : PySem.W.OpenLaw) (w : World) (K : PySem.W.Frag) (CX : CXT) (k n : Nat) (x : Str) (mg : Str → Option Value) (fa : Addr) (h : Heap) : Prop :=
  ∃ (fd : FuncData) (cs : List (Addr × Addr)) (sp : Sp), (∀ p ∈ cs, h.get? p.2 = some { cls := .none, data := .fields #[] }) ∧ (∀ p ∈ cs, K.lookup p.2 = none) ∧ (∀ p ∈ cs, PySem.W.CodeHd h p.1 p.2) ∧ (∀ (s : Shared) (u : Value), BindsTo s fd ⟨[u], []⟩ [(x, u)]) ∧
    (∀ (H : Hp) (a : Addr) (ns : List Int), ns.length ≤ n → (∀ z ∈ ns, Builtin.Int.intBits z ≤ 1048576) → (∀ p ∈ cs, H p.2 = some (.tbl #[])) → LsX K H a (ns.map V.int) → sp [.ref a] H (fun v _ => v = .bl true) fun _ _ _ => False) ∧
    ∀ base : Heap, K.In base → base.Ns mainGlobals mg → (∀ p ∈ cs, LamX.TabB base mg p.1 p.2) → FnG l.prog w K mg base CX k fa fd [x] sp
theorem walkG {l : PySem.W.OpenLaw} {n k : Nat} {q : Program} {loose : List Str} {XP : (Str → Option Value) → Heap → Prop} {YP : World → Heap → Prop} {d : DefRec} {K : Params → PySem.W.Frag} {CX : World → CXT} {x : Str}
    (most : l.most = some n) (fits : n ≤ sizeLine) (bare : d.params.defaults = []) (room : RmG k callerA) (hY : ∀ (w : World) (h : Heap), YP w h → (K w.params).In h)
    (F : ∀ (w : World) (mg mb : Str → Option Value) (fa : Addr) (h : Heap), (∃ ls mean, PyProof.Rows.Top q ls mean mg mb h) → YP w h → (K w.params).In h → h.Ns mainGlobals mg → mg d.name = some (.ref fa) → LawG l w (K w.params) (CX w) k n x mg fa h)
    (none_ : ∀ (w : World) (H : Hp) (s : Shared) (e : Value) (s' : Shared), CX w [] H s (fun _ _ _ => False) e s' → False) :
    PySem.W.WalkO q loose XP YP l.row.toRowW d [] (fun f vs => PySem.call f vs) := by
  refine Att.attach_callB most bare ?_
  intro w s0 s mg mb fa o pm cd doc a vs ns G Y ho hd hcd hm script whole len bits gens
  have inK := hY w _ Y
  obtain ⟨fd, cs, sp, tabs, notK, heads, bind, want, run⟩ := F w mg mb fa _ ⟨_, _, G.T⟩ Y inK G.T.g hm
  exact lawRun inK G.T.g G.T.b G.T.builtins G.T.nolimit gens tabs notK heads G.T.bmain script whole (Nat.le_trans len fits) room run bind (fun H t r => want H a ns len bits t r) fun H e s' => none_ w H s e s'
end Mx

/-! names: plain lists of codes -/
namespace Nam
def lets : List Nat := ("abcdefghijklmnopqrstuvwxyzABCDEFGHIJKLMNOPQRSTUVWXYZ_" : String).toList.map Char.toNat
def inns : List Nat := ("abcdefghijklmnopqrstuvwxyzABCDEFGHIJKLMNOPQRSTUVWXYZ_0123456789-." : String).toList.map Char.toNat
def isL (c : Nat) : Bool := decide (c ∈ lets)
def isI (c : Nat) : Bool := decide (c ∈ inns)
theorem colonL : isL 58 = false := by decide +kernel
theorem colonI : isI 58 = false := by decide +kernel
theorem L_I {c : Nat} (h : isL c = true) : isI c = true := by
  have k : ∀ c ∈ lets, isI c = true := by decide +kernel
  exact k c (of_decide_eq_true h)
theorem L_ne {c : Nat} (h : isL c = true) : c ≠ 58 := fun e => by rw [e, colonL] at h; cases h
theorem I_ne {c : Nat} (h : isI c = true) : c ≠ 58 := fun e => by rw [e, colonI] at h; cases h

/-! what the law says -/
def cut : List Nat → List Nat → List (List Nat)
  | acc, [] => [acc]
  | acc, x :: r => if x = 58 then acc :: cut [] r else cut (acc ++ [x]) r
def part : List Nat → Bool
  | [] => false
  | c :: r => isL c && r.all isI
def name (l : List Nat) : Bool := decide ((cut [] l).length < 3) && (cut [] l).all part
def begun (l : List Nat) : Bool := decide (l = []) || name l || (decide ((cut [] l).length = 2) && decide ((cut [] l)[1]? = some []) && part ((cut [] l).getD 0 []))

/-! a machine: 0 nothing, 1 a part, 2 a part and a colon, 3 two parts -/
def step (s c : Nat) : Option Nat :=
  if s = 0 then (if isL c then some 1 else none)
  else if s = 1 then (if c = 58 then some 2 else if isI c then some 1 else none)
  else if s = 2 then (if isL c then some 3 else none)
  else (if isI c then some 3 else none)
def runO : Option Nat → List Nat → Option Nat
  | o, [] => o
  | none, _ :: _ => none
  | some s, c :: r => runO (step s c) r
def run (l : List Nat) : Option Nat := runO (some 0) l
theorem runO_none : ∀ l, runO none l = none
  | [] => rfl
  | _ :: _ => rfl
theorem runO_app : ∀ (l m : List Nat) (o : Option Nat), runO o (l ++ m) = runO (runO o l) m
  | [], m, o => by cases o <;> rfl
  | c :: r, m, none => by
    show none = runO none m
    rw [runO_none]
  | c :: r, m, some s => runO_app r m (step s c)
theorem run_snoc (l : List Nat) (c : Nat) : run (l ++ [c]) = (run l).bind fun s => step s c := by
  unfold run
  rw [runO_app]
  cases runO (some 0) l with
  | none => rfl
  | some s =>
    show runO (step s c) [] = step s c
    cases step s c <;> rfl
theorem run3 : ∀ l, runO (some 3) l = if l.all isI then some 3 else none
  | [] => rfl
  | c :: r => by
    show runO (step 3 c) r = _
    have e : step 3 c = if isI c then some 3 else none := rfl
    rw [e]
    cases h : isI c with
    | true => simp [h, run3 r]
    | false => simp [h, runO_none]
theorem run2 (l : List Nat) : runO (some 2) l = if l = [] then some 2 else if part l then some 3 else none := by
  cases l with
  | nil => rfl
  | cons c r =>
    show runO (step 2 c) r = _
    have e : step 2 c = if isL c then some 3 else none := rfl
    rw [e]
    cases h : isL c with
    | true => simp [h, run3 r, part]
    | false => simp [h, runO_none, part]
theorem run1 : ∀ l : List Nat, 58 ∉ l → runO (some 1) l = if l.all isI then some 1 else none
  | [], _ => rfl
  | c :: r, h => by
    have hc : c ≠ 58 := fun e => h (e ▸ List.mem_cons_self)
    have hr : 58 ∉ r := fun e => h (List.mem_cons_of_mem _ e)
    show runO (step 1 c) r = _
    have e : step 1 c = if isI c then some 1 else none := if_neg hc
    rw [e]
    cases h : isI c with
    | true => simp [h, run1 r hr]
    | false => simp [h, runO_none]
theorem run0 (l : List Nat) (h : 58 ∉ l) : run l = if l = [] then some 0 else if part l then some 1 else none := by
  cases l with
  | nil => rfl
  | cons c r =>
    have hr : 58 ∉ r := fun e => h (List.mem_cons_of_mem _ e)
    show runO (step 0 c) r = _
    have e : step 0 c = if isL c then some 1 else none := rfl
    rw [e]
    cases h : isL c with
    | true => simp [h, run1 r hr, part]
    | false => simp [h, runO_none, part]
theorem cut_no : ∀ (l acc : List Nat), 58 ∉ l → cut acc l = [acc ++ l]
  | [], acc, _ => by simp [cut]
  | c :: r, acc, h => by
    have hc : c ≠ 58 := fun e => h (e ▸ List.mem_cons_self)
    have hr : 58 ∉ r := fun e => h (List.mem_cons_of_mem _ e)
    simp [cut, hc, cut_no r (acc ++ [c]) hr]
theorem cut_at : ∀ (p acc r : List Nat), 58 ∉ p → cut acc (p ++ 58 :: r) = (acc ++ p) :: cut [] r
  | [], acc, r, _ => by simp [cut]
  | c :: p, acc, r, h => by
    have hc : c ≠ 58 := fun e => h (e ▸ List.mem_cons_self)
    have hr : 58 ∉ p := fun e => h (List.mem_cons_of_mem _ e)
    simp [cut, hc, cut_at p (acc ++ [c]) r hr]
theorem first_colon : ∀ l : List Nat, 58 ∈ l → ∃ p r, l = p ++ 58 :: r ∧ 58 ∉ p
  | [], h => by cases h
  | c :: l, h => by
    by_cases hc : c = 58
    · exact ⟨[], l, by rw [hc]; rfl, by simp⟩
    · obtain ⟨p, r, e, hp⟩ := first_colon l ((List.mem_cons.mp h).resolve_left (fun e => hc e.symm))
      exact ⟨c :: p, r, by rw [e]; rfl, fun z => (List.mem_cons.mp z).elim (fun e => hc e.symm) hp⟩
theorem cut_ne (l : List Nat) : cut [] l ≠ [] := by
  by_cases h : 58 ∈ l
  · obtain ⟨p, r, e, hp⟩ := first_colon l h
    rw [e, cut_at p [] r hp]
    simp
  · rw [cut_no l [] h]
    simp
/-- the three kinds of texts -/
theorem kinds (l : List Nat) : (58 ∉ l) ∨ (∃ p q, l = p ++ 58 :: q ∧ 58 ∉ p ∧ 58 ∉ q) ∨ ∃ p q r, l = p ++ 58 :: (q ++ 58 :: r) ∧ 58 ∉ p ∧ 58 ∉ q := by
  by_cases h : 58 ∈ l
  · obtain ⟨p, r, e, hp⟩ := first_colon l h
    by_cases h2 : 58 ∈ r
    · obtain ⟨q, r2, e2, hq⟩ := first_colon r h2
      exact .inr (.inr ⟨p, q, r2, by rw [e, e2], hp, hq⟩)
    · exact .inr (.inl ⟨p, r, e, hp, h2⟩)
  · exact .inl h
theorem run_at (p r : List Nat) (hp : 58 ∉ p) : run (p ++ 58 :: r) = if part p then runO (some 2) r else none := by
  unfold run
  rw [runO_app, show runO (some 0) p = run p from rfl, run0 p hp]
  by_cases h0 : p = []
  · subst h0
    show runO (step 0 58) r = _
    have e : step 0 58 = none := by decide +kernel
    rw [e, runO_none]
    rfl
  · rw [if_neg h0]
    cases h : part p with
    | true => rfl
    | false =>
      show runO none (58 :: r) = _
      rfl
theorem run_at2 (p q r : List Nat) (hp : 58 ∉ p) : run (p ++ 58 :: (q ++ 58 :: r)) = none := by
  rw [run_at p _ hp]
  split
  · rw [runO_app, run2]
    split
    · show runO (step 2 58) r = none
      have e : step 2 58 = none := by decide +kernel
      rw [e, runO_none]
    · split
      · show runO (step 3 58) r = none
        have e : step 3 58 = none := by decide +kernel
        rw [e, runO_none]
      · rfl
  · rfl
theorem name_run (l : List Nat) : name l = decide (run l = some 1 ∨ run l = some 3) := by
  rcases kinds l with h | ⟨p, q, e, hp, hq⟩ | ⟨p, q, r, e, hp, hq⟩
  · unfold name
    rw [cut_no l [] h, run0 l h]
    cases l with
    | nil => simp [part]
    | cons c r => cases hh : part (c :: r) <;> simp [hh]
  · unfold name
    rw [e, cut_at p [] _ hp, cut_no q [] hq, run_at p q hp, run2]
    cases hh : part p
    · simp [hh]
    · by_cases hq0 : q = []
      · simp [hq0, part]
      · cases h2 : part q <;> simp [hh, h2, hq0]
  · unfold name
    rw [e, cut_at p [] _ hp, cut_at q [] _ hq, run_at2 p q r hp]
    have n : 1 ≤ (cut [] r).length := List.length_pos_iff.mpr (cut_ne r)
    have e1 : decide ((([] ++ p) :: ([] ++ q) :: cut [] r).length < 3) = false := decide_eq_false (by simp only [List.length_cons]; omega)
    rw [e1]
    simp
theorem begun_run (l : List Nat) : begun l = (run l).isSome := by
  unfold begun
  rw [name_run]
  rcases kinds l with h | ⟨p, q, e, hp, hq⟩ | ⟨p, q, r, e, hp, hq⟩
  · rw [cut_no l [] h, run0 l h]
    cases l with
    | nil => simp
    | cons c r => cases hh : part (c :: r) <;> simp [hh]
  · rw [e, cut_at p [] _ hp, cut_no q [] hq, run_at p q hp, run2]
    cases hh : part p
    · simp [hh]
    · by_cases hq0 : q = []
      · simp [hq0, hh]
      · cases h2 : part q <;> simp [hh, h2, hq0]
  · rw [e, cut_at p [] _ hp, cut_at q [] _ hq, run_at2 p q r hp]
    have n : 1 ≤ (cut [] r).length := List.length_pos_iff.mpr (cut_ne r)
    have e1 : decide ((([] ++ p) :: ([] ++ q) :: cut [] r).length = 2) = false := decide_eq_false (by simp only [List.length_cons]; omega)
    rw [e1]
    simp
/-! what the program does -/
def pend : List Nat → Nat
  | [] => 0
  | c :: r => if isL c then 1 + (r.takeWhile isI).length else 0
def nend (l : List Nat) : Nat :=
  if pend l = 0 ∨ pend l = l.length ∨ l[pend l]? ≠ some 58 then pend l
  else if pend (l.drop (pend l + 1)) > 0 then pend l + 1 + pend (l.drop (pend l + 1)) else pend l
theorem takeWhile_le (r : List Nat) : (r.takeWhile isI).length ≤ r.length := (List.takeWhile_prefix isI).length_le
theorem pend_yes {c : Nat} (r : List Nat) (h : isL c = true) : pend (c :: r) = 1 + (r.takeWhile isI).length := if_pos h
theorem pend_not {c : Nat} (r : List Nat) (h : ¬ isL c = true) : pend (c :: r) = 0 := if_neg h
theorem pend_le (l : List Nat) : pend l ≤ l.length := by
  cases l with
  | nil => exact Nat.le_refl _
  | cons c r =>
    have := takeWhile_le r
    by_cases h : isL c = true
    · rw [pend_yes r h, List.length_cons]; omega
    · rw [pend_not r h]; exact Nat.zero_le _
theorem nend_le (l : List Nat) : nend l ≤ l.length := by
  have h1 := pend_le l
  have h2 := pend_le (l.drop (pend l + 1))
  rw [List.length_drop] at h2
  unfold nend
  split
  · exact h1
  · rename_i h
    split
    · by_cases h3 : pend l = l.length
      · exact absurd (.inr (.inl h3)) h
      · omega
    · exact h1
theorem tw_all : ∀ r : List Nat, ((r.takeWhile isI).length = r.length) = (r.all isI = true)
  | [] => by simp
  | c :: r => by
    cases h : isI c with
    | true =>
      have ih := tw_all r
      simp only [List.takeWhile_cons, h, if_true, List.length_cons, List.all_cons, Bool.true_and]
      rw [← ih]
      simp
    | false => simp [List.takeWhile_cons, h]
theorem pend_all (l : List Nat) (h0 : l ≠ []) : pend l = l.length ↔ part l = true := by
  cases l with
  | nil => exact absurd rfl h0
  | cons c r =>
    have e := tw_all r
    by_cases h : isL c = true
    · rw [pend_yes r h, List.length_cons, show part (c :: r) = (isL c && r.all isI) from rfl, h, Bool.true_and, ← e]
      omega
    · rw [pend_not r h, List.length_cons, show part (c :: r) = (isL c && r.all isI) from rfl]
      simp [h]
theorem tw_app : ∀ (p r : List Nat) (d : Nat), isI d = false → ((p ++ d :: r).takeWhile isI).length = (p.takeWhile isI).length
  | [], r, d, h => by simp [List.takeWhile_cons, h]
  | c :: p, r, d, h => by
    by_cases hc : isI c = true
    · simp [List.takeWhile_cons, hc, tw_app p r d h]
    · simp [List.takeWhile_cons, hc]
theorem pend_app (p r : List Nat) : pend (p ++ 58 :: r) = pend p := by
  cases p with
  | nil => exact pend_not r (by rw [colonL]; decide)
  | cons c p =>
    show pend (c :: (p ++ 58 :: r)) = pend (c :: p)
    by_cases h : isL c = true
    · rw [pend_yes _ h, pend_yes _ h, tw_app p r 58 colonI]
    · rw [pend_not _ h, pend_not _ h]
theorem part_ne {p : List Nat} (h : part p = true) : p ≠ [] := fun e => by rw [e] at h; cases h
theorem nend_at (p r : List Nat) (hp : part p = true) : nend (p ++ 58 :: r) = if pend r > 0 then p.length + 1 + pend r else p.length := by
  have e1 : pend (p ++ 58 :: r) = p.length := (pend_app p r).trans ((pend_all p (part_ne hp)).mpr hp)
  have h0 : p.length ≠ 0 := fun e => part_ne hp (List.length_eq_zero_iff.mp e)
  have e2 : (p ++ 58 :: r)[p.length]? = some 58 := by simp
  have e3 : (p ++ 58 :: r).drop (p.length + 1) = r := by
    rw [← List.drop_drop, List.drop_left]
    rfl
  have hl : (p ++ 58 :: r).length = p.length + 1 + r.length := by simp; omega
  unfold nend
  rw [e1, e2, e3, hl, if_neg]
  rintro (h | h | h)
  · exact h0 h
  · omega
  · exact h rfl
/-- is_name of the program, of the law -/
theorem name_end (l : List Nat) : (decide (l ≠ []) && decide (nend l = l.length)) = name l := by
  rw [name_run]
  by_cases h0 : l = []
  · subst h0
    decide +kernel
  have d0 : decide (l ≠ []) = true := decide_eq_true h0
  rw [d0, Bool.true_and]
  rcases kinds l with h | ⟨p, q, e, hp, hq⟩ | ⟨p, q, r, e, hp, hq⟩
  · have en : nend l = pend l := by
      unfold nend
      rw [if_pos]
      by_cases hz : pend l = l.length
      · exact .inr (.inl hz)
      · refine .inr (.inr fun z => h (List.mem_of_getElem? z))
    rw [en, run0 l h, if_neg h0]
    by_cases hh : part l = true
    · simp [hh, (pend_all l h0).mpr hh]
    · have : ¬ pend l = l.length := fun z => hh ((pend_all l h0).mp z)
      simp [hh, this]
  · subst e
    have hl : (p ++ 58 :: q).length = p.length + 1 + q.length := by simp; omega
    rw [run_at p q hp, run2]
    by_cases hh : part p = true
    · rw [nend_at p q hh, if_pos hh, hl]
      by_cases hq0 : q = []
      · subst hq0
        simp [pend]
      · have k := pend_all q hq0
        rw [if_neg hq0]
        by_cases h2 : part q = true
        · have e2 := k.mpr h2
          have : 0 < q.length := List.length_pos_iff.mpr hq0
          simp [h2, e2, this]
        · have e2 : ¬ pend q = q.length := fun z => h2 (k.mp z)
          have := pend_le q
          have e3 : ¬ (if pend q > 0 then p.length + 1 + pend q else p.length) = p.length + 1 + q.length := by split <;> omega
          simp only [decide_eq_false e3]
          simp [h2]
    · have e1 : ¬ nend (p ++ 58 :: q) = p.length + 1 + q.length := by
        intro z
        have a1 := pend_app p q
        have a2 := pend_le p
        have a3 : p ≠ [] → ¬ pend p = p.length := fun n z => hh ((pend_all p n).mp z)
        unfold nend at z
        rw [a1] at z
        split at z
        · omega
        · rename_i hn
          have h1 : pend p ≠ 0 := fun y => hn (.inl y)
          have h2 : p ≠ [] := fun y => h1 (by rw [y]; rfl)
          have h3 := a3 h2
          have h4 : (p ++ 58 :: q)[pend p]? = some 58 := Classical.byContradiction fun y => hn (.inr (.inr y))
          rw [List.getElem?_append_left (by omega)] at h4
          exact hp (List.mem_of_getElem? h4)
      rw [hl]
      simp [hh, decide_eq_false e1]
  · have e1 : ¬ nend l = l.length := by
      intro z
      have hl : l.length = p.length + 1 + (q ++ 58 :: r).length := by rw [e]; simp; omega
      by_cases hh : part p = true
      · rw [e, nend_at p _ hh, pend_app] at z
        have := pend_le q
        rw [← e, hl, List.length_append, List.length_cons] at z
        split at z <;> omega
      · have a1 : pend l = pend p := by rw [e, pend_app]
        have a2 := pend_le p
        have a3 : p ≠ [] → ¬ pend p = p.length := fun n z => hh ((pend_all p n).mp z)
        unfold nend at z
        rw [a1] at z
        split at z
        · omega
        · rename_i hn
          have h1 : pend p ≠ 0 := fun y => hn (.inl y)
          have h2 : p ≠ [] := fun y => h1 (by rw [y]; rfl)
          have h3 := a3 h2
          have h4 : l[pend p]? = some 58 := Classical.byContradiction fun y => hn (.inr (.inr y))
          rw [e, List.getElem?_append_left (by omega)] at h4
          exact hp (List.mem_of_getElem? h4)
    rw [decide_eq_false e1, e, run_at2 p q r hp]
    rfl
/-- continues_name of the program -/
def goesOn (l : List Nat) (c : Nat) : Bool :=
  if c = 58 then decide (l ≠ []) && !decide (58 ∈ l) else (if l = [] ∨ l.getLast? = some 58 then isL c else isI c)
theorem snocInd {P : List Nat → Prop} (h0 : P []) (h1 : ∀ l c, P l → P (l ++ [c])) (l : List Nat) : P l := by
  have k : ∀ r : List Nat, P r.reverse := fun r => by
    induction r with
    | nil => exact h0
    | cons c r ih => rw [List.reverse_cons]; exact h1 _ _ ih
  have := k l.reverse
  rwa [List.reverse_reverse] at this
theorem colon_state : ∀ (l : List Nat) (s : Nat), run l = some s → (58 ∈ l ↔ (s = 2 ∨ s = 3)) ∧ (l = [] ↔ s = 0) ∧ (l.getLast? = some 58 ↔ s = 2) ∧ s ≤ 3 := by
  refine snocInd ?_ ?_
  · intro s h
    have : s = 0 := (Option.some.inj h).symm
    subst this
    simp
  · intro l c ih s h
    rw [run_snoc] at h
    cases hr : run l with
    | none => rw [hr] at h; cases h
    | some u =>
      rw [hr] at h
      obtain ⟨i1, i2, i3, i4⟩ := ih u hr
      have h' : step u c = some s := h
      have hcases : u = 0 ∨ u = 1 ∨ u = 2 ∨ u = 3 := by omega
      have mem : 58 ∈ l ++ [c] ↔ (58 ∈ l ∨ c = 58) := by simp [eq_comm]
      have ne : ¬ (l ++ [c] = []) := by simp
      have lst : (l ++ [c]).getLast? = some 58 ↔ c = 58 := by simp
      rw [mem, lst]
      rcases hcases with e | e | e | e <;> subst e
      · have e : step 0 c = if isL c then some 1 else none := rfl
        rw [e] at h'
        split at h'
        · rename_i hl
          have := L_ne hl
          cases h'
          simp [i1, this]
        · cases h'
      · have e : step 1 c = if c = 58 then some 2 else if isI c then some 1 else none := rfl
        rw [e] at h'
        split at h'
        · rename_i hc
          cases h'
          simp [i1, hc]
        · split at h'
          · rename_i hc _
            cases h'
            simp [i1, hc]
          · cases h'
      · have e : step 2 c = if isL c then some 3 else none := rfl
        rw [e] at h'
        split at h'
        · rename_i hl
          have := L_ne hl
          cases h'
          simp [i1, this]
        · cases h'
      · have e : step 3 c = if isI c then some 3 else none := rfl
        rw [e] at h'
        split at h'
        · rename_i hl
          have := I_ne hl
          cases h'
          simp [i1, this]
        · cases h'
theorem goes_step (l : List Nat) (s c : Nat) (h : run l = some s) : goesOn l c = (step s c).isSome := by
  obtain ⟨i1, i2, i3, i4⟩ := colon_state l s h
  have hcases : s = 0 ∨ s = 1 ∨ s = 2 ∨ s = 3 := by omega
  unfold goesOn
  by_cases hc : c = 58
  · rw [if_pos hc]
    subst hc
    rcases hcases with e | e | e | e <;> subst e
    · simp [i2, step, colonL]
    · have : 58 ∉ l := fun z => by have := i1.mp z; omega
      have n : l ≠ [] := fun z => by have := i2.mp z; omega
      simp [this, n, step]
    · have : 58 ∈ l := i1.mpr (.inl rfl)
      simp [this, step, colonL]
    · have : 58 ∈ l := i1.mpr (.inr rfl)
      simp [this, step, colonI]
  · rw [if_neg hc]
    rcases hcases with e | e | e | e <;> subst e
    · have : l = [] := i2.mpr rfl
      rw [if_pos (.inl this)]
      show isL c = (if isL c then some 1 else none).isSome
      cases isL c <;> rfl
    · have n : ¬ (l = [] ∨ l.getLast? = some 58) := fun z => z.elim (fun y => by have := i2.mp y; omega) fun y => by have := i3.mp y; omega
      rw [if_neg n]
      have e : step 1 c = if c = 58 then some 2 else if isI c then some 1 else none := rfl
      rw [e, if_neg hc]
      cases isI c <;> rfl
    · rw [if_pos (.inr (i3.mpr rfl))]
      show isL c = (if isL c then some 3 else none).isSome
      cases isL c <;> rfl
    · have n : ¬ (l = [] ∨ l.getLast? = some 58) := fun z => z.elim (fun y => by have := i2.mp y; omega) fun y => by have := i3.mp y; omega
      rw [if_neg n]
      show isI c = (if isI c then some 3 else none).isSome
      cases isI c <;> rfl
theorem run_take (l : List Nat) {i c : Nat} (h : l[i]? = some c) : run (l.take (i + 1)) = (run (l.take i)).bind fun s => step s c := by
  rw [List.take_add_one, h]
  exact run_snoc _ _
theorem run_pre (l : List Nat) {i j : Nat} (h : run (l.take i) = none) (hij : i ≤ j) : run (l.take j) = none := by
  have e : l.take j = l.take i ++ (l.take j).drop i := by
    have := List.take_append_drop i (l.take j)
    rw [List.take_take, Nat.min_eq_left hij] at this
    exact this.symm
  unfold run at h ⊢
  rw [e, runO_app, h, runO_none]
/-- so far nothing was wrong -/
def Fine (l : List Nat) (i : Nat) : Prop := (run (l.take i)).isSome = true
theorem fine_next {l : List Nat} {i c : Nat} (h : l[i]? = some c) (f : Fine l i) : goesOn (l.take i) c = true ↔ Fine l (i + 1) := by
  obtain ⟨s, hs⟩ := Option.isSome_iff_exists.mp f
  rw [goes_step _ s c hs]
  unfold Fine
  rw [run_take l h, hs]
  rfl
/-- the greatest front part that is begun -/
def IsFar (l : List Nat) (m : Nat) : Prop := m ≤ l.length ∧ begun (l.take m) = true ∧ ∀ j, j ≤ l.length → begun (l.take j) = true → j ≤ m
theorem far_stop {l : List Nat} {i c : Nat} (h : l[i]? = some c) (f : Fine l i) (g : goesOn (l.take i) c = false) : IsFar l i ∧ name l = false := by
  have hi : i < l.length := (List.getElem?_eq_some_iff.mp h).1
  have n : ¬ Fine l (i + 1) := fun z => by rw [(fine_next h f).mpr z] at g; cases g
  have n2 : run (l.take (i + 1)) = none := by
    unfold Fine at n
    cases e : run (l.take (i + 1)) with
    | none => rfl
    | some s => rw [e] at n; exact absurd rfl n
  refine ⟨⟨Nat.le_of_lt hi, by rw [begun_run]; exact f, fun j hj hb => ?_⟩, ?_⟩
  · rw [begun_run] at hb
    refine Nat.le_of_lt_succ (Nat.lt_of_not_le fun z => ?_)
    rw [run_pre l n2 z] at hb
    cases hb
  · have e : run l = none := by
      have := run_pre l n2 (j := l.length) hi
      rwa [List.take_length] at this
    rw [name_run, e]
    rfl
theorem far_end {l : List Nat} (f : Fine l l.length) : IsFar l l.length := ⟨Nat.le_refl _, by rw [begun_run]; exact f, fun j hj _ => hj⟩
theorem far_one {l : List Nat} {m n : Nat} (a : IsFar l m) (b : IsFar l n) : m = n := Nat.le_antisymm (b.2.2 m a.1 a.2.1) (a.2.2 n b.1 b.2.1)
theorem part_end (l : List Nat) : (decide (l ≠ []) && decide (pend l = l.length)) = part l := by
  by_cases h0 : l = []
  · subst h0
    rfl
  · rw [decide_eq_true h0, Bool.true_and]
    by_cases hh : part l = true
    · rw [hh]; exact decide_eq_true ((pend_all l h0).mpr hh)
    · rw [decide_eq_false fun z => hh ((pend_all l h0).mp z)]
      simpa using hh
end Nam

/-! texts and the plain names -/
namespace Nam
open PySem PySem.Spec PyProof.Rows L2 TL
theorem str_codes (x : Str) (l : List Nat) (h : tl x = l) : x = ⟨l.toArray⟩ := by
  rw [← h]
theorem one_eq (c d : Nat) : decide (V.str ⟨#[c]⟩ = V.str ⟨#[d]⟩) = decide (c = d) := by
  by_cases h : c = d
  · subst h; simp
  · have : ¬ (V.str ⟨#[c]⟩ = V.str ⟨#[d]⟩) := fun e => by
      injection e with e
      have := congrArg tl e
      simp [tl] at this
      exact h this
    simp [this, h]
theorem empty_eq (x : Str) : decide (V.str x = V.str "") = decide (tl x = []) := by
  have e0 : tl ("" : Str) = [] := rfl
  by_cases h : tl x = []
  · have : x = "" := ext_tl (h.trans e0.symm)
    subst this
    rfl
  · have n : ¬ (V.str x = V.str "") := fun e => by
      injection e with e
      rw [e] at h
      exact h e0
    simp [n, h]
theorem tl_lets : tl ("abcdefghijklmnopqrstuvwxyzABCDEFGHIJKLMNOPQRSTUVWXYZ_" : Str) = lets := tl_ofString _
theorem tl_inns : tl ("abcdefghijklmnopqrstuvwxyzABCDEFGHIJKLMNOPQRSTUVWXYZ_0123456789-." : Str) = inns := tl_ofString _
theorem colon_codes : (":" : Str) = ⟨#[58]⟩ := rfl
theorem tl_colon : tl (":" : Str) = [58] := rfl
theorem ends_colon (x : Str) : Txt.endswith x ":" = decide ((tl x).getLast? = some 58) := by
  unfold Txt.endswith
  rw [PySem.StrLaws.subAt_eq]
  show (decide (0 + 1 ≤ x.length) && (((tl x).drop (x.length - 1)).take 1 == [58])) = _
  rw [len_tl x]
  cases h : (tl x) using snocInd with
  | h0 => rfl
  | h1 l c _ => 
    have e1 : (l ++ [c]).length - 1 = l.length := by simp
    rw [e1, List.drop_left, List.getLast?_append]
    simp
    by_cases h : c = 58 <;> simp [h]
theorem spl_cut : ∀ (l acc : List Nat), spl [58] 0 acc l = cut acc l
  | [], acc => rfl
  | c :: r, acc => by
    by_cases h : c = 58
    · subst h
      rw [spl_hit (by rfl)]
      show acc :: spl [58] 0 [] r = (if (58 : Nat) = 58 then _ else _)
      rw [if_pos rfl, spl_cut r []]
    · rw [spl_miss (pre_of_head _ _ h)]
      show _ = (if c = 58 then _ else _)
      rw [if_neg h, spl_cut r]
theorem split_colon (x : Str) : (Txt.split x ":").map tl = cut [] (tl x) := by
  rw [split_spl x ":" (by decide) (kind_ok (by decide +kernel)), tl_colon, spl_cut]
theorem cutS_take (z : Str) (i : Nat) (h : i ≤ (tl z).length) : tl (cutS z none (some (i : Int))) = (tl z).take i := by
  show (((z.cps.toList.drop (HT.sIx z.length 0 none)).take (HT.sIx z.length z.length (some (i : Int)) - HT.sIx z.length 0 none)).toArray).toList = _
  have e0 : HT.sIx z.length 0 none = 0 := rfl
  have e1 : HT.sIx z.length z.length (some (i : Int)) = i := by
    have := len_tl z
    rw [HT.sIx_nat]
    omega
  rw [e0, e1]
  rfl
/-! walking along a text -/
theorem inL (c : Nat) : decide (c ∈ ("abcdefghijklmnopqrstuvwxyzABCDEFGHIJKLMNOPQRSTUVWXYZ_" : Str).cps.toList) = isL c := by
  show decide (c ∈ tl ("abcdefghijklmnopqrstuvwxyzABCDEFGHIJKLMNOPQRSTUVWXYZ_" : Str)) = decide (c ∈ lets)
  rw [tl_lets]
theorem inI (c : Nat) : decide (c ∈ ("abcdefghijklmnopqrstuvwxyzABCDEFGHIJKLMNOPQRSTUVWXYZ_0123456789-." : Str).cps.toList) = isI c := by
  show decide (c ∈ tl ("abcdefghijklmnopqrstuvwxyzABCDEFGHIJKLMNOPQRSTUVWXYZ_0123456789-." : Str)) = decide (c ∈ inns)
  rw [tl_inns]
theorem inLI (c : Nat) : decide (c ∈ (("abcdefghijklmnopqrstuvwxyzABCDEFGHIJKLMNOPQRSTUVWXYZ_" : Str) ++ ("0123456789-." : Str)).cps.toList) = isI c := by
  rw [show (("abcdefghijklmnopqrstuvwxyzABCDEFGHIJKLMNOPQRSTUVWXYZ_" : Str) ++ ("0123456789-." : Str)) = ("abcdefghijklmnopqrstuvwxyzABCDEFGHIJKLMNOPQRSTUVWXYZ_0123456789-." : Str) from by decide +kernel]
  exact inI c
theorem range_all (l : List Nat) (p : Nat → Bool) : (!(List.range l.length).any fun i => !p (l.getD i 0)) = l.all p := by
  rw [Bool.eq_iff_iff]
  simp only [Bool.not_eq_true', List.any_eq_false, List.mem_range, List.all_eq_true, Bool.not_eq_true, Bool.not_eq_false']
  constructor
  · intro h x hx
    obtain ⟨i, hi, e⟩ := List.mem_iff_getElem.mp hx
    have := h i hi
    rw [List.getD_eq_getElem?_getD, List.getElem?_eq_getElem hi] at this
    simpa [e] using this
  · intro h i hi
    have := h (l[i]) (List.getElem_mem hi)
    rw [List.getD_eq_getElem?_getD, List.getElem?_eq_getElem hi]
    simpa using this
theorem cut_mem : ∀ (l acc : List Nat), (∀ p ∈ cut acc l, (∀ c ∈ p, c ∈ acc ∨ c ∈ l) ∧ p.length ≤ acc.length + l.length) ∧ (cut acc l).length ≤ l.length + 1
  | [], acc => by
    refine ⟨fun p hp => ?_, Nat.le_refl _⟩
    rw [List.mem_singleton.mp hp]
    exact ⟨fun c hc => .inl hc, Nat.le_add_right _ _⟩
  | x :: r, acc => by
    unfold cut
    by_cases h : x = 58
    · rw [if_pos h]
      obtain ⟨h1, h2⟩ := cut_mem r []
      refine ⟨fun p hp => ?_, ?_⟩
      · rcases List.mem_cons.mp hp with rfl | hp
        · exact ⟨fun c hc => .inl hc, Nat.le_add_right _ _⟩
        · obtain ⟨a, b⟩ := h1 p hp
          refine ⟨fun c hc => ?_, ?_⟩
          · rcases a c hc with z | z
            · cases z
            · exact .inr (List.mem_cons_of_mem _ z)
          · simp only [List.length_nil, List.length_cons] at b ⊢; omega
      · simp only [List.length_cons] at h2 ⊢; omega
    · rw [if_neg h]
      obtain ⟨h1, h2⟩ := cut_mem r (acc ++ [x])
      refine ⟨fun p hp => ?_, ?_⟩
      · obtain ⟨a, b⟩ := h1 p hp
        refine ⟨fun c hc => ?_, ?_⟩
        · rcases a c hc with z | z
          · rcases List.mem_append.mp z with z | z
            · exact .inl z
            · rw [List.mem_singleton.mp z]; exact .inr List.mem_cons_self
          · exact .inr (List.mem_cons_of_mem _ z)
        · simp only [List.length_append, List.length_cons, List.length_nil] at b ⊢; omega
      · simp only [List.length_cons] at h2 ⊢; omega
def Wd (z : Str) : Prop := (tl z).length ≤ 1000 ∧ ∀ c ∈ tl z, c < 0x110000
theorem cut_wd {z : Str} {i : Nat} (h : Wd z) (hi : i ≤ (tl z).length) : Wd (cutS z none (some (i : Int))) := by
  unfold Wd
  rw [cutS_take z i hi]
  refine ⟨?_, fun c hc => h.2 c (List.mem_of_mem_take hc)⟩
  have := h.1
  rw [List.length_take]
  omega
theorem split_wd {z : Str} (h : Wd z) : (∀ y ∈ Txt.split z ":", Wd y) ∧ (Txt.split z ":").length ≤ 1001 := by
  have e := split_colon z
  obtain ⟨h1, h2⟩ := cut_mem (tl z) []
  rw [← e] at h1 h2
  refine ⟨fun y hy => ?_, ?_⟩
  · obtain ⟨a, b⟩ := h1 (tl y) (List.mem_map_of_mem hy)
    refine ⟨?_, fun c hc => ?_⟩
    · simp only [List.length_nil] at b
      have := h.1
      omega
    · rcases a c hc with z | z
      · cases z
      · exact h.2 c z
  · rw [List.length_map] at h2
    have := h.1
    omega
theorem split_n (z : Str) : (Txt.split z ":").length = (cut [] (tl z)).length := by rw [← split_colon, List.length_map]
theorem range_allA {α : Type} (l : List α) (d : α) (p : α → Bool) : (!(List.range l.length).any fun i => !p (l.getD i d)) = l.all p := by
  rw [Bool.eq_iff_iff]
  simp only [Bool.not_eq_true', List.any_eq_false, List.mem_range, List.all_eq_true, Bool.not_eq_true, Bool.not_eq_false']
  constructor
  · intro h x hx
    obtain ⟨i, hi, e⟩ := List.mem_iff_getElem.mp hx
    have := h i hi
    rw [List.getD_eq_getElem?_getD, List.getElem?_eq_getElem hi] at this
    simpa [e] using this
  · intro h i hi
    have := h (l[i]) (List.getElem_mem hi)
    rw [List.getD_eq_getElem?_getD, List.getElem?_eq_getElem hi]
    simpa using this
theorem split_all (z : Str) : (Txt.split z ":").all (fun y => part (tl y)) = (cut [] (tl z)).all part := by
  rw [← split_colon, List.all_map]
  rfl
theorem split_at (z : Str) (i : Nat) : ((Txt.split z ":")[i]?).map tl = (cut [] (tl z))[i]? := by rw [← split_colon, List.getElem?_map]
def tw (l : List Nat) (j : Nat) : Nat := j + ((l.drop j).takeWhile isI).length
theorem drop_at {l : List Nat} {j c : Nat} (h : l[j]? = some c) : l.drop j = c :: l.drop (j + 1) := by
  obtain ⟨hj, e⟩ := List.getElem?_eq_some_iff.mp h
  rw [List.drop_eq_getElem_cons hj, e]
theorem tw_step {l : List Nat} {j c : Nat} (h : l[j]? = some c) (hc : isI c = true) : tw l j = tw l (j + 1) := by
  unfold tw
  rw [drop_at h, List.takeWhile_cons, if_pos hc, List.length_cons]
  omega
theorem tw_stop {l : List Nat} {j c : Nat} (h : l[j]? = some c) (hc : isI c = false) : tw l j = j := by
  unfold tw
  rw [drop_at h, List.takeWhile_cons, if_neg (by rw [hc]; decide)]
  rfl
theorem tw_end {l : List Nat} {j : Nat} (h : j = l.length) : tw l j = j := by
  subst h
  unfold tw
  rw [List.drop_length]
  rfl
theorem pend_step {l : List Nat} {j c : Nat} (h : l[j]? = some c) (hc : isL c = true) : j + pend (l.drop j) = tw l (j + 1) := by
  unfold tw
  rw [drop_at h, pend_yes _ hc]
  omega
theorem pend_stop {l : List Nat} {j c : Nat} (h : l[j]? = some c) (hc : isL c = false) : j + pend (l.drop j) = j := by
  rw [drop_at h, pend_not _ (by rw [hc]; decide)]
  rfl
theorem pend_end {l : List Nat} {j : Nat} (h : j = l.length) : j + pend (l.drop j) = j := by
  subst h
  rw [List.drop_length]
  rfl
theorem int_eq (i j : Nat) : decide (V.int (i : Int) = V.int (j : Int)) = decide (i = j) := by
  by_cases h : i = j
  · subst h; simp
  · have n : ¬ (V.int (i : Int) = V.int (j : Int)) := fun e => by
      injection e with e
      exact h (by omega)
    simp [n, h]
end Nam

namespace K2
open PySem PySem.Spec PyProof.Rows L2 Mx
/-! ### the text by places -/
def topS (i : Nat) : Stmt := PySem.Challenge.pw_markstream_k02_names_recognized.main.body.getD i (.Pass ⟨0, 0, 0, 0⟩)
abbrev s_IllFormed___init__ : Stmt := inClass (topS 4) 0
abbrev s_InvalidText___init__ : Stmt := inClass (topS 5) 0
abbrev s_InvalidKind___init__ : Stmt := inClass (topS 6) 0
abbrev s_InvalidNumber___init__ : Stmt := inClass (topS 7) 0
abbrev s_continues_name : Stmt := topS 12
abbrev s_check_text : Stmt := topS 14
abbrev s_is_part : Stmt := topS 15
abbrev s_is_name : Stmt := topS 16
abbrev s_part_end : Stmt := topS 17
abbrev s_name_end : Stmt := topS 18
abbrev s_first_wrong_name : Stmt := topS 19
abbrev s__law_mixed : Stmt := topS 21
abbrev s__law_stream : Stmt := topS 22
abbrev s__law_draw : Stmt := topS 23
abbrev s__law_signs : Stmt := topS 24
abbrev s__law_pick : Stmt := topS 25
abbrev s__law_is_part : Stmt := topS 26
abbrev s__law_is_name : Stmt := topS 27
abbrev s__law_told : Stmt := topS 28
abbrev s__law_word : Stmt := topS 29
abbrev s__law_is_begun : Stmt := topS 30
abbrev s__law_right : Stmt := topS 31
abbrev s_law : Stmt := topS 32
theorem sc_IllFormed___init__ : FnScope ["self", "position"] ["self", "position"] (defScope s_IllFormed___init__) := ⟨rfl, rfl, rfl, by decide +kernel, rfl, by decide +kernel, by decide +kernel⟩
theorem sc_InvalidText___init__ : FnScope ["self", "index"] ["self", "index"] (defScope s_InvalidText___init__) := ⟨rfl, rfl, rfl, by decide +kernel, rfl, by decide +kernel, by decide +kernel⟩
theorem sc_InvalidKind___init__ : FnScope ["self", "kind"] ["self", "kind"] (defScope s_InvalidKind___init__) := ⟨rfl, rfl, rfl, by decide +kernel, rfl, by decide +kernel, by decide +kernel⟩
theorem sc_InvalidNumber___init__ : FnScope ["self", "number"] ["self", "number"] (defScope s_InvalidNumber___init__) := ⟨rfl, rfl, rfl, by decide +kernel, rfl, by decide +kernel, by decide +kernel⟩
theorem sc_continues_name : FnScope ["word", "sign"] ["word", "sign"] (defScope s_continues_name) := ⟨rfl, rfl, rfl, by decide +kernel, rfl, by decide +kernel, by decide +kernel⟩
theorem sc_check_text : FnScope ["text"] ["text"] (defScope s_check_text) := ⟨rfl, rfl, rfl, by decide +kernel, rfl, by decide +kernel, by decide +kernel⟩
theorem sc_is_part : FnScope ["value"] ["value"] (defScope s_is_part) := ⟨rfl, rfl, rfl, by decide +kernel, rfl, by decide +kernel, by decide +kernel⟩
theorem sc_is_name : FnScope ["value"] ["value"] (defScope s_is_name) := ⟨rfl, rfl, rfl, by decide +kernel, rfl, by decide +kernel, by decide +kernel⟩
theorem sc_part_end : FnScope ["text", "begin", "end"] ["text", "begin"] (defScope s_part_end) := ⟨rfl, rfl, rfl, by decide +kernel, rfl, by decide +kernel, by decide +kernel⟩
theorem sc_name_end : FnScope ["text", "begin", "end", "further"] ["text", "begin"] (defScope s_name_end) := ⟨rfl, rfl, rfl, by decide +kernel, rfl, by decide +kernel, by decide +kernel⟩
theorem sc_first_wrong_name : FnScope ["text", "index", "sign"] ["text"] (defScope s_first_wrong_name) := ⟨rfl, rfl, rfl, by decide +kernel, rfl, by decide +kernel, by decide +kernel⟩
theorem sc__law_mixed : FnScope ["number", "k"] ["number", "k"] (defScope s__law_mixed) := ⟨rfl, rfl, rfl, by decide +kernel, rfl, by decide +kernel, by decide +kernel⟩
theorem sc__law_stream : FnScope ["item", "k"] ["item", "k"] (defScope s__law_stream) := ⟨rfl, rfl, rfl, by decide +kernel, rfl, by decide +kernel, by decide +kernel⟩
theorem sc__law_draw : FnScope ["stream", "top", "number"] ["stream", "top"] (defScope s__law_draw) := ⟨rfl, rfl, rfl, by decide +kernel, rfl, by decide +kernel, by decide +kernel⟩
theorem sc__law_signs : FnScope [] [] (defScope s__law_signs) := ⟨rfl, rfl, rfl, by decide +kernel, rfl, by decide +kernel, by decide +kernel⟩
theorem sc__law_pick : FnScope ["stream", "some"] ["stream", "some"] (defScope s__law_pick) := ⟨rfl, rfl, rfl, by decide +kernel, rfl, by decide +kernel, by decide +kernel⟩
theorem sc__law_is_part : FnScope ["word", "letters", "one"] ["word"] (defScope s__law_is_part) := ⟨rfl, rfl, rfl, by decide +kernel, rfl, by decide +kernel, by decide +kernel⟩
theorem sc__law_is_name : FnScope ["word", "some", "one"] ["word"] (defScope s__law_is_name) := ⟨rfl, rfl, rfl, by decide +kernel, rfl, by decide +kernel, by decide +kernel⟩
theorem sc__law_told : FnScope ["call", "caught", "found", "error"] ["call"] (defScope s__law_told) := ⟨rfl, rfl, rfl, by decide +kernel, rfl, by decide +kernel, by decide +kernel⟩
theorem sc__law_word : FnScope ["stream", "found", "turn", "some"] ["stream"] (defScope s__law_word) := ⟨rfl, rfl, rfl, by decide +kernel, rfl, by decide +kernel, by decide +kernel⟩
theorem sc__law_is_begun : FnScope ["word", "some"] ["word"] (defScope s__law_is_begun) := ⟨rfl, rfl, rfl, by decide +kernel, rfl, by decide +kernel, by decide +kernel⟩
theorem sc__law_right : FnScope ["word", "far", "due", "k"] ["word"] (defScope s__law_right) := ⟨rfl, rfl, rfl, by decide +kernel, rfl, by decide +kernel, by decide +kernel⟩
theorem sc_law : FnScope ["script", "k", "item", "stream", "turn", "word", "bent", "odd", "told", "some", "one"] ["script"] (defScope s_law) := ⟨rfl, rfl, rfl, by decide +kernel, rfl, by decide +kernel, by decide +kernel⟩
/-! ### what the walk asks of the top -/
structure Tx (P : Program) (w : World) (K : PySem.W.Frag) (mg : Str → Option Value) (base : Heap) : Type where
  d_continues_name : Mx.DefT K mg "continues_name" s_continues_name ["word", "sign"]
  d_check_text : Mx.DefT K mg "check_text" s_check_text ["text"]
  d_is_part : Mx.DefT K mg "is_part" s_is_part ["value"]
  d_is_name : Mx.DefT K mg "is_name" s_is_name ["value"]
  d_part_end : Mx.DefT K mg "part_end" s_part_end ["text", "begin"]
  d_name_end : Mx.DefT K mg "name_end" s_name_end ["text", "begin"]
  d_first_wrong_name : Mx.DefT K mg "first_wrong_name" s_first_wrong_name ["text"]
  d__law_mixed : Mx.DefT K mg "_law_mixed" s__law_mixed ["number", "k"]
  d__law_stream : Mx.DefT K mg "_law_stream" s__law_stream ["item", "k"]
  d__law_draw : Mx.DefT K mg "_law_draw" s__law_draw ["stream", "top"]
  d__law_signs : Mx.DefT K mg "_law_signs" s__law_signs []
  d__law_pick : Mx.DefT K mg "_law_pick" s__law_pick ["stream", "some"]
  d__law_is_part : Mx.DefT K mg "_law_is_part" s__law_is_part ["word"]
  d__law_is_name : Mx.DefT K mg "_law_is_name" s__law_is_name ["word"]
  d__law_told : Mx.DefT K mg "_law_told" s__law_told ["call"]
  d__law_word : Mx.DefT K mg "_law_word" s__law_word ["stream"]
  d__law_is_begun : Mx.DefT K mg "_law_is_begun" s__law_is_begun ["word"]
  d__law_right : Mx.DefT K mg "_law_right" s__law_right ["word"]
  n_isinstance : mg "isinstance" = none
  n_str : mg "str" = none
  n_len : mg "len" = none
  n_int : mg "int" = none
  n_enumerate : mg "enumerate" = none
  n_range : mg "range" = none
  n_max : mg "max" = none
  n_repr : mg "repr" = none
  g_LETTERS : ∃ u, mg "LETTERS" = some u ∧ RelV (.str "abcdefghijklmnopqrstuvwxyzABCDEFGHIJKLMNOPQRSTUVWXYZ_") u
  g_INNER : ∃ u, mg "INNER" = some u ∧ RelV (.str "abcdefghijklmnopqrstuvwxyzABCDEFGHIJKLMNOPQRSTUVWXYZ_0123456789-.") u
  a_InvalidText : Addr
  i_InvalidText : Addr
  fd_InvalidText : FuncData
  x_InvalidText : Mx.ExT P w K mg base "InvalidText" "index" a_InvalidText i_InvalidText fd_InvalidText ["self", "index"]
  kb_is_part : KBinds K d_is_part.fd ["value"] ["value"] (fun us ws => us ++ ws) (fun vs zs => vs ++ zs)
  kb_is_name : KBinds K d_is_name.fd ["value"] ["value"] (fun us ws => us ++ ws) (fun vs zs => vs ++ zs)
  kb_first_wrong_name : KBinds K d_first_wrong_name.fd ["text"] ["text"] (fun us ws => us ++ ws) (fun vs zs => vs ++ zs)
  a_MarkupError : Addr
  m_MarkupError : mg "MarkupError" = some (.ref a_MarkupError)
  a_MarkupStateError : Addr
  m_MarkupStateError : mg "MarkupStateError" = some (.ref a_MarkupStateError)
  a_LimitError : Addr
  m_LimitError : mg "LimitError" = some (.ref a_LimitError)
  a_IllFormed : Addr
  m_IllFormed : mg "IllFormed" = some (.ref a_IllFormed)
  a_InvalidNumber : Addr
  m_InvalidNumber : mg "InvalidNumber" = some (.ref a_InvalidNumber)
  a_InvalidKind : Addr
  m_InvalidKind : mg "InvalidKind" = some (.ref a_InvalidKind)
  xc_InvalidText : Mx.XcC K a_InvalidText
  ex_InvalidText : PySem.W.exmAny K (.ref a_InvalidText) [.ref a_MarkupError, .ref a_MarkupStateError, .ref a_LimitError] = some true
  fn_InvalidText : PySem.W.findIn K (.ref a_InvalidText) "index" = some none
  k1_InvalidText : PySem.W.kitOne K (.ref a_InvalidText) (.ref a_IllFormed) = some false
  k2_InvalidText : PySem.W.kitOne K (.ref a_InvalidText) (.ref a_InvalidText) = some true
end K2

namespace K2
open PySem PySem.Spec PyProof.Rows L2 Mx
/-! ### the law's draws -/
def sp__law_mixed : Sp := fun vs H Q _ => ∃ n k : Int, vs = [.int n, .int k] ∧ 0 ≤ k ∧ k ≤ 1000000000000 ∧ ∀ r : Int, 0 ≤ r → r < 2147483629 → Q (.int r) H
def sp__law_stream : Sp := fun vs H Q _ => ∃ n k : Int, vs = [.int n, .int k] ∧ 0 ≤ k ∧ k ≤ 1000000 ∧ ∀ (p : Addr) (H' : Hp), H p = none → Same H H' → StAt p 0 H' → Q (.ref p) H'
def sp__law_draw : Sp := fun vs H Q _ => ∃ (a : Addr) (c top : Int), vs = [.ref a, .int top] ∧ StAt a c H ∧ c ≤ 100000000 ∧ 0 < top ∧ top < 1000000 ∧
  ∀ (r : Int) (H' : Hp), 0 ≤ r → r < top → Kp a H H' → StAt a (c + 1) H' → Q (.int r) H'

local macro_rules | `(tactic| walk_at "sz") => `(tactic| first | assumption | decide | omega | (unfold sizeLine; omega) | exact Nat.le_of_ble_eq_true rfl)
local macro_rules | `(tactic| walk_at "hp") => `(tactic| (first | assumption | exact upd_same | (rw [upd_ne (by assumption)]; assumption)))
local macro_rules | `(tactic| walk_at "rd") => `(tactic| (first
  | refine ⟨_, rfl, ?_⟩
  | (refine ⟨_, _, rfl, rfl, ?rdc, ?_⟩; (case rdc => first | (show (0 : Int) < _; omega) | (exact ⟨by omega, by omega⟩) | (exact .inl ⟨by omega, by omega⟩) | (exact .inr ⟨by omega, by omega⟩) | exact ⟨by decide, by decide, by decide⟩))
  | refine ⟨_, _, rfl, rfl, ?_⟩
  | refine .inl ⟨_, rfl, ?_⟩
  | refine ⟨rfl, ?_⟩
  | refine ⟨⟨_, rfl⟩, ?_⟩
  | refine ⟨⟨_, SqL.of (by walk_at "hp")⟩, ?_⟩
  | refine ⟨_, _, _, _, rfl, rfl, SqL.of (by walk_at "hp"), (by rfl), ?_⟩
  | refine ⟨_, _, _, _, rfl, rfl, (by walk_at "hp"), (by rfl), ?_⟩
  | refine ⟨_, _, rfl, ⟨by walk_at "sz", rfl⟩, ?_⟩
  | refine ⟨_, _, _, rfl, rfl, by walk_at "sz", by assumption, ?_⟩
  | refine And.intro (by walk_at "sz") ?_
  | refine itT rfl ?_
  | refine itF rfl ?_
  | refine itT (by assumption) ?_
  | refine itF (by assumption) ?_
  | refine itT (decide_eq_true (by omega)) ?_
  | refine itF (decide_eq_false (by omega)) ?_
  | refine itT (dVi (by omega)) ?_
  | refine itF (dViN (by omega)) ?_
  | refine itT (notT (by assumption)) ?_
  | refine itF (notF (by assumption)) ?_
  | refine itT (notT (dViN (by omega))) ?_
  | refine itF (notF (dVi (by omega))) ?_
  | refine itT (decide_eq_true rfl) ?_
  | refine itF (notF (decide_eq_true rfl)) ?_
  | refine ite2 (fun _ => ?_) (fun _ => ?_)
  | with_reducible refine tC_ ?_
  | with_reducible refine tNext_ ?_
  | with_reducible refine tNil_ ?_))
local macro_rules | `(tactic| walk_at "rds") => `(tactic| repeat' (walk_at "rd"))
section
variable {P : Program} {w : World} {K : PySem.W.Frag} {mg : Str → Option Value} {base : Heap}

theorem ok__law_mixed (T : Tx P w K mg base) : FnOk P w K mg base CX0 1 T.d__law_mixed.f T.d__law_mixed.fd ["number", "k"] sp__law_mixed := by
  have sc := sc__law_mixed
  refine T.d__law_mixed.F.ok sc (fun vs H Q E h => ?_) (fun cdv A outer s H vs Q E hr h => ?_)
  · obtain ⟨n, k, rfl, h1, h2, q⟩ := h
    rfl
  · obtain ⟨n, k, rfl, h1, h2, q⟩ := h
    refine ⟨_, (pss_cons (ps_set (i := 0) sc.nd rfl (Or.inl rfl) (pe_op op_mod (pe_callTy call_int1 (by rfl) T.n_int (by decide +kernel) (pa_cons (pe_op op_mul (pe_op op_add (pe_op op_add (pe_op op_mod (pe_callTy call_int1 (by rfl) T.n_int (by decide +kernel) (pa_cons (pv 0) pa_nil)) pe_int) (pe_op op_mul (pe_op op_mul pe_int (pv 1)) (pv 1))) (pe_op op_mul pe_int (pv 1))) pe_int) pa_nil)) pe_int))
      (pss_one (ps_ret (pe_op op_mod (pe_callTy call_int1 (by rfl) T.n_int (by decide +kernel) (pa_cons (pe_op op_mul (pv 0) (pe_op op_add pe_int (pe_op op_mul pe_int (pv 1)))) pa_nil)) pe_int)))), ?_⟩
    have e2 : ∀ x : Int, 0 ≤ x % 2147483629 ∧ x % 2147483629 < 2147483629 := fun x => ⟨Int.emod_nonneg _ (by decide), Int.emod_lt_of_pos _ (by decide)⟩
    repeat (walk_at "rd")
    exact q _ (e2 _).1 (e2 _).2

theorem ok__law_stream (T : Tx P w K mg base) (G__law_mixed : FnOk P w K mg base CX0 1 T.d__law_mixed.f T.d__law_mixed.fd ["number", "k"] sp__law_mixed) : FnOk P w K mg base CX0 2 T.d__law_stream.f T.d__law_stream.fd ["item", "k"] sp__law_stream := by
  have sc := sc__law_stream
  refine T.d__law_stream.F.ok sc (fun vs H Q E h => ?_) (fun cdv A outer s H vs Q E hr h => ?_)
  · obtain ⟨n, k, rfl, h1, h2, q⟩ := h
    rfl
  · obtain ⟨n, k, rfl, h1, h2, q⟩ := h
    refine ⟨_, (pss_one (ps_ret (pe_lst (pa_cons (pe_ifExp (pt_cmpR op_ge (pv 0) (pe_op op_pow pe_int pe_int) (nomark _)) (pv 0) pe_int) (pa_cons pe_int (pa_cons (pe_call G__law_mixed (hr.mono (by decide)) rfl T.d__law_mixed.m T.d__law_mixed.F.kp T.d__law_mixed.b .nil pass0 (pa_cons (pv 0) (pa_cons (pv 1) pa_nil))) pa_nil)))))), ?_⟩
    walk_at "rds"
    all_goals
      refine ⟨_, _, rfl, h1, by omega, fun r r0 r1 => ?_⟩
      walk_at "rds"
      intro p hp
      exact q p _ hp (Same.new (Same.refl _) hp) ⟨_, _, 0, upd_same, by decide, by decide⟩

theorem ok__law_draw (T : Tx P w K mg base) (G__law_mixed : FnOk P w K mg base CX0 1 T.d__law_mixed.f T.d__law_mixed.fd ["number", "k"] sp__law_mixed) : FnOk P w K mg base CX0 2 T.d__law_draw.f T.d__law_draw.fd ["stream", "top"] sp__law_draw := by
  have sc := sc__law_draw
  refine T.d__law_draw.F.ok sc (fun vs H Q E h => ?_) (fun cdv A outer s H vs Q E hr h => ?_)
  · obtain ⟨a, c, top, rfl, hs, hc, t0, t1, q⟩ := h
    rfl
  · obtain ⟨a, c, top, rfl, hs, hc, t0, t1, q⟩ := h
    refine ⟨_, (pss_cons (ps_asg (pe_op op_add (pe_ix ix_list (pv 0) pe_int (fun _ _ => rfl)) pe_int) (pg_sub (pv 0) pe_int set_list))
      (pss_cons (ps_if (pt_cmpR op_eq (pe_ix ix_list (pv 0) pe_int (fun _ _ => rfl)) pe_int (nomark _)) (pss_one (ps_ret (pe_op op_mod (pe_callTy call_int1 (by rfl) T.n_int (by decide +kernel) (pa_cons (pe_call G__law_mixed (hr.mono (by decide)) rfl T.d__law_mixed.m T.d__law_mixed.F.kp T.d__law_mixed.b .nil pass0 (pa_cons (pe_call G__law_mixed (hr.mono (by decide)) rfl T.d__law_mixed.m T.d__law_mixed.F.kp T.d__law_mixed.b .nil pass0 (pa_cons (pe_ix ix_list (pv 0) pe_int (fun _ _ => rfl)) (pa_cons (pe_ix ix_list (pv 0) pe_int (fun _ _ => rfl)) pa_nil))) (pa_cons pe_int pa_nil))) pa_nil)) (pv 1)))) pss_nil)
      (pss_cons (ps_set (i := 2) sc.nd rfl (Or.inl rfl) (pe_op op_mod (pe_callTy call_int1 (by rfl) T.n_int (by decide +kernel) (pa_cons (pe_ix ix_list (pv 0) pe_int (fun _ _ => rfl)) pa_nil)) (pv 1)))
      (pss_cons (ps_asg (pe_op op_fdiv (pe_ix ix_list (pv 0) pe_int (fun _ _ => rfl)) (pv 1)) (pg_sub (pv 0) pe_int set_list))
      (pss_one (ps_ret (pv 2))))))), ?_⟩
    obtain ⟨x, y, n, ha, n0, n1⟩ := hs
    have em : ∀ x : Int, 0 ≤ x % top ∧ x % top < top := fun x => ⟨Int.emod_nonneg _ (by omega), Int.emod_lt_of_pos _ t0⟩
    walk_at "rds"
    · refine ⟨_, _, rfl, by omega, by omega, fun r r0 r1 => ?_⟩
      walk_at "rds"
      refine ⟨_, _, rfl, by decide, by decide, fun r2 r20 r21 => ?_⟩
      walk_at "rds"
      exact q _ _ (em _).1 (em _).2 ((Kp.refl _ _).upd) ⟨_, _, _, upd_same, by omega, by omega⟩
    · walk_at "rds"
      exact q _ _ (em _).1 (em _).2 ((Kp.refl _ _).upd.upd) ⟨_, _, _, upd_same, by omega, by omega⟩

abbrev signs : Str := Str.ofString ("\t\n !\"#$&'()*+,-./0123456789:;<=>?@" ++ "ABCDEFGHIJKLMNOPQRSTUVWXYZ[\\]^_`abcdefghijklmnopqrstuvwxyz{|}~")
def sp__law_signs : Sp := fun vs H Q _ => vs = [] ∧ Q (.str signs) H
theorem ok__law_signs (T : Tx P w K mg base) : FnOk P w K mg base CX0 1 T.d__law_signs.f T.d__law_signs.fd [] sp__law_signs := by
  have sc := sc__law_signs
  refine T.d__law_signs.F.ok sc (fun vs H Q E h => ?_) (fun cdv A outer s H vs Q E hr h => ?_)
  · obtain ⟨rfl, q⟩ := h
    rfl
  · obtain ⟨rfl, q⟩ := h
    refine ⟨_, (pss_one (ps_ret pe_str)), ?_⟩
    exact cast (congrArg (fun z => Q (.str z) H) (show signs = _ from by decide +kernel)) q

def sp__law_pick : Sp := fun vs H Q _ => ∃ (a : Addr) (c : Int) (v : V), vs = [.ref a, v] ∧ StAt a c H ∧ c ≤ 100000000 ∧
  ((∃ (b : Addr) (xs : List V), v = .ref b ∧ b ≠ a ∧ H b = some (.lst xs) ∧ 0 < xs.length ∧ xs.length < 1000000 ∧ ∀ (i : Nat) (x : V) (H' : Hp), xs[i]? = some x → Kp a H H' → StAt a (c + 1) H' → Q x H') ∨
   (∃ z : Str, v = .str z ∧ 0 < z.cps.size ∧ z.cps.size < 1000000 ∧ ∀ (cp : Nat) (H' : Hp), cp ∈ z.cps.toList → Kp a H H' → StAt a (c + 1) H' → Q (.str ⟨#[cp]⟩) H'))
theorem ok__law_pick (T : Tx P w K mg base) (G__law_draw : FnOk P w K mg base CX0 2 T.d__law_draw.f T.d__law_draw.fd ["stream", "top"] sp__law_draw) : FnOk P w K mg base CX0 3 T.d__law_pick.f T.d__law_pick.fd ["stream", "some"] sp__law_pick := by
  have sc := sc__law_pick
  refine T.d__law_pick.F.ok sc (fun vs H Q E h => ?_) (fun cdv A outer s H vs Q E hr h => ?_)
  · obtain ⟨a, c, v, rfl, hs, hc, hv⟩ := h
    rfl
  · obtain ⟨a, c, v, rfl, hs, hc, hv⟩ := h
    refine ⟨_, (pss_one (ps_ret (pe_ix ix_seq (pv 1) (pe_call G__law_draw (hr.mono (by decide)) rfl T.d__law_draw.m T.d__law_draw.F.kp T.d__law_draw.b .nil pass0 (pa_cons (pv 0) (pa_cons (pe_callB call_len (by rfl) T.n_len PySem.boot_len (pa_cons (pv 1) pa_nil)) pa_nil))) (fun _ _ => rfl)))), ?_⟩
    rcases hv with ⟨b, xs, rfl, hb, hx, z0, z1, q⟩ | ⟨z, rfl, z0, z1, q⟩
    · walk_at "rds"
      refine ⟨_, _, rfl, .inl ⟨_, SqL.of hx, rfl⟩, ?_⟩
      walk_at "rds"
      refine ⟨a, c, _, rfl, hs, hc, by omega, by omega, fun r H' r0 r1 kp st => ?_⟩
      obtain ⟨i, x, hi, e, _⟩ := at_int r0 r1
      exact .inl ⟨_, _, _, _, rfl, rfl, SqL.of (kp _ _ hb hx), e, q i x H' hi kp st⟩
    · have zl : z.length = z.cps.size := rfl
      walk_at "rds"
      refine ⟨a, c, _, rfl, hs, hc, by omega, by omega, fun r H' r0 r1 kp st => ?_⟩
      obtain ⟨cp, hm, e⟩ := at_text r0 r1
      exact .inr (.inr ⟨_, _, _, rfl, rfl, by unfold sizeLine; omega, e, q cp H' hm kp st⟩)

def sp__law_word : Sp := fun vs H Q _ => ∃ (a : Addr) (c : Int), vs = [.ref a] ∧ StAt a c H ∧ c ≤ 1000000 ∧
  ∀ (z : Str) (H' : Hp), z.cps.size ≤ 12 → (∀ c ∈ z.cps.toList, c < 128) → Kp a H H' → StAt a (c + 100) H' → Q (.str z) H'
def letsV : List V := [.str "abz_XYZ", .str "09-.", .str "a:b:", .str "aq", .str signs]
theorem letsV_at {i : Nat} {x : V} (h : letsV[i]? = some x) : ∃ z : Str, x = .str z ∧ 0 < z.cps.size ∧ z.cps.size < 1000000 ∧ ∀ c ∈ z.cps.toList, c < 128 := by
  have k : ∀ x ∈ letsV, ∃ z : Str, x = .str z ∧ 0 < z.cps.size ∧ z.cps.size < 1000000 ∧ ∀ c ∈ z.cps.toList, c < 128 := by
    intro x hx
    simp only [letsV, List.mem_cons, List.not_mem_nil, or_false] at hx
    rcases hx with rfl | rfl | rfl | rfl | rfl <;> exact ⟨_, rfl, by decide +kernel, by decide +kernel, by decide +kernel⟩
  exact k x (List.mem_of_getElem? h)
theorem ok__law_word (T : Tx P w K mg base) (G__law_draw : FnOk P w K mg base CX0 2 T.d__law_draw.f T.d__law_draw.fd ["stream", "top"] sp__law_draw) (G__law_signs : FnOk P w K mg base CX0 1 T.d__law_signs.f T.d__law_signs.fd [] sp__law_signs) (G__law_pick : FnOk P w K mg base CX0 3 T.d__law_pick.f T.d__law_pick.fd ["stream", "some"] sp__law_pick) : FnOk P w K mg base CX0 4 T.d__law_word.f T.d__law_word.fd ["stream"] sp__law_word := by
  have sc := sc__law_word
  refine T.d__law_word.F.ok sc (fun vs H Q E h => ?_) (fun cdv A outer s H vs Q E hr h => ?_)
  · obtain ⟨a, c, rfl, hs, hc, q⟩ := h
    rfl
  · obtain ⟨a, c, rfl, hs, hc, q⟩ := h
    refine ⟨_, (pss_cons (ps_set (i := 1) sc.nd rfl (Or.inl rfl) pe_str)
      (pss_cons (ps_for PassesOwn.never rfl (pi_range1 rfl T.n_range (pa_cons (pe_call G__law_draw (hr.mono (by decide)) rfl T.d__law_draw.m T.d__law_draw.F.kp T.d__law_draw.b .nil pass0 (pa_cons (pv 0) (pa_cons pe_int pa_nil))) pa_nil)) (pg_name (i := 2) sc.nd rfl (Or.inl rfl)) (pss_cons (ps_set (i := 3) sc.nd rfl (Or.inl rfl) (pe_ix ix_list (pe_lst (pa_cons pe_str (pa_cons pe_str (pa_cons pe_str (pa_cons pe_str (pa_cons (pe_call0 G__law_signs (hr.mono (by decide)) rfl T.d__law_signs.m T.d__law_signs.F.kp T.d__law_signs.b .nil pass0) pa_nil)))))) (pe_call G__law_draw (hr.mono (by decide)) rfl T.d__law_draw.m T.d__law_draw.F.kp T.d__law_draw.b .nil pass0 (pa_cons (pv 0) (pa_cons pe_int pa_nil))) (fun _ _ => rfl)))
      (pss_one (ps_set (i := 1) sc.nd rfl (Or.inl rfl) (pe_op op_add_str (pv 1) (pe_call G__law_pick (hr.mono (by decide)) rfl T.d__law_pick.m T.d__law_pick.F.kp T.d__law_pick.b .nil pass0 (pa_cons (pv 0) (pa_cons (pv 3) pa_nil))))))))
      (pss_one (ps_ret (pv 1))))), ?_⟩
    walk_at "rds"
    refine ⟨a, c, _, rfl, hs, by omega, by decide, by decide, fun r H1 r0 r1 k1 s1 => ?_⟩
    walk_at "rds"
    refine for_range (fun i σ H2 => i ≤ 12 ∧ ∃ (z : Str) (v2 v3 : Option V), σ = [some (.ref a), some (.str z), v2, v3] ∧ z.cps.size ≤ i ∧ (∀ c ∈ z.cps.toList, c < 128) ∧ Kp a H H2 ∧ StAt a (c + 1 + 2 * (i : Int)) H2) ?_ ?_ ?_
    · exact ⟨by decide, _, _, _, rfl, by decide, by decide, k1, s1.mono (by omega)⟩
    · rintro i σ H2 hi ⟨h12, z, v2, v3, rfl, hz, hz8, kp, st⟩
      walk_at "rds"
      intro p hp
      walk_at "rds"
      have hpa : p ≠ a := by
        obtain ⟨_, _, _, e, _⟩ := st
        exact fun e2 => by rw [e2, e] at hp; cases hp
      refine ⟨a, _, _, rfl, st.same (Same.new (Same.refl _) hp), by omega, by decide, by decide, fun r2 H3 r20 r21 k3 s3 => ?_⟩
      obtain ⟨j, x, hj, e, _⟩ := at_int (xs := letsV) r20 (by exact r21)
      refine ⟨_, _, _, _, rfl, rfl, SqL.of (k3 _ _ hpa upd_same), e, ?_⟩
      walk_at "rds"
      obtain ⟨y, rfl, y0, y1, y8⟩ := letsV_at hj
      refine ⟨a, _, _, rfl, s3, by omega, .inr ⟨y, rfl, y0, y1, fun cp H4 hcp k4 s4 => ?_⟩⟩
      refine ⟨_, _, rfl, rfl, ?_, ?_⟩
      · show z.cps.size + 1 ≤ sizeLine
        unfold sizeLine
        omega
      · refine ⟨by omega, _, _, _, rfl, ?_, ?_, ?_, s4.mono (by omega)⟩
        · rw [size_add]
          show _ + 1 ≤ _
          omega
        · intro c hc
          rcases mem_add hc with hc | hc
          · exact hz8 c hc
          · rw [List.mem_singleton.mp hc]
            exact y8 _ hcp
        · exact ((kp.new hp).trans k3).trans k4
    · rintro σ H2 ⟨h12, z, v2, v3, rfl, hz, hz8, kp, st⟩
      walk_at "rds"
      exact q z H2 (by omega) hz8 kp (st.mono (by omega))

end
end K2

namespace K2
open PySem PySem.Spec PyProof.Rows L2 Mx
/-! ### the program -/
open TL
def sp_continues_name : Sp := fun vs H Q _ => ∃ (z : Str) (c : Nat), vs = [.str z, .str ⟨#[c]⟩] ∧ Q (.bl (Nam.goesOn (tl z) c)) H

local macro_rules | `(tactic| walk_at "sz") => `(tactic| first | assumption | decide | omega | (unfold sizeLine; omega) | exact Nat.le_of_ble_eq_true rfl)
local macro_rules | `(tactic| walk_at "hp") => `(tactic| (first | assumption | exact upd_same | (rw [upd_ne (by assumption)]; assumption)))
local macro_rules | `(tactic| walk_at "rd") => `(tactic| (first
  | refine ⟨_, rfl, ?_⟩
  | (refine ⟨_, _, rfl, rfl, ?rdc, ?_⟩; (case rdc => first | (show (0 : Int) < _; omega) | (exact ⟨by omega, by omega⟩) | (exact .inl ⟨by omega, by omega⟩) | (exact .inr ⟨by omega, by omega⟩) | exact ⟨by decide, by decide, by decide⟩))
  | refine ⟨_, _, rfl, rfl, ?_⟩
  | refine .inl ⟨_, rfl, ?_⟩
  | refine ⟨rfl, ?_⟩
  | refine ⟨⟨_, rfl⟩, ?_⟩
  | refine ⟨⟨_, SqL.of (by walk_at "hp")⟩, ?_⟩
  | refine ⟨_, _, _, _, rfl, rfl, SqL.of (by walk_at "hp"), (by rfl), ?_⟩
  | refine ⟨_, _, _, _, rfl, rfl, (by walk_at "hp"), (by rfl), ?_⟩
  | refine ⟨_, _, rfl, ⟨by walk_at "sz", rfl⟩, ?_⟩
  | refine ⟨_, _, _, rfl, rfl, by walk_at "sz", by assumption, ?_⟩
  | refine And.intro (by walk_at "sz") ?_
  | refine itT rfl ?_
  | refine itF rfl ?_
  | refine itT (by assumption) ?_
  | refine itF (by assumption) ?_
  | refine itT (decide_eq_true (by omega)) ?_
  | refine itF (decide_eq_false (by omega)) ?_
  | refine itT (dVi (by omega)) ?_
  | refine itF (dViN (by omega)) ?_
  | refine itT (notT (by assumption)) ?_
  | refine itF (notF (by assumption)) ?_
  | refine itT (notT (dViN (by omega))) ?_
  | refine itF (notF (dVi (by omega))) ?_
  | refine itT (decide_eq_true rfl) ?_
  | refine itF (notF (decide_eq_true rfl)) ?_
  | refine ite2 (fun _ => ?_) (fun _ => ?_)
  | with_reducible refine tC_ ?_
  | with_reducible refine tNext_ ?_
  | with_reducible refine tNil_ ?_))
local macro_rules | `(tactic| walk_at "rds") => `(tactic| repeat' (walk_at "rd"))
section
variable {P : Program} {w : World} {K : PySem.W.Frag} {mg : Str → Option Value} {base : Heap}

theorem ok_continues_name (T : Tx P w K mg base) : FnOk P w K mg base CX0 1 T.d_continues_name.f T.d_continues_name.fd ["word", "sign"] sp_continues_name := by
  have sc := sc_continues_name
  refine T.d_continues_name.F.ok sc (fun vs H Q E h => ?_) (fun cdv A outer s H vs Q E hr h => ?_)
  · obtain ⟨z, c, rfl, q⟩ := h
    rfl
  · obtain ⟨z, c, rfl, q⟩ := h
    refine ⟨_, (pss_cons (ps_if (pt_cmpR op_eq (pv 1) pe_str (nomark _)) (pss_one (ps_ret ((pe_and (pe_cmpR op_ne (pv 0) pe_str (nomark _)) (pe_one (pe_cmpR op_notIn_sign pe_str (pv 0) (by rfl))))))) pss_nil)
      (pss_one (ps_ret (pe_cmpR op_in_sign (pv 1) (pe_ifExp (PW.pt (pw_or (pt_cmpR op_eq (pv 0) pe_str (nomark _)) (pw_or1 (pt_val (pe_m1 PySem.F.slot_str_endswith PySem.F.type_str_endswith mt_endswith (pv 0) pe_str))))) (pe_gc rfl T.g_LETTERS) (pe_gc rfl T.g_INNER)) (by rfl))))), ?_⟩
    have fin : ∀ b, Nam.goesOn (tl z) c = b → Q (.bl b) H := fun b e => e ▸ q
    walk_at "rds"
    · rename_i h1 h2
      refine fin _ ?_
      rw [Nam.colon_codes, Nam.one_eq] at h1
      rw [Nam.empty_eq] at h2
      unfold Nam.goesOn
      rw [if_pos (of_decide_eq_true h1)]
      simp at h2
      simp [h2]
    · rename_i h1 h2
      refine fin _ ?_
      rw [Nam.colon_codes, Nam.one_eq] at h1
      rw [Nam.empty_eq] at h2
      unfold Nam.goesOn
      rw [if_pos (of_decide_eq_true h1)]
      simp at h2
      simp [h2]
    · rename_i h1 h2
      refine fin _ ?_
      rw [Nam.colon_codes, Nam.one_eq] at h1
      rw [Nam.empty_eq] at h2
      unfold Nam.goesOn
      rw [if_neg (fun e => h1 (decide_eq_true e)), if_pos (Or.inl (of_decide_eq_true h2))]
      exact (Nam.inL c).symm
    · rename_i h1 h2 h3
      refine fin _ ?_
      rw [Nam.colon_codes, Nam.one_eq] at h1
      rw [Nam.ends_colon] at h3
      unfold Nam.goesOn
      rw [if_neg (fun e => h1 (decide_eq_true e)), if_pos (Or.inr (of_decide_eq_true h3))]
      exact (Nam.inL c).symm
    · rename_i h1 h2 h3
      refine fin _ ?_
      rw [Nam.colon_codes, Nam.one_eq] at h1
      rw [Nam.empty_eq] at h2
      rw [Nam.ends_colon] at h3
      unfold Nam.goesOn
      rw [if_neg (fun e => h1 (decide_eq_true e)), if_neg (fun e => e.elim (fun e => h2 (decide_eq_true e)) fun e => h3 (decide_eq_true e))]
      exact (Nam.inI c).symm

def sp_part_end : Sp := fun vs H Q _ => ∃ (z : Str) (i : Nat), vs = [.str z, .int (i : Int)] ∧ (tl z).length ≤ 1000 ∧ i ≤ (tl z).length ∧ Q (.int ((i + Nam.pend ((tl z).drop i) : Nat) : Int)) H
theorem ok_part_end (T : Tx P w K mg base) : FnOk P w K mg base CX0 1 T.d_part_end.f T.d_part_end.fd ["text", "begin"] sp_part_end := by
  have sc := sc_part_end
  refine T.d_part_end.F.ok sc (fun vs H Q E h => ?_) (fun cdv A outer s H vs Q E hr h => ?_)
  · obtain ⟨z, i, rfl, hz, hi, q⟩ := h
    rfl
  · obtain ⟨z, i, rfl, hz, hi, q⟩ := h
    refine ⟨_, (pss_cons (ps_if (PW.pt (pw_or (pt_cmpR op_eq (pv 1) (pe_callB call_len (by rfl) T.n_len PySem.boot_len (pa_cons (pv 0) pa_nil)) (nomark _)) (pw_or1 (pt_cmpR op_notIn_sign (pe_ix ix_str (pv 0) (pv 1) (fun _ _ => rfl)) (pe_gc rfl T.g_LETTERS) (by rfl))))) (pss_one (ps_ret (pv 1))) pss_nil)
      (pss_cons (ps_set (i := 2) sc.nd rfl (Or.inl rfl) (pe_op op_add (pv 1) pe_int))
      (pss_cons (ps_while PassesOwn.never (PW.pt (pw_and (pt_cmpR op_lt (pv 2) (pe_callB call_len (by rfl) T.n_len PySem.boot_len (pa_cons (pv 0) pa_nil)) (nomark _)) (pw_and1 (pt_cmpR op_in_sign (pe_ix ix_str (pv 0) (pv 2) (fun _ _ => rfl)) (pe_gc rfl T.g_INNER) (by rfl))))) (pss_one (ps_set (i := 2) sc.nd rfl (Or.inl rfl) (pe_op op_add (pv 2) pe_int))))
      (pss_one (ps_ret (pv 2)))))), ?_⟩
    have zl : z.length = (tl z).length := len_tl z
    have fin : ∀ r : Nat, i + Nam.pend ((tl z).drop i) = r → Q (.int (r : Int)) H := fun b e => e ▸ q
    by_cases h1 : i = (tl z).length
    · walk_at "rds"
      exact fin _ (Nam.pend_end h1)
    · have hi2 : i < (tl z).length := by omega
      have hc : atI z.cps.toList (i : Int) = some ((tl z)[i]) := atI_nat (List.getElem?_eq_getElem hi2)
      have hg : (tl z)[i]? = some ((tl z)[i]) := List.getElem?_eq_getElem hi2
      generalize (tl z)[i] = c at hc hg
      walk_at "rds"
      · rename_i h2
        rw [Nam.inL] at h2
        exact fin _ (Nam.pend_stop hg (by simpa using h2))
      · rename_i h2
        rw [Nam.inL] at h2
        have h2' : Nam.isL c = true := by simpa using h2
        have hg0 := hg
        refine ⟨fun m σ H' => ∃ j : Nat, m = (tl z).length - j ∧ H' = H ∧ σ = [some (.str z), some (.int (i : Int)), some (.int (j : Int))] ∧ j ≤ (tl z).length ∧ Nam.tw (tl z) j = Nam.tw (tl z) (i + 1), ⟨_, i + 1, rfl, rfl, rfl, hi2, rfl⟩, ?_⟩
        rintro m σ H' ⟨j, rfl, rfl, rfl, hj, ht⟩
        by_cases hlt : j < (tl z).length
        · have hc : atI z.cps.toList (j : Int) = some ((tl z)[j]) := atI_nat (List.getElem?_eq_getElem hlt)
          have hg : (tl z)[j]? = some ((tl z)[j]) := List.getElem?_eq_getElem hlt
          generalize (tl z)[j] = d at hc hg
          walk_at "rds"
          · rename_i h3
            rw [Nam.inI] at h3
            refine ⟨fun σ' H2 => H2 = H' ∧ σ' = [some (.str z), some (.int (i : Int)), some (.int ((j + 1 : Nat) : Int))], ?_, ?_⟩
            · rintro σ' H2 ⟨rfl, rfl⟩
              exact ⟨_, by omega, j + 1, rfl, rfl, rfl, hlt, (Nam.tw_step hg h3).symm.trans ht⟩
            · walk_at "rds"
              rfl
          · rename_i h3
            rw [Nam.inI] at h3
            walk_at "rds"
            exact fin _ ((Nam.pend_step hg0 h2').trans (ht.symm.trans (Nam.tw_stop hg (by simpa using h3))))
        · walk_at "rds"
          exact fin _ ((Nam.pend_step hg0 h2').trans (ht.symm.trans (Nam.tw_end (by omega))))

def sp_name_end : Sp := fun vs H Q _ => ∃ (z : Str) (i : Nat), vs = [.str z, .int (i : Int)] ∧ (tl z).length ≤ 1000 ∧ i ≤ (tl z).length ∧ Q (.int ((i + Nam.nend ((tl z).drop i) : Nat) : Int)) H
theorem ok_name_end (T : Tx P w K mg base) (G_part_end : FnOk P w K mg base CX0 1 T.d_part_end.f T.d_part_end.fd ["text", "begin"] sp_part_end) : FnOk P w K mg base CX0 2 T.d_name_end.f T.d_name_end.fd ["text", "begin"] sp_name_end := by
  have sc := sc_name_end
  refine T.d_name_end.F.ok sc (fun vs H Q E h => ?_) (fun cdv A outer s H vs Q E hr h => ?_)
  · obtain ⟨z, i, rfl, hz, hi, q⟩ := h
    rfl
  · obtain ⟨z, i, rfl, hz, hi, q⟩ := h
    refine ⟨_, (pss_cons (ps_set (i := 2) sc.nd rfl (Or.inl rfl) (pe_call G_part_end (hr.mono (by decide)) rfl T.d_part_end.m T.d_part_end.F.kp T.d_part_end.b .nil pass0 (pa_cons (pv 0) (pa_cons (pv 1) pa_nil))))
      (pss_cons (ps_if (PW.pt (pw_or (pt_cmpR op_eq (pv 2) (pv 1) (nomark _)) (pw_or (pt_cmpR op_eq (pv 2) (pe_callB call_len (by rfl) T.n_len PySem.boot_len (pa_cons (pv 0) pa_nil)) (nomark _)) (pw_or1 (pt_cmpR op_ne (pe_ix ix_str (pv 0) (pv 2) (fun _ _ => rfl)) pe_str (nomark _)))))) (pss_one (ps_ret (pv 2))) pss_nil)
      (pss_cons (ps_set (i := 3) sc.nd rfl (Or.inl rfl) (pe_call G_part_end (hr.mono (by decide)) rfl T.d_part_end.m T.d_part_end.F.kp T.d_part_end.b .nil pass0 (pa_cons (pv 0) (pa_cons (pe_op op_add (pv 2) pe_int) pa_nil))))
      (pss_one (ps_ret (pe_ifExp (pt_cmpR op_gt (pv 3) (pe_op op_add (pv 2) pe_int) (nomark _)) (pv 3) (pv 2))))))), ?_⟩
    have zl : z.length = (tl z).length := len_tl z
    have fin : ∀ r : Nat, i + Nam.nend ((tl z).drop i) = r → Q (.int (r : Int)) H := fun b e => e ▸ q
    walk_at "rds"
    refine ⟨z, i, rfl, hz, hi, ?_⟩
    have pl := Nam.pend_le ((tl z).drop i)
    rw [List.length_drop] at pl
    unfold Nam.nend at fin
    generalize hp : Nam.pend ((tl z).drop i) = p at fin pl
    by_cases h0 : p = 0
    · rw [if_pos (Or.inl h0)] at fin
      walk_at "rds"
      exact fin _ rfl
    by_cases h1 : i + p = (tl z).length
    · rw [if_pos (Or.inr (Or.inl (by rw [List.length_drop]; omega)))] at fin
      walk_at "rds"
      exact fin _ rfl
    have hlt : i + p < (tl z).length := by omega
    have hc : atI z.cps.toList ((i + p : Nat) : Int) = some ((tl z)[i + p]) := atI_nat (List.getElem?_eq_getElem hlt)
    have hg : ((tl z).drop i)[p]? = some ((tl z)[i + p]) := by rw [List.getElem?_drop]; exact List.getElem?_eq_getElem hlt
    generalize (tl z)[i + p] = c at hc hg
    by_cases h2 : c = 58
    · subst h2
      rw [if_neg (by rw [List.length_drop, hg]; intro z; rcases z with z | z | z; exact h0 z; omega; exact z rfl), List.drop_drop] at fin
      walk_at "rds"
      refine ⟨z, i + p + 1, by rfl, hz, hlt, ?_⟩
      have e3 : i + (p + 1) = i + p + 1 := by omega
      rw [e3] at fin
      generalize hq : Nam.pend ((tl z).drop (i + p + 1)) = r at fin
      by_cases h3 : 0 < r
      · rw [if_pos h3] at fin
        walk_at "rds"
        exact fin _ (by omega)
      · rw [if_neg h3] at fin
        walk_at "rds"
        exact fin _ rfl
    · rw [if_pos (Or.inr (Or.inr (by rw [hg]; intro e; exact h2 (Option.some.inj e))))] at fin
      have h4 : decide (V.str ⟨#[c]⟩ = V.str ":") = false := by rw [Nam.colon_codes, Nam.one_eq]; exact decide_eq_false h2
      walk_at "rds"
      exact fin _ rfl

def sp_is_part (K : PySem.W.Frag) : Sp := fun vs H Q _ => ∃ v, vs = [v] ∧ ((∃ z : Str, v = .str z ∧ (tl z).length ≤ 1000 ∧ Q (.bl (Nam.part (tl z))) H) ∨ ∃ t, TyX K H v (.type t) ∧ kitB t "str" = some false ∧ Q (.bl false) H)
theorem ok_is_part (T : Tx P w K mg base) (G_part_end : FnOk P w K mg base CX0 1 T.d_part_end.f T.d_part_end.fd ["text", "begin"] sp_part_end) : FnOk P w K mg base CX0 2 T.d_is_part.f T.d_is_part.fd ["value"] (sp_is_part K) := by
  have sc := sc_is_part
  refine T.d_is_part.F.ok sc (fun vs H Q E h => ?_) (fun cdv A outer s H vs Q E hr h => ?_)
  · obtain ⟨v, rfl, hv⟩ := h
    rfl
  · obtain ⟨v, rfl, hv⟩ := h
    refine ⟨_, (pss_one (ps_ret ((pe_and (pe_callB call_isi (by rfl) T.n_isinstance (by decide +kernel) (pa_cons (pv 0) (pa_cons ((pe_bltn (by rfl) T.n_str (by decide +kernel) (v := .ty "str") rfl)) pa_nil))) (pe_and (pe_cmpR op_ne (pv 0) pe_str (nomark _)) (pe_one (pe_cmpR op_eq (pe_call G_part_end (hr.mono (by decide)) rfl T.d_part_end.m T.d_part_end.F.kp T.d_part_end.b .nil pass0 (pa_cons (pv 0) (pa_cons pe_int pa_nil))) (pe_callB call_len (by rfl) T.n_len PySem.boot_len (pa_cons (pv 0) pa_nil)) (nomark _)))))))), ?_⟩
    rcases hv with ⟨z, rfl, hz, q⟩ | ⟨t, ht, kt, q⟩
    · have zl : z.length = (tl z).length := len_tl z
      have fin : ∀ b, Nam.part (tl z) = b → Q (.bl b) H := fun b e => e ▸ q
      rw [← Nam.part_end] at fin
      walk_at "rds"
      refine ⟨_, _, _, _, true, rfl, .ty _, .base (.str z), kit_ty (by decide +kernel), ?_⟩
      walk_at "rds"
      · rename_i h1
        walk_at "rds"
        refine ⟨z, 0, rfl, hz, Nat.zero_le _, ?_⟩
        walk_at "rds"
        refine fin _ ?_
        rw [Nam.empty_eq] at h1
        have h1' : tl z ≠ [] := by simpa using h1
        rw [decide_eq_true h1', Bool.true_and, zl, Nam.int_eq, List.drop_zero, Nat.zero_add]
      · rename_i h1
        rw [Nam.empty_eq] at h1
        have h1' : tl z = [] := by simpa using h1
        exact fin _ (by rw [h1']; rfl)
    · walk_at "rds"
      refine ⟨_, _, _, _, false, rfl, .ty _, ht, kit_ty kt, ?_⟩
      walk_at "rds"
      exact q

def sp_is_name (K : PySem.W.Frag) : Sp := fun vs H Q _ => ∃ v, vs = [v] ∧ ((∃ z : Str, v = .str z ∧ (tl z).length ≤ 1000 ∧ Q (.bl (Nam.name (tl z))) H) ∨ ∃ t, TyX K H v (.type t) ∧ kitB t "str" = some false ∧ Q (.bl false) H)
theorem ok_is_name (T : Tx P w K mg base) (G_name_end : FnOk P w K mg base CX0 2 T.d_name_end.f T.d_name_end.fd ["text", "begin"] sp_name_end) : FnOk P w K mg base CX0 3 T.d_is_name.f T.d_is_name.fd ["value"] (sp_is_name K) := by
  have sc := sc_is_name
  refine T.d_is_name.F.ok sc (fun vs H Q E h => ?_) (fun cdv A outer s H vs Q E hr h => ?_)
  · obtain ⟨v, rfl, hv⟩ := h
    rfl
  · obtain ⟨v, rfl, hv⟩ := h
    refine ⟨_, (pss_one (ps_ret ((pe_and (pe_callB call_isi (by rfl) T.n_isinstance (by decide +kernel) (pa_cons (pv 0) (pa_cons ((pe_bltn (by rfl) T.n_str (by decide +kernel) (v := .ty "str") rfl)) pa_nil))) (pe_and (pe_cmpR op_ne (pv 0) pe_str (nomark _)) (pe_one (pe_cmpR op_eq (pe_call G_name_end (hr.mono (by decide)) rfl T.d_name_end.m T.d_name_end.F.kp T.d_name_end.b .nil pass0 (pa_cons (pv 0) (pa_cons pe_int pa_nil))) (pe_callB call_len (by rfl) T.n_len PySem.boot_len (pa_cons (pv 0) pa_nil)) (nomark _)))))))), ?_⟩
    rcases hv with ⟨z, rfl, hz, q⟩ | ⟨t, ht, kt, q⟩
    · have zl : z.length = (tl z).length := len_tl z
      have fin : ∀ b, Nam.name (tl z) = b → Q (.bl b) H := fun b e => e ▸ q
      rw [← Nam.name_end] at fin
      walk_at "rds"
      refine ⟨_, _, _, _, true, rfl, .ty _, .base (.str z), kit_ty (by decide +kernel), ?_⟩
      walk_at "rds"
      · rename_i h1
        walk_at "rds"
        refine ⟨z, 0, rfl, hz, Nat.zero_le _, ?_⟩
        walk_at "rds"
        refine fin _ ?_
        rw [Nam.empty_eq] at h1
        have h1' : tl z ≠ [] := by simpa using h1
        rw [decide_eq_true h1', Bool.true_and, zl, Nam.int_eq, List.drop_zero, Nat.zero_add]
      · rename_i h1
        rw [Nam.empty_eq] at h1
        have h1' : tl z = [] := by simpa using h1
        exact fin _ (by rw [h1']; rfl)
    · walk_at "rds"
      refine ⟨_, _, _, _, false, rfl, .ty _, ht, kit_ty kt, ?_⟩
      walk_at "rds"
      exact q

def sp_check_text (K : PySem.W.Frag) (C : Addr) : Sp := fun vs H Q E => ∃ v, vs = [v] ∧ ((∃ z : Str, v = .str z ∧ Q .non H) ∨ ∃ t, TyX K H v (.type t) ∧ kitB t "str" = some false ∧ ∀ d, H d = none → E (.ref C) (some d) (upd H d (.xd [("index", .non)])))
theorem ok_check_text (T : Tx P w K mg base) : FnOk P w K mg base (L2.CX P w) 3 T.d_check_text.f T.d_check_text.fd ["text"] (sp_check_text K T.a_InvalidText) := by
  have sc := sc_check_text
  refine T.d_check_text.F.okX sc (fun vs H Q E h => ?_) (fun cdv A outer s H vs Q E hr h => ?_)
  · obtain ⟨v, rfl, hv⟩ := h
    rfl
  · obtain ⟨v, rfl, hv⟩ := h
    refine ⟨_, (pss_one (ps_if (pt_not (pt_val (pe_callB call_isi (by rfl) T.n_isinstance (by decide +kernel) (pa_cons (pv 0) (pa_cons ((pe_bltn (by rfl) T.n_str (by decide +kernel) (v := .ty "str") rfl)) pa_nil))))) (pss_one (ps_raise rfl (takes_of rfl rfl rfl rfl) (pmk_x T.x_InvalidText (hr.mono (by decide)) rfl (pa_cons pe_non pa_nil)))) pss_nil)), ?_⟩
    rcases hv with ⟨z, rfl, q⟩ | ⟨t, ht, kt, q⟩
    · walk_at "rds"
      refine ⟨_, _, _, _, true, rfl, .ty _, .base (.str z), kit_ty (by decide +kernel), ?_⟩
      walk_at "rds"
      exact q
    · walk_at "rds"
      refine ⟨_, _, _, _, false, rfl, .ty _, ht, kit_ty kt, ?_⟩
      walk_at "rds"
      exact q

def Far (l : List Nat) (u : V) : Prop := (u = .non ∧ Nam.name l = true) ∨ (Nam.name l = false ∧ ∃ m : Nat, u = .int (m : Int) ∧ Nam.IsFar l m)
def sp_first_wrong_name (K : PySem.W.Frag) (C : Addr) : Sp := fun vs H Q E => ∃ v, vs = [v] ∧ ((∃ z : Str, v = .str z ∧ (tl z).length ≤ 1000 ∧ ∀ u H', Same H H' → Far (tl z) u → Q u H') ∨
  ∃ t, TyX K H v (.type t) ∧ kitB t "str" = some false ∧ ∀ d, H d = none → E (.ref C) (some d) (upd H d (.xd [("index", .non)])))
theorem ok_first_wrong_name (T : Tx P w K mg base) (G_check_text : FnOk P w K mg base (L2.CX P w) 3 T.d_check_text.f T.d_check_text.fd ["text"] (sp_check_text K T.a_InvalidText)) (G_continues_name : FnOk P w K mg base CX0 1 T.d_continues_name.f T.d_continues_name.fd ["word", "sign"] sp_continues_name) (G_is_name : FnOk P w K mg base CX0 3 T.d_is_name.f T.d_is_name.fd ["value"] (sp_is_name K)) : FnOk P w K mg base (L2.CX P w) 4 T.d_first_wrong_name.f T.d_first_wrong_name.fd ["text"] (sp_first_wrong_name K T.a_InvalidText) := by
  have sc := sc_first_wrong_name
  refine T.d_first_wrong_name.F.okX sc (fun vs H Q E h => ?_) (fun cdv A outer s H vs Q E hr h => ?_)
  · obtain ⟨v, rfl, hv⟩ := h
    rfl
  · obtain ⟨v, rfl, hv⟩ := h
    refine ⟨_, (pss_cons (ps_expr (pe_call G_check_text (hr.mono (by decide)) rfl T.d_check_text.m T.d_check_text.F.kp T.d_check_text.b .nil (passes_call (takes_of rfl rfl rfl rfl) fun _ _ _ _ z => z) (pa_cons (pv 0) pa_nil)))
      (pss_cons (ps_for (passes_of rfl) rfl (pi_enumT (by rfl) T.n_enumerate (pa_cons (pv 0) pa_nil)) (pg_tup (by rfl) (pgs_cons (pg_name (i := 1) sc.nd rfl (Or.inl rfl)) (pgs_cons (pg_name (i := 2) sc.nd rfl (Or.inl rfl)) pgs_nil))) (pss_one (ps_if (pt_not (pt_val (pe_call G_continues_name (hr.mono (by decide)) rfl T.d_continues_name.m T.d_continues_name.F.kp T.d_continues_name.b .nil pass0 (pa_cons (pe_slice sl_str (pv 0) po_none (po_some (pv 1))) (pa_cons (pv 2) pa_nil))))) (pss_one (ps_ret (pv 1))) pss_nil)))
      (pss_one (ps_ret (pe_ifExp (pt_val (pe_call G_is_name (hr.mono (by decide)) rfl T.d_is_name.m T.d_is_name.F.kp T.d_is_name.b .nil pass0 (pa_cons (pv 0) pa_nil))) pe_non (pe_callB call_len (by rfl) T.n_len PySem.boot_len (pa_cons (pv 0) pa_nil))))))), ?_⟩
    rcases hv with ⟨z, rfl, hz, q⟩ | ⟨t, ht, kt, q⟩
    · have zl : z.length = (tl z).length := len_tl z
      walk_at "rds"
      refine for_et (fun i σ H' => i ≤ (tl z).length ∧ ∃ v1 v2, σ = [some (.str z), v1, v2] ∧ Same H H' ∧ Nam.Fine (tl z) i) ⟨Nat.zero_le _, _, _, rfl, Same.refl _, rfl⟩ ?_ ?_
      · rintro i c p σ H' hc hp ⟨hi, v1, v2, rfl, sm, fi⟩
        have hg : (tl z)[i]? = some c := by rw [Array.getElem?_toList]; exact hc
        have hlt : i < (tl z).length := (List.getElem?_eq_some_iff.mp hg).1
        refine ⟨p, [.int (i : Int), .str ⟨#[c]⟩], rfl, SqT.of upd_same, rfl, ?_⟩
        refine ⟨_, _, rfl, ?_⟩
        refine ⟨_, _, rfl, ?_⟩
        walk_at "rds"
        refine ⟨cutS z none (some (i : Int)), c, rfl, ?_⟩
        rw [Nam.cutS_take _ _ (Nat.le_of_lt hlt)]
        cases hg2 : Nam.goesOn ((tl z).take i) c with
        | true =>
          walk_at "rds"
          exact ⟨_, _, rfl, Same.new sm hp, (Nam.fine_next hg fi).mp hg2⟩
        | false =>
          walk_at "rds"
          obtain ⟨f1, f2⟩ := Nam.far_stop hg fi hg2
          exact q _ _ (Same.new sm hp) (.inr ⟨f2, _, rfl, f1⟩)
      · rintro σ H' ⟨hi, v1, v2, rfl, sm, fi⟩
        have zs : z.cps.size = (tl z).length := zl
        rw [zs] at fi
        walk_at "rds"
        · rename_i hn
          exact q _ _ sm (.inl ⟨rfl, hn⟩)
        · rename_i hn
          have hn : Nam.name (tl z) = false := by simpa using hn
          exact q _ _ sm (.inr ⟨hn, _, rfl, Nam.far_end fi⟩)
    · walk_at "rds"
      exact .inr ⟨t, ht, kt, q⟩

end
end K2

namespace K2
open PySem PySem.Spec PyProof.Rows L2 Mx
/-! ### the law's own reading of names -/
open TL Nam
def spB (f : List Nat → Bool) : Sp := fun vs H Q _ => ∃ z : Str, vs = [.str z] ∧ Wd z ∧ ∀ H', Same H H' → Q (.bl (f (tl z))) H'
def sp__law_is_part : Sp := spB Nam.part
def sp__law_is_name : Sp := spB Nam.name
def sp__law_is_begun : Sp := spB Nam.begun

local macro_rules | `(tactic| walk_at "sz") => `(tactic| first | assumption | decide | omega | (unfold sizeLine; omega) | exact Nat.le_of_ble_eq_true rfl)
local macro_rules | `(tactic| walk_at "hp") => `(tactic| (first | assumption | exact upd_same | (rw [upd_ne (by assumption)]; assumption)))
local macro_rules | `(tactic| walk_at "rd") => `(tactic| (first
  | refine ⟨_, rfl, ?_⟩
  | (refine ⟨_, _, rfl, rfl, ?rdc, ?_⟩; (case rdc => first | (show (0 : Int) < _; omega) | (exact ⟨by omega, by omega⟩) | (exact .inl ⟨by omega, by omega⟩) | (exact .inr ⟨by omega, by omega⟩) | exact ⟨by decide, by decide, by decide⟩))
  | refine ⟨_, _, rfl, rfl, ?_⟩
  | refine .inl ⟨_, rfl, ?_⟩
  | refine ⟨rfl, ?_⟩
  | refine ⟨⟨_, rfl⟩, ?_⟩
  | refine ⟨⟨_, SqL.of (by walk_at "hp")⟩, ?_⟩
  | refine ⟨_, _, _, _, rfl, rfl, SqL.of (by walk_at "hp"), (by rfl), ?_⟩
  | refine ⟨_, _, _, _, rfl, rfl, (by walk_at "hp"), (by rfl), ?_⟩
  | refine ⟨_, _, rfl, ⟨by walk_at "sz", rfl⟩, ?_⟩
  | refine ⟨_, _, _, rfl, rfl, by walk_at "sz", by assumption, ?_⟩
  | refine And.intro (by walk_at "sz") ?_
  | refine itT rfl ?_
  | refine itF rfl ?_
  | refine itT (by assumption) ?_
  | refine itF (by assumption) ?_
  | refine itT (decide_eq_true (by omega)) ?_
  | refine itF (decide_eq_false (by omega)) ?_
  | refine itT (dVi (by omega)) ?_
  | refine itF (dViN (by omega)) ?_
  | refine itT (notT (by assumption)) ?_
  | refine itF (notF (by assumption)) ?_
  | refine itT (notT (dViN (by omega))) ?_
  | refine itF (notF (dVi (by omega))) ?_
  | refine itT (decide_eq_true rfl) ?_
  | refine itF (notF (decide_eq_true rfl)) ?_
  | refine ite2 (fun _ => ?_) (fun _ => ?_)
  | with_reducible refine tC_ ?_
  | with_reducible refine tNext_ ?_
  | with_reducible refine tNil_ ?_))
local macro_rules | `(tactic| walk_at "rds") => `(tactic| repeat' (walk_at "rd"))
section
variable {P : Program} {w : World} {K : PySem.W.Frag} {mg : Str → Option Value} {base : Heap}

theorem ok__law_is_part (T : Tx P w K mg base) : FnOk P w K mg base CX0 2 T.d__law_is_part.f T.d__law_is_part.fd ["word"] sp__law_is_part := by
  have sc := sc__law_is_part
  refine T.d__law_is_part.F.ok sc (fun vs H Q E h => ?_) (fun cdv A outer s H vs Q E hr h => ?_)
  · obtain ⟨z, rfl, hz, q⟩ := h
    rfl
  · obtain ⟨z, rfl, hz, q⟩ := h
    refine ⟨_, (pss_cons (ps_set (i := 1) sc.nd rfl (Or.inr rfl) pe_str)
      (pss_cons (ps_if (PW.pt (pw_or (pt_cmpR op_eq (pv 0) pe_str (nomark _)) (pw_or1 (pt_cmpR op_notIn_sign (pe_ix ix_str (pv 0) pe_int (fun _ _ => rfl)) (pv 1) (by rfl))))) (pss_one (ps_ret pe_bl)) pss_nil)
      (pss_one (ps_ret (pe_cmpR (op_eqD hr.units) (pe_lc (own := [("one", 2)]) (g := gName 2) rfl sc.nd (pi_str (pv 0)) (blkOk_by (own := [("one", 2)]) (N := ["word", "letters", "one"]) (sc := defScope s__law_is_part) (by decide +kernel)) (fun _ _ _ _ _ => pg_name (i := 2) sc.nd rfl (Or.inl rfl)) (fun _ _ _ _ _ => (pts_one (pt_cmpR op_notIn_sign (pv 2) (pe_op op_add_str (pv 1) pe_str) (by rfl)))) (fun _ _ _ _ _ => pv 2)) (pe_lst pa_nil) (nomark _)))))), ?_⟩
    have zl : z.length = (tl z).length := len_tl z
    have zs : z.cps.size = (tl z).length := zl
    have fin : ∀ b H', Same H H' → Nam.part (tl z) = b → Q (.bl b) H' := fun b H' sm e => e ▸ q H' sm
    obtain ⟨hz1, hz2⟩ := hz
    by_cases h0 : tl z = []
    · have h0' : decide (V.str z = V.str "") = true := by rw [Nam.empty_eq]; exact decide_eq_true h0
      walk_at "rds"
      exact fin _ _ (Same.refl _) (by rw [h0]; rfl)
    · have h0' : decide (V.str z = V.str "") = false := by rw [Nam.empty_eq]; exact decide_eq_false h0
      obtain ⟨c, r, hcr⟩ := List.exists_cons_of_ne_nil h0
      have hc : atI z.cps.toList 0 = some c := atI_nat (j := 0) (by show (tl z)[0]? = some c; rw [hcr]; rfl)
      walk_at "rds"
      · rename_i h1
        rw [Nam.inL] at h1
        exact fin _ _ (Same.refl _) (by rw [hcr]; show (Nam.isL c && r.all Nam.isI) = false; simp at h1; rw [h1]; rfl)
      · rename_i h1
        rw [Nam.inL] at h1
        have h1 : Nam.isL c = true := by simpa using h1
        intro D hD
        refine lc_flt walk_str (fun i => !Nam.isI ((tl z).getD i 0)) (fun i => .str ⟨#[(tl z).getD i 0]⟩) hD (by omega) (fun _ _ => trivial) (fun i H1 x H2 y => y.1 ▸ Same.refl _) ?_ ?_
        · rintro i x H1 H2 Nx Mx hi sm ⟨rfl, d, hd, rfl⟩ k1 k2
          have e : (tl z).getD i 0 = d := by rw [List.getD_eq_getElem?_getD, Array.getElem?_toList, hd]; rfl
          simp only [e] at k1 k2
          refine ⟨rfl, ?_⟩
          walk_at "rds"
          · rename_i h2
            rw [Nam.inLI] at h2
            exact k1 h2 _ (Same.refl _)
          · rename_i h2
            rw [Nam.inLI] at h2
            exact k2 (by simpa using h2) _ (Same.refl _)
        · intro H1 sm hl
          walk_at "rds"
          intro p hp
          rw [picked_map (g := V.str)] at hl
          refine eq_nil (SqL.of (by rw [upd_ne (ne_of_none hl hp)]; exact hl)) (SqL.of upd_same) ?_ (fin _ _ (Same.new sm hp) ?_)
          · intro y hy d hd
            obtain ⟨i, hi, _, rfl⟩ := picked_mem hy
            rw [List.mem_singleton.mp hd]
            have hi2 : i < (tl z).length := by omega
            rw [List.getD_eq_getElem?_getD, List.getElem?_eq_getElem hi2]
            exact hz2 _ (List.getElem_mem hi2)
          · rw [picked_empty, zs, Nam.range_all, hcr]
            show (Nam.isL c && r.all Nam.isI) = (Nam.isI c && r.all Nam.isI)
            rw [h1, Nam.L_I h1]

theorem ok__law_is_name (T : Tx P w K mg base) (G__law_is_part : FnOk P w K mg base CX0 2 T.d__law_is_part.f T.d__law_is_part.fd ["word"] sp__law_is_part) : FnOk P w K mg base CX0 3 T.d__law_is_name.f T.d__law_is_name.fd ["word"] sp__law_is_name := by
  have sc := sc__law_is_name
  refine T.d__law_is_name.F.ok sc (fun vs H Q E h => ?_) (fun cdv A outer s H vs Q E hr h => ?_)
  · obtain ⟨z, rfl, hz, q⟩ := h
    rfl
  · obtain ⟨z, rfl, hz, q⟩ := h
    refine ⟨_, (pss_cons (ps_set (i := 1) sc.nd rfl (Or.inl rfl) (pe_split (pv 0) pe_str))
      (pss_one (ps_ret ((pe_and (pe_cmpR op_lt (pe_callB call_len (by rfl) T.n_len PySem.boot_len (pa_cons (pv 1) pa_nil)) pe_int (nomark _)) (pe_one (pe_cmpR (op_eqD hr.units) (pe_lc (own := [("one", 2)]) (g := gName 2) rfl sc.nd (pi_list (pv 1)) (blkOk_by (own := [("one", 2)]) (N := ["word", "some", "one"]) (sc := defScope s__law_is_name) (by decide +kernel)) (fun _ _ _ _ _ => pg_name (i := 2) sc.nd rfl (Or.inl rfl)) (fun _ _ _ _ _ => (pts_one (pt_not (pt_val (pe_call G__law_is_part (hr.mono (by decide)) rfl T.d__law_is_part.m T.d__law_is_part.F.kp T.d__law_is_part.b .nil pass0 (pa_cons (pv 2) pa_nil)))))) (fun _ _ _ _ _ => pv 2)) (pe_lst pa_nil) (nomark _)))))))), ?_⟩
    have zl : z.length = (tl z).length := len_tl z
    have fin : ∀ b H', Same H H' → Nam.name (tl z) = b → Q (.bl b) H' := fun b H' sm e => e ▸ q H' sm
    obtain ⟨w1, w2⟩ := split_wd hz
    obtain ⟨hz1, hz2⟩ := hz
    have sl := split_n z
    have sa := split_all z
    walk_at "rds"
    intro p hp
    walk_at "rds"
    generalize hys : Txt.split z ":" = ys at *
    refine ⟨_, _, rfl, .inl ⟨_, SqL.of upd_same, rfl⟩, ?_⟩
    rw [List.length_map]
    by_cases hl : ys.length < 3
    · walk_at "rds"
      intro D hD
      refine lc_flt walk_list (fun i => !Nam.part (tl (ys.getD i ""))) (fun i => .str (ys.getD i "")) hD (by rw [List.length_map]; omega) (fun H1 sm => SqL.of (sm _ _ upd_same)) (fun i H1 x H2 y => y.1 ▸ Same.refl _) ?_ ?_
      · rintro i x H1 H2 Nx Mx hi sm ⟨rfl, hx⟩ k1 k2
        rw [List.length_map] at hi
        rw [List.getElem?_map, List.getElem?_eq_getElem hi] at hx
        have hy : ys.getD i "" = ys[i] := by rw [List.getD_eq_getElem?_getD, List.getElem?_eq_getElem hi]; rfl
        have hm : ys[i] ∈ ys := List.getElem_mem hi
        rw [hy] at k1 k2
        generalize ys[i] = y at *
        cases hx
        refine ⟨rfl, ?_⟩
        have wy := w1 y hm
        walk_at "rds"
        intro H3 s3
        cases hp2 : Nam.part (tl y) with
        | true =>
          walk_at "rds"
          exact k2 (by rw [hp2]; rfl) _ s3
        | false =>
          walk_at "rds"
          exact k1 (by rw [hp2]; rfl) _ s3
      · intro H1 sm hl2
        walk_at "rds"
        intro p2 hp2
        rw [picked_map (g := V.str)] at hl2
        refine eq_nil (SqL.of (by rw [upd_ne (ne_of_none hl2 hp2)]; exact hl2)) (SqL.of upd_same) ?_ (fin _ _ (Same.new ((Same.new (Same.refl _) hp).trans sm) hp2) ?_)
        · intro y hy d hd
          obtain ⟨i, hi, _, rfl⟩ := picked_mem hy
          rw [List.length_map] at hi
          rw [List.getD_eq_getElem?_getD, List.getElem?_eq_getElem hi] at hd
          exact (w1 _ (List.getElem_mem hi)).2 d hd
        · rw [picked_empty, List.length_map, range_allA ys "" (fun y => Nam.part (tl y)), sa]
          unfold Nam.name
          rw [← sl, decide_eq_true hl, Bool.true_and]
    · walk_at "rds"
      refine fin _ _ (Same.new (Same.refl _) hp) ?_
      unfold Nam.name
      rw [← sl, decide_eq_false hl]
      rfl

theorem ok__law_is_begun (T : Tx P w K mg base) (G__law_is_name : FnOk P w K mg base CX0 3 T.d__law_is_name.f T.d__law_is_name.fd ["word"] sp__law_is_name) (G__law_is_part : FnOk P w K mg base CX0 2 T.d__law_is_part.f T.d__law_is_part.fd ["word"] sp__law_is_part) : FnOk P w K mg base CX0 4 T.d__law_is_begun.f T.d__law_is_begun.fd ["word"] sp__law_is_begun := by
  have sc := sc__law_is_begun
  refine T.d__law_is_begun.F.ok sc (fun vs H Q E h => ?_) (fun cdv A outer s H vs Q E hr h => ?_)
  · obtain ⟨z, rfl, hz, q⟩ := h
    rfl
  · obtain ⟨z, rfl, hz, q⟩ := h
    refine ⟨_, (pss_cons (ps_set (i := 1) sc.nd rfl (Or.inl rfl) (pe_split (pv 0) pe_str))
      (pss_cons (ps_if (PW.pt (pw_or (pt_cmpR op_eq (pv 0) pe_str (nomark _)) (pw_or1 (pt_val (pe_call G__law_is_name (hr.mono (by decide)) rfl T.d__law_is_name.m T.d__law_is_name.F.kp T.d__law_is_name.b .nil pass0 (pa_cons (pv 0) pa_nil)))))) (pss_one (ps_ret pe_bl)) pss_nil)
      (pss_one (ps_ret ((pe_and (pe_cmpR op_eq (pe_callB call_len (by rfl) T.n_len PySem.boot_len (pa_cons (pv 1) pa_nil)) pe_int (nomark _)) (pe_and (pe_cmpR op_eq (pe_ix ix_list (pv 1) pe_int (fun _ _ => rfl)) pe_str (nomark _)) (pe_one (pe_call G__law_is_part (hr.mono (by decide)) rfl T.d__law_is_part.m T.d__law_is_part.F.kp T.d__law_is_part.b .nil pass0 (pa_cons (pe_ix ix_list (pv 1) pe_int (fun _ _ => rfl)) pa_nil)))))))))), ?_⟩
    have zl : z.length = (tl z).length := len_tl z
    have fin : ∀ b H', Same H H' → Nam.begun (tl z) = b → Q (.bl b) H' := fun b H' sm e => e ▸ q H' sm
    obtain ⟨w1, w2⟩ := split_wd hz
    have hz' := hz
    obtain ⟨hz1, hz2⟩ := hz
    have sl := split_n z
    have st := split_at z
    by_cases h0 : tl z = []
    · have h0' : decide (V.str z = V.str "") = true := by rw [Nam.empty_eq]; exact decide_eq_true h0
      walk_at "rds"
      intro p hp
      walk_at "rds"
      exact fin _ _ (Same.new (Same.refl _) hp) (by rw [h0]; rfl)
    have h0' : decide (V.str z = V.str "") = false := by rw [Nam.empty_eq]; exact decide_eq_false h0
    walk_at "rds"
    intro p hp
    generalize hys : Txt.split z ":" = ys at *
    walk_at "rds"
    intro H1 s1
    cases hn : Nam.name (tl z) with
    | true =>
      walk_at "rds"
      exact fin _ _ ((Same.new (Same.refl _) hp).trans s1) (by unfold Nam.begun; rw [hn, Bool.or_true, Bool.true_or])
    | false =>
      have sy : SqL K H1 p (ys.map V.str) := SqL.of (s1 _ _ upd_same)
      walk_at "rds"
      refine ⟨_, _, rfl, .inl ⟨_, sy, rfl⟩, ?_⟩
      rw [List.length_map]
      by_cases hl : ys.length = 2
      · match ys, hl, w1, st, sl, sy with
        | [y0, y1], _, w1, st, sl, sy =>
          have wy := w1 y0 List.mem_cons_self
          have l2 : (Nam.cut [] (tl z)).length = 2 := sl.symm
          have e1 : (Nam.cut [] (tl z))[1]? = some (tl y1) := (st 1).symm
          have e0 : (Nam.cut [] (tl z)).getD 0 [] = tl y0 := by rw [List.getD_eq_getElem?_getD, ← st 0]; rfl
          have bg : Nam.begun (tl z) = (decide (tl y1 = []) && Nam.part (tl y0)) := by
            unfold Nam.begun
            rw [decide_eq_false h0, hn, decide_eq_true l2, e1, e0]
            simp
          walk_at "rds"
          · rename_i h1
            rw [Nam.empty_eq] at h1
            intro H3 s3
            exact fin _ _ (((Same.new (Same.refl _) hp).trans s1).trans s3) (by rw [bg, h1, Bool.true_and])
          · rename_i h1
            rw [Nam.empty_eq] at h1
            exact fin _ _ ((Same.new (Same.refl _) hp).trans s1) (by rw [bg]; simp at h1; simp [h1])
      · walk_at "rds"
        refine fin _ _ ((Same.new (Same.refl _) hp).trans s1) ?_
        unfold Nam.begun
        rw [decide_eq_false h0, hn, ← sl, decide_eq_false hl]
        rfl

theorem far_eq {l : List Nat} {u v : V} (h : Far l u) (k : Far l v) : u = v := by
  rcases h with ⟨rfl, h⟩ | ⟨h, m, rfl, a⟩ <;> rcases k with ⟨rfl, k⟩ | ⟨k, n, rfl, b⟩
  · rfl
  · rw [h] at k; cases k
  · rw [h] at k; cases k
  · rw [Nam.far_one a b]
def farD (u : V) : PyData := match u with | .int m => .list [.int m, .int m] | _ => .list [.none, .none]
theorem far_shown {l : List Nat} {u : V} (h : Far l u) (hl : l.length ≤ 100) : (farD u).showable = true ∧ (farD u).hasDict = false ∧ (farD u).depth ≤ 60 ∧ (farD u).shown.length ≤ sizeLine := by
  rcases h with ⟨rfl, _⟩ | ⟨_, m, rfl, a⟩
  · exact ⟨rfl, rfl, by decide, by decide +kernel⟩
  · have hm : m < 101 := by have := a.1; omega
    have k : ∀ m : Nat, m < 101 → (farD (.int (m : Int))).showable = true ∧ (farD (.int (m : Int))).hasDict = false ∧ (farD (.int (m : Int))).depth ≤ 60 ∧ (farD (.int (m : Int))).shown.length ≤ 4096 := by decide +kernel
    obtain ⟨k1, k2, k3, k4⟩ := k m hm
    exact ⟨k1, k2, k3, Nat.le_trans k4 (by decide)⟩
theorem far_dp {K : PySem.W.Frag} {H : Hp} {l : List Nat} {u : V} {p : Addr} (h : Far l u) (hp : H p = some (.lst [u, u])) : Dp K H (.ref p) (farD u) := by
  rcases h with ⟨rfl, _⟩ | ⟨_, m, rfl, a⟩
  · exact .lst (SqL.of hp) (.cons .non (.cons .non .nil))
  · exact .lst (SqL.of hp) (.cons (.int _) (.cons (.int _) .nil))
def sp__law_right : Sp := fun vs H Q _ => ∃ z : Str, vs = [.str z] ∧ (tl z).length ≤ 100 ∧ Wd z ∧ ∀ H', Same H H' → Q (.bl true) H'
/-- two bools as a list, shown -/
def bb (x y : Bool) : PyData := .list [.bool x, .bool y]
theorem bb_shown (x y : Bool) : (bb x y).showable = true ∧ (bb x y).hasDict = false ∧ (bb x y).depth ≤ 60 ∧ (bb x y).shown.length ≤ sizeLine := by
  cases x <;> cases y <;> exact ⟨rfl, rfl, by decide, by decide +kernel⟩

theorem ok__law_right (T : Tx P w K mg base) (G_is_part : FnOk P w K mg base CX0 2 T.d_is_part.f T.d_is_part.fd ["value"] (sp_is_part K)) (G_is_name : FnOk P w K mg base CX0 3 T.d_is_name.f T.d_is_name.fd ["value"] (sp_is_name K)) (G__law_is_part : FnOk P w K mg base CX0 2 T.d__law_is_part.f T.d__law_is_part.fd ["word"] sp__law_is_part) (G__law_is_name : FnOk P w K mg base CX0 3 T.d__law_is_name.f T.d__law_is_name.fd ["word"] sp__law_is_name) (G__law_is_begun : FnOk P w K mg base CX0 4 T.d__law_is_begun.f T.d__law_is_begun.fd ["word"] sp__law_is_begun) (G_first_wrong_name : FnOk P w K mg base (L2.CX P w) 4 T.d_first_wrong_name.f T.d_first_wrong_name.fd ["text"] (sp_first_wrong_name K T.a_InvalidText)) : Mx.FnG P w K mg base CX0 6 T.d__law_right.f T.d__law_right.fd ["word"] sp__law_right := by
  have sc := sc__law_right
  refine Mx.okG (CX := CX0) T.d__law_right.F sc (fun vs H Q E h => ?_) (fun cdv A outer s H vs Q E hr h => ?_)
  · obtain ⟨z, rfl, hl, hz, q⟩ := h
    rfl
  · obtain ⟨z, rfl, hl, hz, q⟩ := h
    refine ⟨_, (pss_cons (ps_if (pt_cmpR op_ne (pe_callB (call_repr hr) (by rfl) T.n_repr (by decide +kernel) (pa_cons (pe_lst (pa_cons (pe_call G_is_part (hr.r.mono (by decide)) rfl T.d_is_part.m T.d_is_part.F.kp T.d_is_part.b .nil pass0 (pa_cons (pv 0) pa_nil)) (pa_cons (pe_call G_is_name (hr.r.mono (by decide)) rfl T.d_is_name.m T.d_is_name.F.kp T.d_is_name.b .nil pass0 (pa_cons (pv 0) pa_nil)) pa_nil))) pa_nil)) (pe_callB (call_repr hr) (by rfl) T.n_repr (by decide +kernel) (pa_cons (pe_lst (pa_cons (pe_call G__law_is_part (hr.r.mono (by decide)) rfl T.d__law_is_part.m T.d__law_is_part.F.kp T.d__law_is_part.b .nil pass0 (pa_cons (pv 0) pa_nil)) (pa_cons (pe_call G__law_is_name (hr.r.mono (by decide)) rfl T.d__law_is_name.m T.d__law_is_name.F.kp T.d__law_is_name.b .nil pass0 (pa_cons (pv 0) pa_nil)) pa_nil))) pa_nil)) (nomark _)) (pss_one (ps_ret pe_bl)) pss_nil)
      (pss_cons (ps_set (i := 1) sc.nd rfl (Or.inl rfl) (pe_callB (cr_max rfl) (by rfl) T.n_max (by decide +kernel) (pa_cons (pe_lc (own := [("k", 3)]) (g := gName 3) rfl sc.nd (pi_range1 rfl T.n_range (pa_cons (pe_op op_add (pe_callB call_len (by rfl) T.n_len PySem.boot_len (pa_cons (pv 0) pa_nil)) pe_int) pa_nil)) (blkOk_by (own := [("k", 3)]) (N := ["word", "far", "due", "k"]) (sc := defScope s__law_right) (by decide +kernel)) (fun _ _ _ _ _ => pg_name (i := 3) sc.nd rfl (Or.inl rfl)) (fun _ _ _ _ _ => (pts_one (pt_val (pe_call G__law_is_begun (hr.r.mono (by decide)) rfl T.d__law_is_begun.m T.d__law_is_begun.F.kp T.d__law_is_begun.b .nil pass0 (pa_cons (pe_slice sl_str (pv 0) po_none (po_some (pv 3))) pa_nil))))) (fun _ _ _ _ _ => pv 3)) pa_nil)))
      (pss_cons (ps_set (i := 2) sc.nd rfl (Or.inl rfl) (pe_ifExp (pt_val (pe_call G__law_is_name (hr.r.mono (by decide)) rfl T.d__law_is_name.m T.d__law_is_name.F.kp T.d__law_is_name.b .nil pass0 (pa_cons (pv 0) pa_nil))) pe_non (pv 1)))
      (pss_one (ps_ret (pe_cmpR op_eq (pe_callB (call_repr hr) (by rfl) T.n_repr (by decide +kernel) (pa_cons (pe_lst (pa_cons (pe_call G_first_wrong_name (hr.r.mono (by decide)) rfl T.d_first_wrong_name.m T.d_first_wrong_name.F.kp T.d_first_wrong_name.b .nil passL (pa_cons (pv 0) pa_nil)) (pa_cons (pe_kw0 G_first_wrong_name (hr.r.mono (by decide)) rfl T.d_first_wrong_name.m T.d_first_wrong_name.F.kp T.kb_first_wrong_name passL (pk_cons (pv 0) pk_nil)) pa_nil))) pa_nil)) (pe_callB (call_repr hr) (by rfl) T.n_repr (by decide +kernel) (pa_cons (pe_lst (pa_cons (pv 2) (pa_cons (pv 2) pa_nil))) pa_nil)) (nomark _))))))), ?_⟩
    have zl : z.length = (tl z).length := len_tl z
    walk_at "rds"
    intro p hp
    walk_at "rds"
    have b1 := bb_shown (Nam.part (tl z)) (Nam.name (tl z))
    refine ⟨p, bb (Nam.part (tl z)) (Nam.name (tl z)), rfl, .lst (SqL.of upd_same) (.cons (.bl _) (.cons (.bl _) .nil)), b1.1, b1.2.1, b1.2.2.1, b1.2.2.2, ?_⟩
    have s0 := Same.new (o := .lst [.bl (Nam.part (tl z)), .bl (Nam.name (tl z))]) (Same.refl _) hp
    generalize upd H p _ = H0 at *
    walk_at "rds"
    intro H1 s1
    walk_at "rds"
    intro H2 s2
    walk_at "rds"
    intro p2 hp2
    walk_at "rds"
    refine ⟨p2, bb (Nam.part (tl z)) (Nam.name (tl z)), rfl, .lst (SqL.of upd_same) (.cons (.bl _) (.cons (.bl _) .nil)), b1.1, b1.2.1, b1.2.2.1, b1.2.2.2, ?_⟩
    have s3 := Same.new (o := .lst [.bl (Nam.part (tl z)), .bl (Nam.name (tl z))]) ((s0.trans s1).trans s2) hp2
    generalize upd H2 p2 _ = H3 at *
    walk_at "rds"
    intro D hD
    refine lc_flt walk_range (fun i => Nam.begun ((tl z).take i)) (fun i => .int (i : Int)) hD (by omega) (fun _ _ => trivial) (fun i H1 x H2 y => y.1 ▸ Same.refl _) ?_ ?_
    · rintro i x H4 H5 Nx Mx hi sm ⟨rfl, rfl⟩ k1 k2
      have hi2 : i ≤ (tl z).length := by omega
      have wc := Nam.cut_wd hz hi2
      simp only [Int.zero_add]
      walk_at "rds"
      intro H6 s6
      rw [Nam.cutS_take z i hi2]
      cases hb : Nam.begun ((tl z).take i) with
      | true =>
        walk_at "rds"
        exact k1 hb _ s6
      | false =>
        walk_at "rds"
        exact k2 hb _ s6
    · intro H4 s4 hl4
      walk_at "rds"
      rw [picked_map (y := fun i : Nat => (i : Int)) (g := V.int)] at hl4
      refine ⟨D, _, rfl, SqL.of hl4, List.length_pos_of_mem (picked_in (i := 0) (by omega) rfl), fun m hm hmax => ?_⟩
      obtain ⟨i, hi, hb, rfl⟩ := picked_mem hm
      have hb : Nam.begun ((tl z).take i) = true := hb
      have far : Nam.IsFar (tl z) i := ⟨by omega, hb, fun j hj hbj => by
        have := hmax ((j : Nat) : Int) (picked_in (y := fun i : Nat => (i : Int)) (by omega) hbj)
        omega⟩
      have s5 := s3.trans s4
      walk_at "rds"
      intro H5 s6
      have s7 := s5.trans s6
      have ht : Nam.name (tl z) = true → Far (tl z) .non := fun h => .inl ⟨rfl, h⟩
      have hf : Nam.name (tl z) = false → Far (tl z) (.int (i : Int)) := fun h => .inr ⟨h, _, rfl, far⟩
      cases hn : Nam.name (tl z) with
      | true =>
        have hu := ht hn
        walk_at "rds"
        have ush := far_shown hu hl
        walk_at "rds"
        intro u1 H6 s8 hu1
        obtain rfl := far_eq hu hu1
        walk_at "rds"
        intro u2 H7 s9 hu2
        obtain rfl := far_eq hu hu2
        walk_at "rds"
        intro p3 hp3
        walk_at "rds"
        refine ⟨p3, farD (.non), rfl, far_dp hu upd_same, ush.1, ush.2.1, ush.2.2.1, ush.2.2.2, ?_⟩
        walk_at "rds"
        intro p4 hp4
        walk_at "rds"
        refine ⟨p4, farD (.non), rfl, far_dp hu upd_same, ush.1, ush.2.1, ush.2.2.1, ush.2.2.2, ?_⟩
        walk_at "rds"
        have e : decide (V.str (farD (.non)).shown = V.str (farD (.non)).shown) = true := decide_eq_true rfl
        rw [e]
        exact q _ (Same.new (Same.new ((s7.trans s8).trans s9) hp3) hp4)
      | false =>
        have hu := hf hn
        walk_at "rds"
        have ush := far_shown hu hl
        walk_at "rds"
        intro u1 H6 s8 hu1
        obtain rfl := far_eq hu hu1
        walk_at "rds"
        intro u2 H7 s9 hu2
        obtain rfl := far_eq hu hu2
        walk_at "rds"
        intro p3 hp3
        walk_at "rds"
        refine ⟨p3, farD (.int (i : Int)), rfl, far_dp hu upd_same, ush.1, ush.2.1, ush.2.2.1, ush.2.2.2, ?_⟩
        walk_at "rds"
        intro p4 hp4
        walk_at "rds"
        refine ⟨p4, farD (.int (i : Int)), rfl, far_dp hu upd_same, ush.1, ush.2.1, ush.2.2.1, ush.2.2.2, ?_⟩
        walk_at "rds"
        have e : decide (V.str (farD (.int (i : Int))).shown = V.str (farD (.int (i : Int))).shown) = true := decide_eq_true rfl
        rw [e]
        exact q _ (Same.new (Same.new ((s7.trans s8).trans s9) hp3) hp4)

end
end K2

namespace K2
open PySem PySem.Spec PyProof.Rows L2 Mx
/-! ### the law's word on what a call does -/
/-- which answer of _law_told an exception of the class at C gets -/
def Path (K : PySem.W.Frag) (C i t n k : Addr) (f tag : Str) : Prop :=
  (f = "position" ∧ tag = "ill" ∧ PySem.W.kitOne K (.ref C) (.ref i) = some true) ∨
  (f = "index" ∧ tag = "text" ∧ PySem.W.kitOne K (.ref C) (.ref i) = some false ∧ PySem.W.kitOne K (.ref C) (.ref t) = some true) ∨
  (f = "number" ∧ tag = "number" ∧ PySem.W.kitOne K (.ref C) (.ref i) = some false ∧ PySem.W.kitOne K (.ref C) (.ref t) = some false ∧ PySem.W.kitOne K (.ref C) (.ref n) = some true) ∨
  (f = "kind" ∧ tag = "kind" ∧ PySem.W.kitOne K (.ref C) (.ref i) = some false ∧ PySem.W.kitOne K (.ref C) (.ref t) = some false ∧ PySem.W.kitOne K (.ref C) (.ref n) = some false ∧ PySem.W.kitOne K (.ref C) (.ref k) = some true)
def ToldE (K : PySem.W.Frag) (cs : List Value) (i t n k : Addr) (Q : VK) : XK := fun cls d H' => ∃ (C dd : Addr) (fs : List (Str × V)) (f tag : Str) (v : V), cls = .ref C ∧ d = some dd ∧ H' dd = some (.xd fs) ∧ XcC K C ∧ PySem.W.exmAny K (.ref C) cs = some true ∧
  PySem.W.findIn K (.ref C) f = some none ∧ fs.lookup f = some v ∧ Path K C i t n k f tag ∧
  ∀ a p, H' a = none → upd H' a (xoO a (.ref C) (some dd)) p = none → Q (.ref p) (upd (upd H' a (xoO a (.ref C) (some dd))) p (.tup [.str tag, v]))
def TTold (K : PySem.W.Frag) (cs : List Value) (i t n k : Addr) : (XK → Hp → VK → Prop) → Hp → VK → Prop := fun tl H Q =>
  ∀ p0, H p0 = none → tl (ToldE K cs i t n k Q) (upd H p0 (.lst [])) (fun v H1 => ∀ p, H1 p = none → Q (.ref p) (upd H1 p (.lst [v])))

local macro_rules | `(tactic| walk_at "sz") => `(tactic| first | assumption | decide | omega | (unfold sizeLine; omega) | exact Nat.le_of_ble_eq_true rfl)
local macro_rules | `(tactic| walk_at "hp") => `(tactic| (first | assumption | exact upd_same | (rw [upd_ne (by assumption)]; assumption)))
local macro_rules | `(tactic| walk_at "rd") => `(tactic| (first
  | refine ⟨_, rfl, ?_⟩
  | (refine ⟨_, _, rfl, rfl, ?rdc, ?_⟩; (case rdc => first | (show (0 : Int) < _; omega) | (exact ⟨by omega, by omega⟩) | (exact .inl ⟨by omega, by omega⟩) | (exact .inr ⟨by omega, by omega⟩) | exact ⟨by decide, by decide, by decide⟩))
  | refine ⟨_, _, rfl, rfl, ?_⟩
  | refine .inl ⟨_, rfl, ?_⟩
  | refine ⟨rfl, ?_⟩
  | refine ⟨⟨_, rfl⟩, ?_⟩
  | refine ⟨⟨_, SqL.of (by walk_at "hp")⟩, ?_⟩
  | refine ⟨_, _, _, _, rfl, rfl, SqL.of (by walk_at "hp"), (by rfl), ?_⟩
  | refine ⟨_, _, _, _, rfl, rfl, (by walk_at "hp"), (by rfl), ?_⟩
  | refine ⟨_, _, rfl, ⟨by walk_at "sz", rfl⟩, ?_⟩
  | refine ⟨_, _, _, rfl, rfl, by walk_at "sz", by assumption, ?_⟩
  | refine And.intro (by walk_at "sz") ?_
  | refine itT rfl ?_
  | refine itF rfl ?_
  | refine itT (by assumption) ?_
  | refine itF (by assumption) ?_
  | refine itT (decide_eq_true (by omega)) ?_
  | refine itF (decide_eq_false (by omega)) ?_
  | refine itT (dVi (by omega)) ?_
  | refine itF (dViN (by omega)) ?_
  | refine itT (notT (by assumption)) ?_
  | refine itF (notF (by assumption)) ?_
  | refine itT (notT (dViN (by omega))) ?_
  | refine itF (notF (dVi (by omega))) ?_
  | refine itT (decide_eq_true rfl) ?_
  | refine itF (notF (decide_eq_true rfl)) ?_
  | refine ite2 (fun _ => ?_) (fun _ => ?_)
  | with_reducible refine tC_ ?_
  | with_reducible refine tNext_ ?_
  | with_reducible refine tNil_ ?_))
local macro_rules | `(tactic| walk_at "rds") => `(tactic| repeat' (walk_at "rd"))

theorem told_gives {X : Cx} (T : Tx X.prog X.w X.K X.mg X.base) (q : Str) (g : Addr) (cdg : Value) :
    LamX.GivesTo X ["call", "caught", "found", "error"] "_law_told" (defScope s__law_told) g cdg (defBody s__law_told) "call" q
      (TTold X.K [.ref T.a_MarkupError, .ref T.a_MarkupStateError, .ref T.a_LimitError] T.a_IllFormed T.a_InvalidText T.a_InvalidNumber T.a_InvalidKind) := by
  intro f c' s H Q tl act hc h
  have sc := sc__law_told
  refine ⟨_, pss_cons (ps_par (i := 1) (j := 2) (by rfl) sc.nd rfl rfl (by decide) rfl rfl (pa_cons pe_non (pa_cons (pe_lst pa_nil) pa_nil)) (by rfl))
      (pss_cons (ps_try_t3 (X := (cxOf C8.CX0 X.prog X.w X.K X.mg X.base ["call", "caught", "found", "error"] "_law_told" (defScope s__law_told) g cdg X.A X.stack s H C8.E0).nox) (i := 3) (Wout := fun _ _ _ _ => False)
        (tb := fun W D σ H => ∃ (Ech : XK) (Q0 : VK), (∀ cls d σ' H', Ech cls d H' → σ'.length = 4 → W cls d σ' H') ∧ σ[0]? = some (some (.ref f)) ∧ H c' = some (LamX.CodeO c' q) ∧ tl Ech H Q0 ∧ ∀ v H1, Q0 v H1 → ∀ p, H1 p = none → D.nx (σ.set 2 (some (.ref p))) (upd H1 p (.lst [v])))
        rfl rfl rfl sc.nd rfl rfl ⟨rfl, T.m_MarkupError, by decide⟩ ⟨rfl, T.m_MarkupStateError, by decide⟩ ⟨rfl, T.m_LimitError, by decide⟩ LamX.takes0 (fun W pn xe tk _ => ?_)
        (fun a oe cls d pn hz hd => pss_one (ps_set (i := 1) sc.nd rfl (Or.inl rfl) (pv 3))))
      (pss_cons (ps_if (pt_cmpR op_isN (pv 1) pe_non (nomark _)) (pss_one (ps_ret (pv 2))) pss_nil)
      (pss_cons (ps_if (pt_val (pe_callB call_isiX (by rfl) T.n_isinstance (by decide +kernel) (pa_cons (pv 1) (pa_cons (pe_glob (v := .ref T.a_IllFormed) rfl T.m_IllFormed rfl) pa_nil)))) (pss_one (ps_ret (pe_tup (pa_cons pe_str (pa_cons (pe_xo (pv 1)) pa_nil))))) pss_nil)
      (pss_cons (ps_if (pt_val (pe_callB call_isiX (by rfl) T.n_isinstance (by decide +kernel) (pa_cons (pv 1) (pa_cons (pe_glob (v := .ref T.a_InvalidText) rfl T.x_InvalidText.mgC rfl) pa_nil)))) (pss_one (ps_ret (pe_tup (pa_cons pe_str (pa_cons (pe_xo (pv 1)) pa_nil))))) pss_nil)
      (pss_cons (ps_if (pt_val (pe_callB call_isiX (by rfl) T.n_isinstance (by decide +kernel) (pa_cons (pv 1) (pa_cons (pe_glob (v := .ref T.a_InvalidNumber) rfl T.m_InvalidNumber rfl) pa_nil)))) (pss_one (ps_ret (pe_tup (pa_cons pe_str (pa_cons (pe_xo (pv 1)) pa_nil))))) pss_nil)
      (pss_one (ps_ret (pe_ifExp (pt_val (pe_callB call_isiX (by rfl) T.n_isinstance (by decide +kernel) (pa_cons (pv 1) (pa_cons (pe_glob (v := .ref T.a_InvalidKind) rfl T.m_InvalidKind rfl) pa_nil)))) (pe_tup (pa_cons pe_str (pa_cons (pe_xo (pv 1)) pa_nil))) (pe_tup (pa_cons pe_str pa_nil)))))))))), ?_⟩
  · refine ⟨fun pins s' σ H' D I hh => ?_⟩
    obtain ⟨Ech, Q0, hW, h1, h2, h3, h4⟩ := hh
    have tk2 := takes_len tk
    refine PSs.run (t := tAsg (tLst (tCons (eMono fun σZ HZ Q => σZ[0]? = some (some (V.ref f)) ∧ HZ c' = some (LamX.CodeO c' q) ∧ tl Ech HZ Q) tNil)) (gName 2)) ?hb pins s' σ H' D I ?_
    case hb => exact pss_one (ps_set (i := 2) sc.nd rfl (Or.inl rfl) (pe_lst (pa_cons (pe_mono (act (fun cls d σ H => σ.length = 4 → W cls d σ H) pn xe Ech _ _ tk2 (fun cls d σ' H' e hl => hW cls d σ' H' e hl))) pa_nil)))
    exact ⟨Q0, ⟨h1, h2, h3⟩, fun v H1 q0 => ⟨by show 1 ≤ sizeLine; decide, fun p hp => h4 v H1 q0 p hp⟩⟩
  · walk_at "rds"
    intro p0 hp0
    walk_at "rds"
    refine ⟨_, _, rfl, ?_⟩
    refine ⟨ToldE X.K [.ref T.a_MarkupError, .ref T.a_MarkupStateError, .ref T.a_LimitError] T.a_IllFormed T.a_InvalidText T.a_InvalidNumber T.a_InvalidKind Q, fun v H1 => ∀ p, H1 p = none → Q (.ref p) (upd H1 p (.lst [v])), ?_, rfl, ?_, h p0 hp0, ?_⟩
    · rintro cls d σ' H' ⟨C, dd, fs, fi, tag, v, rfl, rfl, hd, xc, ex, fn, lk, path, k⟩ hl
      refine ⟨true, ex, fun _ a ha => ?_, fun z => by cases z⟩
      match σ', hl with
      | [x0, x1, x2, x3], _ =>
        have xa : XoAt (upd H' a (xoO a (.ref C) (some dd))) a C fs := ⟨dd, upd_same, by rw [upd_ne (ne_of_none hd ha)]; exact hd⟩
        walk_at "rds"
        rcases path with ⟨rfl, rfl, k1⟩ | ⟨rfl, rfl, k1, k2⟩ | ⟨rfl, rfl, k1, k2, k3⟩ | ⟨rfl, rfl, k1, k2, k3, k4⟩
        · refine ⟨a, C, fs, _, _, _, rfl, .own _, xa, xc, k1, ?_⟩
          walk_at "rds"
          refine ⟨a, C, fs, v, rfl, xa, xc, fn, lk, ?_⟩
          walk_at "rds"
          intro p hp
          exact k a p ha hp
        · refine ⟨a, C, fs, _, _, _, rfl, .own _, xa, xc, k1, ?_⟩
          walk_at "rds"
          refine ⟨a, C, fs, _, _, _, rfl, .own _, xa, xc, k2, ?_⟩
          walk_at "rds"
          refine ⟨a, C, fs, v, rfl, xa, xc, fn, lk, ?_⟩
          walk_at "rds"
          intro p hp
          exact k a p ha hp
        · refine ⟨a, C, fs, _, _, _, rfl, .own _, xa, xc, k1, ?_⟩
          walk_at "rds"
          refine ⟨a, C, fs, _, _, _, rfl, .own _, xa, xc, k2, ?_⟩
          walk_at "rds"
          refine ⟨a, C, fs, _, _, _, rfl, .own _, xa, xc, k3, ?_⟩
          walk_at "rds"
          refine ⟨a, C, fs, v, rfl, xa, xc, fn, lk, ?_⟩
          walk_at "rds"
          intro p hp
          exact k a p ha hp
        · refine ⟨a, C, fs, _, _, _, rfl, .own _, xa, xc, k1, ?_⟩
          walk_at "rds"
          refine ⟨a, C, fs, _, _, _, rfl, .own _, xa, xc, k2, ?_⟩
          walk_at "rds"
          refine ⟨a, C, fs, _, _, _, rfl, .own _, xa, xc, k3, ?_⟩
          walk_at "rds"
          refine ⟨a, C, fs, _, _, _, rfl, .own _, xa, xc, k4, ?_⟩
          walk_at "rds"
          refine ⟨a, C, fs, v, rfl, xa, xc, fn, lk, ?_⟩
          walk_at "rds"
          intro p hp
          exact k a p ha hp
    · rw [upd_ne (ne_of_none hc hp0)]
      exact hc
    · intro v H1 q0 p hp
      walk_at "rds"
      exact q0 p hp
end K2

namespace K2
open PySem PySem.Spec PyProof.Rows L2 Mx
/-! ### the law -/
open TL Nam
def sp_law (K : PySem.W.Frag) (Tb : List (Addr × Str)) : Sp := fun vs H Q _ => ∃ (a : Addr) (ns : List Int), vs = [.ref a] ∧ LsX K H a (ns.map V.int) ∧ ns.length ≤ 63 ∧ LamX.Tabs Tb H ∧ ∀ H', Q (.bl true) H'

local macro_rules | `(tactic| walk_at "sz") => `(tactic| first | assumption | decide | omega | (unfold sizeLine; omega) | exact Nat.le_of_ble_eq_true rfl)
local macro_rules | `(tactic| walk_at "hp") => `(tactic| (first | assumption | exact upd_same | (rw [upd_ne (by assumption)]; assumption)))
local macro_rules | `(tactic| walk_at "rd") => `(tactic| (first
  | refine ⟨_, rfl, ?_⟩
  | (refine ⟨_, _, rfl, rfl, ?rdc, ?_⟩; (case rdc => first | (show (0 : Int) < _; omega) | (exact ⟨by omega, by omega⟩) | (exact .inl ⟨by omega, by omega⟩) | (exact .inr ⟨by omega, by omega⟩) | exact ⟨by decide, by decide, by decide⟩))
  | refine ⟨_, _, rfl, rfl, ?_⟩
  | refine .inl ⟨_, rfl, ?_⟩
  | refine ⟨rfl, ?_⟩
  | refine ⟨⟨_, rfl⟩, ?_⟩
  | refine ⟨⟨_, SqL.of (by walk_at "hp")⟩, ?_⟩
  | refine ⟨_, _, _, _, rfl, rfl, SqL.of (by walk_at "hp"), (by rfl), ?_⟩
  | refine ⟨_, _, _, _, rfl, rfl, (by walk_at "hp"), (by rfl), ?_⟩
  | refine ⟨_, _, rfl, ⟨by walk_at "sz", rfl⟩, ?_⟩
  | refine ⟨_, _, _, rfl, rfl, by walk_at "sz", by assumption, ?_⟩
  | refine And.intro (by walk_at "sz") ?_
  | refine itT rfl ?_
  | refine itF rfl ?_
  | refine itT (by assumption) ?_
  | refine itF (by assumption) ?_
  | refine itT (decide_eq_true (by omega)) ?_
  | refine itF (decide_eq_false (by omega)) ?_
  | refine itT (dVi (by omega)) ?_
  | refine itF (dViN (by omega)) ?_
  | refine itT (notT (by assumption)) ?_
  | refine itF (notF (by assumption)) ?_
  | refine itT (notT (dViN (by omega))) ?_
  | refine itF (notF (dVi (by omega))) ?_
  | refine itT (decide_eq_true rfl) ?_
  | refine itF (notF (decide_eq_true rfl)) ?_
  | refine ite2 (fun _ => ?_) (fun _ => ?_)
  | with_reducible refine tC_ ?_
  | with_reducible refine tNext_ ?_
  | with_reducible refine tNil_ ?_))
local macro_rules | `(tactic| walk_at "rds") => `(tactic| repeat' (walk_at "rd"))
section
variable {P : Program} {w : World} {K : PySem.W.Frag} {mg : Str → Option Value} {base : Heap}

theorem ok_law (T : Tx P w K mg base) {f cT PT : Addr} {fd : FuncData} (F : FunC K "law" s_law f fd cT) (TB : LamX.TabB base mg cT PT) (G__law_stream : FnOk P w K mg base CX0 2 T.d__law_stream.f T.d__law_stream.fd ["item", "k"] sp__law_stream) (G__law_draw : FnOk P w K mg base CX0 2 T.d__law_draw.f T.d__law_draw.fd ["stream", "top"] sp__law_draw) (G__law_signs : FnOk P w K mg base CX0 1 T.d__law_signs.f T.d__law_signs.fd [] sp__law_signs) (G__law_pick : FnOk P w K mg base CX0 3 T.d__law_pick.f T.d__law_pick.fd ["stream", "some"] sp__law_pick) (G__law_word : FnOk P w K mg base CX0 4 T.d__law_word.f T.d__law_word.fd ["stream"] sp__law_word) (G__law_right : Mx.FnG P w K mg base CX0 6 T.d__law_right.f T.d__law_right.fd ["word"] sp__law_right) (G_is_part : FnOk P w K mg base CX0 2 T.d_is_part.f T.d_is_part.fd ["value"] (sp_is_part K)) (G_is_name : FnOk P w K mg base CX0 3 T.d_is_name.f T.d_is_name.fd ["value"] (sp_is_name K)) (G_first_wrong_name : FnOk P w K mg base (L2.CX P w) 4 T.d_first_wrong_name.f T.d_first_wrong_name.fd ["text"] (sp_first_wrong_name K T.a_InvalidText)) :
    FnG P w K mg base CX0 8 f fd ["script"] (sp_law K [(PT, "law.<locals>.<lambda>")]) := by
  have sc := sc_law
  obtain ⟨oc, od, kV, doc, pm, an, cdT, ct, osl, fdT, lkT, cdT'⟩ := T.d__law_told.F.ex
  have bT := T.d__law_told.b
  have cdT := cdT'
  rw [fdT] at lkT bT
  refine okGC F sc (fun vs H Q E h => ?_) (fun A outer s H vs Q E hr h => ?_)
  · obtain ⟨a, ns, rfl, _⟩ := h
    rfl
  · obtain ⟨a, ns, rfl, hs, hn, tb, q⟩ := h
    refine ⟨_, (pss_cons (ps_for (passes_of rfl) rfl (pi_enum (by rfl) T.n_enumerate (pa_cons (pe_slice sl_list (pe_op op_catR (pv 0) (pe_lst (pa_cons pe_int pa_nil))) po_none (po_some pe_int)) pa_nil)) (pg_tup (by rfl) (pgs_cons (pg_name (i := 1) sc.nd rfl (Or.inl rfl)) (pgs_cons (pg_name (i := 2) sc.nd rfl (Or.inl rfl)) pgs_nil))) (pss_cons (ps_set (i := 3) sc.nd rfl (Or.inl rfl) (pe_call G__law_stream (hr.r.mono (by decide)) rfl T.d__law_stream.m T.d__law_stream.F.kp T.d__law_stream.b .nil pass0 (pa_cons (pv 2) (pa_cons (pv 1) pa_nil))))
      (pss_cons (ps_for (passes_of rfl) rfl (pi_range1 rfl T.n_range (pa_cons pe_int pa_nil)) (pg_name (i := 4) sc.nd rfl (Or.inl rfl)) (pss_cons (ps_set (i := 5) sc.nd rfl (Or.inl rfl) (pe_call G__law_word (hr.r.mono (by decide)) rfl T.d__law_word.m T.d__law_word.F.kp T.d__law_word.b .nil pass0 (pa_cons (pv 3) pa_nil)))
      (pss_cons (ps_set (i := 6) sc.nd rfl (Or.inl rfl) (pe_op op_add_str (pv 5) (pe_call G__law_pick (hr.r.mono (by decide)) rfl T.d__law_pick.m T.d__law_pick.F.kp T.d__law_pick.b .nil pass0 (pa_cons (pv 3) (pa_cons (pe_call0 G__law_signs (hr.r.mono (by decide)) rfl T.d__law_signs.m T.d__law_signs.F.kp T.d__law_signs.b .nil pass0) pa_nil)))))
      (pss_one (ps_if (PW.pt (pw_or (pt_not (pt_val (pg_call G__law_right (hr.mono (by decide)) rfl T.d__law_right.m T.d__law_right.F.kp T.d__law_right.b .nil pass0 (pa_cons (pv 5) pa_nil)))) (pw_or (pt_not (pt_val (pg_call G__law_right (hr.mono (by decide)) rfl T.d__law_right.m T.d__law_right.F.kp T.d__law_right.b .nil pass0 (pa_cons (pv 6) pa_nil)))) (pw_or1 (pt_not (pt_val (pg_call G__law_right (hr.mono (by decide)) rfl T.d__law_right.m T.d__law_right.F.kp T.d__law_right.b .nil pass0 (pa_cons (pe_op op_add_str pe_str (pv 5)) pa_nil)))))))) (pss_one (ps_ret pe_bl)) pss_nil)))))
      (pss_cons (ps_set (i := 7) sc.nd rfl (Or.inr rfl) (pe_call G__law_pick (hr.r.mono (by decide)) rfl T.d__law_pick.m T.d__law_pick.F.kp T.d__law_pick.b .nil pass0 (pa_cons (pv 3) (pa_cons (pe_lst (pa_cons pe_non (pa_cons pe_bl (pa_cons pe_int (pa_cons pe_int (pa_cons (pe_tup (pa_cons pe_str pa_nil)) (pa_cons (pe_lst (pa_cons pe_str pa_nil)) (pa_cons pe_dnewK (pa_cons (pe_tup (pa_cons pe_str (pa_cons pe_str pa_nil))) (pa_cons (pe_lst pa_nil) (pa_cons (pe_tup pa_nil) pa_nil))))))))))) pa_nil))))
      (pss_cons (ps_set (i := 8) sc.nd rfl (Or.inl rfl) (pe_lst (pa_cons (pe_kw0 G_is_part (hr.r.mono (by decide)) rfl T.d_is_part.m T.d_is_part.F.kp T.kb_is_part pass0 (pk_cons (pv 7) pk_nil)) (pa_cons (pe_kw0 G_is_name (hr.r.mono (by decide)) rfl T.d_is_name.m T.d_is_name.F.kp T.kb_is_name pass0 (pk_cons (pv 7) pk_nil)) (pa_cons (pe_kw0 G_is_part (hr.r.mono (by decide)) rfl T.d_is_part.m T.d_is_part.F.kp T.kb_is_part pass0 (pk_cons pe_str pk_nil)) (pa_cons (pe_kw0 G_is_name (hr.r.mono (by decide)) rfl T.d_is_name.m T.d_is_name.F.kp T.kb_is_name pass0 (pk_cons pe_str pk_nil)) pa_nil))))))
      (pss_cons (ps_if (pt_cmpR op_ne (pe_callB (call_repr hr) (by rfl) T.n_repr (by decide +kernel) (pa_cons (pv 8) pa_nil)) (pe_callB (call_repr hr) (by rfl) T.n_repr (by decide +kernel) (pa_cons (pe_lst (pa_cons pe_bl (pa_cons pe_bl (pa_cons pe_bl (pa_cons pe_bl pa_nil))))) pa_nil)) (nomark _)) (pss_one (ps_ret pe_bl)) pss_nil)
      (pss_one (ps_if (pt_cmpR (op_neD hr.r.units) ((LamX.pe_lamcall (T := [(PT, "law.<locals>.<lambda>")]) (k := 4) (c := cT) (P := PT) rfl T.d__law_told.m T.d__law_told.F.kp lkT cdT bT sc__law_told rfl (Or.inl rfl) (told_gives (X := _) T _ _ _) TB rfl (List.mem_singleton.mpr rfl) (fun p hp _ => by rw [List.mem_singleton.mp hp]; rfl) (hr.r.mono (by decide)) (LamX.lamS_by (sc := defScope s_law) (by decide +kernel)) rfl (fun _ _ _ _ _ => rfl) (fun A outer s H E f c' hr2 => pe_call G_first_wrong_name hr2 rfl T.d_first_wrong_name.m T.d_first_wrong_name.F.kp T.d_first_wrong_name.b .nil (passes_call (takes_of rfl rfl rfl rfl) fun _ _ _ _ z => z) (pa_cons (pv 7) pa_nil)))) (pe_tup (pa_cons pe_str (pa_cons pe_non pa_nil))) (nomark _)) (pss_one (ps_ret pe_bl)) pss_nil))))))))
      (pss_cons (ps_set (i := 9) sc.nd rfl (Or.inl rfl) (pe_lst (pa_cons pe_str (pa_cons pe_str (pa_cons pe_str (pa_cons pe_str (pa_cons pe_str (pa_cons pe_str (pa_cons pe_str (pa_cons pe_str (pa_cons pe_str (pa_cons pe_str (pa_cons pe_str (pa_cons pe_str (pa_cons pe_str (pa_cons pe_str (pa_cons pe_str (pa_cons pe_str pa_nil))))))))))))))))))
      (pss_one (ps_ret (pe_cmpR (op_eqD hr.r.units) (pe_lc (own := [("one", 10)]) (g := gName 10) rfl sc.nd (pi_list (pv 9)) (blkOk_by (own := [("one", 10)]) (N := ["script", "k", "item", "stream", "turn", "word", "bent", "odd", "told", "some", "one"]) (sc := defScope s_law) (by decide +kernel)) (fun _ _ _ _ _ => pg_name (i := 10) sc.nd rfl (Or.inl rfl)) (fun _ _ _ _ _ => (pts_one (pt_not (pt_val (pg_call G__law_right (hr.mono (by decide)) rfl T.d__law_right.m T.d__law_right.F.kp T.d__law_right.b .nil pass0 (pa_cons (pv 10) pa_nil)))))) (fun _ _ _ _ _ => pv 10)) (pe_lst pa_nil) (nomark _)))))), ?_⟩
    walk_at "rds"
    intro p1 hp1
    walk_at "rds"
    have hs1 : LsX K (upd H p1 (.lst [.int 0])) a (ns.map V.int) := hs.keep fun o e => by rw [upd_ne (ne_of_none e hp1)]; exact e
    refine ⟨a, p1, _, _, rfl, rfl, hs1, .of upd_same, by rw [List.length_map]; unfold sizeLine; show ns.length + 1 ≤ _; omega, fun p2 hp2 => ?_⟩
    have g2 : Go [(PT, "law.<locals>.<lambda>")] H (upd (upd H p1 (.lst [.int 0])) p2 (.lst (ns.map V.int ++ [.int 0]))) := (Go.new (Go.refl _ _) hp1).new hp2
    have e2 : (upd (upd H p1 (.lst [.int 0])) p2 (.lst (ns.map V.int ++ [.int 0]))) p2 = some (.lst (ns.map V.int ++ [.int 0])) := upd_same
    generalize (upd (upd H p1 (.lst [.int 0])) p2 (.lst (ns.map V.int ++ [.int 0]))) = H2 at *
    walk_at "rds"
    refine ⟨p2, _, rfl, SqL.of e2, fun p3 hp3 => ?_⟩
    have g3 := g2.new (o := .lst (cutV (ns.map V.int ++ [.int 0]) none (some 8))) hp3
    have e3 : (upd H2 p3 (.lst (cutV (ns.map V.int ++ [.int 0]) none (some 8)))) p3 = some (.lst (cutV (ns.map V.int ++ [.int 0]) none (some 8))) := upd_same
    generalize upd H2 p3 (.lst (cutV (ns.map V.int ++ [.int 0]) none (some 8))) = H3 at *
    have hx : ∀ x ∈ cutV (ns.map V.int ++ [.int 0]) none (some 8), ∃ z, x = .int z := fun x h => ints_mem (cutV_mem h)
    have hl : (cutV (ns.map V.int ++ [.int 0]) none (some 8)).length ≤ 8 := cutV_front _ 8
    generalize cutV (ns.map V.int ++ [.int 0]) none (some 8) = xs at *
    walk_at "rds"
    refine ⟨p3, xs, rfl, SqL.of e3, ?_⟩
    refine for_it (walk_enum (xs := xs)) (fun i σ H' => ∃ v1 v2 v3 v4 v5 v6 v7 v8 v9 v10, σ = [some (.ref a), v1, v2, v3, v4, v5, v6, v7, v8, v9, v10] ∧ Go [(PT, "law.<locals>.<lambda>")] H3 H') ⟨_, _, _, _, _, _, _, _, _, _, rfl, Go.refl _ _⟩ (fun i σ H' _ hv => ?_) ?_ ?_
    · obtain ⟨_, _, _, _, _, _, _, _, _, _, _, g⟩ := hv
      exact SqL.of (g.lst e3)
    · rintro i x σ H4 H5 hi ⟨v1, v2, v3, v4, v5, v6, v7, v8, v9, v10, rfl, g4⟩ ⟨t, y1, y2, rfl, ht, rfl, e4, e5⟩
      obtain rfl := Option.some.inj e4
      obtain ⟨z, rfl⟩ := hx _ (List.mem_of_getElem? e5)
      have g5 := g4.new (o := .tup [.int (i : Int), .int z]) ht
      have f5 : upd H4 t (.tup [.int (i : Int), .int z]) t = some (.tup [.int (i : Int), .int z]) := upd_same
      show gTup _ _ _ _ _ (upd H4 t (.tup [.int (i : Int), .int z])) _
      generalize upd H4 t (.tup [.int (i : Int), .int z]) = H5 at *
      refine ⟨t, [.int (i : Int), .int z], rfl, SqT.of f5, rfl, ?_⟩
      refine ⟨_, _, rfl, ?_⟩
      refine ⟨_, _, rfl, ?_⟩
      walk_at "rds"
      refine ⟨z, i, rfl, by omega, by omega, fun st H6 hst s6 sa => ?_⟩
      walk_at "rds"
      refine for_range (fun j σ H' => ∃ v4 v5 v6 v7 v8 v9 v10, σ = [some (.ref a), some (.int (i : Int)), some (.int z), some (.ref st), v4, v5, v6, v7, v8, v9, v10] ∧ Go [(PT, "law.<locals>.<lambda>")] H5 H' ∧ StAt st (101 * (j : Int)) H') ⟨_, _, _, _, _, _, _, rfl, Go.same s6, sa.mono (by decide)⟩ ?_ ?_
      · rintro j σ H7 hj ⟨v4, v5, v6, v7, v8, v9, v10, rfl, g7, sa7⟩
        have hj6 : j < 6 := hj
        walk_at "rds"
        refine ⟨st, _, rfl, sa7, by omega, fun wd H8 hw hw8 kp8 sa8 => ?_⟩
        have wl : (tl wd).length ≤ 12 := hw
        have g8 := g7.kp hst sa7 kp8
        walk_at "rds"
        refine ⟨st, _, .str signs, rfl, sa8, by omega, .inr ⟨signs, rfl, by decide +kernel, by decide +kernel, fun cp H9 hcp kp9 sa9 => ?_⟩⟩
        have g9 := g8.kp hst sa8 kp9
        have hcp8 : cp < 128 := by
          have k : ∀ c ∈ signs.cps.toList, c < 128 := by decide +kernel
          exact k cp hcp
        have l1 : (tl wd).length ≤ 100 := by omega
        have w1 : Wd wd := ⟨by omega, fun c hc => by have := hw8 c hc; omega⟩
        have l2 : (tl (wd ++ ⟨#[cp]⟩)).length ≤ 100 := by rw [tl_append, List.length_append]; show _ + 1 ≤ _; omega
        have w2 : Wd (wd ++ ⟨#[cp]⟩) := ⟨by omega, fun c hc => by
          rcases mem_add hc with hc | hc
          · have := hw8 c hc; omega
          · rw [List.mem_singleton.mp hc]; omega⟩
        have l3 : (tl (("a" : Str) ++ wd)).length ≤ 100 := by rw [tl_append, List.length_append]; show 1 + _ ≤ _; omega
        have w3 : Wd (("a" : Str) ++ wd) := ⟨by omega, fun c hc => (mem_add hc).elim (fun h => by rw [List.mem_singleton.mp h]; exact (by decide : (97 : Nat) < 0x110000)) (fun h => by have := hw8 c h; omega)⟩
        have z1 : wd.length + (⟨#[cp]⟩ : Str).length ≤ sizeLine := by show (tl wd).length + 1 ≤ sizeLine; unfold sizeLine; omega
        have z2 : ("a" : Str).length + wd.length ≤ sizeLine := by show 1 + (tl wd).length ≤ sizeLine; unfold sizeLine; omega
        refine ⟨_, _, rfl, rfl, z1, ?_⟩
        walk_at "rds"
        intro H10 s10
        walk_at "rds"
        intro H11 s11
        walk_at "rds"
        intro H12 s12
        walk_at "rds"
        exact ⟨_, _, _, _, _, _, _, rfl, g9.trans (.same ((s10.trans s11).trans s12)), ((sa9.same s10).same s11 |>.same s12).mono (by omega)⟩
      · rintro σ H7 ⟨v4, v5, v6, v7, v8, v9, v10, rfl, g7, sa7⟩
        walk_at "rds"
        intro t1 ht1
        have u1 := Same.new (o := .tup [.str "a"]) (Same.refl _) ht1
        have f1 : upd H7 t1 (.tup [.str "a"]) t1 = some (.tup [.str "a"]) := upd_same
        generalize upd H7 t1 (.tup [.str "a"]) = C1 at *
        walk_at "rds"
        intro t2 ht2
        have u2 := Same.new (o := .lst [.str "a"]) (Same.refl _) ht2
        have f2 : upd C1 t2 (.lst [.str "a"]) t2 = some (.lst [.str "a"]) := upd_same
        generalize upd C1 t2 (.lst [.str "a"]) = C2 at *
        walk_at "rds"
        intro t3 ht3
        have u3 := Same.new (o := .dK []) (Same.refl _) ht3
        have f3 : upd C2 t3 (.dK []) t3 = some (.dK []) := upd_same
        generalize upd C2 t3 (.dK []) = C3 at *
        walk_at "rds"
        intro t4 ht4
        have u4 := Same.new (o := .tup [.str "a", .str "b"]) (Same.refl _) ht4
        have f4 : upd C3 t4 (.tup [.str "a", .str "b"]) t4 = some (.tup [.str "a", .str "b"]) := upd_same
        generalize upd C3 t4 (.tup [.str "a", .str "b"]) = C4 at *
        walk_at "rds"
        intro t5 ht5
        have u5 := Same.new (o := .lst []) (Same.refl _) ht5
        have f5 : upd C4 t5 (.lst []) t5 = some (.lst []) := upd_same
        generalize upd C4 t5 (.lst []) = C5 at *
        walk_at "rds"
        intro t6 ht6
        have u6 := Same.new (o := .tup []) (Same.refl _) ht6
        have f6 : upd C5 t6 (.tup []) t6 = some (.tup []) := upd_same
        generalize upd C5 t6 (.tup []) = C6 at *
        walk_at "rds"
        intro L hL
        have uL := Same.new (o := .lst [V.non, .bl true, .int 0, .int 7, .ref t1, .ref t2, .ref t3, .ref t4, .ref t5, .ref t6]) (Same.refl _) hL
        have fL : upd C6 L (.lst [V.non, .bl true, .int 0, .int 7, .ref t1, .ref t2, .ref t3, .ref t4, .ref t5, .ref t6]) L = some (.lst [V.non, .bl true, .int 0, .int 7, .ref t1, .ref t2, .ref t3, .ref t4, .ref t5, .ref t6]) := upd_same
        generalize upd C6 L (.lst [V.non, .bl true, .int 0, .int 7, .ref t1, .ref t2, .ref t3, .ref t4, .ref t5, .ref t6]) = C7 at *
        walk_at "rds"
        have su : Same H7 C7 := (((((u1.trans u2).trans u3).trans u4).trans u5).trans u6).trans uL
        have sc7 : StAt st 606 C7 := (sa7.mono (by decide)).same su
        have neSt : ∀ {p : Addr} {o : HO} {Hc : Hp}, Hc p = none → Same H7 Hc → p ≠ st := fun {p o Hc} e sm z => by
          obtain ⟨_, _, _, e2, _⟩ := sa7
          rw [z, sm _ _ e2] at e
          cases e
        have n1 : t1 ≠ st := neSt (o := .tup []) ht1 (Same.refl _)
        have n2 : t2 ≠ st := neSt (o := .tup []) ht2 u1
        have n3 : t3 ≠ st := neSt (o := .tup []) ht3 (u1.trans u2)
        have n4 : t4 ≠ st := neSt (o := .tup []) ht4 ((u1.trans u2).trans u3)
        have n5 : t5 ≠ st := neSt (o := .tup []) ht5 (((u1.trans u2).trans u3).trans u4)
        have n6 : t6 ≠ st := neSt (o := .tup []) ht6 ((((u1.trans u2).trans u3).trans u4).trans u5)
        have nL : L ≠ st := neSt (o := .tup []) hL (((((u1.trans u2).trans u3).trans u4).trans u5).trans u6)
        refine ⟨st, _, .ref L, rfl, sc7, by decide, .inl ⟨L, [V.non, .bl true, .int 0, .int 7, .ref t1, .ref t2, .ref t3, .ref t4, .ref t5, .ref t6], rfl, nL, fL, Nat.lt_of_lt_of_le (Nat.zero_lt_succ _) (Nat.le_refl _), by show 10 < 1000000; decide, fun j x H8 hj kp8 sa8 => ?_⟩⟩
        have ot : ∀ y ∈ [V.non, .bl true, .int 0, .int 7, .ref t1, .ref t2, .ref t3, .ref t4, .ref t5, .ref t6], ∃ t, TyX K H8 y (.type t) ∧ kitB t "str" = some false := by
          intro y hy
          simp only [List.mem_cons, List.not_mem_nil, or_false] at hy
          rcases hy with rfl | rfl | rfl | rfl | rfl | rfl | rfl | rfl | rfl | rfl
          · exact ⟨"NoneType", .base .non, by decide +kernel⟩
          · exact ⟨"bool", .base (.bl _), by decide +kernel⟩
          · exact ⟨"int", .base (.int _), by decide +kernel⟩
          · exact ⟨"int", .base (.int _), by decide +kernel⟩
          · exact ⟨"tuple", .base (.tup (kp8 _ _ n1 (uL _ _ (u6 _ _ (u5 _ _ (u4 _ _ (u3 _ _ (u2 _ _ (f1))))))))), by decide +kernel⟩
          · exact ⟨"list", .base (.lst (kp8 _ _ n2 (uL _ _ (u6 _ _ (u5 _ _ (u4 _ _ (u3 _ _ (f2)))))))), by decide +kernel⟩
          · exact ⟨"dict", .base (.dK (kp8 _ _ n3 (uL _ _ (u6 _ _ (u5 _ _ (u4 _ _ (f3))))))), by decide +kernel⟩
          · exact ⟨"tuple", .base (.tup (kp8 _ _ n4 (uL _ _ (u6 _ _ (u5 _ _ (f4)))))), by decide +kernel⟩
          · exact ⟨"list", .base (.lst (kp8 _ _ n5 (uL _ _ (u6 _ _ (f5))))), by decide +kernel⟩
          · exact ⟨"tuple", .base (.tup (kp8 _ _ n6 (uL _ _ (f6)))), by decide +kernel⟩
        obtain ⟨ty, hty, hkt⟩ := ot x (List.mem_of_getElem? hj)
        have g8 := (g7.trans (.same su)).kp hst sc7 kp8
        walk_at "rds"
        refine .inr ⟨ty, hty, hkt, ?_⟩
        walk_at "rds"
        refine .inr ⟨ty, hty, hkt, ?_⟩
        have ea : Nam.part (tl ("a" : Str)) = true := by decide +kernel
        have eb : Nam.name (tl ("a:b" : Str)) = true := by decide +kernel
        walk_at "rds"
        simp only [ea, eb]
        intro p4 hp4
        have g9 := g8.new (o := .lst [.bl false, .bl false, .bl true, .bl true]) hp4
        have k9 := (Go.refl [(PT, "law.<locals>.<lambda>")] H8).new (o := .lst [.bl false, .bl false, .bl true, .bl true]) hp4
        have f4 : upd H8 p4 (.lst [.bl false, .bl false, .bl true, .bl true]) p4 = some (.lst [.bl false, .bl false, .bl true, .bl true]) := upd_same
        generalize upd H8 p4 (.lst [.bl false, .bl false, .bl true, .bl true]) = H9 at *
        walk_at "rds"
        refine ⟨p4, .list [.bool false, .bool false, .bool true, .bool true], rfl, .lst (SqL.of f4) (.cons (.bl _) (.cons (.bl _) (.cons (.bl _) (.cons (.bl _) .nil)))), by decide, by decide, by decide, by decide +kernel, ?_⟩
        walk_at "rds"
        intro p5 hp5
        have g10 := g9.new (o := .lst [.bl false, .bl false, .bl true, .bl true]) hp5
        have k10 := k9.new (o := .lst [.bl false, .bl false, .bl true, .bl true]) hp5
        have f5' : upd H9 p5 (.lst [.bl false, .bl false, .bl true, .bl true]) p5 = some (.lst [.bl false, .bl false, .bl true, .bl true]) := upd_same
        generalize upd H9 p5 (.lst [.bl false, .bl false, .bl true, .bl true]) = H10 at *
        walk_at "rds"
        refine ⟨p5, .list [.bool false, .bool false, .bool true, .bool true], rfl, .lst (SqL.of f5') (.cons (.bl _) (.cons (.bl _) (.cons (.bl _) (.cons (.bl _) .nil)))), by decide, by decide, by decide, by decide +kernel, ?_⟩
        walk_at "rds"
        refine ⟨(g3.trans (g5.trans g10)).2 tb, fun H11 e11 t11 => ?_⟩
        intro p0 hp0
        have ty11 : TyX K (upd H11 p0 (.lst [])) x (.type ty) := TyX_go (LamX.ExtN.of (Same.new (Same.refl _) hp0)) (TyX_go (k10.1.trans e11) hty)
        have gf := ((g5.trans g10).trans ⟨e11, fun _ => t11⟩).new (o := .lst []) hp0
        generalize upd H11 p0 (.lst []) = H12 at *
        walk_at "rds"
        refine .inr ⟨ty, ty11, hkt, fun d hd => ?_⟩
        refine ⟨T.a_InvalidText, d, [("index", .non)], "index", "text", .non, rfl, rfl, upd_same, T.xc_InvalidText, T.ex_InvalidText, T.fn_InvalidText, rfl, .inr (.inl ⟨rfl, rfl, T.k1_InvalidText, T.k2_InvalidText⟩), fun ax px hax hpx => ?_⟩
        walk_at "rds"
        intro p6 hp6
        walk_at "rds"
        refine ⟨.tuple [.str "text", .none], .tuple [.str "text", .none], .tup (xs := [.str "text", .non]) (SqT.of ?_) (.cons (.str _) (.cons .non .nil)), .tup (SqT.of upd_same) (.cons (.str _) (.cons .non .nil)), by decide +kernel, by decide +kernel, ?_⟩
        · rw [upd_ne (ne_of_none upd_same hp6), upd_same]
        · refine ⟨_, rfl, itF (by decide +kernel) ?_⟩
          walk_at "rds"
          exact ⟨_, _, _, _, _, _, _, _, _, _, rfl, (((gf.new hd).new hax).new hpx).new hp6⟩
    · rintro σ H4 ⟨v1, v2, v3, v4, v5, v6, v7, v8, v9, v10, rfl, g4⟩
      walk_at "rds"
      intro q1 hq1
      walk_at "rds"
      have all16 : ∀ x ∈ ([.str "", .str "a", .str "a:", .str ":", .str ":a", .str "a:b", .str "a:b:", .str "a::b", .str "1", .str "a1", .str "-", .str "a-", .str "_", .str "a.b:c-d", .str "a b", .str "a\n"] : List V), ∃ z : Str, x = .str z ∧ (tl z).length ≤ 100 ∧ Wd z := by
        intro x hx
        simp only [List.mem_cons, List.not_mem_nil, or_false] at hx
        rcases hx with rfl | rfl | rfl | rfl | rfl | rfl | rfl | rfl | rfl | rfl | rfl | rfl | rfl | rfl | rfl | rfl <;> exact ⟨_, rfl, by decide +kernel, by decide +kernel, by decide +kernel⟩
      have f16 : upd H4 q1 (.lst [.str "", .str "a", .str "a:", .str ":", .str ":a", .str "a:b", .str "a:b:", .str "a::b", .str "1", .str "a1", .str "-", .str "a-", .str "_", .str "a.b:c-d", .str "a b", .str "a\n"]) q1 = some (.lst [.str "", .str "a", .str "a:", .str ":", .str ":a", .str "a:b", .str "a:b:", .str "a::b", .str "1", .str "a1", .str "-", .str "a-", .str "_", .str "a.b:c-d", .str "a b", .str "a\n"]) := upd_same
      have l16 : ([.str "", .str "a", .str "a:", .str ":", .str ":a", .str "a:b", .str "a:b:", .str "a::b", .str "1", .str "a1", .str "-", .str "a-", .str "_", .str "a.b:c-d", .str "a b", .str "a\n"] : List V).length ≤ 1000000 := by decide
      generalize upd H4 q1 (.lst [.str "", .str "a", .str "a:", .str ":", .str ":a", .str "a:b", .str "a:b:", .str "a::b", .str "1", .str "a1", .str "-", .str "a-", .str "_", .str "a.b:c-d", .str "a b", .str "a\n"]) = H5 at *
      generalize ([.str "", .str "a", .str "a:", .str ":", .str ":a", .str "a:b", .str "a:b:", .str "a::b", .str "1", .str "a1", .str "-", .str "a-", .str "_", .str "a.b:c-d", .str "a b", .str "a\n"] : List V) = xs16 at *
      walk_at "rds"
      intro D hD
      refine lc_flt (walk_list (xs := xs16)) (fun _ => false) (fun i => xs16.getD i .non) hD l16 (fun H1 sm => SqL.of (sm _ _ f16)) (fun i H1 x H2 y => y.1 ▸ Same.refl _) ?_ ?_
      · rintro i x H6 H7 Nx Mx hi sm ⟨rfl, hx⟩ k1 k2
        obtain ⟨zz, rfl, lz, wz⟩ := all16 x (List.mem_of_getElem? hx)
        refine ⟨rfl, ?_⟩
        walk_at "rds"
        intro H8 s8
        walk_at "rds"
        exact k2 rfl _ s8
      · intro H6 sm hl6
        rw [picked_none] at hl6
        walk_at "rds"
        intro q2 hq2
        refine ⟨.list [], .list [], .lst (SqL.of (by rw [upd_ne (ne_of_none hl6 hq2)]; exact hl6)) .nil, .lst (SqL.of upd_same) .nil, rfl, rfl, ?_⟩
        exact q _

end
end K2

namespace K2
open PySem PySem.Spec PyProof.Rows L2 Mx
local macro_rules | `(tactic| walk_at "sz") => `(tactic| first | assumption | decide | omega | (unfold sizeLine; omega) | exact Nat.le_of_ble_eq_true rfl)
local macro_rules | `(tactic| walk_at "hp") => `(tactic| (first | assumption | exact upd_same | (rw [upd_ne (by assumption)]; assumption)))
local macro_rules | `(tactic| walk_at "rd") => `(tactic| (first
  | refine ⟨_, rfl, ?_⟩
  | (refine ⟨_, _, rfl, rfl, ?rdc, ?_⟩; (case rdc => first | (show (0 : Int) < _; omega) | (exact ⟨by omega, by omega⟩) | (exact .inl ⟨by omega, by omega⟩) | (exact .inr ⟨by omega, by omega⟩) | exact ⟨by decide, by decide, by decide⟩))
  | refine ⟨_, _, rfl, rfl, ?_⟩
  | refine .inl ⟨_, rfl, ?_⟩
  | refine ⟨rfl, ?_⟩
  | refine ⟨⟨_, rfl⟩, ?_⟩
  | refine ⟨⟨_, SqL.of (by walk_at "hp")⟩, ?_⟩
  | refine ⟨_, _, _, _, rfl, rfl, SqL.of (by walk_at "hp"), (by rfl), ?_⟩
  | refine ⟨_, _, _, _, rfl, rfl, (by walk_at "hp"), (by rfl), ?_⟩
  | refine ⟨_, _, rfl, ⟨by walk_at "sz", rfl⟩, ?_⟩
  | refine ⟨_, _, _, rfl, rfl, by walk_at "sz", by assumption, ?_⟩
  | refine And.intro (by walk_at "sz") ?_
  | refine itT rfl ?_
  | refine itF rfl ?_
  | refine itT (by assumption) ?_
  | refine itF (by assumption) ?_
  | refine itT (decide_eq_true (by omega)) ?_
  | refine itF (decide_eq_false (by omega)) ?_
  | refine itT (dVi (by omega)) ?_
  | refine itF (dViN (by omega)) ?_
  | refine itT (notT (by assumption)) ?_
  | refine itF (notF (by assumption)) ?_
  | refine itT (notT (dViN (by omega))) ?_
  | refine itF (notF (dVi (by omega))) ?_
  | refine itT (decide_eq_true rfl) ?_
  | refine itF (notF (decide_eq_true rfl)) ?_
  | refine ite2 (fun _ => ?_) (fun _ => ?_)
  | with_reducible refine tC_ ?_
  | with_reducible refine tNext_ ?_
  | with_reducible refine tNil_ ?_))
local macro_rules | `(tactic| walk_at "rds") => `(tactic| repeat' (walk_at "rd"))
/-! ### the end -/
section
variable {P : Program} {w : World} {K : PySem.W.Frag} {mg : Str → Option Value} {base : Heap}
theorem ok_InvalidText___init__ {CM C fI : Addr} {fd : FuncData} (B : BaseT K mg "MarkupError" CM) (F : Fun K "__init__" "InvalidText.__init__" s_InvalidText___init__ fI fd) (fn : PySem.W.findIn K (.ref C) "index" = some none) : FnOk P w K mg base CX0 1 fI fd ["self", "index"] (spXI K C "index") := by
  have sc := sc_InvalidText___init__
  refine F.ok sc (fun vs H Q E h => ?_) (fun cdv A outer s H vs Q E hr h => ?_)
  · obtain ⟨a, y, rfl, _⟩ := h
    rfl
  · obtain ⟨a, y, rfl, ox, ha, q⟩ := h
    refine ⟨_, pss_cons (ps_expr (pe_minit B rfl (pa_cons (pv 0) (pa_cons pe_str pa_nil)))) (pss_one (ps_ost (pv 0) (pv 1))), ?_⟩
    walk_at "rds"
    refine ⟨a, C, _, rfl, (by show 1 ≤ 1000; decide), ox, ha, ?_⟩
    walk_at "rds"
    exact ⟨a, C, rfl, ox, fn, .inl ⟨ha, fun dx h1 h2 => q dx h1 h2⟩⟩

end
theorem all_mk {l : PySem.W.OpenLaw} {w : World} {K : PySem.W.Frag} {h : Heap} {mg : Str → Option Value} {fa cT PT : Addr} (X : K.In h) (G : h.Ns mainGlobals mg) (hfa : mg "law" = some (.ref fa)) (tb : PySem.W.CodeHd h cT PT ∧ h.get? PT = some { cls := .none, data := .fields #[] }) (np : K.lookup PT = none)
    {f_continues_name : Addr} {od_continues_name an_continues_name : Option Addr} {sl_continues_name : Array (Option Value)} {oc_continues_name kV_continues_name dc_continues_name pm_continues_name cd_continues_name ct_continues_name : Value}
    {f_check_text : Addr} {od_check_text an_check_text : Option Addr} {sl_check_text : Array (Option Value)} {oc_check_text kV_check_text dc_check_text pm_check_text cd_check_text ct_check_text : Value}
    {f_is_part : Addr} {od_is_part an_is_part : Option Addr} {sl_is_part : Array (Option Value)} {oc_is_part kV_is_part dc_is_part pm_is_part cd_is_part ct_is_part : Value}
    {f_is_name : Addr} {od_is_name an_is_name : Option Addr} {sl_is_name : Array (Option Value)} {oc_is_name kV_is_name dc_is_name pm_is_name cd_is_name ct_is_name : Value}
    {f_part_end : Addr} {od_part_end an_part_end : Option Addr} {sl_part_end : Array (Option Value)} {oc_part_end kV_part_end dc_part_end pm_part_end cd_part_end ct_part_end : Value}
    {f_name_end : Addr} {od_name_end an_name_end : Option Addr} {sl_name_end : Array (Option Value)} {oc_name_end kV_name_end dc_name_end pm_name_end cd_name_end ct_name_end : Value}
    {f_first_wrong_name : Addr} {od_first_wrong_name an_first_wrong_name : Option Addr} {sl_first_wrong_name : Array (Option Value)} {oc_first_wrong_name kV_first_wrong_name dc_first_wrong_name pm_first_wrong_name cd_first_wrong_name ct_first_wrong_name : Value}
    {f__law_mixed : Addr} {od__law_mixed an__law_mixed : Option Addr} {sl__law_mixed : Array (Option Value)} {oc__law_mixed kV__law_mixed dc__law_mixed pm__law_mixed cd__law_mixed ct__law_mixed : Value}
    {f__law_stream : Addr} {od__law_stream an__law_stream : Option Addr} {sl__law_stream : Array (Option Value)} {oc__law_stream kV__law_stream dc__law_stream pm__law_stream cd__law_stream ct__law_stream : Value}
    {f__law_draw : Addr} {od__law_draw an__law_draw : Option Addr} {sl__law_draw : Array (Option Value)} {oc__law_draw kV__law_draw dc__law_draw pm__law_draw cd__law_draw ct__law_draw : Value}
    {f__law_signs : Addr} {od__law_signs an__law_signs : Option Addr} {sl__law_signs : Array (Option Value)} {oc__law_signs kV__law_signs dc__law_signs pm__law_signs cd__law_signs ct__law_signs : Value}
    {f__law_pick : Addr} {od__law_pick an__law_pick : Option Addr} {sl__law_pick : Array (Option Value)} {oc__law_pick kV__law_pick dc__law_pick pm__law_pick cd__law_pick ct__law_pick : Value}
    {f__law_is_part : Addr} {od__law_is_part an__law_is_part : Option Addr} {sl__law_is_part : Array (Option Value)} {oc__law_is_part kV__law_is_part dc__law_is_part pm__law_is_part cd__law_is_part ct__law_is_part : Value}
    {f__law_is_name : Addr} {od__law_is_name an__law_is_name : Option Addr} {sl__law_is_name : Array (Option Value)} {oc__law_is_name kV__law_is_name dc__law_is_name pm__law_is_name cd__law_is_name ct__law_is_name : Value}
    {f__law_told : Addr} {od__law_told an__law_told : Option Addr} {sl__law_told : Array (Option Value)} {oc__law_told kV__law_told dc__law_told pm__law_told cd__law_told ct__law_told : Value}
    {f__law_word : Addr} {od__law_word an__law_word : Option Addr} {sl__law_word : Array (Option Value)} {oc__law_word kV__law_word dc__law_word pm__law_word cd__law_word ct__law_word : Value}
    {f__law_is_begun : Addr} {od__law_is_begun an__law_is_begun : Option Addr} {sl__law_is_begun : Array (Option Value)} {oc__law_is_begun kV__law_is_begun dc__law_is_begun pm__law_is_begun cd__law_is_begun ct__law_is_begun : Value}
    {f__law_right : Addr} {od__law_right an__law_right : Option Addr} {sl__law_right : Array (Option Value)} {oc__law_right kV__law_right dc__law_right pm__law_right cd__law_right ct__law_right : Value}
    {f_law : Addr} {od_law an_law : Option Addr} {sl_law : Array (Option Value)} {oc_law kV_law dc_law pm_law ct_law : Value}
    {t_LETTERS : Tok}
    {t_INNER : Tok}
    {C_InvalidText : Addr}
    {C_MarkupError : Addr}
    {C_MarkupStateError : Addr}
    {C_LimitError : Addr}
    {C_IllFormed : Addr}
    {C_InvalidNumber : Addr}
    {C_InvalidKind : Addr}
    {nmE_InvalidText : _} {qnE_InvalidText : _} {NSE_InvalidText : _} {bsE_InvalidText : _} {snE_InvalidText : _} {subE_InvalidText : _} {abE_InvalidText : _} {colE_InvalidText : _} {ddE_InvalidText : _} {k0E_InvalidText : _} {k1E_InvalidText : _} {k2E_InvalidText : _} {k3E_InvalidText : _} {k5E_InvalidText : _}
    {I_InvalidText : Addr} {odI_InvalidText anI_InvalidText : Option Addr} {slI_InvalidText : Array (Option Value)} {ocI_InvalidText kVI_InvalidText dcI_InvalidText pmI_InvalidText cdI_InvalidText ctI_InvalidText : Value}
    (a_continues_name : PySem.W.nsIn K mainGlobals "continues_name" = some (some (.ref f_continues_name)))
    (l_continues_name : K.lookup f_continues_name = some ⟨oc_continues_name, od_continues_name, .func (PySem.W.fnOf "continues_name" "continues_name" (defArgs s_continues_name) (defBody s_continues_name) (defScope s_continues_name) .none kV_continues_name dc_continues_name pm_continues_name an_continues_name cd_continues_name ct_continues_name), sl_continues_name⟩)
    (c_continues_name : PySem.W.codeIn K cd_continues_name "continues_name" = true)
    (k_continues_name : PySem.W.keepIn K (.ref f_continues_name) = true)
    (a_check_text : PySem.W.nsIn K mainGlobals "check_text" = some (some (.ref f_check_text)))
    (l_check_text : K.lookup f_check_text = some ⟨oc_check_text, od_check_text, .func (PySem.W.fnOf "check_text" "check_text" (defArgs s_check_text) (defBody s_check_text) (defScope s_check_text) .none kV_check_text dc_check_text pm_check_text an_check_text cd_check_text ct_check_text), sl_check_text⟩)
    (c_check_text : PySem.W.codeIn K cd_check_text "check_text" = true)
    (k_check_text : PySem.W.keepIn K (.ref f_check_text) = true)
    (a_is_part : PySem.W.nsIn K mainGlobals "is_part" = some (some (.ref f_is_part)))
    (l_is_part : K.lookup f_is_part = some ⟨oc_is_part, od_is_part, .func (PySem.W.fnOf "is_part" "is_part" (defArgs s_is_part) (defBody s_is_part) (defScope s_is_part) .none kV_is_part dc_is_part pm_is_part an_is_part cd_is_part ct_is_part), sl_is_part⟩)
    (c_is_part : PySem.W.codeIn K cd_is_part "is_part" = true)
    (k_is_part : PySem.W.keepIn K (.ref f_is_part) = true)
    (a_is_name : PySem.W.nsIn K mainGlobals "is_name" = some (some (.ref f_is_name)))
    (l_is_name : K.lookup f_is_name = some ⟨oc_is_name, od_is_name, .func (PySem.W.fnOf "is_name" "is_name" (defArgs s_is_name) (defBody s_is_name) (defScope s_is_name) .none kV_is_name dc_is_name pm_is_name an_is_name cd_is_name ct_is_name), sl_is_name⟩)
    (c_is_name : PySem.W.codeIn K cd_is_name "is_name" = true)
    (k_is_name : PySem.W.keepIn K (.ref f_is_name) = true)
    (a_part_end : PySem.W.nsIn K mainGlobals "part_end" = some (some (.ref f_part_end)))
    (l_part_end : K.lookup f_part_end = some ⟨oc_part_end, od_part_end, .func (PySem.W.fnOf "part_end" "part_end" (defArgs s_part_end) (defBody s_part_end) (defScope s_part_end) .none kV_part_end dc_part_end pm_part_end an_part_end cd_part_end ct_part_end), sl_part_end⟩)
    (c_part_end : PySem.W.codeIn K cd_part_end "part_end" = true)
    (k_part_end : PySem.W.keepIn K (.ref f_part_end) = true)
    (a_name_end : PySem.W.nsIn K mainGlobals "name_end" = some (some (.ref f_name_end)))
    (l_name_end : K.lookup f_name_end = some ⟨oc_name_end, od_name_end, .func (PySem.W.fnOf "name_end" "name_end" (defArgs s_name_end) (defBody s_name_end) (defScope s_name_end) .none kV_name_end dc_name_end pm_name_end an_name_end cd_name_end ct_name_end), sl_name_end⟩)
    (c_name_end : PySem.W.codeIn K cd_name_end "name_end" = true)
    (k_name_end : PySem.W.keepIn K (.ref f_name_end) = true)
    (a_first_wrong_name : PySem.W.nsIn K mainGlobals "first_wrong_name" = some (some (.ref f_first_wrong_name)))
    (l_first_wrong_name : K.lookup f_first_wrong_name = some ⟨oc_first_wrong_name, od_first_wrong_name, .func (PySem.W.fnOf "first_wrong_name" "first_wrong_name" (defArgs s_first_wrong_name) (defBody s_first_wrong_name) (defScope s_first_wrong_name) .none kV_first_wrong_name dc_first_wrong_name pm_first_wrong_name an_first_wrong_name cd_first_wrong_name ct_first_wrong_name), sl_first_wrong_name⟩)
    (c_first_wrong_name : PySem.W.codeIn K cd_first_wrong_name "first_wrong_name" = true)
    (k_first_wrong_name : PySem.W.keepIn K (.ref f_first_wrong_name) = true)
    (a__law_mixed : PySem.W.nsIn K mainGlobals "_law_mixed" = some (some (.ref f__law_mixed)))
    (l__law_mixed : K.lookup f__law_mixed = some ⟨oc__law_mixed, od__law_mixed, .func (PySem.W.fnOf "_law_mixed" "_law_mixed" (defArgs s__law_mixed) (defBody s__law_mixed) (defScope s__law_mixed) .none kV__law_mixed dc__law_mixed pm__law_mixed an__law_mixed cd__law_mixed ct__law_mixed), sl__law_mixed⟩)
    (c__law_mixed : PySem.W.codeIn K cd__law_mixed "_law_mixed" = true)
    (k__law_mixed : PySem.W.keepIn K (.ref f__law_mixed) = true)
    (a__law_stream : PySem.W.nsIn K mainGlobals "_law_stream" = some (some (.ref f__law_stream)))
    (l__law_stream : K.lookup f__law_stream = some ⟨oc__law_stream, od__law_stream, .func (PySem.W.fnOf "_law_stream" "_law_stream" (defArgs s__law_stream) (defBody s__law_stream) (defScope s__law_stream) .none kV__law_stream dc__law_stream pm__law_stream an__law_stream cd__law_stream ct__law_stream), sl__law_stream⟩)
    (c__law_stream : PySem.W.codeIn K cd__law_stream "_law_stream" = true)
    (k__law_stream : PySem.W.keepIn K (.ref f__law_stream) = true)
    (a__law_draw : PySem.W.nsIn K mainGlobals "_law_draw" = some (some (.ref f__law_draw)))
    (l__law_draw : K.lookup f__law_draw = some ⟨oc__law_draw, od__law_draw, .func (PySem.W.fnOf "_law_draw" "_law_draw" (defArgs s__law_draw) (defBody s__law_draw) (defScope s__law_draw) .none kV__law_draw dc__law_draw pm__law_draw an__law_draw cd__law_draw ct__law_draw), sl__law_draw⟩)
    (c__law_draw : PySem.W.codeIn K cd__law_draw "_law_draw" = true)
    (k__law_draw : PySem.W.keepIn K (.ref f__law_draw) = true)
    (a__law_signs : PySem.W.nsIn K mainGlobals "_law_signs" = some (some (.ref f__law_signs)))
    (l__law_signs : K.lookup f__law_signs = some ⟨oc__law_signs, od__law_signs, .func (PySem.W.fnOf "_law_signs" "_law_signs" (defArgs s__law_signs) (defBody s__law_signs) (defScope s__law_signs) .none kV__law_signs dc__law_signs pm__law_signs an__law_signs cd__law_signs ct__law_signs), sl__law_signs⟩)
    (c__law_signs : PySem.W.codeIn K cd__law_signs "_law_signs" = true)
    (k__law_signs : PySem.W.keepIn K (.ref f__law_signs) = true)
    (a__law_pick : PySem.W.nsIn K mainGlobals "_law_pick" = some (some (.ref f__law_pick)))
    (l__law_pick : K.lookup f__law_pick = some ⟨oc__law_pick, od__law_pick, .func (PySem.W.fnOf "_law_pick" "_law_pick" (defArgs s__law_pick) (defBody s__law_pick) (defScope s__law_pick) .none kV__law_pick dc__law_pick pm__law_pick an__law_pick cd__law_pick ct__law_pick), sl__law_pick⟩)
    (c__law_pick : PySem.W.codeIn K cd__law_pick "_law_pick" = true)
    (k__law_pick : PySem.W.keepIn K (.ref f__law_pick) = true)
    (a__law_is_part : PySem.W.nsIn K mainGlobals "_law_is_part" = some (some (.ref f__law_is_part)))
    (l__law_is_part : K.lookup f__law_is_part = some ⟨oc__law_is_part, od__law_is_part, .func (PySem.W.fnOf "_law_is_part" "_law_is_part" (defArgs s__law_is_part) (defBody s__law_is_part) (defScope s__law_is_part) .none kV__law_is_part dc__law_is_part pm__law_is_part an__law_is_part cd__law_is_part ct__law_is_part), sl__law_is_part⟩)
    (c__law_is_part : PySem.W.codeIn K cd__law_is_part "_law_is_part" = true)
    (k__law_is_part : PySem.W.keepIn K (.ref f__law_is_part) = true)
    (a__law_is_name : PySem.W.nsIn K mainGlobals "_law_is_name" = some (some (.ref f__law_is_name)))
    (l__law_is_name : K.lookup f__law_is_name = some ⟨oc__law_is_name, od__law_is_name, .func (PySem.W.fnOf "_law_is_name" "_law_is_name" (defArgs s__law_is_name) (defBody s__law_is_name) (defScope s__law_is_name) .none kV__law_is_name dc__law_is_name pm__law_is_name an__law_is_name cd__law_is_name ct__law_is_name), sl__law_is_name⟩)
    (c__law_is_name : PySem.W.codeIn K cd__law_is_name "_law_is_name" = true)
    (k__law_is_name : PySem.W.keepIn K (.ref f__law_is_name) = true)
    (a__law_told : PySem.W.nsIn K mainGlobals "_law_told" = some (some (.ref f__law_told)))
    (l__law_told : K.lookup f__law_told = some ⟨oc__law_told, od__law_told, .func (PySem.W.fnOf "_law_told" "_law_told" (defArgs s__law_told) (defBody s__law_told) (defScope s__law_told) .none kV__law_told dc__law_told pm__law_told an__law_told cd__law_told ct__law_told), sl__law_told⟩)
    (c__law_told : PySem.W.codeIn K cd__law_told "_law_told" = true)
    (k__law_told : PySem.W.keepIn K (.ref f__law_told) = true)
    (a__law_word : PySem.W.nsIn K mainGlobals "_law_word" = some (some (.ref f__law_word)))
    (l__law_word : K.lookup f__law_word = some ⟨oc__law_word, od__law_word, .func (PySem.W.fnOf "_law_word" "_law_word" (defArgs s__law_word) (defBody s__law_word) (defScope s__law_word) .none kV__law_word dc__law_word pm__law_word an__law_word cd__law_word ct__law_word), sl__law_word⟩)
    (c__law_word : PySem.W.codeIn K cd__law_word "_law_word" = true)
    (k__law_word : PySem.W.keepIn K (.ref f__law_word) = true)
    (a__law_is_begun : PySem.W.nsIn K mainGlobals "_law_is_begun" = some (some (.ref f__law_is_begun)))
    (l__law_is_begun : K.lookup f__law_is_begun = some ⟨oc__law_is_begun, od__law_is_begun, .func (PySem.W.fnOf "_law_is_begun" "_law_is_begun" (defArgs s__law_is_begun) (defBody s__law_is_begun) (defScope s__law_is_begun) .none kV__law_is_begun dc__law_is_begun pm__law_is_begun an__law_is_begun cd__law_is_begun ct__law_is_begun), sl__law_is_begun⟩)
    (c__law_is_begun : PySem.W.codeIn K cd__law_is_begun "_law_is_begun" = true)
    (k__law_is_begun : PySem.W.keepIn K (.ref f__law_is_begun) = true)
    (a__law_right : PySem.W.nsIn K mainGlobals "_law_right" = some (some (.ref f__law_right)))
    (l__law_right : K.lookup f__law_right = some ⟨oc__law_right, od__law_right, .func (PySem.W.fnOf "_law_right" "_law_right" (defArgs s__law_right) (defBody s__law_right) (defScope s__law_right) .none kV__law_right dc__law_right pm__law_right an__law_right cd__law_right ct__law_right), sl__law_right⟩)
    (c__law_right : PySem.W.codeIn K cd__law_right "_law_right" = true)
    (k__law_right : PySem.W.keepIn K (.ref f__law_right) = true)
    (a_law : PySem.W.nsIn K mainGlobals "law" = some (some (.ref f_law)))
    (l_law : K.lookup f_law = some ⟨oc_law, od_law, .func (PySem.W.fnOf "law" "law" (defArgs s_law) (defBody s_law) (defScope s_law) .none kV_law dc_law pm_law an_law (.ref cT) ct_law), sl_law⟩)
    (c_law : PySem.W.codeIn K (.ref cT) "law" = true)
    (k_law : PySem.W.keepIn K (.ref f_law) = true)
    (n_isinstance : PySem.W.nsIn K mainGlobals "isinstance" = some none)
    (n_str : PySem.W.nsIn K mainGlobals "str" = some none)
    (n_len : PySem.W.nsIn K mainGlobals "len" = some none)
    (n_int : PySem.W.nsIn K mainGlobals "int" = some none)
    (n_enumerate : PySem.W.nsIn K mainGlobals "enumerate" = some none)
    (n_range : PySem.W.nsIn K mainGlobals "range" = some none)
    (n_max : PySem.W.nsIn K mainGlobals "max" = some none)
    (n_repr : PySem.W.nsIn K mainGlobals "repr" = some none)
    (g_LETTERS : PySem.W.nsIn K mainGlobals "LETTERS" = some (some (.str "abcdefghijklmnopqrstuvwxyzABCDEFGHIJKLMNOPQRSTUVWXYZ_" t_LETTERS)))
    (g_INNER : PySem.W.nsIn K mainGlobals "INNER" = some (some (.str "abcdefghijklmnopqrstuvwxyzABCDEFGHIJKLMNOPQRSTUVWXYZ_0123456789-." t_INNER)))
    (b_InvalidText : PySem.W.nsIn K mainGlobals "InvalidText" = some (some (.ref C_InvalidText)))
    (b_MarkupError : PySem.W.nsIn K mainGlobals "MarkupError" = some (some (.ref C_MarkupError)))
    (b_MarkupStateError : PySem.W.nsIn K mainGlobals "MarkupStateError" = some (some (.ref C_MarkupStateError)))
    (b_LimitError : PySem.W.nsIn K mainGlobals "LimitError" = some (some (.ref C_LimitError)))
    (b_IllFormed : PySem.W.nsIn K mainGlobals "IllFormed" = some (some (.ref C_IllFormed)))
    (b_InvalidNumber : PySem.W.nsIn K mainGlobals "InvalidNumber" = some (some (.ref C_InvalidNumber)))
    (b_InvalidKind : PySem.W.nsIn K mainGlobals "InvalidKind" = some (some (.ref C_InvalidKind)))
    (m1 : PySem.W.readsIn K C_MarkupError (.type "type") = true)
    (m2 : PySem.W.specialIn K (.ref C_MarkupError) "__getattribute__" = some (some (.builtin "type.__getattribute__")))
    (m3 : PySem.W.findCls K (.ref C_MarkupError) (.type "type") "__init__" = some (.val (.builtin "ValueError.__init__")))
    (u1 : PySem.W.specialIn K (.builtin "object.__class__") "__get__" = some (some (.builtin "getset_descriptor.__get__")))
    (u2 : PySem.W.takesIn K (.builtin "object.__class__") = some true)
    (o1_InvalidText : K.lookup C_InvalidText = some (excClassObj nmE_InvalidText qnE_InvalidText C_InvalidText NSE_InvalidText bsE_InvalidText [.ref C_MarkupError, .type "ValueError", .type "Exception", .type "BaseException", .type "object"] true snE_InvalidText subE_InvalidText abE_InvalidText colE_InvalidText ddE_InvalidText k0E_InvalidText k1E_InvalidText k2E_InvalidText k3E_InvalidText k5E_InvalidText "ValueError.__new__"))
    (o2_InvalidText : PySem.W.findIn K (.ref C_InvalidText) "__setattr__" = some (some (.builtin "object.__setattr__")))
    (o3_InvalidText : PySem.W.subIn K (.ref C_InvalidText) (.type "BaseException") = some true)
    (o4_InvalidText : PySem.W.typeIn K (.ref C_InvalidText) = some (.type "type"))
    (o5_InvalidText : PySem.W.keepIn K (.ref C_InvalidText) = true)
    (i1_InvalidText : PySem.W.findIn K (.ref C_InvalidText) "__init__" = some (some (.ref I_InvalidText)))
    (i2_InvalidText : PySem.W.typeIn K (.ref I_InvalidText) = some (.type "function"))
    (i3_InvalidText : K.lookup I_InvalidText = some ⟨ocI_InvalidText, odI_InvalidText, .func (PySem.W.fnOf "__init__" "InvalidText.__init__" (defArgs s_InvalidText___init__) (defBody s_InvalidText___init__) (defScope s_InvalidText___init__) .none kVI_InvalidText dcI_InvalidText pmI_InvalidText anI_InvalidText cdI_InvalidText ctI_InvalidText), slI_InvalidText⟩)
    (i4_InvalidText : PySem.W.codeIn K cdI_InvalidText "InvalidText.__init__" = true)
    (i5_InvalidText : PySem.W.keepIn K (.ref I_InvalidText) = true)
    (i6_InvalidText : PySem.W.findIn K (.ref C_InvalidText) "index" = some none)
    (q1_InvalidText : (PySem.W.clsIn K C_InvalidText).isSome = true)
    (q2_InvalidText : PySem.W.findIn K (.ref C_InvalidText) "__getattribute__" = some (some (.builtin "BaseException.__getattribute__")))
    (q3_InvalidText : PySem.W.findIn K (.ref C_InvalidText) "__getattr__" = some none)
    (q4_InvalidText : PySem.W.findIn K (.ref C_InvalidText) "__class__" = some (some (.builtin "object.__class__")))
    (q5_InvalidText : PySem.W.mroIn K C_InvalidText (.type "object") = some true)
    (q6_InvalidText : PySem.W.hasDictIn K C_InvalidText = true)
    (xe_InvalidText : PySem.W.exmAny K (.ref C_InvalidText) [.ref C_MarkupError, .ref C_MarkupStateError, .ref C_LimitError] = some true)
    (xk1_InvalidText : PySem.W.kitOne K (.ref C_InvalidText) (.ref C_IllFormed) = some false)
    (xk2_InvalidText : PySem.W.kitOne K (.ref C_InvalidText) (.ref C_InvalidText) = some true) :
    LawG l w K CX0 8 63 "script" mg fa h := by
  have e := hfa.symm.trans (PySem.W.mg_of X G a_law)
  cases e
  refine ⟨PySem.W.fnOf "law" "law" (defArgs s_law) (defBody s_law) (defScope s_law) .none kV_law dc_law pm_law an_law (.ref cT) ct_law, [(cT, PT)], sp_law K [(PT, "law.<locals>.<lambda>")], ?_, ?_, ?_, fun s v => .of_eq rfl, ?_, ?_⟩
  · intro p hp
    rw [List.mem_singleton.mp hp]
    exact tb.2
  · intro p hp
    rw [List.mem_singleton.mp hp]
    exact np
  · intro p hp
    rw [List.mem_singleton.mp hp]
    exact tb.1
  · intro H a ns hn _ ht hs
    exact ⟨a, ns, rfl, hs, hn, fun p hp => by rw [List.mem_singleton.mp hp]; exact LamX.TabS.nil (ht (cT, PT) (List.mem_singleton.mpr rfl)), fun _ => rfl⟩
  intro base inB nsB tabB
  have F_continues_name := fun_mk (st := s_continues_name) l_continues_name c_continues_name k_continues_name
  have B_continues_name := F_continues_name.binds (ps := ["word", "sign"]) fun _ _ _ _ _ _ us hl => match us, hl with | [_, _], _ => rfl
  have F_check_text := fun_mk (st := s_check_text) l_check_text c_check_text k_check_text
  have B_check_text := F_check_text.binds (ps := ["text"]) fun _ _ _ _ _ _ us hl => match us, hl with | [_], _ => rfl
  have F_is_part := fun_mk (st := s_is_part) l_is_part c_is_part k_is_part
  have B_is_part := F_is_part.binds (ps := ["value"]) fun _ _ _ _ _ _ us hl => match us, hl with | [_], _ => rfl
  have F_is_name := fun_mk (st := s_is_name) l_is_name c_is_name k_is_name
  have B_is_name := F_is_name.binds (ps := ["value"]) fun _ _ _ _ _ _ us hl => match us, hl with | [_], _ => rfl
  have F_part_end := fun_mk (st := s_part_end) l_part_end c_part_end k_part_end
  have B_part_end := F_part_end.binds (ps := ["text", "begin"]) fun _ _ _ _ _ _ us hl => match us, hl with | [_, _], _ => rfl
  have F_name_end := fun_mk (st := s_name_end) l_name_end c_name_end k_name_end
  have B_name_end := F_name_end.binds (ps := ["text", "begin"]) fun _ _ _ _ _ _ us hl => match us, hl with | [_, _], _ => rfl
  have F_first_wrong_name := fun_mk (st := s_first_wrong_name) l_first_wrong_name c_first_wrong_name k_first_wrong_name
  have B_first_wrong_name := F_first_wrong_name.binds (ps := ["text"]) fun _ _ _ _ _ _ us hl => match us, hl with | [_], _ => rfl
  have F__law_mixed := fun_mk (st := s__law_mixed) l__law_mixed c__law_mixed k__law_mixed
  have B__law_mixed := F__law_mixed.binds (ps := ["number", "k"]) fun _ _ _ _ _ _ us hl => match us, hl with | [_, _], _ => rfl
  have F__law_stream := fun_mk (st := s__law_stream) l__law_stream c__law_stream k__law_stream
  have B__law_stream := F__law_stream.binds (ps := ["item", "k"]) fun _ _ _ _ _ _ us hl => match us, hl with | [_, _], _ => rfl
  have F__law_draw := fun_mk (st := s__law_draw) l__law_draw c__law_draw k__law_draw
  have B__law_draw := F__law_draw.binds (ps := ["stream", "top"]) fun _ _ _ _ _ _ us hl => match us, hl with | [_, _], _ => rfl
  have F__law_signs := fun_mk (st := s__law_signs) l__law_signs c__law_signs k__law_signs
  have B__law_signs := F__law_signs.binds (ps := []) fun _ _ _ _ _ _ us hl => match us, hl with | [], _ => rfl
  have F__law_pick := fun_mk (st := s__law_pick) l__law_pick c__law_pick k__law_pick
  have B__law_pick := F__law_pick.binds (ps := ["stream", "some"]) fun _ _ _ _ _ _ us hl => match us, hl with | [_, _], _ => rfl
  have F__law_is_part := fun_mk (st := s__law_is_part) l__law_is_part c__law_is_part k__law_is_part
  have B__law_is_part := F__law_is_part.binds (ps := ["word"]) fun _ _ _ _ _ _ us hl => match us, hl with | [_], _ => rfl
  have F__law_is_name := fun_mk (st := s__law_is_name) l__law_is_name c__law_is_name k__law_is_name
  have B__law_is_name := F__law_is_name.binds (ps := ["word"]) fun _ _ _ _ _ _ us hl => match us, hl with | [_], _ => rfl
  have F__law_told := fun_mk (st := s__law_told) l__law_told c__law_told k__law_told
  have B__law_told := F__law_told.binds (ps := ["call"]) fun _ _ _ _ _ _ us hl => match us, hl with | [_], _ => rfl
  have F__law_word := fun_mk (st := s__law_word) l__law_word c__law_word k__law_word
  have B__law_word := F__law_word.binds (ps := ["stream"]) fun _ _ _ _ _ _ us hl => match us, hl with | [_], _ => rfl
  have F__law_is_begun := fun_mk (st := s__law_is_begun) l__law_is_begun c__law_is_begun k__law_is_begun
  have B__law_is_begun := F__law_is_begun.binds (ps := ["word"]) fun _ _ _ _ _ _ us hl => match us, hl with | [_], _ => rfl
  have F__law_right := fun_mk (st := s__law_right) l__law_right c__law_right k__law_right
  have B__law_right := F__law_right.binds (ps := ["word"]) fun _ _ _ _ _ _ us hl => match us, hl with | [_], _ => rfl
  have BM : BaseT K mg "MarkupError" C_MarkupError := ⟨PySem.W.mg_of X G b_MarkupError, m1, m2, m3⟩
  have FI_InvalidText := fun_mk (st := s_InvalidText___init__) i3_InvalidText i4_InvalidText i5_InvalidText
  have OX_InvalidText : OexC K C_InvalidText := ⟨⟨_, _, _, _, _, _, _, _, _, _, _, _, _, _, _, o1_InvalidText, rfl⟩, o2_InvalidText, o3_InvalidText, o4_InvalidText, o5_InvalidText⟩
  have T : Tx l.prog w K mg base := {
    d_continues_name := ⟨_, _, F_continues_name, PySem.W.mg_of X G a_continues_name, B_continues_name⟩
    d_check_text := ⟨_, _, F_check_text, PySem.W.mg_of X G a_check_text, B_check_text⟩
    d_is_part := ⟨_, _, F_is_part, PySem.W.mg_of X G a_is_part, B_is_part⟩
    d_is_name := ⟨_, _, F_is_name, PySem.W.mg_of X G a_is_name, B_is_name⟩
    d_part_end := ⟨_, _, F_part_end, PySem.W.mg_of X G a_part_end, B_part_end⟩
    d_name_end := ⟨_, _, F_name_end, PySem.W.mg_of X G a_name_end, B_name_end⟩
    d_first_wrong_name := ⟨_, _, F_first_wrong_name, PySem.W.mg_of X G a_first_wrong_name, B_first_wrong_name⟩
    d__law_mixed := ⟨_, _, F__law_mixed, PySem.W.mg_of X G a__law_mixed, B__law_mixed⟩
    d__law_stream := ⟨_, _, F__law_stream, PySem.W.mg_of X G a__law_stream, B__law_stream⟩
    d__law_draw := ⟨_, _, F__law_draw, PySem.W.mg_of X G a__law_draw, B__law_draw⟩
    d__law_signs := ⟨_, _, F__law_signs, PySem.W.mg_of X G a__law_signs, B__law_signs⟩
    d__law_pick := ⟨_, _, F__law_pick, PySem.W.mg_of X G a__law_pick, B__law_pick⟩
    d__law_is_part := ⟨_, _, F__law_is_part, PySem.W.mg_of X G a__law_is_part, B__law_is_part⟩
    d__law_is_name := ⟨_, _, F__law_is_name, PySem.W.mg_of X G a__law_is_name, B__law_is_name⟩
    d__law_told := ⟨_, _, F__law_told, PySem.W.mg_of X G a__law_told, B__law_told⟩
    d__law_word := ⟨_, _, F__law_word, PySem.W.mg_of X G a__law_word, B__law_word⟩
    d__law_is_begun := ⟨_, _, F__law_is_begun, PySem.W.mg_of X G a__law_is_begun, B__law_is_begun⟩
    d__law_right := ⟨_, _, F__law_right, PySem.W.mg_of X G a__law_right, B__law_right⟩
    n_isinstance := PySem.W.mg_none_of X G n_isinstance
    n_str := PySem.W.mg_none_of X G n_str
    n_len := PySem.W.mg_none_of X G n_len
    n_int := PySem.W.mg_none_of X G n_int
    n_enumerate := PySem.W.mg_none_of X G n_enumerate
    n_range := PySem.W.mg_none_of X G n_range
    n_max := PySem.W.mg_none_of X G n_max
    n_repr := PySem.W.mg_none_of X G n_repr
    g_LETTERS := ⟨_, PySem.W.mg_of X G g_LETTERS, ⟨_, rfl⟩⟩
    g_INNER := ⟨_, PySem.W.mg_of X G g_INNER, ⟨_, rfl⟩⟩
    a_InvalidText := C_InvalidText
    i_InvalidText := I_InvalidText
    fd_InvalidText := _
    x_InvalidText := ⟨OX_InvalidText, PySem.W.mg_of X G b_InvalidText, i1_InvalidText, i2_InvalidText, ok_InvalidText___init__ BM FI_InvalidText i6_InvalidText, FI_InvalidText.binds (ps := ["self", "index"]) fun _ _ _ _ _ _ us hl => match us, hl with | [_, _], _ => rfl⟩
    kb_is_part := kb_of F_is_part fun _ _ _ _ _ _ us ws hl => match us, ws, hl with | [], [_], _ => rfl | [_], [], _ => rfl
    kb_is_name := kb_of F_is_name fun _ _ _ _ _ _ us ws hl => match us, ws, hl with | [], [_], _ => rfl | [_], [], _ => rfl
    kb_first_wrong_name := kb_of F_first_wrong_name fun _ _ _ _ _ _ us ws hl => match us, ws, hl with | [], [_], _ => rfl | [_], [], _ => rfl
    a_MarkupError := C_MarkupError
    m_MarkupError := PySem.W.mg_of X G b_MarkupError
    a_MarkupStateError := C_MarkupStateError
    m_MarkupStateError := PySem.W.mg_of X G b_MarkupStateError
    a_LimitError := C_LimitError
    m_LimitError := PySem.W.mg_of X G b_LimitError
    a_IllFormed := C_IllFormed
    m_IllFormed := PySem.W.mg_of X G b_IllFormed
    a_InvalidNumber := C_InvalidNumber
    m_InvalidNumber := PySem.W.mg_of X G b_InvalidNumber
    a_InvalidKind := C_InvalidKind
    m_InvalidKind := PySem.W.mg_of X G b_InvalidKind
    xc_InvalidText := ⟨q1_InvalidText, q2_InvalidText, q3_InvalidText, o3_InvalidText, q4_InvalidText, u1, u2, q5_InvalidText, q6_InvalidText⟩
    ex_InvalidText := xe_InvalidText
    fn_InvalidText := i6_InvalidText
    k1_InvalidText := xk1_InvalidText
    k2_InvalidText := xk2_InvalidText }
  have G__law_mixed := ok__law_mixed T
  have G__law_stream := ok__law_stream T G__law_mixed
  have G__law_draw := ok__law_draw T G__law_mixed
  have G__law_signs := ok__law_signs T
  have G__law_pick := ok__law_pick T G__law_draw
  have G__law_word := ok__law_word T G__law_draw G__law_signs G__law_pick
  have G_continues_name := ok_continues_name T
  have G_part_end := ok_part_end T
  have G_name_end := ok_name_end T G_part_end
  have G_is_part := ok_is_part T G_part_end
  have G_is_name := ok_is_name T G_name_end
  have G_check_text := ok_check_text T
  have G_first_wrong_name := ok_first_wrong_name T G_check_text G_continues_name G_is_name
  have G__law_is_part := ok__law_is_part T
  have G__law_is_name := ok__law_is_name T G__law_is_part
  have G__law_is_begun := ok__law_is_begun T G__law_is_name G__law_is_part
  have G__law_right := ok__law_right T G_is_part G_is_name G__law_is_part G__law_is_name G__law_is_begun G_first_wrong_name
  exact ok_law T ⟨⟨_, _, _, _, _, _, _, _, rfl, l_law, c_law⟩⟩ (tabB (cT, PT) (List.mem_singleton.mpr rfl)) G__law_stream G__law_draw G__law_signs G__law_pick G__law_word G__law_right G_is_part G_is_name G_first_wrong_name
end K2
open PySem PySem.W PyProof.Rows
set_option maxHeartbeats 0
theorem PySem.Challenge.cw_markstream_k02_names_recognized_holds : PySem.Challenge.rw_markstream_k02_names_recognized.Holds := by
  w_on; o_law; k_head; (case hw => w_witness2)
  k_fill
  refine Mx.walkG (l := PySem.Challenge.rw_markstream_k02_names_recognized) (n := 63) (k := 8) (x := "script") (CX := fun _ => L2.CX0) rfl (by decide) rfl ⟨⟨rfl, by decide, by decide⟩, rfl⟩ (fun w h Y => by first | exact PySem.W.km_in_of Y | exact PySem.W.kIn_of Y) ?F (fun _ _ _ _ _ z => z)
  case F =>
    rintro w mg mb fa h ⟨ls, mean, Tp⟩ Y KX G hmg
    refine' K2.all_mk (PT := 251) KX G hmg ⟨PySem.W.codeHd_of_K KX ?tab, PySem.W.km_tabs_of Y _ (by decide)⟩ ?np ?a_continues_name ?l_continues_name ?c_continues_name ?k_continues_name ?a_check_text ?l_check_text ?c_check_text ?k_check_text ?a_is_part ?l_is_part ?c_is_part ?k_is_part ?a_is_name ?l_is_name ?c_is_name ?k_is_name ?a_part_end ?l_part_end ?c_part_end ?k_part_end ?a_name_end ?l_name_end ?c_name_end ?k_name_end ?a_first_wrong_name ?l_first_wrong_name ?c_first_wrong_name ?k_first_wrong_name ?a__law_mixed ?l__law_mixed ?c__law_mixed ?k__law_mixed ?a__law_stream ?l__law_stream ?c__law_stream ?k__law_stream ?a__law_draw ?l__law_draw ?c__law_draw ?k__law_draw ?a__law_signs ?l__law_signs ?c__law_signs ?k__law_signs ?a__law_pick ?l__law_pick ?c__law_pick ?k__law_pick ?a__law_is_part ?l__law_is_part ?c__law_is_part ?k__law_is_part ?a__law_is_name ?l__law_is_name ?c__law_is_name ?k__law_is_name ?a__law_told ?l__law_told ?c__law_told ?k__law_told ?a__law_word ?l__law_word ?c__law_word ?k__law_word ?a__law_is_begun ?l__law_is_begun ?c__law_is_begun ?k__law_is_begun ?a__law_right ?l__law_right ?c__law_right ?k__law_right ?a_law ?l_law ?c_law ?k_law ?n_isinstance ?n_str ?n_len ?n_int ?n_enumerate ?n_range ?n_max ?n_repr ?g_LETTERS ?g_INNER ?b_InvalidText ?b_MarkupError ?b_MarkupStateError ?b_LimitError ?b_IllFormed ?b_InvalidNumber ?b_InvalidKind ?m1 ?m2 ?m3 ?u1 ?u2 ?o1_InvalidText ?o2_InvalidText ?o3_InvalidText ?o4_InvalidText ?o5_InvalidText ?i1_InvalidText ?i2_InvalidText ?i3_InvalidText ?i4_InvalidText ?i5_InvalidText ?i6_InvalidText ?q1_InvalidText ?q2_InvalidText ?q3_InvalidText ?q4_InvalidText ?q5_InvalidText ?q6_InvalidText ?xe_InvalidText ?xk1_InvalidText ?xk2_InvalidText
    (case a_continues_name => k_is)
    (case l_continues_name => k_is)
    (case c_continues_name => k_is)
    (case k_continues_name => k_is)
    (case a_check_text => k_is)
    (case l_check_text => k_is)
    (case c_check_text => k_is)
    (case k_check_text => k_is)
    (case a_is_part => k_is)
    (case l_is_part => k_is)
    (case c_is_part => k_is)
    (case k_is_part => k_is)
    (case a_is_name => k_is)
    (case l_is_name => k_is)
    (case c_is_name => k_is)
    (case k_is_name => k_is)
    (case a_part_end => k_is)
    (case l_part_end => k_is)
    (case c_part_end => k_is)
    (case k_part_end => k_is)
    (case a_name_end => k_is)
    (case l_name_end => k_is)
    (case c_name_end => k_is)
    (case k_name_end => k_is)
    (case a_first_wrong_name => k_is)
    (case l_first_wrong_name => k_is)
    (case c_first_wrong_name => k_is)
    (case k_first_wrong_name => k_is)
    (case a__law_mixed => k_is)
    (case l__law_mixed => k_is)
    (case c__law_mixed => k_is)
    (case k__law_mixed => k_is)
    (case a__law_stream => k_is)
    (case l__law_stream => k_is)
    (case c__law_stream => k_is)
    (case k__law_stream => k_is)
    (case a__law_draw => k_is)
    (case l__law_draw => k_is)
    (case c__law_draw => k_is)
    (case k__law_draw => k_is)
    (case a__law_signs => k_is)
    (case l__law_signs => k_is)
    (case c__law_signs => k_is)
    (case k__law_signs => k_is)
    (case a__law_pick => k_is)
    (case l__law_pick => k_is)
    (case c__law_pick => k_is)
    (case k__law_pick => k_is)
    (case a__law_is_part => k_is)
    (case l__law_is_part => k_is)
    (case c__law_is_part => k_is)
    (case k__law_is_part => k_is)
    (case a__law_is_name => k_is)
    (case l__law_is_name => k_is)
    (case c__law_is_name => k_is)
    (case k__law_is_name => k_is)
    (case a__law_told => k_is)
    (case l__law_told => k_is)
    (case c__law_told => k_is)
    (case k__law_told => k_is)
    (case a__law_word => k_is)
    (case l__law_word => k_is)
    (case c__law_word => k_is)
    (case k__law_word => k_is)
    (case a__law_is_begun => k_is)
    (case l__law_is_begun => k_is)
    (case c__law_is_begun => k_is)
    (case k__law_is_begun => k_is)
    (case a__law_right => k_is)
    (case l__law_right => k_is)
    (case c__law_right => k_is)
    (case k__law_right => k_is)
    (case a_law => k_is)
    (case l_law => k_is)
    (case c_law => k_is)
    (case k_law => k_is)
    (case n_isinstance => k_is)
    (case n_str => k_is)
    (case n_len => k_is)
    (case n_int => k_is)
    (case n_enumerate => k_is)
    (case n_range => k_is)
    (case n_max => k_is)
    (case n_repr => k_is)
    (case g_LETTERS => k_is)
    (case g_INNER => k_is)
    (case b_InvalidText => k_is)
    (case b_MarkupError => k_is)
    (case b_MarkupStateError => k_is)
    (case b_LimitError => k_is)
    (case b_IllFormed => k_is)
    (case b_InvalidNumber => k_is)
    (case b_InvalidKind => k_is)
    (case m1 => k_is)
    (case m2 => k_is)
    (case m3 => k_is)
    (case u1 => k_is)
    (case u2 => k_is)
    (case o1_InvalidText => k_is)
    (case o2_InvalidText => k_is)
    (case o3_InvalidText => k_is)
    (case o4_InvalidText => k_is)
    (case o5_InvalidText => k_is)
    (case i1_InvalidText => k_is)
    (case i2_InvalidText => k_is)
    (case i3_InvalidText => k_is)
    (case i4_InvalidText => k_is)
    (case i5_InvalidText => k_is)
    (case i6_InvalidText => k_is)
    (case q1_InvalidText => kernel_rfl)
    (case q2_InvalidText => k_is)
    (case q3_InvalidText => k_is)
    (case q4_InvalidText => k_is)
    (case q5_InvalidText => k_is)
    (case q6_InvalidText => k_is)
    (case xe_InvalidText => kernel_rfl)
    (case xk1_InvalidText => kernel_rfl)
    (case xk2_InvalidText => kernel_rfl)
    (case np => kernel_rfl)
    (case tab => kernel_rfl)
