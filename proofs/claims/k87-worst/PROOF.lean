import PyProof.Rows.All
import Wide.All
import OpenK.AllK
import Wide.FinOn
import HandS.Base
import HandS.Call
import HandS.Exc
import HandS.Defaults
import HandS.HeadHook1
import HandS.HeadHook2
import HandS.List
import HandS.ExcOwn
import HandS.Words
import HandS.WordsExc
import KE.KUnpackStar
import KE.KUnpack
import HandS.Comp
import HandS.Dict
import HandS.DictComp
import HandS.Iter
import HandS.TupAny
import KE.KDictPairs
import KE.KDictSum
import KE.KItemsList
import KE.KEqDict
import HandS.NoneIn
import HandS.ListItems
import HandS.Conv
import HandS.More
import HandS.Sort
import HandS.SortKw
import HandS.ClsMeth
import KE.GoesMore
import KE.GoesEnum
import PyProof.EnumMake
import KE.SortKeyHeap
import HandS.Text
import HandS.IsInst
import HandS.Zip
import HandS.HotCalls
import PyProof.EqAt
import PyProof.EqKinds
import PyProof.TupleCall
import KE.KFromBytes
import KE.KExcInit
import HandS.Ends
import HandS.ExcInit
import HandS.ExcCtx
import KE.KStateDown
import HandS.Head0
import HandS.Head1
import HandS.Head2
import HandS.HeadEnd
import PySem.Challenge.RW_roundstore_k87_whole_worst_both_edges
import HandS.FStr
import KE.SortData
import HandS.Deep
import KE.KxText
import PyProof.AutoSeq1
import PyProof.Rows.RuleB_pow
import PyProof.Rows.ShownEnds
import HandS.SetFor
set_option Elab.async false
set_option linter.all false
set_option maxRecDepth 100000
section
set_option maxHeartbeats 2000000
namespace HkM
open PySem PySem.Spec PyProof.Rows L2 He
/-- what an object names, in the ways that a def, a class, a namespace does -/
def refsV : List Value → List Addr
  | [] => []
  | .ref a :: r => a :: refsV r
  | _ :: r => refsV r
def dictRefs (g : Addr → Option Obj) (a : Addr) : List Addr := match g a with
  | some ⟨_, _, .dict es _, _⟩ => refsV (es.toList.map (·.val))
  | _ => []
def clsRefs (g : Addr → Option Obj) (a : Addr) : List Addr := match g a with
  | some ⟨_, _, .cls cd, _⟩ => cd.ns :: dictRefs g cd.ns
  | _ => []
def fnRefs (g : Addr → Option Obj) (a : Addr) : List Addr := match g a with
  | some ⟨_, _, .func fd, _⟩ => refsV [fd.code, fd.defaults, fd.kwdefaults]
  | _ => []
def asM (g : Addr → Option Obj) : List Addr :=
  let l1 := dictRefs g mainGlobals
  let l2 := l1.flatMap (clsRefs g)
  let l3 := (l1 ++ l2).flatMap (fnRefs g)
  mainGlobals :: cStatics :: (l1 ++ l2 ++ l3)
abbrev AlM : Type := AlD × Bool
def obsM (fa : List Fa) (fn : List DefD) (ex : PySem.W.Frag → Bool) (g : Addr → Option Obj) : AlM := (obsD fa fn (frG g (asM g)), ex (frG g (asM g)))
def valM (fn : List DefD) : AlM := (valD fn, true)
structure SaysM (fa : List Fa) (fn : List DefD) (ex : PySem.W.Frag → Bool) (K : PySem.W.Frag) : Prop where
  d : SaysD fa fn K
  more : ex K = true
def hookM (fa : List Fa) (fn : List DefD) (ex : PySem.W.Frag → Bool) : PySem.W.Hook where
  α := AlM
  obs := fun s => obsM fa fn ex s.heap.get?
  val := fun _ => valM fn
  says := fun _ h => ∃ K : PySem.W.Frag, K.In h ∧ SaysM fa fn ex K
  of := fun _ _ e => ⟨_, frG_in, ⟨congrArg (fun z : AlM => z.1) e, congrArg (fun z : AlM => z.2) e⟩⟩
  keeps := fun _ _ _ ⟨K, hK, c⟩ k => ⟨K, PySem.W.Frag.In.keeps hK k, c⟩
theorem obsM_eq {fa : List Fa} {fn : List DefD} {ex : PySem.W.Frag → Bool} {g : Addr → Option Obj} {s : Shared} (h : ∀ a, g a = s.heap.get? a) : obsM fa fn ex g = (hookM fa fn ex).obs s := by
  have e : g = s.heap.get? := funext h
  rw [e] <;> rfl
end HkM
end
section
set_option maxHeartbeats 4000000
namespace RX
open PySem PySem.Spec PyProof.Rows L2
/-! ### how calls bind -/
section
variable {K : PySem.W.Frag} {x qual : Str} {params : Arguments} {body : List Stmt} {scope : Scope} {kws : List (Str × V)} {f : Addr} {fd : FuncData} {ps : List Str}
/-- a call whose keyword-only parameters are all given, no defaults -/
theorem kb0 (F : FunD K x qual params body scope [] kws f fd) (n : Nat) (ks : List Str)
    (g : {α : Type} → List α → List α → List α) (hrel : ∀ {vs zs : List V} {us ws : List Value}, Vals vs us → Vals zs ws → Vals (g vs zs) (g us ws))
    (h : ∀ (kV doc pm : Value) (an : Option Addr) (cdv ct : Value) (us ws : List Value), us.length = n → ws.length = ks.length → bindArgs (PySem.W.fnOf x qual params body scope .none kV doc pm an cdv ct) ⟨us, ks.zip ws⟩ = pure (ps.zip (g us ws))) :
    KBn K fd ps n ks (fun us ws => g us ws) (fun vs zs => g vs zs) := by
  obtain ⟨oc, od, dV, kV, doc, pm, an, cdv, ct, osl, rfl, lk, hcd, hD, hK⟩ := F.ex
  rcases hD with ⟨_, rfl⟩ | ⟨e, _⟩
  · exact ⟨fun s us ws _ l1 l2 => .of_eq (h kV doc pm an cdv ct us ws l1 l2), fun r1 r2 => hrel r1 r2⟩
  · exact absurd rfl e
/-- .. some of them lack: ms -/
theorem kbm (F : FunD K x qual params body scope [] kws f fd) (n : Nat) (ks : List Str) (ms : List (Str × V)) (hms : ∀ q ∈ ms, q ∈ kws) (h0 : kws ≠ [])
    (g : {α : Type} → List α → List α → List α → List α) (hrel : ∀ {vs mz zs : List V} {us mv ws : List Value}, Vals vs us → Vals mz mv → Vals zs ws → Vals (g vs mz zs) (g us mv ws))
    (h : ∀ (D : Addr) (doc pm : Value) (an : Option Addr) (cdv ct : Value) (us mv ws : List Value), us.length = n → mv.length = ms.length → ws.length = ks.length →
      KwChain D ((ms.map (·.1)).zip mv) (bindArgs (PySem.W.fnOf x qual params body scope .none (.ref D) doc pm an cdv ct) ⟨us, ks.zip ws⟩) (ps.zip (g us mv ws))) :
    ∃ mv, KBn K fd ps n ks (fun us ws => g us mv ws) (fun vs zs => g vs (ms.map (·.2)) zs) := by
  obtain ⟨oc, od, dV, kV, doc, pm, an, cdv, ct, osl, rfl, lk, hcd, hD, hK⟩ := F.ex
  rcases hD with ⟨_, rfl⟩ | ⟨e, _⟩
  · rcases hK with e | ⟨D, rfl, hq⟩
    · exact absurd e h0
    · obtain ⟨mv, hl, rk, hks⟩ := kwd_vals (ms := ms) fun q hm => hq q (hms q hm)
      exact ⟨mv, fun s us ws X l1 l2 => BindsTo.of_looks fun M => KwChain.looks X hks (h D doc pm an cdv ct us mv ws l1 hl l2), fun r1 r2 => hrel r1 rk r2⟩
  · exact absurd rfl e
end
/-! ### calls, what they let out wished for at the caller's slots -/
def tCs (n m : Nat) (sp : Sp) (gV : List V → List V → List V) (E : L2.St → XK) (t tk : TA) : TE := fun σ H Q => t σ H fun vs H1 => tk σ H1 fun zs H2 => vs.length = n ∧ zs.length = m ∧ sp (gV vs zs) H2 Q (E σ)
def tMs (C : Addr) (m : Str) (n j : Nat) (sp : Sp) (gV : List V → List V → List V) (E : L2.St → XK) (ta : TE) (t tk : TA) : TE := fun σ H Q => ta σ H fun x H1 => ∃ a dx fs, x = .ref a ∧ H1 a = some (.ins C dx fs) ∧ fs.lookup m = none ∧
  t σ H1 fun vs H2 => tk σ H2 fun zs H3 => vs.length + 1 = n ∧ zs.length = j ∧ sp (gV (x :: vs) zs) H3 Q (E σ)
def tMk (C : Addr) (n m : Nat) (sp : Sp) (gV : List V → List V → List V) (E : L2.St → XK) (t tk : TA) : TE := fun σ H Q => t σ H fun vs H1 => tk σ H1 fun zs H2 => vs.length + 1 = n ∧ zs.length = m ∧
  ∀ x dx, H2 x = none → H2 dx = none → dx ≠ x → sp (gV (.ref x :: vs) zs) (upd (upd H2 dx (.own x)) x (.ins C dx [])) (fun v H3 => v = .non ∧ Q (.ref x) H3) (E σ)
/-- nothing is let out -/
abbrev ES0 : L2.St → XK := fun _ => E0
section
variable {X : Cx} {CX : CXT} {k n : Nat} {f C : Addr} {fd : FuncData} {ps ks : List Str} {sp : Sp} {E : L2.St → XK} {x m : Str} {p pos apos : Pos} {e o : Expr} {es : List Expr} {kws : List Keyword} {ta : TE} {t tk : TA} {g : List Value → List Value → List Value} {gV : List V → List V → List V}
theorem passS0 : ∀ σ, PassesAt CX0 X σ (ES0 σ) := fun _ _ _ _ _ _ _ h => h.elim
/-- what a callee lets out leaves this def, too -/
theorem passS {E₀ : XK} (tk : Takes X (fun cls d _ H => E₀ cls d H)) : ∀ σ, PassesAt (L2.CX X.prog X.w) X σ ((fun _ => E₀) σ) := fun _ _ _ _ e s' I c => tk e s' (XE.of_call I (fun _ _ _ h => h) c)
theorem run_S {pins : List (Addr × Obj)} {σ : L2.St} {H : Hp} {s : Shared} {Q : VK} {us ws : List Value} {vs zs : List V} (F : FnOk X.prog X.w X.K X.mg X.base CX k f fd ps sp) (hr : Room k X.A) (hb : KBn X.K fd ps n ks g gV) (hx : PassesAt CX X σ (E σ))
    (I : Inv X pins σ H s) (r : Vals vs us) (rz : Vals zs ws) (l1 : vs.length = n) (l2 : zs.length = ks.length) (h : sp (gV vs zs) H Q (E σ)) : wpAny (model X.prog X.w) X.A (call (.ref f) us (ks.zip ws)) (EP X pins σ Q) X.xe s := by
  refine wpAny_call (codeAny_mono (F.run X.A X.stack s H ⟨us, ks.zip ws⟩ (g us ws) (gV vs zs) Q (E σ) hr I.env0 (hb.to s us ws I.kIn (r.length.symm.trans l1) (rz.length.symm.trans l2)) (hb.rel r rz) h) fun r s' hq => ?_)
  cases r with
  | error e => exact hx pins H s e s' I hq
  | ok fl =>
    cases fl with
    | ret u => exact I.after hq
    | next => exact False.elim hq
    | brk => exact False.elim hq
    | cont => exact False.elim hq
/-- f(e, .., k = v, ..) -/
theorem pe_cs (F : FnOk X.prog X.w X.K X.mg X.base CX k f fd ps sp) (hr : Room k X.A) (hm : X.mg x = some (.ref f)) (hk : PySem.W.keepIn X.K (.ref f) = true) (hb : KBn X.K fd ps n ks g gV) (hx : ∀ σ, PassesAt CX X σ (E σ))
    (ha : PA X (e :: es) t) (hkw : PK X kws tk) (hg : Gl X x := by rfl) (hall : (backToKw pos (keywordEach kws X.env)).all (·.1.isSome) = true := by rfl) (hks : (backToKw pos (keywordEach kws X.env)).filterMap (·.1) = ks := by rfl)
    (hdb : (x == ("__debug__" : Str)) = false := by decide) (he : starEach (e :: es) X.env = (false, eval e X.env) :: starEach es X.env := by rfl)
    (hpl : ((backTo pos (starEach (e :: es) X.env)).any (·.1) || (backToKw pos (keywordEach kws X.env)).any (·.1.isNone)) = false := by rfl) :
    PE X (.Call (.Name x p) (e :: es) kws pos) (tCs n ks.length sp gV E t tk) := by
  refine ⟨fun pins s σ H Q I h => ?_⟩
  refine wpAny_Call_Name_kw (ld_glob I hg hm ?_ hdb)
  refine PySem.W.callWith_KW (h₀ := X.base) I.ok.mod.kin hk hall (thn (ha.run pos pins s σ H _ I h) fun us s1 ⟨vs, H1, I1, r, q⟩ => ?_) hpl he
  refine thn (hkw.run pos pins s1 σ H1 _ I1 q) fun ws s2 ⟨zs, H2, I2, rz, l1, l2, q2⟩ => ⟨I2.kIn, ?_⟩
  rw [hks]
  exact run_S F hr hb (hx σ) I2 r rz l1 l2 q2
/-- o.m(e, .., k = v, ..) -/
theorem pe_ms {pl : Sem Bool} (he : PE X o ta) (c : Cls X.K C) (hm : Meth X.K C m f) (F : FnOk X.prog X.w X.K X.mg X.base CX k f fd ps sp) (hr : Room k X.A) (hb : KBn X.K fd ps n ks g gV) (hx : ∀ σ, PassesAt CX X σ (E σ)) (ha : PA X (e :: es) t) (hkw : PK X kws tk)
    (hall : (backToKw pos (keywordEach kws X.env)).all (·.1.isSome) = true := by rfl) (hks : (backToKw pos (keywordEach kws X.env)).filterMap (·.1) = ks := by rfl)
    (hst : starEach (e :: es) X.env = (false, eval e X.env) :: starEach es X.env := by rfl)
    (hpl : ((backTo pos (starEach (e :: es) X.env)).any (·.1) || (backToKw pos (keywordEach kws X.env)).any (·.1.isNone)) = false := by rfl)
    (ht : eval (.Call (.Attribute o m apos) (e :: es) kws pos) X.env = (do
      let ov ← eval o X.env
      standAt apos.atName
      let (f, first) ← holding [ov] (getMethod ov m pl)
      callWith pos f first (backTo pos (starEach (e :: es) X.env)) (backToKw pos (keywordEach kws X.env))) := by rfl) :
    PE X (.Call (.Attribute o m apos) (e :: es) kws pos) (tMs C m n ks.length sp gV E ta t tk) := by
  refine ⟨fun pins s σ H Q I h => ?_⟩
  refine PySem.W.methodCall_KW (pl := pl) (thn (he.run pins s σ H _ I h) fun u s1 ⟨x, H1, I1, rx, a, dx, fs, ex, ea, l, q⟩ => ?_) ht
  subst ex
  obtain rfl : u = Value.ref a := rx
  refine getmeth_ok I1 ea c hm l ?_
  refine PySem.W.callWith_KW (first := [.ref a]) (h₀ := X.base) I.ok.mod.kin hm.kp hall (thn (ha.run pos pins s1 σ H1 _ I1 q) fun us s2 ⟨vs, H2, I2, r, q2⟩ => ?_) hpl hst
  refine thn (hkw.run pos pins s2 σ H2 _ I2 q2) fun ws s3 ⟨zs, H3, I3, rz, l1, l2, q3⟩ => ⟨I3.kIn, ?_⟩
  rw [hks]
  exact run_S (us := .ref a :: us) (vs := .ref a :: vs) F hr hb (hx σ) I3 (.cons rfl r) rz l1 l2 q3
/-- o.m() -/
theorem pe_ms0 {pl : Sem Bool} (he : PE X o ta) (c : Cls X.K C) (hm : Meth X.K C m f) (F : FnOk X.prog X.w X.K X.mg X.base CX k f fd ps sp) (hr : Room k X.A) (hb : KBn X.K fd ps n [] g gV) (hx : ∀ σ, PassesAt CX X σ (E σ))
    (ht : eval (.Call (.Attribute o m apos) [] [] pos) X.env = (do
      let ov ← eval o X.env
      standAt apos.atName
      let (f, first) ← holding [ov] (getMethod ov m pl)
      callWith pos f first (backTo pos (starEach [] X.env)) (backToKw pos (keywordEach [] X.env))) := by rfl) :
    PE X (.Call (.Attribute o m apos) [] [] pos) (tMs C m n 0 sp gV E ta tNil tNil) := by
  refine ⟨fun pins s σ H Q I h => ?_⟩
  refine PySem.W.methodCall_KW (pl := pl) (thn (he.run pins s σ H _ I h) fun u s1 ⟨x, H1, I1, rx, a, dx, fs, ex, ea, l, l1, l2, q⟩ => ?_) ht
  subst ex
  obtain rfl : u = Value.ref a := rx
  refine getmeth_ok I1 ea c hm l ?_
  exact PySem.W.callWith_K0 (first := [.ref a]) I1.kIn hm.kp (run_S (us := [.ref a]) (vs := [.ref a]) (ws := []) (zs := []) F hr hb (hx σ) I1 (.cons rfl .nil) .nil l1 rfl q)
/-- C(e, .., k = v, ..) -/
theorem pe_mk (M : Mk X.K C f) (F : FnOk X.prog X.w X.K X.mg X.base CX k f fd ps sp) (hr : Room (k + 1) X.A) (hm : X.mg x = some (.ref C)) (hb : KBn X.K fd ps n ks g gV) (hx : ∀ σ, PassesAt CX X σ (E σ))
    (ha : PA X (e :: es) t) (hkw : PK X kws tk) (hg : Gl X x := by rfl) (hall : (backToKw pos (keywordEach kws X.env)).all (·.1.isSome) = true := by rfl) (hks : (backToKw pos (keywordEach kws X.env)).filterMap (·.1) = ks := by rfl)
    (hdb : (x == ("__debug__" : Str)) = false := by decide) (he : starEach (e :: es) X.env = (false, eval e X.env) :: starEach es X.env := by rfl)
    (hpl : ((backTo pos (starEach (e :: es) X.env)).any (·.1) || (backToKw pos (keywordEach kws X.env)).any (·.1.isNone)) = false := by rfl) :
    PE X (.Call (.Name x p) (e :: es) kws pos) (tMk C n ks.length sp gV E t tk) := by
  refine ⟨fun pins s σ H Q I h => ?_⟩
  refine wpAny_Call_Name_kw (ld_glob I hg hm ?_ hdb)
  refine PySem.W.callWith_KW (h₀ := X.base) I.ok.mod.kin M.kp hall (thn (ha.run pos pins s σ H _ I h) fun us s1 ⟨vs, H1, I1, r, q⟩ => ?_) hpl he
  refine thn (hkw.run pos pins s1 σ H1 _ I1 q) fun ws s2 ⟨zs, H2, I2, rz, l1, l2, q2⟩ => ⟨I2.kIn, ?_⟩
  rw [hks]
  have hq := q2 (s2.heap.objs.size + 1) s2.heap.objs.size (I2.hok.fresh (Nat.le_succ _)) (I2.hok.fresh (Nat.le_refl _)) (Nat.ne_of_lt (Nat.lt_succ_self _))
  have I3 := Inv.made (C := C) I2
  have r1 : Vals (V.ref (s2.heap.objs.size + 1) :: vs) (Value.ref (s2.heap.objs.size + 1) :: us) := .cons rfl r
  have r2 := hb.rel r1 rz
  have e1 : (Value.ref (s2.heap.objs.size + 1) :: us).length = n := r1.length.symm.trans l1
  have e2 : ws.length = ks.length := rz.length.symm.trans l2
  refine wpAny_call (make_map (f := f) I2.kIn M.makes M.init (beq_iff_eq.mp M.fn) (codeAny_mono (F.run _ X.stack _ _ ⟨Value.ref (s2.heap.objs.size + 1) :: us, ks.zip ws⟩ (g (Value.ref (s2.heap.objs.size + 1) :: us) ws) _ _ (E σ) (hr.make C us (ks.zip ws))
    (I3.env0.make C us (ks.zip ws)) (hb.to _ (Value.ref (s2.heap.objs.size + 1) :: us) ws I3.kIn e1 e2) r2 hq) fun r s' hq' => ?_))
  cases r with
  | error e => exact hx σ pins _ _ e s' I3 hq'
  | ok fl =>
    cases fl with
    | ret u =>
      obtain ⟨v, H', I4, rv, ev, q3⟩ := I3.after hq'
      subst ev
      exact ⟨rv, ⟨V.ref (s2.heap.objs.size + 1), H', I4, rfl, q3⟩⟩
    | next => exact False.elim hq'
    | brk => exact False.elim hq'
    | cont => exact False.elim hq'
end
end RX
end
section
namespace RX
open PySem PySem.Spec PyProof.Rows L2
/-- what is known of the heap: L the objects that may change, each at its own address; M the tuples (they never change) -/
structure HS (K : PySem.W.Frag) (H : Hp) (L : List (Addr × HO)) (M : List (Addr × List V)) : Prop where
  all : ∀ q ∈ L, H q.1 = some q.2
  nd : (L.map (·.1)).Nodup
  mu : ∀ q ∈ L, Mut (some q.2)
  tup : ∀ q ∈ M, SqT K H q.1 q.2
section
variable {K : PySem.W.Frag} {H H' : Hp} {L L' : List (Addr × HO)} {M M' : List (Addr × List V)} {a p : Addr} {o o' : HO} {xs : List V}
theorem HS.get (h : HS K H L M) (m : (a, o) ∈ L) : H a = some o := h.all _ m
theorem HS.getT (h : HS K H L M) (m : (a, xs) ∈ M) : SqT K H a xs := h.tup _ m
theorem HS.not_mem (h : HS K H L M) (hp : H p = none) : p ∉ L.map (·.1) := fun m => by
  obtain ⟨q, hq, e⟩ := List.mem_map.mp m
  have := h.all q hq
  rw [e, hp] at this
  cases this
theorem sqT_fresh (hp : H p = none) (t : SqT K H a xs) : SqT K (upd H p o) a xs := by
  rcases t with (t | ⟨u, t⟩) | t
  · exact .inl (.inl (by rw [upd_ne (ne_of_none t hp)]; exact t))
  · exact .inl (.inr ⟨u, by rw [upd_ne (ne_of_none t hp)]; exact t⟩)
  · exact .inr t
theorem sqT_mut (ha : Mut (H p)) (t : SqT K H a xs) : SqT K (upd H p o) a xs := by
  have ne : ∀ u, H a = some u → ¬ Mut (some u) → a ≠ p := fun u e n z => by
    rw [← z, e] at ha
    exact n ha
  rcases t with (t | ⟨u, t⟩) | t
  · exact .inl (.inl (by rw [upd_ne (ne _ t fun z => z)]; exact t))
  · exact .inl (.inr ⟨u, by rw [upd_ne (ne _ t fun z => z)]; exact t⟩)
  · exact .inr t
/-- a new object that may change -/
theorem HS.allocL (h : HS K H L M) (hp : H p = none) (hm : Mut (some o) := by trivial) : HS K (upd H p o) ((p, o) :: L) M where
  all := fun q hq => by
    rcases List.mem_cons.mp hq with e | hq
    · rw [e]; exact upd_same
    · rw [upd_ne (ne_of_none (h.all q hq) hp)]; exact h.all q hq
  nd := by
    rw [List.map_cons]
    exact List.nodup_cons.mpr ⟨h.not_mem hp, h.nd⟩
  mu := fun q hq => by
    rcases List.mem_cons.mp hq with e | hq
    · rw [e]; exact hm
    · exact h.mu q hq
  tup := fun q hq => sqT_fresh hp (h.tup q hq)
/-- .. that is not told of -/
theorem HS.alloc0 (h : HS K H L M) (hp : H p = none) : HS K (upd H p o) L M where
  all := fun q hq => by rw [upd_ne (ne_of_none (h.all q hq) hp)]; exact h.all q hq
  nd := h.nd
  mu := h.mu
  tup := fun q hq => sqT_fresh hp (h.tup q hq)
/-- a new tuple -/
theorem HS.allocT (h : HS K H L M) (hp : H p = none) : HS K (upd H p (.tup xs)) L ((p, xs) :: M) where
  all := h.alloc0 hp |>.all
  nd := h.nd
  mu := h.mu
  tup := fun q hq => by
    rcases List.mem_cons.mp hq with e | hq
    · rw [e]; exact SqT.of upd_same
    · exact sqT_fresh hp (h.tup q hq)
/-- an object is changed: L' is L but for it -/
theorem HS.upd (h : HS K H L M) (hk : L'.map (·.1) = L.map (·.1)) (ha : (a, o') ∈ L') (hm : ∀ q ∈ L', q = (a, o') ∨ q ∈ L) (hmu : Mut (some o') := by trivial) : HS K (L2.upd H a o') L' M where
  all := fun q hq => by
    have nd : (L'.map (·.1)).Nodup := hk ▸ h.nd
    by_cases e : q.1 = a
    · have : q = (a, o') := by
        rcases hm q hq with z | z
        · exact z
        · have inj : ∀ (l : List (Addr × HO)), (l.map (·.1)).Nodup → ∀ x ∈ l, ∀ y ∈ l, x.1 = y.1 → x = y := by
            intro l
            induction l with
            | nil => intro _ x hx; cases hx
            | cons u r ih =>
              intro n x hx y hy e
              rw [List.map_cons, List.nodup_cons] at n
              rcases List.mem_cons.mp hx with ex | hx
              · rcases List.mem_cons.mp hy with ey | hy
                · rw [ex, ey]
                · have : y.1 ∈ r.map (·.1) := List.mem_map_of_mem (f := (·.1)) hy
                  rw [← e, ex] at this
                  exact absurd this n.1
              · rcases List.mem_cons.mp hy with ey | hy
                · have : x.1 ∈ r.map (·.1) := List.mem_map_of_mem (f := (·.1)) hx
                  rw [e, ey] at this
                  exact absurd this n.1
                · exact ih n.2 x hx y hy e
          exact inj L' nd q hq _ ha e
      rw [this]; exact upd_same
    · rcases hm q hq with z | z
      · rw [z] at e; exact absurd rfl e
      · rw [upd_ne e]; exact h.all q z
  nd := hk ▸ h.nd
  mu := fun q hq => by
    rcases hm q hq with z | z
    · rw [z]; exact hmu
    · exact h.mu q z
  tup := fun q hq => by
    have : a ∈ L.map (·.1) := hk ▸ List.mem_map_of_mem (f := (·.1)) ha
    obtain ⟨u, hu, e⟩ := List.mem_map.mp this
    refine sqT_mut ?_ (h.tup q hq)
    rw [← e, h.all u hu]
    exact h.mu u hu
theorem HS.wr0 {v : HO} (h : HS K H ((a, v) :: L) M) (hmu : Mut (some o') := by trivial) : HS K (L2.upd H a o') ((a, o') :: L) M :=
  h.upd (by simp) (by simp) (fun q hq => (List.mem_cons.mp hq).imp id (List.mem_cons_of_mem _)) hmu
theorem HS.wr1 {v : HO} {q0 : Addr × HO} (h : HS K H (q0 :: (a, v) :: L) M) (hmu : Mut (some o') := by trivial) : HS K (L2.upd H a o') (q0 :: (a, o') :: L) M :=
  h.upd (by simp) (by simp) (fun q hq => by simp only [List.mem_cons] at hq ⊢; rcases hq with h | h | h <;> simp [h]) hmu
theorem HS.wr2 {v : HO} {q0 q1 : Addr × HO} (h : HS K H (q0 :: q1 :: (a, v) :: L) M) (hmu : Mut (some o') := by trivial) : HS K (L2.upd H a o') (q0 :: q1 :: (a, o') :: L) M :=
  h.upd (by simp) (by simp) (fun q hq => by simp only [List.mem_cons] at hq ⊢; rcases hq with h | h | h | h <;> simp [h]) hmu
/-- less is known -/
theorem HS.sub (h : HS K H L M) (hl : L'.Sublist L) (hm : ∀ q ∈ M', q ∈ M) : HS K H L' M' :=
  ⟨fun q hq => h.all q (hl.subset hq), h.nd.sublist (hl.map _), fun q hq => h.mu q (hl.subset hq), fun q hq => h.tup q (hm q hq)⟩
theorem HS.perm (h : HS K H L M) (hl : L.Perm L') : HS K H L' M :=
  ⟨fun q hq => h.all q (hl.symm.subset hq), (hl.map _).nodup_iff.mp h.nd, fun q hq => h.mu q (hl.symm.subset hq), h.tup⟩
theorem HS.of (h : HS K H L M) (hl : L.Perm L') (hm : ∀ q ∈ M', q ∈ M) : HS K H L' M' := ((h.perm hl).sub (List.Sublist.refl _) hm)
end
end RX
open RX
-- tactics: membership, heaps, sides, the walk on
local macro_rules | `(tactic| walk_at "memt") => `(tactic| first
  | exact List.mem_cons_self ..
  | assumption
  | (refine List.mem_cons_of_mem _ ?_; walk_at "memt")
  | (refine List.mem_append_left _ ?_; walk_at "memt")
  | (refine List.mem_append_right _ ?_; walk_at "memt"))
end
section
set_option maxHeartbeats 4000000
namespace RX
open PySem PySem.Spec PyProof.Rows L2
/-! ### a, *b = a tuple; *a, b = a list -/
section
variable {prog : Program} {w : World} {A : Around} {E : Value → Shared → Prop} {s : Shared}
theorem star_tup {l : Addr} {items : Array Value} {n i : Nat} {Q : List Value → Shared → Prop} (hl : IsTup s.heap l items) (hh : A.handled = none) (hi : i < n) (hn : n ≤ items.size + 1) (hz : items.size ≤ sizeLine)
    (h : ∀ h₂ tk, (∀ b o, s.heap.get? b = some o → h₂.get? b = some o) → wpAny (model prog w) A (newList ((items.toList.drop i).take (items.size + 1 - n)) >>= fun d => pure (items.toList.take i ++ [d] ++ (items.toList.drop i).drop (items.size + 1 - n))) Q E { s with heap := h₂, toks := tk }) :
    wpAny (model prog w) A (unpackItems (.ref l) n (some i)) Q E s := by
  have hlt : l ≠ s.heap.objs.size := by obtain ⟨o, ho, _⟩ := hl; exact Nat.ne_of_lt (Heap.lt_size ho)
  unfold unpackItems
  refine wpAny_bind ?_
  unfold notIterableAtAll
  refine wpAny_bind (wpAny_specialOf hl.typeIs slot_tuple_iter.lookup ?_)
  refine wpAny_pure ?_
  simp only [Bool.false_eq_true, if_false]
  refine wpAny_bind (wpAny_holding (iter_tuple hl ?_))
  refine wpAny_bind (wpAny_holding (draw_tuple hlt i 0 _ _ ⟨_, Heap.get?_push_size _ rfl, rfl, rfl⟩ (hl.push _) (by omega) fun h₁ hit₁ hs₁ => ?_))
  have hl₁ : IsTup h₁ l items := (hl.push _).extBut hs₁.extBut hlt
  rw [Nat.zero_add] at hit₁
  have hit₁' := hit₁
  obtain ⟨oi, hoi, _⟩ := hit₁'
  have hl₁' := hl₁
  obtain ⟨ol, hol, _⟩ := hl₁'
  rw [List.drop_zero]
  have hfl : (items.toList.take i).length = i := by rw [List.length_take, Array.length_toList]; omega
  rw [if_neg (show ¬ ((items.toList.take i).length < i) by rw [hfl]; omega)]
  refine wpAny_bind (wpAny_holding (PySem.W.kun_collect (s := { s with heap := h₁ }) (T := "tuple_iterator") (.inr (.inr (.inr rfl))) (Walks.tuple (A := A.in1) hh s.heap.objs.size l hlt items) (fun j u st => st.1.typeIs) (k := i) (by omega) ⟨hit₁, hl₁⟩ (Heap.lt_size hoi) (Heap.lt_size hol) (fun h₂ tk hk => ?_) hz))
  have hrl : (items.toList.drop i).length = items.size - i := by rw [List.length_drop, Array.length_toList]
  have hmid : (items.toList.drop i).length - (n - 1 - i) = items.size + 1 - n := by rw [hrl]; omega
  show wpAny _ _ (if (items.toList.drop i).length < n - 1 - i then _ else _) _ _ _
  rw [if_neg (by rw [hrl]; omega)]
  show wpAny _ _ (newList ((items.toList.drop i).take ((items.toList.drop i).length - (n - 1 - i))) >>= fun d => pure (items.toList.take i ++ [d] ++ (items.toList.drop i).drop ((items.toList.drop i).length - (n - 1 - i)))) _ _ _
  rw [hmid]
  exact h h₂ tk fun b o e => hk b o (Nat.ne_of_lt (Heap.lt_size e)) (hs₁.extBut b o (Nat.ne_of_lt (Heap.lt_size e)) (Heap.get?_push_of_some _ e))
theorem star_lst {l : Addr} {items : Array Value} {n i : Nat} {Q : List Value → Shared → Prop} (hl : s.heap.IsList l items) (hh : A.handled = none) (hi : i < n) (hn : n ≤ items.size + 1) (hz : items.size ≤ sizeLine)
    (h : ∀ h₂ tk, (∀ b o, s.heap.get? b = some o → h₂.get? b = some o) → wpAny (model prog w) A (newList ((items.toList.drop i).take (items.size + 1 - n)) >>= fun d => pure (items.toList.take i ++ [d] ++ (items.toList.drop i).drop (items.size + 1 - n))) Q E { s with heap := h₂, toks := tk }) :
    wpAny (model prog w) A (unpackItems (.ref l) n (some i)) Q E s := by
  have hlt : l ≠ s.heap.objs.size := by obtain ⟨o, ho, _⟩ := hl; exact Nat.ne_of_lt (Heap.lt_size ho)
  unfold unpackItems
  refine wpAny_bind ?_
  unfold notIterableAtAll
  refine wpAny_bind (wpAny_specialOf hl.typeIs slot_list_iter.lookup ?_)
  refine wpAny_pure ?_
  simp only [Bool.false_eq_true, if_false]
  refine wpAny_bind (wpAny_holding (wpAny_pyIter_list hl ?_))
  refine wpAny_bind (wpAny_holding (PySem.W.kun_draw hlt i 0 _ _ ⟨_, Heap.get?_push_size _ rfl, rfl, rfl⟩ (hl.push _) (by omega) fun h₁ hit₁ hs₁ => ?_))
  have hl₁ : h₁.IsList l items := (hl.push _).extBut hs₁.extBut hlt
  rw [Nat.zero_add] at hit₁
  have hit₁' := hit₁
  obtain ⟨oi, hoi, _⟩ := hit₁'
  have hl₁' := hl₁
  obtain ⟨ol, hol, _⟩ := hl₁'
  rw [List.drop_zero]
  have hfl : (items.toList.take i).length = i := by rw [List.length_take, Array.length_toList]; omega
  rw [if_neg (show ¬ ((items.toList.take i).length < i) by rw [hfl]; omega)]
  refine wpAny_bind (wpAny_holding (PySem.W.kun_collect (s := { s with heap := h₁ }) (T := "list_iterator") (.inr (.inr (.inl rfl))) (Walks.list (A := A.in1) hh s.heap.objs.size l hlt items) (fun j u st => st.1.typeIs) (k := i) (by omega) ⟨hit₁, hl₁⟩ (Heap.lt_size hoi) (Heap.lt_size hol) (fun h₂ tk hk => ?_) hz))
  have hrl : (items.toList.drop i).length = items.size - i := by rw [List.length_drop, Array.length_toList]
  have hmid : (items.toList.drop i).length - (n - 1 - i) = items.size + 1 - n := by rw [hrl]; omega
  show wpAny _ _ (if (items.toList.drop i).length < n - 1 - i then _ else _) _ _ _
  rw [if_neg (by rw [hrl]; omega)]
  show wpAny _ _ (newList ((items.toList.drop i).take ((items.toList.drop i).length - (n - 1 - i))) >>= fun d => pure (items.toList.take i ++ [d] ++ (items.toList.drop i).drop ((items.toList.drop i).length - (n - 1 - i)))) _ _ _
  rw [hmid]
  exact h h₂ tk fun b o e => hk b o (Nat.ne_of_lt (Heap.lt_size e)) (hs₁.extBut b o (Nat.ne_of_lt (Heap.lt_size e)) (Heap.get?_push_of_some _ e))
end
def gStarR (K : PySem.W.Frag) (t : TGs) : TG := fun v σ H Q => ∃ a y ys, v = .ref a ∧ SqT K H a (y :: ys) ∧ ∀ p, H p = none → t [y, .ref p] σ (upd H p (.lst ys)) Q
def gStarL (K : PySem.W.Frag) (t : TGs) : TG := fun v σ H Q => ∃ a ys y, v = .ref a ∧ SqL K H a (ys ++ [y]) ∧ ∀ p, H p = none → t [.ref p, y] σ (upd H p (.lst ys)) Q
section
variable {X : Cx} {e1 e2 : Expr} {k : Nat} {sp pos : Pos} {t : TGs}
theorem pg_starR (hc : X.calm = true) (h : PGs X [e1, e2] t) (hn : (assignEach [e1, .Starred e2 sp] X.env).map (·.2) = (assignEach [e1, e2] X.env).map (·.2) := by rfl) (hst : (assignEach [e1, .Starred e2 sp] X.env).findIdx? (·.1) = some 1 := by rfl) (hl2 : (assignEach [e1, .Starred e2 sp] X.env).length = 2 := by rfl) :
    PG X (.Tuple [e1, .Starred e2 sp] k pos) (gStarR X.K t) := by
  refine ⟨fun pins s σ H v u Q I r hw => ?_⟩
  obtain ⟨a, y, ys, e0, hq, hw⟩ := hw
  subst e0
  cases r
  obtain ⟨its, rv, ht, hz⟩ := I.tuple hq
  cases rv with
  | @cons _ u1 _ us r1 rs =>
    rw [assign_Tuple]
    refine wpAny_bind (wpAny_standAt ?_)
    unfold unpack
    rw [hl2, hst, hn]
    have hlen : us.length = ys.length := rs.length.symm
    have hz' : ys.length + 1 ≤ sizeLine := hz
    refine wpAny_bind (wpAny_holding (star_tup ht (I.ok.hd hc) (by omega) (by simp) (by simp [hlen]; exact hz') fun h₂ tk kk => ?_))
    have e1' : (((u1 :: us).toArray.toList.drop 1).take ((u1 :: us).toArray.size + 1 - 2)) = us := by simp
    have e2' : ((u1 :: us).toArray.toList.take 1) = [u1] := by simp
    have e3' : (((u1 :: us).toArray.toList.drop 1).drop ((u1 :: us).toArray.size + 1 - 2)) = [] := by simp
    rw [e1', e2', e3']
    have I1 : Inv X pins σ H { s with heap := h₂, toks := tk } := I.kept (t' := tk) kk
    refine wpAny_bind (wpAny_newObj_type (wpAny_pure ?_) (by show us.length ≤ sizeLine; omega))
    have hf : H h₂.objs.size = none := I1.hok.fresh (Nat.le_refl _)
    refine h.run pins _ σ _ [y, .ref h₂.objs.size] _ Q (I1.laid (t' := tk) (o := .lst ys) (fun b u e => Heap.get?_push_of_some _ e) (Nat.le_refl _) ⟨by omega, us, 0, rs, Heap.get?_push_size _ rfl⟩) (.cons r1 (.cons rfl .nil)) (hw _ hf)
theorem pg_starL (hc : X.calm = true) (h : PGs X [e1, e2] t) (hn : (assignEach [.Starred e1 sp, e2] X.env).map (·.2) = (assignEach [e1, e2] X.env).map (·.2) := by rfl) (hst : (assignEach [.Starred e1 sp, e2] X.env).findIdx? (·.1) = some 0 := by rfl) (hl2 : (assignEach [.Starred e1 sp, e2] X.env).length = 2 := by rfl) :
    PG X (.Tuple [.Starred e1 sp, e2] k pos) (gStarL X.K t) := by
  refine ⟨fun pins s σ H v u Q I r hw => ?_⟩
  obtain ⟨a, ys, y, e0, hq, hw⟩ := hw
  subst e0
  cases r
  obtain ⟨its, rv, ht, hz⟩ := I.list hq
  have hlist : s.heap.IsList a its.toArray := ht.isList
  obtain ⟨us, ur, rfl, rs, r1⟩ : ∃ us ur, its = us ++ [ur] ∧ Vals ys us ∧ RelV y ur := by
    have hl := rv.length
    refine ⟨its.take ys.length, its.getD ys.length .none, ?_, ?_, ?_⟩
    · have : its.length = ys.length + 1 := by rw [← hl]; simp
      apply List.ext_getElem?
      intro j
      rw [List.getElem?_append, List.getElem?_take]
      by_cases hj : j < ys.length
      · simp [hj, this]
      · by_cases hj2 : j = ys.length
        · subst hj2; simp [this]
        · rw [List.getElem?_eq_none (by omega)]
          have h1 : ¬ j < (its.take ys.length).length := by simp; omega
          rw [if_neg h1, List.getElem?_eq_none (by simp; omega)]
    · have z := rv.take ys.length
      simpa using z
    · obtain ⟨u, h1, h2⟩ := rv.get (i := ys.length) (x := y) (by simp)
      simpa [List.getD, h1] using h2
  rw [assign_Tuple]
  refine wpAny_bind (wpAny_standAt ?_)
  unfold unpack
  rw [hl2, hst, hn]
  have hlen : us.length = ys.length := rs.length.symm
  have hz' : ys.length + 1 ≤ sizeLine := by simpa using hz
  refine wpAny_bind (wpAny_holding (star_lst hlist (I.ok.hd hc) (by omega) (by simp) (by simp [hlen]; exact hz') fun h₂ tk kk => ?_))
  have e1' : (((us ++ [ur]).toArray.toList.drop 0).take ((us ++ [ur]).toArray.size + 1 - 2)) = us := by simp
  have e2' : ((us ++ [ur]).toArray.toList.take 0) = [] := by simp
  have e3' : (((us ++ [ur]).toArray.toList.drop 0).drop ((us ++ [ur]).toArray.size + 1 - 2)) = [ur] := by simp
  rw [e1', e2', e3']
  have I1 : Inv X pins σ H { s with heap := h₂, toks := tk } := I.kept (t' := tk) kk
  refine wpAny_bind (wpAny_newObj_type (wpAny_pure ?_) (by show us.length ≤ sizeLine; omega))
  have hf : H h₂.objs.size = none := I1.hok.fresh (Nat.le_refl _)
  refine h.run pins _ σ _ [.ref h₂.objs.size, y] _ Q (I1.laid (t' := tk) (o := .lst ys) (fun b u e => Heap.get?_push_of_some _ e) (Nat.le_refl _) ⟨by omega, us, 0, rs, Heap.get?_push_size _ rfl⟩) (.cons rfl (.cons r1 .nil)) (hw _ hf)
end
end RX
end
section
set_option maxHeartbeats 4000000
namespace RX
open PySem PySem.Spec PyProof.Rows L2
/-! ### dict.get where the key may be None -/
/-- a value that is None or a key -/
def nkV : Option Key → V
  | none => .non
  | some k => kV k
theorem nk_is {prog : Program} {w : World} {k : Option Key} {u : Value} (r : RelV (nkV k) u) : (noneKind prog w).is k u = true := by
  cases k with
  | none =>
    obtain rfl : u = Value.none := r
    rfl
  | some k => exact kV_is (P := prog) (w := w) (k := k) r
theorem nk_map {P : Program} {w : World} {h : Heap} {a : Addr} {vs : List (Key × Value)} (d : h.DictOf (mixKind P w) a vs) : ∃ f, h.MapOf (noneKind P w) a f ∧ f none = none ∧ ∀ k, f (some k) = (vs.find? fun kv => decide (kv.1 = k)).map (·.2) := by
  have dm := d.mapOf
  obtain ⟨f, hm, hf⟩ := none_map d
  refine ⟨f, hm, hf, fun k => ?_⟩
  obtain ⟨o, es, ep, ho, hx, hdt, hk, he⟩ := hm
  obtain ⟨o2, es2, ep2, ho2, hx2, hdt2, hk2, he2⟩ := dm
  rw [ho] at ho2
  cases ho2
  rw [hdt] at hdt2
  cases hdt2
  exact (he (some k)).symm.trans (he2 k)
section
variable {X : Cx} {pins : List (Addr × Obj)} {σ : L2.St} {H : Hp} {s : Shared} {a : Addr} {kvs : List (Key × V)} {d : V} {u r : Value} {k : Option Key} {A : Around} {E : Value → Shared → Prop}
theorem d_getN1 {Q : Value → Shared → Prop} (I : Inv X pins σ H s) (e : Rd H a (.dK kvs)) (ry : RelV (nkV k) u) (h : ∀ w' s', Inv X pins σ H s' → RelV ((k.bind (valV kvs)).getD .non) w' → Q w' s') :
    wpAny (model X.prog X.w) A (call (.builtin "dict.get") [.ref a, u]) Q E s := by
  obtain ⟨z, hd, vs, rel, dd⟩ := dk_rd I.hok e
  obtain ⟨f, hm, f0, fk⟩ := nk_map dd
  refine call_meetsIn PySem.F.slot_dict_get dd.typeIs PySem.F.entry_dict_get (PySem.F.args_dict_get_2 _ _) (meets_dict_get (noneKind X.prog X.w) a (nk_is ry) hd) ⟨_, hm, h _ _ (I.tok _) ?_⟩
  cases k with
  | none => rw [f0]; exact rfl
  | some k => rw [fk]; exact (rel.val k).getD rfl
theorem d_getN2 {Q : Value → Shared → Prop} (I : Inv X pins σ H s) (e : Rd H a (.dK kvs)) (ry : RelV (nkV k) u) (rd : RelV d r) (h : ∀ w' s', Inv X pins σ H s' → RelV ((k.bind (valV kvs)).getD d) w' → Q w' s') :
    wpAny (model X.prog X.w) A (call (.builtin "dict.get") [.ref a, u, r]) Q E s := by
  obtain ⟨z, hd, vs, rel, dd⟩ := dk_rd I.hok e
  obtain ⟨f, hm, f0, fk⟩ := nk_map dd
  refine call_meetsIn PySem.F.slot_dict_get dd.typeIs PySem.F.entry_dict_get (PySem.F.args_dict_get_3 _ _ _) (meets_dict_get_default (noneKind X.prog X.w) a (nk_is ry) hd r) ⟨_, hm, h _ _ (I.tok _) ?_⟩
  cases k with
  | none => rw [f0]; exact rd
  | some k => rw [fk]; exact (rel.val k).getD rd
end
def tDGetN1 (td ty : TE) : TE := fun σ H Q => td σ H fun x H1 => ∃ a, x = .ref a ∧ IsD H1 a ∧ ty σ H1 fun y H2 => ∃ kvs k, Rd H2 a (.dK kvs) ∧ y = nkV k ∧ Q ((k.bind (valV kvs)).getD .non) H2
def tDGetN2 (td ty tx : TE) : TE := fun σ H Q => td σ H fun x H1 => ∃ a, x = .ref a ∧ IsD H1 a ∧ ty σ H1 fun y H2 => tx σ H2 fun z H3 => ∃ kvs k, Rd H3 a (.dK kvs) ∧ y = nkV k ∧ Q ((k.bind (valV kvs)).getD z) H3
section
variable {X : Cx} {o e f : Expr} {apos cpos : Pos} {td ty tx : TE}
theorem pe_dgetN1 (ho : PE X o td) (he : PE X e ty) (m : M1 X o "get" apos e cpos) : PE X (.Call (.Attribute o "get" apos) [e] [] cpos) (tDGetN1 td ty) := by
  refine ⟨fun pins s σ H Q I h => ?_⟩
  refine wpAny_Call_method m.base m.few m.line PySem.F.plainAttrs_dict PySem.F.slot_dict_get PySem.F.type_dict_get (thn (ho.run pins s σ H _ I h) fun u s1 ⟨x, H1, I1, rx, a, ex, d, q1⟩ => ?_)
  subst ex
  obtain rfl : u = Value.ref a := rx
  obtain ⟨t1, t2, _⟩ := isD_at I1 d
  refine ⟨t1, t2, ?_⟩
  rw [m.trees]
  refine Calls.callWith_builtin rfl (Calls.evalArgs_plain (Calls.spliced_cons (thn (he.run pins s1 σ H1 _ I1 q1) fun iv s2 ⟨y, H2, I2, ry, kvs, k, g, ey, q2⟩ => Calls.spliced_nil ?_)))
  subst ey
  exact d_getN1 I2 g ry fun w' s3 I3 rw' => ⟨_, H2, I3, rw', q2⟩
theorem pe_dgetN2 (ho : PE X o td) (he : PE X e ty) (hf : PE X f tx) (m : M2 X o "get" apos e f cpos) : PE X (.Call (.Attribute o "get" apos) [e, f] [] cpos) (tDGetN2 td ty tx) := by
  refine ⟨fun pins s σ H Q I h => ?_⟩
  refine wpAny_Call_method m.base m.few m.line PySem.F.plainAttrs_dict PySem.F.slot_dict_get PySem.F.type_dict_get (thn (ho.run pins s σ H _ I h) fun u s1 ⟨x, H1, I1, rx, a, ex, d, q1⟩ => ?_)
  subst ex
  obtain rfl : u = Value.ref a := rx
  obtain ⟨t1, t2, _⟩ := isD_at I1 d
  refine ⟨t1, t2, ?_⟩
  rw [m.trees]
  refine Calls.callWith_builtin rfl (Calls.evalArgs_plain (Calls.spliced_cons (thn (he.run pins s1 σ H1 _ I1 q1) fun iv s2 ⟨y, H2, I2, ry, q2⟩ =>
    Calls.spliced_cons (thn (hf.run pins s2 σ H2 _ I2 q2) fun fv s3 ⟨z, H3, I3, rz, kvs, k, g, ey, q3⟩ => Calls.spliced_nil ?_))))
  subst ey
  exact d_getN2 I3 g ry rz fun w' s4 I4 rw' => ⟨_, H3, I4, rw', q3⟩
end
/-! ### d == {} -/
section
variable {X : Cx}
def rEqD0 : R2 := fun x y H Q => ∃ a b ks, x = .ref a ∧ y = .ref b ∧ H a = some (.dK ks) ∧ H b = some (.dK []) ∧ Q (.bl ks.isEmpty) H
theorem op_eq_dict0 (hu : X.A.units < cLine) : OpR X (compareOp .Eq) rEqD0 := by
  intro pins s σ H x y v u Q I rx ry h
  obtain ⟨a, b, ks, rfl, rfl, ea, eb, q⟩ := h
  obtain rfl : v = Value.ref a := rx
  obtain rfl : u = Value.ref b := ry
  obtain ⟨_, ya, va, ra, da⟩ := (show ObjOk X.prog X.w H s.heap a (.dK ks) from I.hok a _ ea)
  obtain ⟨_, yb, vb, rb, db⟩ := (show ObjOk X.prog X.w H s.heap b (.dK []) from I.hok b _ eb)
  have hl : ks.length = va.length := ra.length
  have hb : vb = [] := by cases rb; rfl
  subst hb
  refine PySem.W.keq_eq (knd := mixKind X.prog X.w) (r := true) ya yb da db hu (fun z => ?_) (fin_bl I q ?_)
  · have : va = [] := List.eq_nil_of_length_eq_zero z
    subst this
    exact .nil
  · cases ks with
    | nil => have : va = [] := List.eq_nil_of_length_eq_zero hl.symm
             subst this; rfl
    | cons p t => cases va with
      | nil => cases hl
      | cons p' t' => rfl
end
end RX
end
section
set_option maxHeartbeats 4000000
namespace RX
open PySem PySem.Spec PyProof.Rows L2
/-! ### enumerate(tuple) -/
def IteT (K : PySem.W.Frag) (a : Addr) : It :=
  ⟨fun i H => ∃ (xs : List V) (x : V), SqT K H a xs ∧ xs[i]? = some x, fun i H v H' => ∃ T x, v = .ref T ∧ H T = none ∧ H' = upd H T (.tup [.int (i : Nat), x]) ∧ ∀ xs, SqT K H a xs → xs[i]? = some x, fun i H => ∃ xs : List V, SqT K H a xs ∧ xs.length = i⟩
theorem turn_enumT {P : Program} {w : World} {K : PySem.W.Frag} {elts : List Expr} {kk : Nat} {tpos : Pos} (a e it : Addr) :
    Turn P w K (.Tuple elts kk tpos) (IteT K a) [e, it] e (fun i h => (∃ old, IsEnum h e it ((i : Nat) : Int) old) ∧ h.IsTupleIter it a i ∧ e ≠ it) where
  mem := by simp
  obj := fun i h st b hb => by
    obtain ⟨⟨old, he⟩, ⟨o, ho, hc, hd⟩, _⟩ := st
    have e' : b = e ∨ b = it := by simpa using hb
    rcases e' with z | z
    · rw [z]; exact ⟨_, he, fun v q => nomatch q⟩
    · rw [z]; exact ⟨o, ho, fun v q => by rw [hd] at q; cases q⟩
  keep := fun i h h' st k => let ⟨⟨old, he⟩, hi, hne⟩ := st; ⟨⟨old, k e (by simp) _ he⟩, hi.at fun o q => k it (by simp) o q, hne⟩
  item := by
    intro X hP hw hK hc i pins s σ H E I hf st hg
    subst hP hw hK
    obtain ⟨⟨old, he⟩, hit, hne⟩ := st
    obtain ⟨xs, x, hq, hx⟩ := hg
    obtain ⟨its, rv, p, hz⟩ := I.tuple hq
    obtain ⟨u, hu, ru⟩ := rv.get hx
    have hel : e < s.heap.objs.size := Heap.lt_size he
    have hil : it < s.heap.objs.size := by obtain ⟨_, q, _⟩ := hit; exact Heap.lt_size q
    have hai : a ≠ it := by
      obtain ⟨o1, h1, c1, _⟩ := hit
      obtain ⟨o2, h2, c2, _⟩ := id p
      intro z
      rw [z, h1] at h2
      cases h2
      rw [c1] at c2
      exact absurd c2 (by decide)
    have hea : e ≠ a := by
      obtain ⟨o2, h2, c2, _⟩ := id p
      intro z
      have he' : s.heap.get? e = _ := he
      rw [z, h2] at he'
      cases he'
      exact absurd (show Value.type "enumerate" = Value.type "tuple" from c2) (by decide)
    refine wpAny_pyNext_enum_itemD (Draws.tuple (A := X.A.in1) (I.ok.hd hc) it a hai its.toArray) he ⟨hit, p⟩ (by
      have := (List.getElem?_eq_some_iff.mp hu).1
      simpa using this) hne (by simp [hne, hea]) fun x' h' tk hx' ho hst' hT hsz hk => ?_
    have ex : x' = u := by
      have : its.toArray[i]? = some u := by simpa using hu
      rw [this] at hx'
      exact (Option.some.inj hx').symm
    subst ex
    refine ⟨_, rfl, wpAny_letOwnedTupleGo_enum (s := { s with heap := h', toks := tk + 1 }) ho fun h'' he' sb => ?_⟩
    have hT2 : h''.get? s.heap.objs.size = some { cls := .type "tuple", data := .seq #[.int i tk, x'] } := (sb.2 _ (Nat.ne_of_gt hel)).trans hT
    have new : ObjOk X.prog X.w (upd H s.heap.objs.size (.tup [.int (i : Nat), x])) h'' s.heap.objs.size (.tup [.int (i : Nat), x]) :=
      ⟨by show 2 ≤ sizeLine; decide, [.int i tk, x'], .cons ⟨_, rfl⟩ (.cons ru .nil), ⟨_, hT2, rfl, _, rfl⟩⟩
    have I1 : Inv X pins σ (upd H s.heap.objs.size (.tup [.int (i : Nat), x])) { s with heap := h'', toks := tk + 1 } :=
      I.turnedNew (t' := tk + 1) (ch := [e, it]) (fun b ob hb q => (sb.2 b (fun z => hb (by simp [z]))).trans (hk b ob (fun z => hb (by simp [z])) (fun z => hb (by simp [z])) q)) hf (Nat.le_refl _) new
    refine ⟨.ref s.heap.objs.size, _, I1, rfl, ⟨_, x, rfl, I.hok.fresh (Nat.le_refl _), rfl, fun ys hy => ?_⟩, ⟨⟨x', ?_⟩, hst'.1.at fun o q => (sb.2 it (Ne.symm hne)).trans q, hne⟩, fun b hb => ?_⟩
    · rw [I.tuple_inj hy hq]; exact hx
    · have e1 : ((i + 1 : Nat) : Int) = (i : Int) + 1 := by omega
      rw [e1]; exact he'
    · have hb' : b < s.heap.objs.size := by
        have e' : b = e ∨ b = it := by simpa using hb
        rcases e' with z | z
        · rw [z]; exact hel
        · rw [z]; exact hil
      rw [upd_ne (Nat.ne_of_lt hb')]
      exact (hf b hb).1
  done := by
    intro X hP hw hK hc i pins s σ H E I hf st hg
    subst hP hw hK
    obtain ⟨⟨old, he⟩, hit, hne⟩ := st
    obtain ⟨xs, hq, hx⟩ := hg
    obtain ⟨its, rv, p, hz⟩ := I.tuple hq
    obtain ⟨f0, f1, f2, f3, f4, f5⟩ := hf it (by simp)
    have hl : i = its.toArray.size := by rw [← hx, rv.length]; simp
    have hai : a ≠ it := by
      obtain ⟨o1, h1, c1, _⟩ := hit
      obtain ⟨o2, h2, c2, _⟩ := id p
      intro z
      rw [z, h1] at h2
      cases h2
      rw [c1] at c2
      exact absurd c2 (by decide)
    subst hl
    exact wpAny_pyNext_enum_endD (Draws.tuple (A := X.A.in1) (I.ok.hd hc) it a hai its.toArray) he ⟨hit, p⟩ fun h' eb => ⟨rfl, I.turned (t' := s.toks) (fun b o hb q => eb b o hb q) f0 f1 f3 f4 f5⟩
  self := fun A i s Q E st h => let ⟨⟨_, he⟩, _⟩ := st; wpAny_pyIter_enum he h
theorem meets_enumerate_newT (l : Addr) (items : Array Value) (n : Nat) (dct : Option Addr) (sl : Array (Option Value)) :
    Meets (Builtin.«enumerate.__new__» ⟨[.type "enumerate", .ref l], []⟩) (fun _ R s => s.heap.get? l = some { cls := .type "tuple", dict := dct, data := .seq items n, slots := sl } ∧ s.heap.IsTuple l items ∧
      R (.ok (.ret (.ref (s.heap.push { cls := .type "tuple_iterator", data := .fields #[.ref l, .int 0 0] }).objs.size)))
        { s with heap := (s.heap.push { cls := .type "tuple_iterator", data := .fields #[.ref l, .int 0 0] }).push { cls := .type "enumerate", data := .fields #[.none, .bool false, .ref s.heap.objs.size, rawInt 0, .none, .none] } }) :=
  .of_wp fun prog w A R s h => by
    obtain ⟨hp, g, d, tk, os⟩ := s; obtain ⟨hl, hL, h⟩ := h
    have hsub := sub_enumerate
    wp_walk using AutoSeq1.wpAny_loadPart' hl
    refine wpAny_stack_any fun st => wpAny_pure ?_
    split
    · rename_i c _ _ _ _ _
      cases (c == Value.type "enumerate")
      · wp_walk using AutoSeq1.wpAny_loadPart' hl, wpAny_pyIter_tuple hL
        exact ⟨_, rfl, h⟩
      · wp_walk using AutoSeq1.wpAny_loadPart' hl, wpAny_pyIter_tuple hL
        exact ⟨_, rfl, h⟩
    · wp_walk using AutoSeq1.wpAny_loadPart' hl, wpAny_pyIter_tuple hL
      exact ⟨_, rfl, h⟩
theorem call_enumerate_tup {prog : Program} {w : World} {A : Around} {E : Value → Shared → Prop} {s : Shared} {l : Addr} {items : Array Value} {Q : Value → Shared → Prop} (hL : s.heap.IsTuple l items)
    (h : ∀ h', IsEnum h' (s.heap.objs.size + 1) s.heap.objs.size 0 .none → h'.IsTupleIter s.heap.objs.size l 0 → h'.objs.size = s.heap.objs.size + 2 →
      (∀ b o, s.heap.get? b = some o → h'.get? b = some o) → Q (.ref (s.heap.objs.size + 1)) { s with heap := h' }) :
    wpAny (model prog w) A (call (.type "enumerate") [.ref l]) Q E s := by
  have hL0 := hL
  obtain ⟨⟨c, dct, dt, sl⟩, hl, hc, n, rfl⟩ := hL
  replace hc : c = .type "tuple" := hc
  subst hc
  refine callType_new F.called_enumerate (by decide) (F.typeCall_enumerate_1 _) (F.newCall_enumerate_1 _) (fun obj => F.args_object_init_2 obj _) F.entry_enumerate_new
    (meets_enumerate_newT l items n dct sl) ⟨hl, hL0, ?_⟩
  have hz : (s.heap.push { cls := .type "tuple_iterator", data := .fields #[.ref l, .int 0 0] }).objs.size = s.heap.objs.size + 1 := Heap.size_push ..
  show _ ∧ _
  rw [hz]
  have he : IsEnum ((s.heap.push { cls := .type "tuple_iterator", data := .fields #[.ref l, .int 0 0] }).push
      { cls := .type "enumerate", data := .fields #[.none, .bool false, .ref s.heap.objs.size, rawInt 0, .none, .none] }) (s.heap.objs.size + 1) s.heap.objs.size 0 .none := by
    have := Heap.get?_push_size (s.heap.push { cls := .type "tuple_iterator", data := .fields #[.ref l, .int 0 0] })
      (o := { cls := .type "enumerate", data := .fields #[.none, .bool false, .ref s.heap.objs.size, rawInt 0, .none, .none] }) rfl
    rw [hz] at this; exact this
  refine ⟨⟨_, he, rfl⟩, h _ he ⟨_, Heap.get?_push_of_some _ (Heap.get?_push_size _ rfl), rfl, rfl⟩ (by rw [Heap.size_push, hz]) fun b o x => Heap.get?_push_of_some _ (Heap.get?_push_of_some _ x)⟩
def iEnumT (K : PySem.W.Frag) (ta : TA) : TI := fun σ H R => ta σ H fun vs H1 => ∃ a xs, vs = [.ref a] ∧ SqT K H1 a xs ∧ R (IteT K a) H1
theorem pi_enumT {X : Cx} {e : Expr} {ta : TA} {p pos tpos : Pos} {elts : List Expr} {kk : Nat} (hg : Gl X "enumerate") (hm : X.mg "enumerate" = none) (ha : PA X [e] ta) (hs : starEach [e] X.env = [(false, eval e X.env)] := by rfl) :
    PI X (.Tuple elts kk tpos) (.Call (.Name "enumerate" p) [e] [] pos) (iEnumT X.K ta) := by
  refine ⟨fun pins s σ H R I h => ?_⟩
  refine Call_ (ld_blt I hg hm boot_enumerate (PyProof.Rows.callWith_type1 (thn (ha.run pos pins s σ H _ I h) fun us s1 ⟨vs, H1, I1, r1, q1⟩ => ?_) hs rfl))
  obtain ⟨a, xs, ex, hq, q⟩ := q1
  subst ex
  cases r1 with
  | cons r rr =>
    cases rr
    cases r
    obtain ⟨its, rv, p', hz⟩ := I1.tuple hq
    refine call_enumerate_tup p' fun h' he hit hsz hk => wpAny_pyIter_enum he ?_
    have I2 : Inv X pins σ H1 { s1 with heap := h' } := I1.kept (t' := s1.toks) hk
    refine ⟨s1.heap.objs.size + 1, [s1.heap.objs.size + 1, s1.heap.objs.size], _, _, H1, rfl, I2, turn_enumT a (s1.heap.objs.size + 1) s1.heap.objs.size, ⟨⟨.none, he⟩, hit, Nat.succ_ne_self _⟩, fun b hb => ?_, q⟩
    have e' : b = s1.heap.objs.size + 1 ∨ b = s1.heap.objs.size := by simpa using hb
    have hle : s1.heap.objs.size ≤ b := by
      rcases e' with z | z
      · rw [z]; exact Nat.le_add_right _ _
      · rw [z]; exact Nat.le_refl _
    exact I1.fpOk hle (I1.hok.fresh hle)
end RX
end
section
set_option maxHeartbeats 4000000
namespace RX
open PySem PySem.Spec PyProof.Rows L2
section
variable {X : Cx}
theorem sw_trueD {kx vx : Expr} {gs : List Comprehension} {scope : Scope} {pos py : Pos} {y : Str} {l : Nat} {env : Env} (hk : env.scope.kind = .function) (hy : env.scope.names.lookup y = some .local) (hl : (py.line == pos.line) = true)
    (ha : (scope.names.any fun (n, k) => n == y && (k == .local || k == .cell)) = false) : swapsWith (.DictComp kx vx gs scope pos) (some (.Name y py)) l env = pure true := by
  have ky : env.kindOf y = some .local := hy
  have hb : env.blockKind = .function := by unfold Env.blockKind; rw [hk]; rfl
  unfold swapsWith
  simp only [hb, ky, ha, Expr.pos, hl]
  rfl
/-- name = {k: v for ..} on one line, the name a local -/
theorem ps_setDc {i : Nat} {y : Str} {py : Pos} {kx vx tg iter : Expr} {ifs : List Expr} {scope : Scope} {own : List (Str × Nat)} {pos spos : Pos} {wi : TI} {g : TG} {tt : TT} {tk tv : TE} (hc : X.calm = true) (hN : X.N.Nodup) (hy : X.N[i]? = some y) (hyl : X.env.scope.names.lookup y = some .local)
    (hsw : swapsWith (.DictComp kx vx [⟨tg, iter, ifs, 0⟩] scope pos) (some (.Name y py)) spos.line X.env = pure true) (hi : PI X tg iter wi) (ok : BlkOk X.N X.env.scope scope own)
    (hg : ∀ (s : Shared) (H : Hp) (C : Addr) (cl : List (Str × Addr)) (fp : List Addr), PG (X.blk s H scope (compEnvC scope cl C X.env) fp) tg g) (ht : ∀ (s : Shared) (H : Hp) (C : Addr) (cl : List (Str × Addr)) (fp : List Addr), PTs (X.blk s H scope (compEnvC scope cl C X.env) fp) ifs tt)
    (hk : ∀ (s : Shared) (H : Hp) (C : Addr) (cl : List (Str × Addr)) (fp : List Addr), PE (X.blk s H scope (compEnvC scope cl C X.env) fp) kx tk)
    (he : ∀ (s : Shared) (H : Hp) (C : Addr) (cl : List (Str × Addr)) (fp : List Addr), PE (X.blk s H scope (compEnvC scope cl C X.env) fp) vx tv) (hs : ∀ x, foldedSetIterable iter X.env x = pure x := by intro _; rfl) :
    PS X (.Assign [.Name y py] (.DictComp kx vx [⟨tg, iter, ifs, 0⟩] scope pos) spos) (tAsg (tDc wi g tt tk tv (own.map (·.2))) (gName i)) := by
  refine ⟨fun pins s σ H D I h => ?_⟩
  rw [exec_Assign_Name_used _ _ _ _ hsw]
  refine wpAny_bind (wpAny_standAt (wpAny_bind ?_))
  show wpAny _ X.A (do let _ ← comprehension (.DictComp kx vx [⟨tg, iter, ifs, 0⟩] scope pos) scope X.env (firstIterPos [⟨tg, iter, ifs, 0⟩] pos) newDict false (eval iter X.env) (some (assign (.Name y py) X.env))) _ _ s
  have h : tDc wi g tt tk tv (own.map (·.2)) σ H (fun x H1 => gName i x σ H1 D.nx) := h
  refine wpAny_bind (thn (dc_core (Qf := fun _ s' => SP X pins D .next s') hc hN I hi ok hg ht hk he hs h fun L C s' m H' I' q hn f => ?_) fun _ s' hq => wpAny_pure (wpAny_pure hq))
  show wpAny _ _ (assign (.Name y py) X.env (.ref L)) _ _ _
  refine wpAny_assign_Name (store_ok2 (v := V.ref L) I' hN hy (.inl hyl) rfl (fun s2 I2 ⟨a, sb, ha⟩ => ?_) (.inr hyl))
  obtain ⟨f0, f1, f2, f3, f4, f5⟩ := f
  have haC : C ≠ a := by
    rcases ha with z | z
    · rw [z]; exact f1
    · exact fun e => f4 y a z e.symm
  refine ⟨m, hn.sameBut sb haC, fun h3 sb3 => ?_⟩
  exact ⟨_, H', I2.turned (t' := s2.toks) (fun b o hb e => (sb3.2 b hb).trans e) f0 f1 f3 f4 f5, q⟩
end
/-! ### tuple(a view) -/
section
variable {prog : Program} {w : World} {A : Around} {E : Value → Shared → Prop} {s : Shared}
theorem code_tuple_coll {Q₁ : Value → Shared → Prop} {T : String} {r : Addr} {P : Heap → List Value → Prop} (hTI : s.TypeIs (.ref r) T) (h1 : (Value.type T == Value.type "tuple") = false)
    (hc : ∀ {R : List Value → Shared → Prop} {E' : Value → Shared → Prop}, (∀ (h' : Heap) (tk : Nat) (vs : List Value), P h' vs → R vs { s with heap := h', toks := tk }) → wpAny (model prog w) A.in1 (collect (.ref r)) R E' s)
    (h : ∀ (h' : Heap) (tk : Nat) (vs : List Value), P h' vs → vs.length ≤ sizeLine ∧ Q₁ (.ref h'.objs.size) { s with heap := h'.push { cls := .type "tuple", data := .seq vs.toArray }, toks := tk }) :
    codeAny (model prog w) A (.call (.builtin "tuple.__new__") ⟨[.type "tuple", .ref r], []⟩) (wants Q₁ E) s := by
  refine codeAny_of_tree ?_
  show wpAny _ A.in1 (do checkBuiltinCall "tuple.__new__" ⟨[.type "tuple", .ref r], []⟩; again (.builtin "tuple.__new__" ⟨[.type "tuple", .ref r], []⟩)) _ _ s
  refine wpAny_bind (wpAny_of_eq (F.newCall_tuple_1 _) (wpAny_pure ⟨plainId_quiet F.plain_tuple_new _, codeAny_builtin F.entry_tuple_new ?_⟩))
  rw [Around.under_plainId F.plain_tuple_new _]
  have hsub := sub_tuple_self
  have hinit := init_tuple_lookup
  have hmh := madeHere_tuple
  wp_walk using wpAny_typeOf hTI, hc
  intro h' tk vs hp
  obtain ⟨hz, hq⟩ := h h' tk vs hp
  show wpAny _ _ (Builtin.Tuple.tupleExact vs.toArray >>= fun v => ret v) _ _ _
  unfold Builtin.Tuple.tupleExact
  refine wpAny_bind (wpAny_newObj_type ?_ (by show vs.toArray.size ≤ sizeLine; simpa using hz))
  exact wpAny_pure hq
theorem call_tuple_coll {Q : Value → Shared → Prop} {T : String} {r : Addr} {P : Heap → List Value → Prop} (hTI : s.TypeIs (.ref r) T) (h1 : (Value.type T == Value.type "tuple") = false)
    (hc : ∀ {A' : Around} {R : List Value → Shared → Prop} {E' : Value → Shared → Prop}, A'.handled = A.handled → (∀ (h' : Heap) (tk : Nat) (vs : List Value), P h' vs → R vs { s with heap := h', toks := tk }) → wpAny (model prog w) A' (collect (.ref r)) R E' s)
    (h : ∀ (h' : Heap) (tk : Nat) (vs : List Value), P h' vs → vs.length ≤ sizeLine ∧ Q (.ref h'.objs.size) { s with heap := h'.push { cls := .type "tuple", data := .seq vs.toArray }, toks := tk }) :
    wpAny (model prog w) A (call (.type "tuple") [.ref r]) Q E s := by
  refine callType_codes (Q₁ := fun obj s₁ => s₁.TypeIs obj "tuple" ∧ Q obj s₁) F.called_tuple (F.typeCall_tuple_1 _) F.entry_object_init
    (code_tuple_coll (A := A.in1) (P := P) hTI h1 (fun {R E'} k => hc rfl k) fun h' tk vs hp => ⟨(h h' tk vs hp).1, ⟨_, Heap.get?_push_size _ rfl, rfl⟩, (h h' tk vs hp).2⟩) fun obj s₁ h₁ => ?_
  exact ⟨h₁.1, F.args_object_init_2 obj _, object_init_meets F.called_tuple.init.lookup F.called_tuple.made (by decide) prog w A.in1 _ s₁ ⟨h₁.1, rfl, h₁.2⟩⟩
end
/-- tuple(e.values()) -/
def tTupVals (te : TE) : TE := fun σ H Q => te σ H fun x H1 => ∃ (d : Addr) (kvs : List (Key × V)), x = .ref d ∧ H1 d = some (.dK kvs) ∧ ∀ p, H1 p = none → Q (.ref p) (upd H1 p (.tup (kvs.map (·.2))))
/-- tuple(e.items()) -/
def tTupItems (te : TE) : TE := fun σ H Q => te σ H fun x H1 => ∃ (d : Addr) (kvs : List (Key × V)), x = .ref d ∧ H1 d = some (.dK kvs) ∧
  ∀ (H' : Hp) (p : Addr) (ts : List Addr), (∀ b o, H1 b = some o → H' b = some o) → H1 p = none → (∀ t ∈ ts, H1 t = none) → p ∉ ts → H' p = some (.frz { cls := .type "tuple", data := .seq (ts.map Value.ref).toArray } (.tup (ts.map V.ref))) → Paired (fun (t : Addr) (q : Key × V) => H' t = some (.tup [kV q.1, q.2])) ts kvs → Q (.ref p) H'
section
variable {X : Cx} {e : Expr} {te : TE} {p apos cpos pos : Pos}
theorem pe_tupVals (hc : X.calm = true) (he : PE X e te) (hg : Gl X "tuple") (hm : X.mg "tuple" = none) (hv : bootBuiltins "tuple" = some (.type "tuple")) (hbase : attributeBase e "values" X.env (eval e X.env) = eval e X.env := by rfl) (hline : (apos.endLine == cpos.line) = true := by rfl)
    (hs : starEach [.Call (.Attribute e "values" apos) [] [] cpos] X.env = (false, eval (.Call (.Attribute e "values" apos) [] [] cpos) X.env) :: starEach [] X.env := by rfl) :
    PE X (.Call (.Name "tuple" p) [.Call (.Attribute e "values" apos) [] [] cpos] [] pos) (tTupVals te) := by
  refine ⟨fun pins s σ H Q I hq => ?_⟩
  refine wpAny_Call_Name_kw (ld_blt I hg hm hv ?_)
  refine PyProof.Rows.callWith_type1 ?_ hs rfl
  rw [hs]
  show wpAny _ _ (spliced ((false, eval (.Call (.Attribute e "values" apos) [] [] cpos) X.env) :: backTo pos (starEach [] X.env))) _ _ s
  refine Calls.spliced_cons ?_
  refine wpAny_Call_method (T := "dict") (id := "dict.values") hbase rfl hline F.plainAttrs_dict F.slot_dict_values F.type_dict_values (thn (he.run pins s σ H _ I hq) fun u s1 ⟨x, H1, I1, rx, d, kvs, ex, hd, q⟩ => ?_)
  subst ex
  obtain rfl : u = Value.ref d := rx
  obtain ⟨hz, hs0, vs, kv, hdo⟩ := I1.hok d _ hd
  obtain ⟨ep, hat⟩ := hdo.dictAt
  have lk : kvs.length = vs.length := Paired.length kv
  have I2 : Inv X pins σ H1 { s1 with heap := s1.heap.push { cls := .type "dict_values", data := .fields #[.ref d] } } := I1.kept (t' := s1.toks) fun b ob q => Heap.get?_push_of_some _ q
  refine ⟨hdo.typeIs, hdo.mapOf.noDict, ?_⟩
  show wpAny _ _ (callWith cpos (.builtin "dict.values") [.ref d] [] []) _ X.xe s1
  refine method_meetsIn F.slot_dict_values F.entry_dict_values rfl (PySem.evalArgs_none ⟨rfl, hdo.typeIs, F.args_dict_values_1 _, _, meets_dict_values (mixKind X.prog X.w) d hs0, ⟨vs, hdo⟩, ?_⟩)
  refine Calls.spliced_nil ?_
  refine call_tuple_coll (P := fun h' us => (∀ b o, (s1.heap.push { cls := .type "dict_values", data := .fields #[.ref d] }).get? b = some o → h'.get? b = some o) ∧ us.length = vs.length ∧ ∀ (i : Nat) (v : Value), us[i]? = some v → ∃ k, vs[i]? = some (k, v)) (T := "dict_values") ⟨_, Heap.get?_push_size _ rfl, rfl⟩ (by decide) (fun {A' R E'} hA k => ?_) fun h' tk us ⟨hk, hl, hi⟩ => ?_
  · refine PySem.W.kdu_collect (s := { s1 with heap := s1.heap.push { cls := .type "dict_values", data := .fields #[.ref d] } }) (PySem.W.kdl_values (knd := mixKind X.prog X.w) (r := s1.heap.objs.size) (d := d) (kvs := vs) (ep := ep)) (hA.trans (I1.ok.hd hc)) ⟨⟨_, Heap.get?_push_size _ rfl, rfl, rfl⟩, hat.push _⟩ (by omega) fun h' tk acc hk hacc => ?_
    exact k h' tk acc.toList ⟨hk, by rw [Array.length_toList]; exact hacc.1, fun i v e => hacc.2 i v (by rw [← Array.getElem?_toList]; exact e)⟩
  · refine ⟨by omega, ?_⟩
    have I3 : Inv X pins σ H1 { s1 with heap := h', toks := tk } := I2.kept (t' := tk) hk
    refine ⟨.ref h'.objs.size, upd H1 h'.objs.size (.tup (kvs.map (·.2))), I3.laid (t' := tk) (fun b o e => Heap.get?_push_of_some _ e) (Nat.le_refl _) ⟨by rw [List.length_map]; exact hz, us, ?_, IsTup.new _ _⟩, rfl, q _ (I3.hok.fresh (Nat.le_refl _))⟩
    refine vals_of_at (by rw [List.length_map]; omega) fun j x u h1 h2 => ?_
    rw [List.getElem?_map] at h1
    obtain ⟨qv, e1, rfl⟩ := Option.map_eq_some_iff.mp h1
    obtain ⟨k, e2⟩ := hi j u h2
    obtain ⟨y, e3, e4, e5⟩ := LiI.paired_get kv e1
    rw [e2] at e3
    cases e3
    exact e5
theorem items_trk {pins : List (Addr × Obj)} {σ : L2.St} {H : Hp} {s : Shared} {h' : Heap} {tk lo : Nat} {kvs : List (Key × V)} {vs : List (Key × Value)} {as : List Addr} (I : Inv X pins σ H s) (hz : kvs.length ≤ sizeLine) (kv : KV kvs vs)
    (hk : ∀ b o, s.heap.get? b = some o → h'.get? b = some o) (hl : as.length = vs.length) (hlo : s.heap.objs.size ≤ lo) (hG : PySem.W.KdxG (mixKind X.prog X.w) vs lo h' as) :
    ∃ H' : Hp, (∀ b o, H b = some o → H' b = some o) ∧ (∀ t ∈ as, H t = none) ∧ Paired (fun (t : Addr) (q : Key × V) => H' t = some (.tup [kV q.1, q.2])) as kvs ∧ (∀ b, b ∉ as → H' b = H b) ∧ Inv X pins σ H' { s with heap := h', toks := tk } := by
  have lk : kvs.length = vs.length := Paired.length kv
  have nd : as.Nodup := List.Pairwise.imp (fun {a b} (h : a < b) => Nat.ne_of_lt h) hG.rise
  have new : ∀ t ∈ as, H t = none := fun t ht => I.hok.fresh (Nat.le_trans hlo (Nat.le_of_lt (hG.above t ht)))
  have atP := LiI.putT_at as kvs H (by omega) nd
  have off : ∀ b, b ∉ as → LiI.putT H as kvs b = H b := fun b h1 => LiI.putT_off as kvs _ h1
  have low : ∀ b o, s.heap.get? b = some o → b ∉ as := fun b o e z => absurd (Heap.lt_size e) (Nat.not_lt.mpr (Nat.le_trans hlo (Nat.le_of_lt (hG.above b z))))
  have kp : ∀ b u, H b = some u → (LiI.putT H as kvs) b = some u := fun b u e => by
    rw [off b (fun z => by rw [new b z] at e; cases e)]
    exact e
  refine ⟨LiI.putT H as kvs, kp, new, atP, off, ?_⟩
  refine I.call' (ch := []) rfl ⟨fun b o q _ _ _ => hk b o q, fun b o q _ _ _ => ⟨o.slots, hk b o q⟩, fun b o q n _ => ?_, fun b o q _ => ⟨o, hk b o q⟩, fun b xs q => kp b _ q, fun b o u q => kp b _ q, fun b ps q => ⟨#[], by rw [kp b _ q]; simp⟩⟩ (fun b u q => ?_) I.bare fun b z => by simp at z
  · rw [off b (low b o q)]
    exact n
  · by_cases hb : b ∈ as
    · obtain ⟨j, pk, e1, e2, e3⟩ := LiI.paired_ix atP hb
      rw [e3] at q
      cases q
      obtain ⟨key, k, x, f1, f2, f3⟩ := hG.pairs j b e1
      obtain ⟨qv, g1, g2, g3⟩ := LiI.paired_get kv e2
      rw [f1] at g1
      cases g1
      have rk : RelV (kV pk.1) key := by
        rw [g2]
        exact relV_key (show keyIs k key = true from f2)
      exact ⟨by show 2 ≤ sizeLine; decide, [key, x], .cons rk (.cons g3 .nil), ⟨_, f3, rfl, _, rfl⟩⟩
    · rw [off b hb] at q
      exact (I.hok b u q).stay (fun d v _ y => hk d v y) (fun d y => kp d _ y) fun d xs y => kp d _ y
theorem pe_tupItems (hc : X.calm = true) (he : PE X e te) (hg : Gl X "tuple") (hm : X.mg "tuple" = none) (hv : bootBuiltins "tuple" = some (.type "tuple")) (hbase : attributeBase e "items" X.env (eval e X.env) = eval e X.env := by rfl) (hline : (apos.endLine == cpos.line) = true := by rfl)
    (hs : starEach [.Call (.Attribute e "items" apos) [] [] cpos] X.env = (false, eval (.Call (.Attribute e "items" apos) [] [] cpos) X.env) :: starEach [] X.env := by rfl) :
    PE X (.Call (.Name "tuple" p) [.Call (.Attribute e "items" apos) [] [] cpos] [] pos) (tTupItems te) := by
  refine ⟨fun pins s σ H Q I hq => ?_⟩
  refine wpAny_Call_Name_kw (ld_blt I hg hm hv ?_)
  refine PyProof.Rows.callWith_type1 ?_ hs rfl
  rw [hs]
  show wpAny _ _ (spliced ((false, eval (.Call (.Attribute e "items" apos) [] [] cpos) X.env) :: backTo pos (starEach [] X.env))) _ _ s
  refine Calls.spliced_cons ?_
  refine wpAny_Call_method (T := "dict") (id := "dict.items") hbase rfl hline F.plainAttrs_dict F.slot_dict_items F.type_dict_items (thn (he.run pins s σ H _ I hq) fun u s1 ⟨x, H1, I1, rx, d, kvs, ex, hd, q⟩ => ?_)
  subst ex
  obtain rfl : u = Value.ref d := rx
  obtain ⟨hz, hs0, vs, kv, hdo⟩ := I1.hok d _ hd
  obtain ⟨ep, hat⟩ := hdo.dictAt
  have lk : kvs.length = vs.length := Paired.length kv
  have I2 : Inv X pins σ H1 { s1 with heap := s1.heap.push { cls := .type "dict_items", data := .fields #[.ref d] } } := I1.kept (t' := s1.toks) fun b ob q => Heap.get?_push_of_some _ q
  refine ⟨hdo.typeIs, hdo.mapOf.noDict, ?_⟩
  show wpAny _ _ (callWith cpos (.builtin "dict.items") [.ref d] [] []) _ X.xe s1
  refine method_meetsIn F.slot_dict_items F.entry_dict_items rfl (PySem.evalArgs_none ⟨rfl, hdo.typeIs, F.args_dict_items_1 _, _, meets_dict_items (mixKind X.prog X.w) d hs0, ⟨vs, hdo⟩, ?_⟩)
  refine Calls.spliced_nil ?_
  refine call_tuple_coll (P := fun h' us => ∃ as : List Addr, us = as.map Value.ref ∧ (∀ b o, (s1.heap.push { cls := .type "dict_items", data := .fields #[.ref d] }).get? b = some o → h'.get? b = some o) ∧ as.length = vs.length ∧ PySem.W.KdxG (mixKind X.prog X.w) vs (s1.heap.push { cls := .type "dict_items", data := .fields #[.ref d] }).objs.size h' as) (T := "dict_items") ⟨_, Heap.get?_push_size _ rfl, rfl⟩ (by decide) (fun {A' R E'} hA k => ?_) fun h' tk us ⟨as, hu, hk, hl, hG⟩ => ?_
  · refine PySem.W.kdx_collect (s := { s1 with heap := s1.heap.push { cls := .type "dict_items", data := .fields #[.ref d] } }) (knd := mixKind X.prog X.w) (kvs := vs) (ep := ep) (hA.trans (I1.ok.hd hc)) ⟨_, Heap.get?_push_size _ rfl, rfl, rfl⟩ (hat.push _) (by omega) fun h' tk as hk hl hG => ?_
    exact k h' tk _ ⟨as, rfl, hk, hl, hG⟩
  · subst hu
    refine ⟨by rw [List.length_map]; omega, ?_⟩
    obtain ⟨H', k1, k2, k3, k4, J⟩ := items_trk (tk := tk) I2 hz kv hk hl (Nat.le_refl _) hG
    have hp : H' h'.objs.size = none := J.hok.fresh (Nat.le_refl _)
    have hp1 : H1 h'.objs.size = none := by
      cases e : H1 h'.objs.size with
      | none => rfl
      | some o => rw [k1 _ _ e] at hp; cases hp
    have hpn : h'.objs.size ∉ as := fun z => absurd (hG.there z) (Nat.lt_irrefl _)
    refine ⟨.ref h'.objs.size, upd H' h'.objs.size (.frz { cls := .type "tuple", data := .seq (as.map Value.ref).toArray } (.tup (as.map V.ref))), J.laid (t' := tk) (fun b o e => Heap.get?_push_of_some _ e) (Nat.le_refl _) ⟨Heap.get?_push_size _ rfl, by rw [List.length_map]; omega, as.map Value.ref, LiI.vals_refs as, IsTup.new _ _⟩, rfl, ?_⟩
    refine q _ _ as (fun b o e => ?_) hp1 k2 hpn upd_same ?_
    · rw [upd_ne (fun z => by rw [z, hp1] at e; cases e)]
      exact k1 b o e
    · have gen : ∀ (l : List Addr) (l2 : List (Key × V)), h'.objs.size ∉ l → Paired (fun (t : Addr) (q : Key × V) => H' t = some (.tup [kV q.1, q.2])) l l2 → Paired (fun (t : Addr) (q : Key × V) => upd H' h'.objs.size (.frz { cls := .type "tuple", data := .seq (as.map Value.ref).toArray } (.tup (as.map V.ref))) t = some (.tup [kV q.1, q.2])) l l2 := by
        intro l l2 hn hp
        induction hp with
        | nil => exact .nil
        | cons r t ih => exact .cons (by rw [upd_ne (fun z => hn (by rw [z]; exact List.mem_cons_self))]; exact r) (ih fun z => hn (List.mem_cons_of_mem _ z))
      exact gen _ _ hpn k3
end
end RX
end
section
set_option maxHeartbeats 4000000
namespace RX
open PySem PySem.Spec PyProof.Rows L2
/-! ### C.m(self, ..) of an own class -/
def tCls (C : Addr) (n j : Nat) (sp : Sp) (gV : List V → List V → List V) (E : L2.St → XK) (ta : TE) (t tk : TA) : TE := fun σ H Q => ta σ H fun x H1 => x = .ref C ∧
  t σ H1 fun vs H2 => tk σ H2 fun zs H3 => vs.length = n ∧ zs.length = j ∧ sp (gV vs zs) H3 Q (E σ)
section
variable {X : Cx} {CX : CXT} {k n : Nat} {f C : Addr} {fd : FuncData} {ps ks : List Str} {sp : Sp} {E : L2.St → XK} {x m : Str} {p pos apos : Pos} {e o : Expr} {es : List Expr} {kws : List Keyword} {ta : TE} {t tk : TA} {g : List Value → List Value → List Value} {gV : List V → List V → List V} {mc : Value}
theorem pe_cls {pl : Sem Bool} (he : PE X o ta) (r : ClX.CRead X.K C mc) (c : PySem.W.findCls X.K (.ref C) mc m = some (.val (.ref f))) (F : FnOk X.prog X.w X.K X.mg X.base CX k f fd ps sp) (hr : Room k X.A) (hkp : PySem.W.keepIn X.K (.ref f) = true) (hb : KBn X.K fd ps n ks g gV) (hx : ∀ σ, PassesAt CX X σ (E σ)) (ha : PA X (e :: es) t) (hkw : PK X kws tk)
    (hall : (backToKw pos (keywordEach kws X.env)).all (·.1.isSome) = true := by rfl) (hks : (backToKw pos (keywordEach kws X.env)).filterMap (·.1) = ks := by rfl)
    (hst : starEach (e :: es) X.env = (false, eval e X.env) :: starEach es X.env := by rfl)
    (hpl : ((backTo pos (starEach (e :: es) X.env)).any (·.1) || (backToKw pos (keywordEach kws X.env)).any (·.1.isNone)) = false := by rfl)
    (ht : eval (.Call (.Attribute o m apos) (e :: es) kws pos) X.env = (do
      let ov ← eval o X.env
      standAt apos.atName
      let (f, first) ← holding [ov] (getMethod ov m pl)
      callWith pos f first (backTo pos (starEach (e :: es) X.env)) (backToKw pos (keywordEach kws X.env))) := by rfl) :
    PE X (.Call (.Attribute o m apos) (e :: es) kws pos) (tCls C n ks.length sp gV E ta t tk) := by
  refine ⟨fun pins s σ H Q I h => ?_⟩
  refine PySem.W.methodCall_KW (pl := pl) (thn (he.run pins s σ H _ I h) fun u s1 ⟨x, H1, I1, rx, ex, q⟩ => ?_) ht
  subst ex
  obtain rfl : u = Value.ref C := rx
  refine PySem.W.method_cls I1.kIn r.ga (PySem.W.cls_value I1.kIn r.rd c rfl ?_)
  have I1 := I1.tok (s1.toks + 1)
  refine PySem.W.callWith_KW (first := []) (h₀ := X.base) I.ok.mod.kin hkp hall (thn (ha.run pos pins _ σ H1 _ I1 q) fun us s2 ⟨vs, H2, I2, r, q2⟩ => ?_) hpl hst
  refine thn (hkw.run pos pins s2 σ H2 _ I2 q2) fun ws s3 ⟨zs, H3, I3, rz, l1, l2, q3⟩ => ⟨I3.kIn, ?_⟩
  rw [hks]
  exact run_S (us := us) (vs := vs) F hr hb (hx σ) I3 r rz l1 l2 q3
end
/-! ### dict(a tuple of pairs) -/
section
variable {X : Cx}
theorem call_dictT (hcalm : X.calm = true) : CallR X (.type "dict") (fun xs H Q => ∃ (a : Addr) (o : Obj) (ps : List Addr) (kvs : List (Key × V)), xs = [.ref a] ∧ H a = some (.frz o (.tup (ps.map V.ref))) ∧ o.dict = none ∧ Paired (fun p kv => SqT X.K H p [kV kv.1, kv.2]) ps kvs ∧
    ∀ p, H p = none → Q (.ref p) (upd H p (.dK (mergeK [] kvs)))) := by
  intro pins s σ H xs us Q I r q
  obtain ⟨a, o, ps, kvs, ex, hq, hdn, hp, q⟩ := q
  subst ex
  obtain ⟨u, eu, rx⟩ := vals1 r
  subst eu
  cases rx
  obtain ⟨ho, hz, its, rv, o', ho', hc, n, hdat⟩ := I.hok a _ hq
  rw [ho] at ho'
  cases ho'
  have ei := refs_at rv
  subst ei
  rw [List.length_map] at hz
  obtain ⟨prs, rel, hl, hpr⟩ := pairs_of I hp
  -- the pairs by their addresses, the keys as they stand
  have keyOf : ∀ j, ∃ u : Value, ∀ q : Key × Value, prs[j]? = some q → ∃ b : Addr, ps[j]? = some b ∧ IsTup s.heap b #[u, q.2] ∧ keyIs q.1 u = true := fun (j : Nat) => by
    cases e : prs[j]? with
    | none => exact ⟨.none, fun q z => by cases z⟩
    | some q =>
      obtain ⟨b, u, e1, e2, e3⟩ := hpr j q e
      exact ⟨u, fun q' z => by cases z; exact ⟨b, e1, e2, e3⟩⟩
  obtain ⟨ky, hky⟩ := Classical.axiomOfChoice keyOf
  let pv : List (Value × Value) := (List.range prs.length).map fun j => (ky j, ((prs.map (·.2)).getD j .none))
  have hpv : pv.length = prs.length := by simp [pv]
  have pat : ∀ j k v, pv[j]? = some (k, v) → ∃ q, prs[j]? = some q ∧ k = ky j ∧ v = q.2 := fun j k v e => by
    have hj : j < prs.length := by rw [← hpv]; exact (List.getElem?_eq_some_iff.mp e).1
    refine ⟨prs[j], List.getElem?_eq_getElem hj, ?_⟩
    simp only [pv, List.getElem?_map, List.getElem?_range hj, Option.map_some, Option.some.injEq, Prod.mk.injEq] at e
    refine ⟨e.1.symm, ?_⟩
    rw [← e.2]
    simp [List.getD, hj]
  have PI : PairItems s.heap (ps.map Value.ref).toArray (fun j => ps.getD j 0) pv := ⟨by simp [hpv, hl], fun j k v e => by
    obtain ⟨q, e1, rfl, rfl⟩ := pat j k v e
    obtain ⟨b, e2, e3, e4⟩ := hky j q e1
    have e5 : ps.getD j 0 = b := by simp [List.getD, e2]
    show (ps.map Value.ref).toArray[j]? = some (Value.ref (ps.getD j 0)) ∧ PairAt s.heap (ps.getD j 0) (ky j) q.2
    rw [e5]
    exact ⟨by simp [e2], .inl e3⟩⟩
  refine PySem.call_dict_pairs (knd := mixKind X.prog X.w) (kvs := prs) (PairArg.tuple a (ps.map Value.ref).toArray (fun j => ps.getD j 0) pv) (I.ok.hd hcalm) ⟨⟨o, n, ho, hc, hdn, hdat⟩, PI⟩ ⟨hpv.symm, fun i key v e => ?_⟩ (by rw [hpv, hl]; exact hz) fun h' tk hd' k => ?_
  · obtain ⟨q, e1, rfl, rfl⟩ := pat i key v e
    obtain ⟨b, e2, e3, e4⟩ := hky i q e1
    exact ⟨q.1, e1, e4⟩
  · have hm : (s.heap.objs.size == sysModules) = false := beq_eq_false_iff_ne.mpr (Nat.ne_of_gt I.big)
    have hlen : (mergeK [] kvs).length ≤ sizeLine := by
      refine Nat.le_trans (length_mergeK kvs []) ?_
      rw [List.length_nil, Nat.zero_add, rel.length, hl]
      exact hz
    exact ⟨.ref s.heap.objs.size, upd H s.heap.objs.size (.dK (mergeK [] kvs)), I.laid (t' := tk) (fun b o e => k b o (by simp) e) (Nat.le_refl _) (show ObjOk X.prog X.w _ _ _ (.dK (mergeK [] kvs)) from ⟨hlen, hm, merged [] prs, KV.merge rel .nil, hd'⟩), rfl, q _ (I.hok.fresh (Nat.le_refl _))⟩
end
/-! ### o.m as a value -/
def tBnd (C : Addr) (m : Str) (g : Addr) (ta : TE) : TE := fun σ H Q => ta σ H fun x H1 => ∃ a dx fs, x = .ref a ∧ H1 a = some (.ins C dx fs) ∧ fs.lookup m = none ∧ ∀ p, H1 p = none → Q (.ref p) (upd H1 p (.met g a))
theorem pe_bnd {X : Cx} {e : Expr} {ta : TE} {C g : Addr} {m : Str} {pos : Pos} (he : PE X e ta) (c : Cls X.K C) (k : BMeth X.K C m g) (hb : attributeBase e m X.env (eval e X.env) = eval e X.env := by rfl) : PE X (.Attribute e m pos) (tBnd C m g ta) := by
  refine ⟨fun pins s σ H Q I h => ?_⟩
  refine attr_of hb (thn (he.run pins s σ H _ I h) fun u s1 ⟨x, H1, I1, rx, a, dx, fs, ex, ea, l, q⟩ => ?_)
  subst ex
  exact op_getbound I1 ea c k l rx q
/-! ### sorted([], key=.., reverse=b) -/
def rSortedK0 (K : PySem.W.Frag) : List V → List V → Hp → VK → Prop := fun vs zs H Q => ∃ (a q : Addr) (b : Bool), vs = [V.ref a] ∧ zs = [.ref q, .bl b] ∧ SqL K H a [] ∧ ∀ p : Addr, H p = none → Q (.ref p) (upd H p (.lst []))
theorem cr_sortedK0 {X : Cx} : CallRK X (.builtin "sorted") [Str.ofString "key", Str.ofString "reverse"] (rSortedK0 X.K) := by
  intro pins s σ H vs zs us ws Q I r rz h
  obtain ⟨a, q, b, rfl, rfl, hs, k⟩ := h
  obtain rfl := Vals.ref1 r
  obtain ⟨w1, w2, rfl, e1, e2⟩ := vals2 rz
  obtain rfl : w1 = Value.ref q := e1
  obtain rfl : w2 = Value.bool b := e2
  obtain ⟨its, rv, hl, hz⟩ := I.list hs
  cases rv
  refine PySem.W.sorted_key_data (β := Unit) (bs := []) (R := fun _ _ => True) (vs := []) (k := fun _ => .none) (f := .ref q) (b := b) hl.isList .nil (fun d hd => by cases hd) (.inl fun d hd => by cases hd) (Nat.zero_le _) (fun x hx => by cases hx) (ksk_s2 _ _ _) (fun _ => ksk_l2 _ _ _) (fun x => ksk_t2 q x b) (fun v x _ hx => by cases hx) fun out c h' tk hk hn ho hlen he => ?_
  obtain rfl : out = [] := List.eq_nil_of_length_eq_zero hlen
  exact ⟨.ref _, upd H (s.heap.objs.size + 1) (.lst []), I.laid (t' := tk) hk (Nat.le_succ _) ⟨Nat.zero_le _, [], c, .nil, ho⟩, rfl, k _ (I.hok.fresh (Nat.le_succ _))⟩
end RX
end
section
set_option maxHeartbeats 4000000
namespace RX
open PySem PySem.Spec PyProof.Rows L2
/-! ### sorted(a list of data) -/
theorem each_vals : ∀ {bs : List (V × PyData)} {us : List Value}, Vals (bs.map (·.1)) us → PySem.W.EachIs (fun (v : Value) (b : V × PyData) => RelV b.1 v) us bs
  | [], us, r => by cases r; exact .nil
  | b :: bs, us, r => by
    rw [List.map_cons] at r
    cases r with
    | cons h t => exact .cons h (each_vals t)
theorem vals_each : ∀ {us : List Value} {bs : List (V × PyData)}, PySem.W.EachIs (fun (v : Value) (b : V × PyData) => RelV b.1 v) us bs → Vals (bs.map (·.1)) us
  | _, _, .nil => .nil
  | _, _, .cons h t => .cons h (vals_each t)
def rSortedD (K : PySem.W.Frag) : List V → Hp → VK → Prop := fun vs H Q => ∃ (a : Addr) (bs : List (V × PyData)), vs = [V.ref a] ∧ SqL K H a (bs.map (·.1)) ∧ (∀ b ∈ bs, Dp K H b.1 b.2 ∧ b.2.depth ≤ 8) ∧
  PySem.W.AllAlike (bs.map (·.2)) ∧ PySem.W.Sortable (bs.map (·.2)) ∧ ∀ p : Addr, H p = none → Q (.ref p) (upd H p (.lst ((bs.mergeSort (PySem.W.dataLe false (·.2))).map (·.1))))
theorem cr_sortedD {X : Cx} (hu : X.A.units + 64 < cLine) : CallR X (.builtin "sorted") (rSortedD X.K) := by
  intro pins s σ H vs us Q I r h
  obtain ⟨a, bs, rfl, hs, hd, hal, hk, k⟩ := h
  obtain rfl := Vals.ref1 r
  obtain ⟨its, rv, hl, hz⟩ := I.list hs
  have e := each_vals rv
  have er : PySem.W.EachIs (fun (v : Value) (b : V × PyData) => ∃ as, Reads s.heap v b.2 as) its bs := by
    have : ∀ {us : List Value} {cs : List (V × PyData)}, (∀ b ∈ cs, b ∈ bs) → PySem.W.EachIs (fun (v : Value) (b : V × PyData) => RelV b.1 v) us cs → PySem.W.EachIs (fun (v : Value) (b : V × PyData) => ∃ as, Reads s.heap v b.2 as) us cs := by
      intro us cs hm h
      induction h with
      | nil => exact .nil
      | cons h t ih => exact .cons (Dp.reads I _ _ _ (hd _ (hm _ List.mem_cons_self)).1 h) (ih fun b hb => hm b (List.mem_cons_of_mem _ hb))
    exact this (fun b hb => hb) e
  refine PySem.W.sorted_data (enc := fun b : V × PyData => b.2) hl.isList e er hal hk (by rw [List.length_map] at hz; exact hz) (fun b hb => ?_) fun out ho he => ?_
  · have := (hd b hb).2
    show X.A.units + 2 + b.2.depth < cLine
    omega
  · obtain ⟨ep, he'⟩ := PyProof.Rows.sortedAll_at s.heap its (List.toArray out)
    have hz' : ((bs.mergeSort (PySem.W.dataLe false (·.2))).map (·.1)).length ≤ sizeLine := by
      rw [List.length_map, List.length_mergeSort]
      rw [List.length_map] at hz
      exact hz
    refine ⟨.ref (s.heap.objs.size + 1), upd H (s.heap.objs.size + 1) (.lst ((bs.mergeSort (PySem.W.dataLe false (·.2))).map (·.1))), I.laid (t' := s.toks) (fun _ _ => PyProof.Rows.sortedAll_old) (Nat.le_succ _) ⟨hz', out, ep, vals_each he, he'⟩, rfl, k _ (I.hok.fresh (Nat.le_succ _))⟩
end RX
end
section
set_option maxHeartbeats 4000000
namespace RX
open PySem PySem.Spec PyProof.Rows L2
/-- isinstance(x, a built-in type) -/
inductive IsB (K : PySem.W.Frag) (H : Hp) : V → String → Bool → Prop where
  | ss (z : Str) : IsB K H (.str z) "str" true
  | si (z : Str) : IsB K H (.str z) "int" false
  | ii (i : Int) : IsB K H (.int i) "int" true
  | ib (i : Int) : IsB K H (.int i) "bool" false
  | is (i : Int) : IsB K H (.int i) "str" false
  | tt {a : Addr} {xs : List V} (h : SqT K H a xs) : IsB K H (.ref a) "tuple" true
theorem tyx_tup {K : PySem.W.Frag} {H : Hp} {a : Addr} {xs : List V} (h : SqT K H a xs) : TyX K H (.ref a) (.type "tuple") := by
  rcases h with (h | ⟨o, h⟩) | h
  · exact .base (.tup h)
  · exact .fTuple h
  · obtain ⟨o, its, n, e, c, _⟩ := h
    exact .kTuple e c
def rIsB (K : PySem.W.Frag) : List V → Hp → VK → Prop := fun xs H Q => ∃ x n b, xs = [x, .ty n] ∧ IsB K H x n b ∧ Q (.bl b) H
theorem call_isB {X : Cx} : CallR X (.builtin "isinstance") (rIsB X.K) := by
  intro pins s σ H xs us Q I r h
  obtain ⟨x, n, b, rfl, k, q⟩ := h
  refine call_isi pins s σ H _ us Q I r ?_
  cases k with
  | ss z => exact ⟨_, _, _, _, _, rfl, .ty _, .base (.str z), kit_ty (by decide +kernel), q⟩
  | si z => exact ⟨_, _, _, _, _, rfl, .ty _, .base (.str z), kit_ty (by decide +kernel), q⟩
  | ii i => exact ⟨_, _, _, _, _, rfl, .ty _, .base (.int i), kit_ty (by decide +kernel), q⟩
  | ib i => exact ⟨_, _, _, _, _, rfl, .ty _, .base (.int i), kit_ty (by decide +kernel), q⟩
  | is i => exact ⟨_, _, _, _, _, rfl, .ty _, .base (.int i), kit_ty (by decide +kernel), q⟩
  | tt h => exact ⟨_, _, _, _, _, rfl, .ty _, tyx_tup h, kit_ty (by decide +kernel), q⟩
/-- a op1 b op2 c op3 d -/
def tChain3 (r r' r'' : R2) (ta tb tc td : TE) : TE := fun σ H Q => ta σ H fun x H1 => tb σ H1 fun y H2 => r x y H2 fun z H3 => ∃ k, z = .bl k ∧
  (if k = true then tc σ H3 fun w' H4 => r' y w' H4 fun z2 H5 => ∃ k2, z2 = .bl k2 ∧ (if k2 = true then td σ H5 fun w2 H6 => r'' w' w2 H6 Q else Q (.bl false) H5) else Q (.bl false) H3)
theorem pe_chain3 {X : Cx} {a b c d : Expr} {ta tb tc td : TE} {pos : Pos} {op op' op'' : CmpOp} {r r' r'' : R2} (ho : OpR X (compareOp op) r) (ho' : OpR X (compareOp op') r') (ho2 : OpR X (compareOp op'') r'') (ha : PE X a ta) (hb : PE X b tb) (hc : PE X c tc) (hd : PE X d td)
    (hm : lastMarks [op, op', op''] [b, c, d] = false := by with_unfolding_all rfl) : PE X (.Compare a [op, op', op''] [b, c, d] pos) (tChain3 r r' r'' ta tb tc td) := by
  refine ⟨fun pins s σ H Q I h => ?_⟩
  refine Compare_chain (thn (ha.run pins s σ H _ I h) fun v s1 ⟨x, H1, I1, r1, q1⟩ => chain_link (thn (hb.run pins s1 σ H1 _ I1 q1) fun u s2 ⟨y, H2, I2, r2, q2⟩ =>
    thn (ho pins s2 σ H2 x y v u _ I2 r1 r2 q2) fun d s3 ⟨z, H3, I3, r3, k, e, q3⟩ => ?_)) hm
  subst e
  cases r3
  refine wpAny_truthy_bool ?_
  cases k with
  | false => exact ite_ff ⟨.bl false, H3, I3, rfl, q3⟩
  | true =>
    refine ite_tt (chain_link (thn (hc.run pins s3 σ H3 _ I3 q3) fun w' s4 ⟨z', H4, I4, r4, q4⟩ => thn (ho' pins s4 σ H4 y z' u w' _ I4 r2 r4 q4) fun d2 s5 ⟨z2, H5, I5, r5, k2, e2, q5⟩ => ?_))
    subst e2
    cases r5
    refine wpAny_truthy_bool ?_
    cases k2 with
    | false => exact ite_ff ⟨.bl false, H5, I5, rfl, q5⟩
    | true => exact ite_tt (chain_last (thn (hd.run pins s5 σ H5 _ I5 q5) fun w2 s6 ⟨z3, H6, I6, r6, q6⟩ => ho2 pins s6 σ H6 z' z3 w' w2 Q I6 r4 r6 q6))
end RX
end
section
set_option maxHeartbeats 4000000
namespace RX
open PySem PySem.Spec PyProof.Rows L2
/-- the j-th of a list, as a list -/
def at1 {α : Type} (l : List α) (j : Nat) : List α := (l.drop j).take 1
theorem at1_vals {vs : List V} {us : List Value} (h : Vals vs us) (j : Nat) : Vals (at1 vs j) (at1 us j) := (h.drop j).take 1
/-- those at the places ps -/
def pick {α : Type} (ps : List Nat) (l : List α) : List α := (ps.map fun j => at1 l j).flatten
theorem pick_vals {ps : List Nat} {vs : List V} {us : List Value} (h : Vals vs us) : Vals (pick ps vs) (pick ps us) := by
  unfold pick
  induction ps with
  | nil => exact .nil
  | cons j r ih =>
    rw [List.map_cons, List.flatten_cons, List.map_cons, List.flatten_cons]
    exact (at1_vals h j).append ih
/-- a word that the walk does not open -/
structure Box (p : Prop) : Prop where
  out : p
theorem iteD {c A B : Prop} [Decidable c] (h1 : c → A) (h2 : ¬ c → B) : if decide c = true then A else B := by
  by_cases h : c
  · rw [if_pos (by simpa using h)]; exact h1 h
  · rw [if_neg (by simpa using h)]; exact h2 h
theorem iteB {c : Bool} {A B : Prop} (h1 : c = true → A) (h2 : c = false → B) : if c = true then A else B := by
  cases c
  · exact h2 rfl
  · exact h1 rfl
end RX
end
section
namespace RX
open PySem PySem.Spec PyProof.Rows L2
theorem atI_nat {α : Type} {xs : List α} {i : Nat} {x : α} (h : xs[i]? = some x) : atI xs (i : Nat) = some x := by
  have hi : i < xs.length := (List.getElem?_eq_some_iff.mp h).1
  unfold atI ixN
  rw [if_pos (by omega), if_pos (by omega)]
  simpa using h
theorem atI_zero {α : Type} {x : α} {r : List α} : atI (x :: r) 0 = some x := atI_nat (i := 0) rfl
theorem atI_one {α : Type} {x y : α} {r : List α} : atI (x :: y :: r) 1 = some y := atI_nat (i := 1) rfl
theorem atI_last {α : Type} {x : α} {r : List α} : atI (r ++ [x]) (-1) = some x := by
  unfold atI ixN
  have : ((r ++ [x]).length : Int) = r.length + 1 := by simp
  rw [if_neg (by omega), if_pos (by omega), this]
  have e : ((-1 : Int) + (r.length + 1)).toNat = r.length := by omega
  simp [e]
theorem inV_int {n : Int} : ∀ {es : List Int}, inV (.int n) (es.map V.int) = decide (n ∈ es)
  | [] => rfl
  | x :: r => by
    have ih := inV_int (n := n) (es := r)
    unfold inV at ih ⊢
    rw [List.map_cons, List.any_cons, ih]
    have : eqV (.int x) (.int n) = decide (x = n) := by show (x == n) = _; rfl
    rw [this]
    by_cases h : x = n
    · simp [h]
    · have h2 : ¬ n = x := fun z => h z.symm
      simp [h, h2]
end RX
end
section
set_option maxHeartbeats 4000000
namespace RX
open PySem PySem.Spec PyProof.Rows L2
/-! ### what stays -/
section
variable {K : PySem.W.Frag} {H H' : Hp} {L L' : List (Addr × HO)} {M M' : List (Addr × List V)} {a p d : Addr} {o o' u : HO} {od : Obj} {xs : List V}
theorem up_ne (hp : H p = none) (h : H a = some o') : upd H p o a = some o' := by rw [upd_ne (ne_of_none h hp)]; exact h
theorem sqL_fresh (hp : H p = none) (h : SqL K H a xs) : SqL K (upd H p o) a xs := by
  rcases h with (h | ⟨u, h⟩) | h
  · exact .inl (.inl (up_ne hp h))
  · exact .inl (.inr ⟨u, up_ne hp h⟩)
  · exact .inr h
theorem same_new (hp : H p = none) : Same H (upd H p o) := fun b q e => by rw [upd_ne (ne_of_none e hp)]; exact e
theorem same_sqT (e : Same H H') (h : SqT K H a xs) : SqT K H' a xs := by
  rcases h with (h | ⟨o, h⟩) | h
  · exact .inl (.inl (e _ _ h))
  · exact .inl (.inr ⟨o, e _ _ h⟩)
  · exact .inr h
theorem HS.same (h : HS K H L M) (e : Same H H') : HS K H' L M := ⟨fun q hq => e _ _ (h.all q hq), h.nd, h.mu, fun q hq => same_sqT e (h.tup q hq)⟩
theorem same_unlock (e : Same (upd H d (.frz od u)) H') (h : H d = some u) : Same H (upd H' d u) := fun b q hq => by
  by_cases hb : b = d
  · subst hb
    rw [h] at hq
    cases hq
    exact upd_same
  · rw [upd_ne hb]
    exact e b q (by rw [upd_ne hb]; exact hq)
theorem HS.lock (h : HS K H ((d, u) :: L) M) : HS K (L2.upd H d (.frz od u)) L M where
  all := fun q hq => by
    have nd := h.nd
    rw [List.map_cons, List.nodup_cons] at nd
    rw [upd_ne (fun z => nd.1 (by rw [← z]; exact List.mem_map_of_mem (f := (·.1)) hq))]
    exact h.all q (List.mem_cons_of_mem _ hq)
  nd := (List.nodup_cons.mp h.nd).2
  mu := fun q hq => h.mu q (List.mem_cons_of_mem _ hq)
  tup := fun q hq => sqT_mut (by rw [h.all _ List.mem_cons_self]; exact h.mu _ List.mem_cons_self) (h.tup q hq)
theorem HS.unlock (h : HS K H' L M) (nd : d ∉ L.map (·.1)) (e : H' d = some (.frz od u)) (mu : Mut (some u)) (hM : ∀ q ∈ M, q.1 ≠ d) : HS K (L2.upd H' d u) ((d, u) :: L) M where
  all := fun q hq => by
    rcases List.mem_cons.mp hq with z | hq
    · rw [z]; exact upd_same
    · rw [upd_ne (fun z => nd (by rw [← z]; exact List.mem_map_of_mem (f := (·.1)) hq))]
      exact h.all q hq
  nd := List.nodup_cons.mpr ⟨nd, h.nd⟩
  mu := fun q hq => by
    rcases List.mem_cons.mp hq with z | hq
    · rw [z]; exact mu
    · exact h.mu q hq
  tup := fun q hq => by
    rcases h.tup q hq with (t | ⟨v, t⟩) | t
    · exact .inl (.inl (by rw [upd_ne (hM q hq)]; exact t))
    · exact .inl (.inr ⟨v, by rw [upd_ne (hM q hq)]; exact t⟩)
    · exact .inr t
end
/-! ### comprehensions that change nothing -/
/-- the list at D so far -/
structure Acc (H0 : Hp) (D : Addr) (l : List V) (H : Hp) : Prop where
  same : Same H0 H
  at_ : H D = some (.lst l)
theorem Acc.start {H0 : Hp} {D : Addr} (hD : H0 D = none) : Acc H0 D [] (upd H0 D (.lst [])) := ⟨same_new hD, upd_same⟩
theorem Acc.yes {H0 H H4 : Hp} {D : Addr} {l : List V} {y : V} (a : Acc H0 D l H) (hD : H0 D = none) (e : Same H H4) (hz : l.length < sizeLine) : ∃ acc, H4 D = some (.lst acc) ∧ acc.length < sizeLine ∧ Acc H0 D (l ++ [y]) (upd H4 D (.lst (acc ++ [y]))) :=
  ⟨l, e _ _ a.at_, hz, ⟨fun b o q => by rw [upd_ne (ne_of_none q hD)]; exact e _ _ (a.same b o q), upd_same⟩⟩
theorem Acc.no {H0 H H4 : Hp} {D : Addr} {l : List V} (a : Acc H0 D l H) (e : Same H H4) : Acc H0 D l H4 := ⟨a.same.trans e, e _ _ a.at_⟩
section
variable {K : PySem.W.Frag} {a : Addr} {xs : List V} {g : TG} {tt : TT} {te : TE} {vs : List Nat} {σ : L2.St} {H1 : Hp} {D : Addr} {Qd : Hp → Prop}
/-- over any iterator whose turns are known from the first heap on -/
theorem lcS_gen {J : It} {n : Nat} {Y : Nat → V → Hp → Prop} {res : Nat → List V} (hD : H1 D = none) (hgo : ∀ i H, i < n → Same H1 H → J.go i H) (hst : ∀ H, Same H1 H → J.stop n H)
    (hy : ∀ i H x H', i < n → Same H1 H → J.yld i H x H' → Same H H' ∧ Y i x H')
    (hs : ∀ i x H', i < n → Y i x H' → Acc H1 D (((List.range i).map res).flatten) H' → g x (wipe σ vs) H' fun σ2 H2 => wipe σ2 vs = wipe σ vs ∧ tt σ2 H2 fun b H3 =>
      if b = true then te σ2 H3 fun y H4 => ∃ acc, H4 D = some (.lst acc) ∧ acc.length < sizeLine ∧ Acc H1 D (((List.range i).map res).flatten ++ res i) (upd H4 D (.lst (acc ++ [y]))) else Acc H1 D (((List.range i).map res).flatten ++ res i) H3)
    (hd : ∀ H, Acc H1 D (((List.range n).map res).flatten) H → Qd H) :
    ∃ W : Nat → Nat → Hp → Prop, (∃ m, W 0 m (upd H1 D (.lst []))) ∧ ∀ i m H, W i m H →
      (J.stop i H ∧ Qd H) ∨ (J.go i H ∧ ∃ Nx : Hp → Prop, (∀ H', Nx H' → ∃ m', m' < m ∧ W (i + 1) m' H') ∧ ∀ x H', J.yld i H x H' → g x (wipe σ vs) H' fun σ2 H2 => wipe σ2 vs = wipe σ vs ∧ tt σ2 H2 fun b H3 =>
        if b = true then te σ2 H3 fun y H4 => ∃ acc, H4 D = some (.lst acc) ∧ acc.length < sizeLine ∧ Nx (upd H4 D (.lst (acc ++ [y]))) else Nx H3) := by
  have sc : ∀ i, ((List.range (i + 1)).map res).flatten = ((List.range i).map res).flatten ++ res i := fun i => by rw [List.range_succ, List.map_append, List.flatten_append]; simp
  refine ⟨fun i m H => m = n - i ∧ i ≤ n ∧ Acc H1 D (((List.range i).map res).flatten) H, ⟨n, by simp, Nat.zero_le _, Acc.start hD⟩, ?_⟩
  rintro i m H ⟨rfl, hi, p⟩
  by_cases hlt : i < n
  · refine .inr ⟨hgo i H hlt p.same, Acc H1 D (((List.range i).map res).flatten ++ res i), fun H' p' => ⟨n - (i + 1), by omega, rfl, hlt, by rw [sc]; exact p'⟩, fun x H' y => ?_⟩
    obtain ⟨e, y'⟩ := hy i H x H' hlt p.same y
    exact hs i x H' hlt y' (p.no e)
  · have e : i = n := by omega
    subst e
    exact .inl ⟨hst H p.same, hd H p⟩
/-- what the items give, at their places -/
def rs {α : Type} (xs : List α) (f : α → List V) (i : Nat) : List V := match xs[i]? with
  | some x => f x
  | none => []
theorem rs_at {α : Type} {xs : List α} {f : α → List V} {i : Nat} {x : α} (h : xs[i]? = some x) : rs xs f i = f x := by unfold rs; rw [h]
theorem rs_all {α : Type} {xs : List α} {f : α → List V} : ((List.range xs.length).map (rs xs f)).flatten = xs.flatMap f := by
  have : (List.range xs.length).map (rs xs f) = xs.map f := by
    apply List.ext_getElem?
    intro i
    rw [List.getElem?_map, List.getElem?_map]
    by_cases h : i < xs.length
    · rw [List.getElem?_range h, List.getElem?_eq_getElem h, Option.map_some, Option.map_some, rs_at (List.getElem?_eq_getElem h)]
    · rw [List.getElem?_eq_none (by simpa using h), List.getElem?_eq_none (by omega)]
      rfl
  rw [this, List.flatMap_def]
theorem rs_len {α : Type} {xs : List α} {f : α → List V} (h : ∀ x, (f x).length ≤ 1) : ∀ n : Nat, (((List.range n).map (rs xs f)).flatten).length ≤ n
  | 0 => by simp
  | n + 1 => by
    have ih := rs_len (xs := xs) h n
    rw [List.range_succ, List.map_append, List.flatten_append, List.length_append]
    have h2 : (rs xs f n).length ≤ 1 := by unfold rs; split <;> simp [h]
    simp only [List.map_cons, List.map_nil, List.flatten_cons, List.flatten_nil, List.append_nil]
    omega
theorem lc_items {α : Type} {J : It} {its : List α} {f : α → List V} {Y : Nat → α → V → Hp → Prop} (hD : H1 D = none) (h1 : ∀ x, (f x).length ≤ 1) (hz : its.length ≤ sizeLine) (hgo : ∀ i H, i < its.length → Same H1 H → J.go i H) (hst : ∀ H, Same H1 H → J.stop its.length H)
    (hy : ∀ i H x H', i < its.length → Same H1 H → J.yld i H x H' → Same H H' ∧ ∃ a, its[i]? = some a ∧ Y i a x H')
    (hs : ∀ (i : Nat) a x l H', its[i]? = some a → Y i a x H' → l.length < sizeLine → Acc H1 D l H' → g x (wipe σ vs) H' fun σ2 H2 => wipe σ2 vs = wipe σ vs ∧ tt σ2 H2 fun b H3 =>
    if b = true then te σ2 H3 fun y H4 => ∃ acc, H4 D = some (.lst acc) ∧ acc.length < sizeLine ∧ Acc H1 D (l ++ f a) (upd H4 D (.lst (acc ++ [y]))) else Acc H1 D (l ++ f a) H3)
    (hd : ∀ H, Acc H1 D (its.flatMap f) H → Qd H) :
    ∃ W : Nat → Nat → Hp → Prop, (∃ m, W 0 m (upd H1 D (.lst []))) ∧ ∀ i m H, W i m H →
      ((J).stop i H ∧ Qd H) ∨ ((J).go i H ∧ ∃ Nx : Hp → Prop, (∀ H', Nx H' → ∃ m', m' < m ∧ W (i + 1) m' H') ∧ ∀ x H', (J).yld i H x H' → g x (wipe σ vs) H' fun σ2 H2 => wipe σ2 vs = wipe σ vs ∧ tt σ2 H2 fun b H3 =>
        if b = true then te σ2 H3 fun y H4 => ∃ acc, H4 D = some (.lst acc) ∧ acc.length < sizeLine ∧ Nx (upd H4 D (.lst (acc ++ [y]))) else Nx H3) := by
  refine lcS_gen (n := its.length) (Y := fun i x H' => ∃ a, its[i]? = some a ∧ Y i a x H') (res := rs its f) hD hgo hst hy (fun i x H' hi ⟨a, ha, y⟩ p => ?_) (fun H p => hd H (by rw [← rs_all]; exact p))
  rw [rs_at ha]
  exact hs i a x _ H' ha y (Nat.lt_of_le_of_lt (rs_len h1 i) (by omega)) p
/-- over a list -/
theorem lc_lst {f : V → List V} (hD : H1 D = none) (h1 : ∀ x, (f x).length ≤ 1) (hz : xs.length ≤ sizeLine) (hl : SqL K H1 a xs)
    (hs : ∀ (i : Nat) x l H', xs[i]? = some x → l.length < sizeLine → Acc H1 D l H' → g x (wipe σ vs) H' fun σ2 H2 => wipe σ2 vs = wipe σ vs ∧ tt σ2 H2 fun b H3 =>
    if b = true then te σ2 H3 fun y H4 => ∃ acc, H4 D = some (.lst acc) ∧ acc.length < sizeLine ∧ Acc H1 D (l ++ f x) (upd H4 D (.lst (acc ++ [y]))) else Acc H1 D (l ++ f x) H3)
    (hd : ∀ H, Acc H1 D (xs.flatMap f) H → Qd H) :
    ∃ W : Nat → Nat → Hp → Prop, (∃ m, W 0 m (upd H1 D (.lst []))) ∧ ∀ i m H, W i m H →
      ((Itl K a).stop i H ∧ Qd H) ∨ ((Itl K a).go i H ∧ ∃ Nx : Hp → Prop, (∀ H', Nx H' → ∃ m', m' < m ∧ W (i + 1) m' H') ∧ ∀ x H', (Itl K a).yld i H x H' → g x (wipe σ vs) H' fun σ2 H2 => wipe σ2 vs = wipe σ vs ∧ tt σ2 H2 fun b H3 =>
        if b = true then te σ2 H3 fun y H4 => ∃ acc, H4 D = some (.lst acc) ∧ acc.length < sizeLine ∧ Nx (upd H4 D (.lst (acc ++ [y]))) else Nx H3) :=
  lc_items (its := xs) (Y := fun i x v _ => v = x) hD h1 hz (fun i H hi e => ⟨xs, xs[i], e.seq hl, List.getElem?_eq_getElem hi⟩) (fun H e => ⟨xs, e.seq hl, Nat.le_refl _⟩) (fun i H x H' hi e ⟨q1, q2⟩ => ⟨q1 ▸ Same.refl _, x, q2 xs (e.seq hl), rfl⟩) (fun i x v l H' hi y hl p => y ▸ hs i x l H' hi hl p) hd
/-- over a tuple -/
theorem lc_tpl {f : V → List V} (hD : H1 D = none) (h1 : ∀ x, (f x).length ≤ 1) (hz : xs.length ≤ sizeLine) (hl : SqT K H1 a xs)
    (hs : ∀ (i : Nat) x l H', xs[i]? = some x → l.length < sizeLine → Acc H1 D l H' → g x (wipe σ vs) H' fun σ2 H2 => wipe σ2 vs = wipe σ vs ∧ tt σ2 H2 fun b H3 =>
    if b = true then te σ2 H3 fun y H4 => ∃ acc, H4 D = some (.lst acc) ∧ acc.length < sizeLine ∧ Acc H1 D (l ++ f x) (upd H4 D (.lst (acc ++ [y]))) else Acc H1 D (l ++ f x) H3)
    (hd : ∀ H, Acc H1 D (xs.flatMap f) H → Qd H) :
    ∃ W : Nat → Nat → Hp → Prop, (∃ m, W 0 m (upd H1 D (.lst []))) ∧ ∀ i m H, W i m H →
      ((Itt K a).stop i H ∧ Qd H) ∨ ((Itt K a).go i H ∧ ∃ Nx : Hp → Prop, (∀ H', Nx H' → ∃ m', m' < m ∧ W (i + 1) m' H') ∧ ∀ x H', (Itt K a).yld i H x H' → g x (wipe σ vs) H' fun σ2 H2 => wipe σ2 vs = wipe σ vs ∧ tt σ2 H2 fun b H3 =>
        if b = true then te σ2 H3 fun y H4 => ∃ acc, H4 D = some (.lst acc) ∧ acc.length < sizeLine ∧ Nx (upd H4 D (.lst (acc ++ [y]))) else Nx H3) :=
  lc_items (its := xs) (Y := fun i x v _ => v = x) hD h1 hz (fun i H hi e => ⟨xs, xs[i], same_sqT e hl, List.getElem?_eq_getElem hi⟩) (fun H e => ⟨xs, same_sqT e hl, Nat.le_refl _⟩) (fun i H x H' hi e ⟨q1, q2⟩ => ⟨q1 ▸ Same.refl _, x, q2 xs (same_sqT e hl), rfl⟩) (fun i x v l H' hi y hl p => y ▸ hs i x l H' hi hl p) hd
/-- over a text -/
theorem lc_str {z : Str} {f : Nat → List V} (hD : H1 D = none) (h1 : ∀ x, (f x).length ≤ 1) (hz : z.cps.toList.length ≤ sizeLine) 
    (hs : ∀ (i : Nat) c l H', z.cps.toList[i]? = some c → l.length < sizeLine → Acc H1 D l H' → g (.str ⟨#[c]⟩) (wipe σ vs) H' fun σ2 H2 => wipe σ2 vs = wipe σ vs ∧ tt σ2 H2 fun b H3 =>
    if b = true then te σ2 H3 fun y H4 => ∃ acc, H4 D = some (.lst acc) ∧ acc.length < sizeLine ∧ Acc H1 D (l ++ f c) (upd H4 D (.lst (acc ++ [y]))) else Acc H1 D (l ++ f c) H3)
    (hd : ∀ H, Acc H1 D (z.cps.toList.flatMap f) H → Qd H) :
    ∃ W : Nat → Nat → Hp → Prop, (∃ m, W 0 m (upd H1 D (.lst []))) ∧ ∀ i m H, W i m H →
      ((Its z).stop i H ∧ Qd H) ∨ ((Its z).go i H ∧ ∃ Nx : Hp → Prop, (∀ H', Nx H' → ∃ m', m' < m ∧ W (i + 1) m' H') ∧ ∀ x H', (Its z).yld i H x H' → g x (wipe σ vs) H' fun σ2 H2 => wipe σ2 vs = wipe σ vs ∧ tt σ2 H2 fun b H3 =>
        if b = true then te σ2 H3 fun y H4 => ∃ acc, H4 D = some (.lst acc) ∧ acc.length < sizeLine ∧ Nx (upd H4 D (.lst (acc ++ [y]))) else Nx H3) :=
  lc_items (its := z.cps.toList) (Y := fun i c v _ => v = .str ⟨#[c]⟩) hD h1 hz (fun i H hi e => by show i < z.cps.size; simpa using hi) (fun H e => by show z.cps.size ≤ _; simp) (fun i H x H' hi e ⟨q1, c, q2, q3⟩ => ⟨q1 ▸ Same.refl _, c, by rw [Array.getElem?_toList]; exact q2, q3⟩) (fun i c v l H' hi y hl p => y ▸ hs i c l H' hi hl p) hd
/-- over the values of a locked dict -/
theorem lc_vals {o : Obj} {kvs : List (Key × V)} {f : (Key × V) → List V} (hD : H1 D = none) (h1 : ∀ x, (f x).length ≤ 1) (hz : kvs.length ≤ sizeLine) (hl : H1 a = some (.frz o (.dK kvs)))
    (hs : ∀ (i : Nat) q l H', kvs[i]? = some q → l.length < sizeLine → Acc H1 D l H' → g q.2 (wipe σ vs) H' fun σ2 H2 => wipe σ2 vs = wipe σ vs ∧ tt σ2 H2 fun b H3 =>
    if b = true then te σ2 H3 fun y H4 => ∃ acc, H4 D = some (.lst acc) ∧ acc.length < sizeLine ∧ Acc H1 D (l ++ f q) (upd H4 D (.lst (acc ++ [y]))) else Acc H1 D (l ++ f q) H3)
    (hd : ∀ H, Acc H1 D (kvs.flatMap f) H → Qd H) :
    ∃ W : Nat → Nat → Hp → Prop, (∃ m, W 0 m (upd H1 D (.lst []))) ∧ ∀ i m H, W i m H →
      ((Itd a o kvs).stop i H ∧ Qd H) ∨ ((Itd a o kvs).go i H ∧ ∃ Nx : Hp → Prop, (∀ H', Nx H' → ∃ m', m' < m ∧ W (i + 1) m' H') ∧ ∀ x H', (Itd a o kvs).yld i H x H' → g x (wipe σ vs) H' fun σ2 H2 => wipe σ2 vs = wipe σ vs ∧ tt σ2 H2 fun b H3 =>
        if b = true then te σ2 H3 fun y H4 => ∃ acc, H4 D = some (.lst acc) ∧ acc.length < sizeLine ∧ Nx (upd H4 D (.lst (acc ++ [y]))) else Nx H3) :=
  lc_items (its := kvs) (Y := fun i q v _ => v = q.2) hD h1 hz (fun i H hi e => ⟨e _ _ hl, hi⟩) (fun H e => ⟨e _ _ hl, Nat.le_refl _⟩) (fun i H x H' hi e ⟨q1, k, q2⟩ => ⟨q1 ▸ Same.refl _, (k, x), q2, rfl⟩) (fun i q v l H' hi y hl p => y ▸ hs i q l H' hi hl p) hd
/-- over the pairs of a locked dict -/
theorem lc_itms {o : Obj} {kvs : List (Key × V)} {f : (Key × V) → List V} (hD : H1 D = none) (h1 : ∀ x, (f x).length ≤ 1) (hz : kvs.length ≤ sizeLine) (hl : H1 a = some (.frz o (.dK kvs)))
    (hs : ∀ (i : Nat) q T l H', kvs[i]? = some q → H' T = some (.tup [kV q.1, q.2]) → l.length < sizeLine → Acc H1 D l H' → g (.ref T) (wipe σ vs) H' fun σ2 H2 => wipe σ2 vs = wipe σ vs ∧ tt σ2 H2 fun b H3 =>
    if b = true then te σ2 H3 fun y H4 => ∃ acc, H4 D = some (.lst acc) ∧ acc.length < sizeLine ∧ Acc H1 D (l ++ f q) (upd H4 D (.lst (acc ++ [y]))) else Acc H1 D (l ++ f q) H3)
    (hd : ∀ H, Acc H1 D (kvs.flatMap f) H → Qd H) :
    ∃ W : Nat → Nat → Hp → Prop, (∃ m, W 0 m (upd H1 D (.lst []))) ∧ ∀ i m H, W i m H →
      ((Iti a o kvs).stop i H ∧ Qd H) ∨ ((Iti a o kvs).go i H ∧ ∃ Nx : Hp → Prop, (∀ H', Nx H' → ∃ m', m' < m ∧ W (i + 1) m' H') ∧ ∀ x H', (Iti a o kvs).yld i H x H' → g x (wipe σ vs) H' fun σ2 H2 => wipe σ2 vs = wipe σ vs ∧ tt σ2 H2 fun b H3 =>
        if b = true then te σ2 H3 fun y H4 => ∃ acc, H4 D = some (.lst acc) ∧ acc.length < sizeLine ∧ Nx (upd H4 D (.lst (acc ++ [y]))) else Nx H3) :=
  lc_items (its := kvs) (Y := fun i q v H' => ∃ T, v = .ref T ∧ H' T = some (.tup [kV q.1, q.2])) hD h1 hz (fun i H hi e => ⟨e _ _ hl, hi⟩) (fun H e => ⟨e _ _ hl, Nat.le_refl _⟩) (fun i H x H' hi e ⟨T, k, v, q1, q2, q3, q4⟩ => ⟨q4 ▸ same_new q3, (k, v), q1, T, q2, by rw [q4]; exact upd_same⟩) (fun i q v l H' hi ⟨T, y, hT⟩ hl p => y ▸ hs i q T l H' hi hT hl p) hd
/-- over enumerate of a list -/
theorem lc_enum {f : (V × Nat) → List V} (hD : H1 D = none) (h1 : ∀ x, (f x).length ≤ 1) (hz : xs.zipIdx.length ≤ sizeLine) (hl : SqL K H1 a xs)
    (hs : ∀ (i : Nat) q T l H', xs.zipIdx[i]? = some q → H' T = some (.tup [.int (q.2 : Nat), q.1]) → l.length < sizeLine → Acc H1 D l H' → g (.ref T) (wipe σ vs) H' fun σ2 H2 => wipe σ2 vs = wipe σ vs ∧ tt σ2 H2 fun b H3 =>
    if b = true then te σ2 H3 fun y H4 => ∃ acc, H4 D = some (.lst acc) ∧ acc.length < sizeLine ∧ Acc H1 D (l ++ f q) (upd H4 D (.lst (acc ++ [y]))) else Acc H1 D (l ++ f q) H3)
    (hd : ∀ H, Acc H1 D (xs.zipIdx.flatMap f) H → Qd H) :
    ∃ W : Nat → Nat → Hp → Prop, (∃ m, W 0 m (upd H1 D (.lst []))) ∧ ∀ i m H, W i m H →
      ((Ite K a).stop i H ∧ Qd H) ∨ ((Ite K a).go i H ∧ ∃ Nx : Hp → Prop, (∀ H', Nx H' → ∃ m', m' < m ∧ W (i + 1) m' H') ∧ ∀ x H', (Ite K a).yld i H x H' → g x (wipe σ vs) H' fun σ2 H2 => wipe σ2 vs = wipe σ vs ∧ tt σ2 H2 fun b H3 =>
        if b = true then te σ2 H3 fun y H4 => ∃ acc, H4 D = some (.lst acc) ∧ acc.length < sizeLine ∧ Nx (upd H4 D (.lst (acc ++ [y]))) else Nx H3) :=
  lc_items (its := xs.zipIdx) (Y := fun i q v H' => ∃ T, v = .ref T ∧ H' T = some (.tup [.int (q.2 : Nat), q.1])) hD h1 hz (fun i H hi e => ⟨xs, xs[i]'(by simpa using hi), e.seq hl, List.getElem?_eq_getElem _⟩) (fun H e => ⟨xs, e.seq hl, by simp⟩) (fun i H x H' hi e ⟨T, y, q1, q2, q3, q4⟩ => ⟨q3 ▸ same_new q2, (y, i), by rw [List.getElem?_zipIdx, q4 xs (e.seq hl)]; simp, T, q1, by rw [q3]; exact upd_same⟩) (fun i q v l H' hi ⟨T, y, hT⟩ hl p => y ▸ hs i q T l H' hi hT hl p) hd
/-- over enumerate of a tuple -/
theorem lc_enumT {f : (V × Nat) → List V} (hD : H1 D = none) (h1 : ∀ x, (f x).length ≤ 1) (hz : xs.zipIdx.length ≤ sizeLine) (hl : SqT K H1 a xs)
    (hs : ∀ (i : Nat) q T l H', xs.zipIdx[i]? = some q → H' T = some (.tup [.int (q.2 : Nat), q.1]) → l.length < sizeLine → Acc H1 D l H' → g (.ref T) (wipe σ vs) H' fun σ2 H2 => wipe σ2 vs = wipe σ vs ∧ tt σ2 H2 fun b H3 =>
    if b = true then te σ2 H3 fun y H4 => ∃ acc, H4 D = some (.lst acc) ∧ acc.length < sizeLine ∧ Acc H1 D (l ++ f q) (upd H4 D (.lst (acc ++ [y]))) else Acc H1 D (l ++ f q) H3)
    (hd : ∀ H, Acc H1 D (xs.zipIdx.flatMap f) H → Qd H) :
    ∃ W : Nat → Nat → Hp → Prop, (∃ m, W 0 m (upd H1 D (.lst []))) ∧ ∀ i m H, W i m H →
      ((IteT K a).stop i H ∧ Qd H) ∨ ((IteT K a).go i H ∧ ∃ Nx : Hp → Prop, (∀ H', Nx H' → ∃ m', m' < m ∧ W (i + 1) m' H') ∧ ∀ x H', (IteT K a).yld i H x H' → g x (wipe σ vs) H' fun σ2 H2 => wipe σ2 vs = wipe σ vs ∧ tt σ2 H2 fun b H3 =>
        if b = true then te σ2 H3 fun y H4 => ∃ acc, H4 D = some (.lst acc) ∧ acc.length < sizeLine ∧ Nx (upd H4 D (.lst (acc ++ [y]))) else Nx H3) :=
  lc_items (its := xs.zipIdx) (Y := fun i q v H' => ∃ T, v = .ref T ∧ H' T = some (.tup [.int (q.2 : Nat), q.1])) hD h1 hz (fun i H hi e => ⟨xs, xs[i]'(by simpa using hi), same_sqT e hl, List.getElem?_eq_getElem _⟩) (fun H e => ⟨xs, same_sqT e hl, by simp⟩) (fun i H x H' hi e ⟨T, y, q1, q2, q3, q4⟩ => ⟨q3 ▸ same_new q2, (y, i), by rw [List.getElem?_zipIdx, q4 xs (same_sqT e hl)]; simp, T, q1, by rw [q3]; exact upd_same⟩) (fun i q v l H' hi ⟨T, y, hT⟩ hl p => y ▸ hs i q T l H' hi hT hl p) hd
/-- over zip of two lists -/
theorem lc_zipl {b : Addr} {ys : List V} {f : (V × V) → List V} (hD : H1 D = none) (h1 : ∀ x, (f x).length ≤ 1) (hz : (xs.zip ys).length ≤ sizeLine) (hl : SqL K H1 a xs) (hl2 : SqL K H1 b ys)
    (hs : ∀ (i : Nat) q T l H', (xs.zip ys)[i]? = some q → H' T = some (.tup [q.1, q.2]) → l.length < sizeLine → Acc H1 D l H' → g (.ref T) (wipe σ vs) H' fun σ2 H2 => wipe σ2 vs = wipe σ vs ∧ tt σ2 H2 fun b H3 =>
    if b = true then te σ2 H3 fun y H4 => ∃ acc, H4 D = some (.lst acc) ∧ acc.length < sizeLine ∧ Acc H1 D (l ++ f q) (upd H4 D (.lst (acc ++ [y]))) else Acc H1 D (l ++ f q) H3)
    (hd : ∀ H, Acc H1 D ((xs.zip ys).flatMap f) H → Qd H) :
    ∃ W : Nat → Nat → Hp → Prop, (∃ m, W 0 m (upd H1 D (.lst []))) ∧ ∀ i m H, W i m H →
      ((Itz K a b).stop i H ∧ Qd H) ∨ ((Itz K a b).go i H ∧ ∃ Nx : Hp → Prop, (∀ H', Nx H' → ∃ m', m' < m ∧ W (i + 1) m' H') ∧ ∀ x H', (Itz K a b).yld i H x H' → g x (wipe σ vs) H' fun σ2 H2 => wipe σ2 vs = wipe σ vs ∧ tt σ2 H2 fun b H3 =>
        if b = true then te σ2 H3 fun y H4 => ∃ acc, H4 D = some (.lst acc) ∧ acc.length < sizeLine ∧ Nx (upd H4 D (.lst (acc ++ [y]))) else Nx H3) :=
  lc_items (its := (xs.zip ys)) (Y := fun i q v H' => ∃ T, v = .ref T ∧ H' T = some (.tup [q.1, q.2])) hD h1 hz (fun i H hi e => by rw [List.length_zip] at hi; exact ⟨xs, ys, xs[i]'(by omega), ys[i]'(by omega), e.seq hl, e.seq hl2, List.getElem?_eq_getElem _, List.getElem?_eq_getElem _⟩) (fun H e => ⟨xs, ys, e.seq hl, e.seq hl2, by rw [List.length_zip]; omega⟩) (fun i H v H' hi e ⟨T, x, y, q1, q2, q3, q4, q5⟩ => ⟨q3 ▸ same_new q2, (x, y), List.getElem?_zip_eq_some.mpr ⟨q4 xs (e.seq hl), q5 ys (e.seq hl2)⟩, T, q1, by rw [q3]; exact upd_same⟩) (fun i q v l H' hi ⟨T, y, hT⟩ hl p => y ▸ hs i q T l H' hi hT hl p) hd
/-- over zip of two tuples -/
theorem lc_zipt {b : Addr} {ys : List V} {f : (V × V) → List V} (hD : H1 D = none) (h1 : ∀ x, (f x).length ≤ 1) (hz : (xs.zip ys).length ≤ sizeLine) (hl : SqT K H1 a xs) (hl2 : SqT K H1 b ys)
    (hs : ∀ (i : Nat) q T l H', (xs.zip ys)[i]? = some q → H' T = some (.tup [q.1, q.2]) → l.length < sizeLine → Acc H1 D l H' → g (.ref T) (wipe σ vs) H' fun σ2 H2 => wipe σ2 vs = wipe σ vs ∧ tt σ2 H2 fun b H3 =>
    if b = true then te σ2 H3 fun y H4 => ∃ acc, H4 D = some (.lst acc) ∧ acc.length < sizeLine ∧ Acc H1 D (l ++ f q) (upd H4 D (.lst (acc ++ [y]))) else Acc H1 D (l ++ f q) H3)
    (hd : ∀ H, Acc H1 D ((xs.zip ys).flatMap f) H → Qd H) :
    ∃ W : Nat → Nat → Hp → Prop, (∃ m, W 0 m (upd H1 D (.lst []))) ∧ ∀ i m H, W i m H →
      ((RZ.ItzT K a b).stop i H ∧ Qd H) ∨ ((RZ.ItzT K a b).go i H ∧ ∃ Nx : Hp → Prop, (∀ H', Nx H' → ∃ m', m' < m ∧ W (i + 1) m' H') ∧ ∀ x H', (RZ.ItzT K a b).yld i H x H' → g x (wipe σ vs) H' fun σ2 H2 => wipe σ2 vs = wipe σ vs ∧ tt σ2 H2 fun b H3 =>
        if b = true then te σ2 H3 fun y H4 => ∃ acc, H4 D = some (.lst acc) ∧ acc.length < sizeLine ∧ Nx (upd H4 D (.lst (acc ++ [y]))) else Nx H3) :=
  lc_items (its := (xs.zip ys)) (Y := fun i q v H' => ∃ T, v = .ref T ∧ H' T = some (.tup [q.1, q.2])) hD h1 hz (fun i H hi e => by rw [List.length_zip] at hi; exact ⟨xs, ys, xs[i]'(by omega), ys[i]'(by omega), same_sqT e hl, same_sqT e hl2, List.getElem?_eq_getElem _, List.getElem?_eq_getElem _⟩) (fun H e => ⟨xs, ys, same_sqT e hl, same_sqT e hl2, by rw [List.length_zip]; omega⟩) (fun i H v H' hi e ⟨T, x, y, q1, q2, q3, q4, q5⟩ => ⟨q3 ▸ same_new q2, (x, y), List.getElem?_zip_eq_some.mpr ⟨q4 xs (same_sqT e hl), q5 ys (same_sqT e hl2)⟩, T, q1, by rw [q3]; exact upd_same⟩) (fun i q v l H' hi ⟨T, y, hT⟩ hl p => y ▸ hs i q T l H' hi hT hl p) hd
theorem fm1 {α β : Type} {f : α → β} : ∀ (l : List α), (l.flatMap fun x => [f x]) = l.map f
  | [] => rfl
  | x :: r => by rw [List.flatMap_cons, fm1 r]; rfl
end
/-- all items kept, each changed -/
theorem Acc.map {α : Type} {K : PySem.W.Frag} {H0 H : Hp} {D : Addr} {its : List α} {f : α → V} (p : Acc H0 D (its.flatMap fun x => [f x]) H) : SqL K H D (its.map f) := SqL.of (by rw [p.at_, fm1])
theorem Acc.bls {α : Type} {K : PySem.W.Frag} {H0 H : Hp} {D : Addr} {its : List α} {f : α → Bool} (p : Acc H0 D (its.flatMap fun x => [.bl (f x)]) H) : SqL K H D ((its.map f).map V.bl) := SqL.of (by rw [p.at_, fm1, List.map_map]; rfl)
theorem all_map {α : Type} (l : List α) (f : α → Bool) : (l.map f).all id = l.all f := by rw [List.all_map]; rfl
theorem any_map {α : Type} (l : List α) (f : α → Bool) : (l.map f).any id = l.any f := by rw [List.any_map]; rfl
end RX
end
section
set_option maxHeartbeats 4000000
/-! within an except suite: a comprehension over a text, all() of a list -/
namespace HotQ
open PySem PySem.Spec PyProof.Rows L2 HotX L2H
abbrev St := L2.St
section
variable {prog : Program} {w : World} {A : Around} {E : Value → Shared → Prop} {s : Shared}
theorem list_end_hot {it l x1 : Addr} {i : Nat} {items} {Q : Option Value → Shared → Prop} (hot : HotAt A x1 s.heap) (hne : x1 ≠ it)
    (hit : s.heap.IsListIter it l i) (hl : s.heap.IsList l items) (hx : items[i]? = none)
    (hQ : ∀ h', Heap.ExtBut it s.heap h' → Q none { s with heap := h' }) : wpAny (model prog w) A (pyNext (.ref it)) Q E s := by
  obtain ⟨hh, o1, vs1, h1, d1, c1⟩ := hot
  obtain ⟨o, ho, hc, hd⟩ := id hit
  obtain ⟨ol, hol, _, nl, hdl⟩ := hl
  unfold pyNext
  refine wpAny_bind (wpAny_attempt (wpAny_callSpecial?_slot (name := Str.ofString "__next__") hit.typeIs slot_listiter_next
    (wpAny_call_entry slot_listiter_next hit.typeIs entry_listiter_next ?_ (args_listiter_next _))))
  show wpAny _ _ (field (.ref it) 0 >>= _) _ _ s
  refine wpAny_bind (wpAny_field ho hd (x := .ref l) rfl ?_)
  show wpAny _ _ (if (Value.ref l == Value.none) = true then _ else _) _ _ s
  rw [if_neg (show ¬ ((Value.ref l == Value.none) = true) from Bool.false_ne_true)]
  show wpAny _ _ (field (.ref it) 1 >>= _) _ _ s
  refine wpAny_bind (wpAny_field ho hd (x := .int i 0) rfl ?_)
  show wpAny _ _ (seqItems? (.ref l) >>= _) _ _ s
  refine wpAny_bind (wpAny_seqItems hol hdl ?_)
  simp only [Int.toNat_natCast, hx]
  refine wpAny_bind (wpAny_rule (wpAny_bind (wpAny_setField ho hd (by simp) ?_)))
  show wpAny _ _ (newExc (.type "StopIteration") [] >>= _) _ _ _
  refine wpAny_bind ?_
  simp only [newExc, newTuple]
  refine wpAny_bind (wpAny_newObj_type ?_ (by size_fits))
  refine wpAny_bind (m := firstArgMember _ _) (wpAny_of_eq (a := Value.none) (by first | rfl | (simp only [firstArgMember]; rfl)) ?_)
  refine wpAny_newObj_type ?_ (by size_fits)
  refine raiseNew_hot (x1 := x1) ⟨hh, o1, vs1, Heap.get?_push_of_some _ (Heap.get?_push_of_some _ ((Heap.SameBut.update ..).extBut x1 o1 hne h1)), d1, c1⟩ (Nat.ne_of_lt (Heap.lt_size (Heap.get?_push_of_some _ ((Heap.SameBut.update ..).extBut x1 o1 hne h1)))) (Heap.get?_push_size _ rfl) rfl (by first | (simp; done) | (simp; omega) | (simp only [Array.size_append]; simp; omega)) ?_
  refine wpAny_bind (wpAny_isInstance (T := "StopIteration") (b := true) ⟨_, Heap.get?_update_self _ (Heap.get?_push_size _ rfl) rfl, rfl⟩ isSubtype_stop ?_)
  refine wpAny_pure (hQ _ fun b o hb e => ?_)
  rw [Heap.get?_update_other _ _ (Nat.ne_of_gt (Heap.lt_size (Heap.get?_push_of_some _ ((Heap.SameBut.update ..).extBut b o hb e))))]
  exact Heap.get?_push_of_some _ (Heap.get?_push_of_some _ ((Heap.SameBut.update ..).extBut b o hb e))
theorem ascii_end_hot {it x1 : Addr} {x : Str} {t : Tok} {i : Nat} {Q : Option Value → Shared → Prop} (hot : HotAt A x1 s.heap) (hne : x1 ≠ it)
    (hit : s.heap.IsStrIter it "str_ascii_iterator" x t i) (hx : x.cps[i]? = none)
    (hQ : ∀ h', Heap.ExtBut it s.heap h' → Q none { s with heap := h' }) : wpAny (model prog w) A (pyNext (.ref it)) Q E s := by
  obtain ⟨hh, o1, vs1, h1, d1, c1⟩ := hot
  obtain ⟨o, ho, hc, hd⟩ := id hit
  unfold pyNext
  refine wpAny_bind (wpAny_attempt (wpAny_callSpecial?_slot (name := Str.ofString "__next__") hit.typeIs F.slot_str_ascii_iterator_next
    (wpAny_call_entry F.slot_str_ascii_iterator_next hit.typeIs F.entry_str_ascii_iterator_next ?_ (F.args_str_ascii_iterator_next_1 _))))
  show wpAny _ _ (field (.ref it) 0 >>= _) _ _ s
  refine wpAny_bind (wpAny_field ho hd (x := .str x t) rfl ?_)
  show wpAny _ _ (field (.ref it) 1 >>= _) _ _ s
  refine wpAny_bind (wpAny_field ho hd (x := .int i 0) rfl ?_)
  simp only [Int.toNat_natCast, hx]
  refine wpAny_bind (wpAny_rule (wpAny_bind (wpAny_setField ho hd (by simp) (wpAny_bind (wpAny_letGo ?_)))))
  show wpAny _ _ (newExc (.type "StopIteration") [] >>= _) _ _ _
  refine wpAny_bind ?_
  simp only [newExc, newTuple]
  refine wpAny_bind (wpAny_newObj_type ?_ (by size_fits))
  refine wpAny_bind (m := firstArgMember _ _) (wpAny_of_eq (a := Value.none) (by first | rfl | (simp only [firstArgMember]; rfl)) ?_)
  refine wpAny_newObj_type ?_ (by size_fits)
  refine raiseNew_hot (x1 := x1) ⟨hh, o1, vs1, Heap.get?_push_of_some _ (Heap.get?_push_of_some _ ((Heap.SameBut.update ..).extBut x1 o1 hne h1)), d1, c1⟩ (Nat.ne_of_lt (Heap.lt_size (Heap.get?_push_of_some _ ((Heap.SameBut.update ..).extBut x1 o1 hne h1)))) (Heap.get?_push_size _ rfl) rfl (by first | (simp; done) | (simp; omega) | (simp only [Array.size_append]; simp; omega)) ?_
  refine wpAny_bind (wpAny_isInstance (T := "StopIteration") (b := true) ⟨_, Heap.get?_update_self _ (Heap.get?_push_size _ rfl) rfl, rfl⟩ isSubtype_stop ?_)
  refine wpAny_pure (hQ _ fun b o hb e => ?_)
  rw [Heap.get?_update_other _ _ (Nat.ne_of_gt (Heap.lt_size (Heap.get?_push_of_some _ ((Heap.SameBut.update ..).extBut b o hb e))))]
  exact Heap.get?_push_of_some _ (Heap.get?_push_of_some _ ((Heap.SameBut.update ..).extBut b o hb e))
theorem wide_end_hot {it x1 : Addr} {x : Str} {t : Tok} {i : Nat} {Q : Option Value → Shared → Prop} (hot : HotAt A x1 s.heap) (hne : x1 ≠ it)
    (hit : s.heap.IsStrIter it "str_iterator" x t i) (hx : x.cps[i]? = none)
    (hQ : ∀ h', Heap.ExtBut it s.heap h' → Q none { s with heap := h' }) : wpAny (model prog w) A (pyNext (.ref it)) Q E s := by
  obtain ⟨hh, o1, vs1, h1, d1, c1⟩ := hot
  obtain ⟨o, ho, hc, hd⟩ := id hit
  unfold pyNext
  refine wpAny_bind (wpAny_attempt (wpAny_callSpecial?_slot (name := Str.ofString "__next__") hit.typeIs F.slot_str_iterator_next
    (wpAny_call_entry F.slot_str_iterator_next hit.typeIs F.entry_str_iterator_next ?_ (F.args_str_iterator_next_1 _))))
  show wpAny _ _ (field (.ref it) 0 >>= _) _ _ s
  refine wpAny_bind (wpAny_field ho hd (x := .str x t) rfl ?_)
  show wpAny _ _ (field (.ref it) 1 >>= _) _ _ s
  refine wpAny_bind (wpAny_field ho hd (x := .int i 0) rfl ?_)
  simp only [Int.toNat_natCast, hx]
  refine wpAny_bind (wpAny_rule (wpAny_bind (wpAny_setField ho hd (by simp) (wpAny_bind (wpAny_letGo ?_)))))
  show wpAny _ _ (newExc (.type "StopIteration") [] >>= _) _ _ _
  refine wpAny_bind ?_
  simp only [newExc, newTuple]
  refine wpAny_bind (wpAny_newObj_type ?_ (by size_fits))
  refine wpAny_bind (m := firstArgMember _ _) (wpAny_of_eq (a := Value.none) (by first | rfl | (simp only [firstArgMember]; rfl)) ?_)
  refine wpAny_newObj_type ?_ (by size_fits)
  refine raiseNew_hot (x1 := x1) ⟨hh, o1, vs1, Heap.get?_push_of_some _ (Heap.get?_push_of_some _ ((Heap.SameBut.update ..).extBut x1 o1 hne h1)), d1, c1⟩ (Nat.ne_of_lt (Heap.lt_size (Heap.get?_push_of_some _ ((Heap.SameBut.update ..).extBut x1 o1 hne h1)))) (Heap.get?_push_size _ rfl) rfl (by first | (simp; done) | (simp; omega) | (simp only [Array.size_append]; simp; omega)) ?_
  refine wpAny_bind (wpAny_isInstance (T := "StopIteration") (b := true) ⟨_, Heap.get?_update_self _ (Heap.get?_push_size _ rfl) rfl, rfl⟩ isSubtype_stop ?_)
  refine wpAny_pure (hQ _ fun b o hb e => ?_)
  rw [Heap.get?_update_other _ _ (Nat.ne_of_gt (Heap.lt_size (Heap.get?_push_of_some _ ((Heap.SameBut.update ..).extBut b o hb e))))]
  exact Heap.get?_push_of_some _ (Heap.get?_push_of_some _ ((Heap.SameBut.update ..).extBut b o hb e))
end
/-! ### an iterator within an except suite -/
structure TurnQ (P : Program) (w : World) (K : PySem.W.Frag) (tg : Expr) (J : It) (fp : List Addr) (it : Addr) (tn : Nat → Heap → Prop) : Prop where
  mem : it ∈ fp
  obj : ∀ i h, tn i h → ∀ b ∈ fp, ∃ o, h.get? b = some o ∧ ∀ v, o.data ≠ .cell v
  keep : ∀ i h h', tn i h → (∀ b ∈ fp, ∀ o, h.get? b = some o → h'.get? b = some o) → tn i h'
  item : ∀ (X : Cx), X.prog = P → X.w = w → X.K = K → ∀ (i : Nat) (pins : List (Addr × Obj)) (s : Shared) (σ : St) (H : Hp) (E : Value → Shared → Prop), Inv X pins σ H s → (∀ b ∈ fp, FpOk X pins H b) → tn i s.heap → J.go i H →
    wpAny (model P w) X.A (pyNext (.ref it)) (fun r s1 => ∃ u, r = some u ∧
      wpAny (model P w) X.A (letOwnedTupleGo tg (.ref it) u) (fun _ s2 => ∃ x H', Inv X pins σ H' s2 ∧ RelV x u ∧ J.yld i H x H' ∧ tn (i + 1) s2.heap ∧ ∀ b ∈ fp, H' b = none) E s1) E s
  done : ∀ (X : Cx), X.prog = P → X.w = w → X.K = K → ∀ (x1 : Addr) (s : Shared), HotAt X.A x1 s.heap → x1 ∉ fp → ∀ (i : Nat) (pins : List (Addr × Obj)) (σ : St) (H : Hp) (E : Value → Shared → Prop), Inv X pins σ H s → (∀ b ∈ fp, FpOk X pins H b) → tn i s.heap → J.stop i H →
    wpAny (model P w) X.A (pyNext (.ref it)) (fun r s1 => r = none ∧ Inv X pins σ H s1) E s
  self : ∀ (A : Around) (i : Nat) (s : Shared) (Q : Value → Shared → Prop) (E : Value → Shared → Prop), tn i s.heap → Q (.ref it) s → wpAny (model P w) A (pyIter (.ref it)) Q E s
theorem turn_strQ {P : Program} {w : World} {K : PySem.W.Frag} {tg : Expr} (it : Addr) (x : Str) (t : Tok) (ty : String) (hty : ty = "str_ascii_iterator" ∨ ty = "str_iterator") :
    TurnQ P w K tg (Its x) [it] it (fun i h => h.IsStrIter it ty x t i) where
  mem := by simp
  obj := fun i h st b hb => by
    have e : b = it := by simpa using hb
    subst e
    obtain ⟨o, e, c, d⟩ := st
    exact ⟨o, e, fun v z => by rw [d] at z; cases z⟩
  keep := fun i h h' st k => let ⟨o, ho, r⟩ := st; ⟨o, k it (by simp) o ho, r⟩
  item := by
    intro X hP hw hK i pins s σ H E I hf st hg
    subst hP hw hK
    obtain ⟨f0, f1, f2, f3, f4, f5⟩ := hf it (by simp)
    have hno : ["enumerate", "zip", "dict_itemiterator", "dict_reverseitemiterator", "odict_iterator", "itertools.zip_longest", "itertools.pairwise"].contains ty = false := by
      rcases hty with e | e
      · rw [e]; decide
      · rw [e]; decide
    have hx : x.cps[i]? = some x.cps[i] := Array.getElem?_eq_getElem hg
    have fin : ∀ h', h'.IsStrIter it ty x t (i + 1) → Heap.SameBut it s.heap h' → ∃ u, some (Value.str ⟨#[x.cps[i]]⟩ s.toks) = some u ∧
        wpAny (model X.prog X.w) X.A (letOwnedTupleGo tg (.ref it) u) (fun _ s2 => ∃ y H', Inv X pins σ H' s2 ∧ RelV y u ∧ (Its x).yld i H y H' ∧ s2.heap.IsStrIter it ty x t (i + 1) ∧ ∀ b ∈ [it], H' b = none) E { s with heap := h', toks := s.toks + 1 } := fun h' st' sb => by
      have I1 : Inv X pins σ H { s with heap := h', toks := s.toks + 1 } := I.turned (fun b o hb e => (sb.2 b hb).trans e) f0 f1 f3 f4 f5
      obtain ⟨oi, e, cc, dd⟩ := id st'
      exact ⟨_, rfl, go_of (s := { s with heap := h', toks := s.toks + 1 }) e cc dd hno ⟨.str ⟨#[x.cps[i]]⟩, H, I1, ⟨s.toks, rfl⟩, ⟨rfl, x.cps[i], hx, rfl⟩, st', fun b hb => (hf b hb).1⟩⟩
    rcases hty with e | e
    · subst e
      exact wpAny_pyNext_ascii_item st hx fin
    · subst e
      exact wpAny_pyNext_wide_item st hx fin
  done := by
    intro X hP hw hK x1 s hot hn i pins σ H E I hf st hg
    subst hP hw hK
    obtain ⟨f0, f1, f2, f3, f4, f5⟩ := hf it (by simp)
    have hx : x.cps[i]? = none := Array.getElem?_eq_none hg
    have hne : x1 ≠ it := fun z => hn (by simp [z])
    rcases hty with e | e
    · rw [e] at st
      exact ascii_end_hot hot hne st hx fun h' eb => ⟨rfl, I.turned (t' := s.toks) (fun b o hb e => eb b o hb e) f0 f1 f3 f4 f5⟩
    · rw [e] at st
      exact wide_end_hot hot hne st hx fun h' eb => ⟨rfl, I.turned (t' := s.toks) (fun b o hb e => eb b o hb e) f0 f1 f3 f4 f5⟩
  self := fun A i s Q E st h => by
    rcases hty with e | e
    · rw [e] at st; exact wpAny_pyIter_striter_ascii st h
    · rw [e] at st; exact wpAny_pyIter_striter_wide st h
def PIEQ (X : Cx) (pins : List (Addr × Obj)) (σ : St) (tg : Expr) (R : It → Hp → Prop) (itv : Value) (s2 : Shared) : Prop :=
  ∃ (it : Addr) (fp : List Addr) (tn : Nat → Heap → Prop) (J : It) (H' : Hp), itv = .ref it ∧ Inv X pins σ H' s2 ∧ TurnQ X.prog X.w X.K tg J fp it tn ∧ tn 0 s2.heap ∧ (∀ b ∈ fp, FpOk X pins H' b) ∧ R J H'
structure PIQ (X : Cx) (tg iter : Expr) (wi : TI) : Prop where
  run : ∀ (pins : List (Addr × Obj)) (s : Shared) (σ : St) (H : Hp) (R : It → Hp → Prop), Inv X pins σ H s → wi σ H R →
    wpAny (model X.prog X.w) X.A (eval iter X.env) (fun v s1 => wpAny (model X.prog X.w) X.A (pyIter v) (PIEQ X pins σ tg R) X.xe s1) X.xe s
theorem pi_oneQ {X : Cx} {tg : Expr} {pins : List (Addr × Obj)} {σ : St} {H : Hp} {s : Shared} {R : It → Hp → Prop} {J : It} {tn : Nat → Heap → Prop} {o : Obj} (I : Inv X pins σ H s) (T : TurnQ X.prog X.w X.K tg J [s.heap.objs.size] s.heap.objs.size tn) (st : tn 0 (s.heap.push o)) (q : R J H) :
    PIEQ X pins σ tg R (.ref s.heap.objs.size) { s with heap := s.heap.push o } := by
  refine ⟨s.heap.objs.size, [s.heap.objs.size], tn, J, H, rfl, I.kept (t' := s.toks) fun b ob e => Heap.get?_push_of_some _ e, T, st, fun b hb => ?_, q⟩
  have e : b = s.heap.objs.size := by simpa using hb
  rw [e]
  exact I.fpOk (Nat.le_refl _) (I.hok.fresh (Nat.le_refl _))
theorem pi_strQ {X : Cx} {tg e : Expr} {te : TE} (he : PE X e te) : PIQ X tg e (iStr te) := by
  refine ⟨fun pins s σ H R I h => ?_⟩
  refine thn (he.run pins s σ H _ I h) fun v s1 ⟨y, H1, I1, r1, x, ex, q⟩ => ?_
  subst ex
  obtain ⟨t, rfl⟩ := r1
  cases ha : x.cps.all (· < 128)
  · exact wpAny_pyIter_wide ha (pi_oneQ I1 (turn_strQ _ x t "str_iterator" (.inr rfl)) ⟨_, Heap.get?_push_size _ rfl, rfl, rfl⟩ q)
  · exact wpAny_pyIter_ascii ha (pi_oneQ I1 (turn_strQ _ x t "str_ascii_iterator" (.inl rfl)) ⟨_, Heap.get?_push_size _ rfl, rfl, rfl⟩ q)
section
variable {X : Cx}
theorem lc_coreH {pins : List (Addr × Obj)} {s : Shared} {σ : St} {H : Hp} {Q : VK} {elt tg iter : Expr} {ifs : List Expr} {scope : Scope} {own : List (Str × Nat)} {pos pos' : Pos} {wi : TI} {g : TG} {tt : TT} {te : TE} {use : Option (Value → Sem Unit)} {Qf : Value → Shared → Prop}
    (hc : HotC X) (hN : X.N.Nodup) (I : Inv X pins σ H s) (hi : PIQ X tg iter wi) (ok : BlkOk X.N X.env.scope scope own)
    (hg : ∀ (s : Shared) (H : Hp) (C : Addr) (cl : List (Str × Addr)) (fp : List Addr), PG (X.blk s H scope (compEnvC scope cl C X.env) fp) tg g) (ht : ∀ (s : Shared) (H : Hp) (C : Addr) (cl : List (Str × Addr)) (fp : List Addr), PTs (X.blk s H scope (compEnvC scope cl C X.env) fp) ifs tt)
    (he : ∀ (s : Shared) (H : Hp) (C : Addr) (cl : List (Str × Addr)) (fp : List Addr), PE (X.blk s H scope (compEnvC scope cl C X.env) fp) elt te) (hs : ∀ x, foldedSetIterable iter X.env x = pure x)
    (h : tLc wi g tt te (own.map (·.2)) σ H Q)
    (hRR : ∀ D C s' m H', Inv X pins σ H' s' → Q (.ref D) H' → s'.heap.Ns C m → FpOk X pins H' C → compPost (model X.prog X.w) X.A X.xe use Qf (.ref D) C (.ok .next) s') :
    wpAny (model X.prog X.w) X.A (comprehension (.ListComp elt [⟨tg, iter, ifs, 0⟩] scope pos) scope X.env pos' (newList []) false (eval iter X.env) use) Qf X.xe s := by
  have hfree : ∀ y ∈ scope.names, y.2 = .free → ∃ c, X.env.cells.lookup y.1 = some c := fun y hy e => by
    rcases ok.free y hy e with k | k
    · exact I.ok.has _ (.inl k)
    · exact I.ok.has _ (.inr k)
  refine wpAny_comprehension_free (use := use) rfl hs (closure_ok hfree) ok.kind (fun y hy e => by rw [ok.uniq y hy, e])
    (thn (hi.run pins s σ H _ I h) fun xv s1 hx => thn hx fun itv s2 h2 => ?_)
  obtain ⟨it, fp, tn, J, H2, e, I2, T, st2, f2, q⟩ := h2
  subst e
  refine wpAny_newObj_type (newEnv_comp ?_) (by show 0 ≤ sizeLine; decide)
  generalize hD : s2.heap.objs.size = D
  have hDn : H2 D = none := I2.hok.fresh (Nat.le_of_eq hD)
  obtain ⟨W, ⟨m0, w0⟩, turn⟩ := q D hDn
  -- the new list
  generalize hs3 : ({ s2 with heap := s2.heap.push { cls := .type "list", data := .seq ([] : List Value).toArray } } : Shared) = s3
  have I3 : Inv X pins σ (upd H2 D (.lst [])) s3 := by
    rw [← hs3]
    refine I2.laid (t' := s2.toks) (fun b o e => Heap.get?_push_of_some _ e) (Nat.le_of_eq hD) ⟨Nat.zero_le _, [], 0, .nil, ?_⟩
    rw [← hD]
    exact Heap.get?_push_size _ rfl
  have h3 : s3.heap = s2.heap.push { cls := .type "list", data := .seq ([] : List Value).toArray } := by rw [← hs3]
  have sz : ∀ b ∈ fp, b < s2.heap.objs.size := fun b hb => by
    obtain ⟨o, e, _⟩ := T.obj _ _ st2 b hb
    exact Heap.lt_size e
  have f3 : ∀ b ∈ fp, FpOk X pins (upd H2 D (.lst [])) b ∧ b < s3.heap.objs.size := fun b hb => by
    have hlt := sz b hb
    refine ⟨⟨?_, (f2 b hb).2⟩, by rw [h3, Heap.size_push]; exact Nat.lt_succ_of_lt hlt⟩
    rw [upd_ne (by rw [← hD]; exact Nat.ne_of_lt hlt)]
    exact (f2 b hb).1
  have st3 : tn 0 s3.heap := T.keep _ _ _ st2 fun b _ o e => by rw [h3]; exact Heap.get?_push_of_some _ e
  have I4 := block_start I3 ok hN f3
  have pg := hg s3 (upd H2 D (.lst [])) s3.heap.objs.size (cellsFrom (s3.heap.objs.size + 1) scope.names (cloFrom X.env.cells scope.names [])) fp
  have pt := ht s3 (upd H2 D (.lst [])) s3.heap.objs.size (cellsFrom (s3.heap.objs.size + 1) scope.names (cloFrom X.env.cells scope.names [])) fp
  have pe := he s3 (upd H2 D (.lst [])) s3.heap.objs.size (cellsFrom (s3.heap.objs.size + 1) scope.names (cloFrom X.env.cells scope.names [])) fp
  show codeAny _ _ (.compStart (.ListComp elt [⟨tg, iter, ifs, 0⟩] scope pos) 0 (.ref it) (.ref D) (compEnvC scope (cellsFrom (s3.heap.objs.size + 1) scope.names (cloFrom X.env.cells scope.names [])) s3.heap.objs.size X.env)) (compPost (model X.prog X.w) X.A X.xe use Qf (.ref D) s3.heap.objs.size) { s3 with heap := pushCells (s3.heap.push { cls := .type "dict", data := .dict #[] }) scope.names }
  have nfp : ∀ b ∈ fp, (upd H2 D (.lst [])) b = none := fun b hb => (f3 b hb).1.1
  generalize hce : compEnvC scope (cellsFrom (s3.heap.objs.size + 1) scope.names (cloFrom X.env.cells scope.names [])) s3.heap.objs.size X.env = ce at I4 pg pt pe ⊢
  have cL : ce.locals = s3.heap.objs.size := by subst hce; rfl
  generalize hH3 : upd H2 D (.lst []) = H3 at I3 I4 pg pt pe w0 nfp f3
  generalize hs4 : ({ s3 with heap := pushCells (s3.heap.push { cls := .type "dict", data := .dict #[] }) scope.names } : Shared) = s4 at I4 ⊢
  have st4 : tn 0 s4.heap := T.keep _ _ _ st3 fun b _ o e => by rw [← hs4]; exact pushCells_keeps _ _ _ _ (Heap.get?_push_of_some _ e)
  have stat : ∀ {σ' : St} {H' : Hp} {s' : Shared}, Inv (X.blk s3 H3 scope ce fp) [] σ' H' s' → (∀ b ∈ fp, H' b = none) → ∀ b ∈ fp, FpOk (X.blk s3 H3 scope ce fp) [] H' b := fun {σ' H' s'} I' hn b hb =>
    ⟨hn b hb, (I'.ok.exf b hb).1, I'.ok.exfs b hb, .inl hb, fun x c e => (I'.ok.exf b hb).2 x c e, fun p hp => absurd (show p ∈ ([] : List (Addr × Obj)) ++ [] from hp) (by simp)⟩
  have loop : codeAny (model X.prog X.w) X.A (.compLoop (.ListComp elt [⟨tg, iter, ifs, 0⟩] scope pos) 0 (.ref it) (.ref D) ce) (compPost (model X.prog X.w) X.A X.xe use Qf (.ref D) s3.heap.objs.size) s4 := by
    refine compLoop_any (fun n s' => ∃ i H', Inv (X.blk s3 H3 scope ce fp) [] (wipe σ (own.map (·.2))) H' s' ∧ tn i s'.heap ∧ (∀ b ∈ fp, H' b = none) ∧ W i n H') ?_ m0 ⟨0, H3, I4, st4, nfp, w0⟩
    rintro n s5 ⟨i, H5, I5, st5, n5, w5⟩
    rcases turn i n H5 w5 with ⟨stop, qq⟩ | ⟨go, Nx, hNx, step⟩
    · obtain ⟨p, ⟨hh, v1, e1, c1⟩, hp⟩ := hc
      have P1 := I3.pin p (List.mem_append_left _ hp)
      have hot5 : HotAt X.A p.1 s5.heap := ⟨hh, p.2, v1, I5.base.keep p.1 p.2 P1.1 P1.2.1 (fun hm => (List.mem_cons.mp (I3.stkSub p.1 hm)).elim P1.2.2.1 P1.2.2.2.1) (fun hm => (f3 p.1 hm).1.2.2.2.2.2 p (List.mem_append_left _ hp) rfl), e1, c1⟩
      have td := T.done (X.blk s3 H3 scope ce fp) rfl rfl rfl p.1 s5 hot5 (fun hm => (f3 p.1 hm).1.2.2.2.2.2 p (List.mem_append_left _ hp) rfl) i [] _ H5 (fun _ _ => False) I5 (stat I5 n5) st5 stop
      refine thnF td fun r s6 ⟨hr, I6⟩ => ?_
      subst hr
      -- back in the def's context
      have I7 : Inv X pins σ H5 s6 := I3.call' (ch := fp) I6.os I6.base I6.hok I6.bare fun b hb => ⟨(f3 b hb).1.2.2.2.1, (f3 b hb).1.2.1, (f3 b hb).1.2.2.2.2.1, (f3 b hb).1.2.2.2.2.2⟩
      have nC : H5 s3.heap.objs.size = none := by
        have z : H5 ce.locals = none := I6.free
        rw [cL] at z
        exact z
      obtain ⟨m, hn, _⟩ := I6.loc
      have hn : s6.heap.Ns ce.locals m := hn
      rw [cL] at hn
      exact hRR D s3.heap.objs.size s6 m H5 I7 qq hn (I3.fpOk (Nat.le_refl _) nC)
    · have ti := T.item (X.blk s3 H3 scope ce fp) rfl rfl rfl i [] s5 _ H5 (fun _ _ => False) I5 (stat I5 n5) st5 go
      refine thnF ti fun r s6 ⟨u, hr, h6⟩ => ?_
      subst hr
      refine thnF h6 fun _ s7 ⟨x, H7, I7, r7, y7, st7, n7⟩ => ?_
      have I7' := I7.pinned (stat I7 n7) (T.obj _ _ st7)
      refine thnF (pg.run _ s7 _ H7 x u _ I7' r7 (step x H7 y7)) fun _ s8 ⟨σ8, H8, I8, hw8, q8⟩ => ?_
      refine thnF (pt.run _ s8 σ8 H8 _ I8 q8) fun b s9 ⟨H9, I9, q9⟩ => ?_
      -- the turn's end
      have fin : ∀ {s' : Shared} {H' : Hp}, Inv (X.blk s3 H3 scope ce fp) ([] ++ pinsAt fp s7.heap) σ8 H' s' → Nx H' → ∃ m, m < n ∧ ∃ i H', Inv (X.blk s3 H3 scope ce fp) [] (wipe σ (own.map (·.2))) H' s' ∧ tn i s'.heap ∧ (∀ b ∈ fp, H' b = none) ∧ W i m H' := fun {s' H'} I' nx => by
        obtain ⟨m', hm, w'⟩ := hNx H' nx
        have pin' : ∀ b ∈ fp, ∀ o, s7.heap.get? b = some o → s'.heap.get? b = some o ∧ H' b = none := fun b hb o e =>
          let z := I'.pin (b, o) (List.mem_append_right _ (List.mem_append_right _ (mem_pinsAt hb e)))
          ⟨z.1, z.2.1⟩
        have hl : (wipe σ (own.map (·.2))).length = σ8.length := by rw [← hw8, wipe_length]
        refine ⟨m', hm, i + 1, H', (I'.unpinned (pins := [])).weak hl (fun j v e => ?_), T.keep _ _ _ st7 fun b hb o e => (pin' b hb o e).1, fun b hb => ?_, w'⟩
        · rw [← hw8] at e
          exact (wipe_some e).1
        · obtain ⟨o, e, _⟩ := T.obj _ _ st7 b hb
          exact (pin' b hb o e).2
      cases b with
      | false =>
        simp only [Bool.false_eq_true, if_false] at q9 ⊢
        exact fin I9 q9
      | true =>
        simp only [if_true] at q9 ⊢
        refine thnF (pe.run _ s9 σ8 H9 _ I9 q9) fun z s10 ⟨yv, H10, I10, r10, acc, hD10, hz10, nx⟩ => ?_
        exact app_ok (X := X.blk s3 H3 scope ce fp) I10 hD10 hz10 r10 fun s11 I11 => fin I11 nx
  exact codeAny_compStart_list loop (T.self X.A 0 _ _ _ st4 loop)
theorem pe_lcH {elt tg iter : Expr} {ifs : List Expr} {scope : Scope} {own : List (Str × Nat)} {pos : Pos} {wi : TI} {g : TG} {tt : TT} {te : TE} (hc : HotC X) (hN : X.N.Nodup) (hi : PIQ X tg iter wi) (ok : BlkOk X.N X.env.scope scope own)
    (hg : ∀ (s : Shared) (H : Hp) (C : Addr) (cl : List (Str × Addr)) (fp : List Addr), PG (X.blk s H scope (compEnvC scope cl C X.env) fp) tg g) (ht : ∀ (s : Shared) (H : Hp) (C : Addr) (cl : List (Str × Addr)) (fp : List Addr), PTs (X.blk s H scope (compEnvC scope cl C X.env) fp) ifs tt)
    (he : ∀ (s : Shared) (H : Hp) (C : Addr) (cl : List (Str × Addr)) (fp : List Addr), PE (X.blk s H scope (compEnvC scope cl C X.env) fp) elt te) (hs : ∀ x, foldedSetIterable iter X.env x = pure x := by intro _; rfl) :
    PE X (.ListComp elt [⟨tg, iter, ifs, 0⟩] scope pos) (tLc wi g tt te (own.map (·.2))) := by
  refine ⟨fun pins s σ H Q I h => ?_⟩
  rw [eval_ListComp]
  refine lc_coreH hc hN I hi ok hg ht he hs h fun D C s' m H' I' q hn f => ⟨m, hn, fun h'' sb => ?_⟩
  obtain ⟨f0, f1, f2, f3, f4, f5⟩ := f
  exact ⟨.ref D, H', I'.turned (t' := s'.toks) (fun b o hb e => (sb.2 b hb).trans e) f0 f1 f3 f4 f5, rfl, q⟩
theorem walks_listH {prog : Program} {w : World} {A : Around} {x1 : Addr} {o1 : Obj} {vs1 : Array Value} (hh : A.handled = some (.ref x1)) (d1 : o1.data = .fields vs1) (c1 : vs1[2]? = some .none) (I ax : Addr) (hne : ax ≠ I) (hn1 : x1 ≠ I) (items : Array Value) :
    Walks prog w A I [I, ax, x1] [I] items.size (fun i v => items[i]? = some v) (fun i h => (h.IsListIter I ax i ∧ h.IsList ax items) ∧ h.get? x1 = some o1) where
  sub := fun b hb => by simp at hb; simp [hb]
  frame := fun _ _ _ st hk => ⟨⟨st.1.1.at fun o e => hk I (by simp) o e, st.1.2.at fun o e => hk ax (by simp) o e⟩, hk x1 (by simp) _ st.2⟩
  item := fun i s Q E hi st hQ => by
    refine wpAny_pyNext_list_item st.1.1 st.1.2 (x := items[i]) (by simp [hi]) fun h' hit' hs' => ?_
    exact hQ _ h' s.toks (by simp [hi]) ⟨⟨hit', st.1.2.extBut hs'.extBut hne⟩, hs'.extBut x1 _ hn1 st.2⟩ fun b o hb e => hs'.extBut b o (fun h => hb (by simp [h])) e
  done := fun s Q E st hQ => list_end_hot ⟨hh, o1, vs1, st.2, d1, c1⟩ hn1 st.1.1 st.1.2 (by simp) fun h' he' => hQ h' s.toks fun b o hb e => he' b o (fun h => hb (by simp [h])) e
  self := fun _ _ _ _ st hQ => wpAny_pyIter_listiter st.1.1 hQ
theorem cr_allH (hc : HotC X) : CallR X (.builtin "all") (rAll X.K) := by
  intro pins s σ H vs us Q I r h
  obtain ⟨a, bs, rfl, hs, q⟩ := h
  obtain ⟨its, rv, hl, _⟩ := I.list hs
  rw [Vals.ref1 r]
  have hb := rv.bls
  obtain ⟨p, ⟨hh, v1, e1, c1⟩, hp⟩ := hc
  have P1 := I.pin p (List.mem_append_left _ hp)
  refine call_all_walk (iter_any hl.isList fun s₂ e2 st hne => ?_)
  subst e2
  refine ⟨_, _, _, _, _, _, _, rfl, walks_listH (A := X.A.in1) (o1 := p.2) hh e1 c1 _ a hne (Nat.ne_of_lt (Heap.lt_size P1.1)) its.toArray, ⟨st, Heap.get?_push_of_some _ P1.1⟩, truth_bools hb, fun h' tk hk => ?_⟩
  refine ⟨.bl _, H, I.kept fun b o eo => hk b o (fun hmem => ?_) (Heap.get?_push_of_some _ eo), ?_, q⟩
  · rcases List.mem_cons.mp hmem with e1 | hmem
    · exact absurd (e1 ▸ Heap.lt_size eo) (Nat.lt_irrefl _)
    · cases hmem
  · show Value.bool _ = Value.bool _
    rw [← L2.all_range, hb, List.size_toArray, List.length_map]
end
end HotQ
end
section
set_option maxHeartbeats 4000000
/-! an own exception class, straight over a built-in one, whose __init__ calls the base's and stores one field -/
namespace RXe
open PySem PySem.Spec PyProof.Rows L2
/-- what is known of the built-in class B -/
structure BaseX (B newId initId : String) (bm : List Value) : Prop where
  F : ExcBaseFacts B newId initId bm
  S : StoreFacts B bm "object.__setattr__" "object"
  typ : typeOf (.type B) = pure (.type "type")
  obj : bm.contains (.type "object") = true
  stub : Manifest.isStub B = false
theorem bx_Overflow : BaseX "OverflowError" "OverflowError.__new__" "OverflowError.__init__" [.type "OverflowError", .type "ArithmeticError", .type "Exception", .type "BaseException", .type "object"] :=
  ⟨F.excBase_OverflowError, F.store_OverflowError, by kernel_rfl, by decide +kernel, by decide +kernel⟩
theorem bx_Lookup : BaseX "LookupError" "LookupError.__new__" "LookupError.__init__" [.type "LookupError", .type "Exception", .type "BaseException", .type "object"] :=
  ⟨F.excBase_LookupError, F.store_LookupError, by kernel_rfl, by decide +kernel, by decide +kernel⟩
theorem bx_Runtime : BaseX "RuntimeError" "RuntimeError.__new__" "RuntimeError.__init__" [.type "RuntimeError", .type "Exception", .type "BaseException", .type "object"] :=
  ⟨F.excBase_RuntimeError, F.store_RuntimeError, by kernel_rfl, by decide +kernel, by decide +kernel⟩
theorem bx_Value : BaseX "ValueError" "ValueError.__new__" "ValueError.__init__" [.type "ValueError", .type "Exception", .type "BaseException", .type "object"] :=
  ⟨F.excBase_ValueError, F.store_ValueError, by kernel_rfl, by decide +kernel, by decide +kernel⟩
/-- the class's object, as the written part has it -/
def excX (K : PySem.W.Frag) (C : Addr) (bm : List Value) (newId : String) : Bool := match K.lookup C with
  | some ⟨.type t, _, .cls cd, sl⟩ => (match sl.toList with
    | [_, _, _, _, some (.builtin n), _] => decide (t = "type") && (decide (cd.mro = .ref C :: bm) && (decide (n = newId) && (!cd.hasDel && cd.hasDict)))
    | _ => false)
  | _ => false
def excOk (K : PySem.W.Frag) (C : Addr) (bm : List Value) (newId : String) : Bool := excX K C bm newId && (decide (PySem.W.findIn K (.ref C) "__setattr__" = some (some (.builtin "object.__setattr__"))) &&
  (decide (PySem.W.subIn K (.ref C) (.type "BaseException") = some true) && (decide (PySem.W.typeIn K (.ref C) = some (.type "type")) && PySem.W.keepIn K (.ref C))))
structure ExC (K : PySem.W.Frag) (C : Addr) (bm : List Value) (newId : String) : Prop where
  cls : ∃ nm q N bs sn sub ab col dd k0 k1 k2 k3 k5, K.lookup C = some (excClassObj nm q C N bs bm true sn sub ab col dd k0 k1 k2 k3 k5 newId)
  sa : PySem.W.findIn K (.ref C) "__setattr__" = some (some (.builtin "object.__setattr__"))
  exC : PySem.W.subIn K (.ref C) (.type "BaseException") = some true
  tyC : PySem.W.typeIn K (.ref C) = some (.type "type")
  kC : PySem.W.keepIn K (.ref C) = true
theorem exC_of {K : PySem.W.Frag} {C : Addr} {bm : List Value} {newId : String} (h : excOk K C bm newId = true) : ExC K C bm newId := by
  unfold excOk at h
  simp only [Bool.and_eq_true, decide_eq_true_eq] at h
  obtain ⟨h0, h1, h2, h3, h4⟩ := h
  refine ⟨?_, h1, h2, h3, h4⟩
  unfold excX at h0
  cases q : K.lookup C with
  | none => rw [q] at h0; cases h0
  | some o =>
    obtain ⟨oc, od, dt, sl⟩ := o
    rw [q] at h0
    cases oc with
    | type t =>
      cases dt with
      | cls cd =>
        obtain ⟨l⟩ := sl
        match l, h0 with
        | [k0, k1, k2, k3, some (.builtin n), k5], h0 =>
          simp only [Bool.and_eq_true, decide_eq_true_eq, Bool.not_eq_true'] at h0
          obtain ⟨e1, e2, e3, e4, e5⟩ := h0
          obtain ⟨nm, bs, mro, ns, qn, hd, sn, sub, ab, col, del⟩ := cd
          dsimp only at e2 e4 e5
          subst e1 e2 e3 e4 e5
          exact ⟨nm, qn, ns, bs, sn, sub, ab, col, od, k0, k1, k2, k3, k5, rfl⟩
      | _ => cases h0
    | _ => cases h0
section
open Builtin Builtin.ObjectAttr
variable {prog : Program} {w : World} {A : Around} {E : Value → Shared → Prop} {R : Result → Shared → Prop} {hp : Heap} {g : Array GenState} {d : Drawn} {t : Nat} {os : OsState}
/-- the first field -/
theorem osa_new {K : PySem.W.Frag} {name : Str} {tk : Tok} {v : Value} {x C : Addr} {fv : Array Value} {cd : ClassData}
    (X : K.In hp) (hx : hp.get? x = some { cls := .ref C, data := .fields fv }) (hcd : PySem.W.clsIn K C = some cd) (ne : cd.mro.isEmpty = false) (hob : cd.mro.contains (.type "object") = true)
    (pass : refuseLoop (.ref x) "__setattr__" cd.mro = pure ()) (hh : cd.hasDict = true) (ha : PySem.W.findIn K (.ref C) name = some none)
    (hq : ∀ h' tk' dx, (∀ b o, b ≠ x → hp.get? b = some o → h'.get? b = some o) → hp.objs.size ≤ dx → dx ≠ x → h'.get? x = some { cls := .ref C, dict := some dx, data := .fields fv } →
      h'.Ns1 dx (fun y => if y = name then some v else none) → R (.ok (.ret .none)) ⟨h', g, d, tk', os⟩) :
    codeAny (model prog w) A (.call (.builtin "object.__setattr__") ⟨[.ref x, .str name tk, v], []⟩) R ⟨hp, g, d, t, os⟩ := by
  have I : PySem.W.InstAt hp x { cls := .ref C, data := .fields fv } C none := ⟨hx, rfl, rfl, trivial⟩
  have SF := PySem.F.store_object
  have hxs : x ≠ hp.objs.size := Nat.ne_of_lt (Heap.lt_size hx)
  have sub : PySem.W.Looks (model prog w) hp (isInstance (.ref x) (.type "object")) true := I.type.andThen (PySem.W.looks_mroIn X (by unfold PySem.W.mroIn; rw [hcd, Option.bind_some, if_neg (by rw [ne]; decide), hob]))
  refine codeAny_call_builtin SF.slot.plain SF.entry (@PySem.W.check_slot (model prog w) _ _ ⟨hp, g, d, t, os⟩ "object.__setattr__" "object" "__setattr__" (.ref x) [.str name tk, v] [] _ SF.kind SF.split sub (SF.args (.ref x) (.str name tk) v) ?_)
  have hmr : PySem.W.Looks (model prog w) hp (mroOf (.ref C)) cd.mro := (PySem.W.looks_clsIn X hcd).andThen .now
  have L3 : PySem.W.Looks (model prog w) hp (storeTaker? none) none := .now
  have hcls : PySem.W.Looks (model prog w) hp (classData C) cd := PySem.W.looks_clsIn X hcd
  rw [PySem.W.osa_eq, refuse_eq]
  refine wpAny_bind (wpAny_bind (I.type.at (wpAny_bind (hmr.at ?_))))
  rw [pass]
  refine wpAny_pure (wpAny_bind (I.type.at (wpAny_bind ((PySem.W.looks_findIn X ha).at (wpAny_bind (L3.at ?_))))))
  show wpAny _ _ (storeInOwnDict (.ref x) (.ref C) (.str name tk) name v false) _ _ _
  obtain ⟨nm, bs, mro, ns, qn, hd, sn, sb, ab, col, del⟩ := cd
  dsimp only at hh
  subst hh
  unfold storeInOwnDict ownDictForStores
  repeat (first | with_reducible refine PySem.HandSPX.store_in_new ?_ ?_ | with_reducible refine wpAny_loadPart_at hx ?_ | with_reducible refine hcls.at ?_ | wp_step)
  · exact ⟨_, #[], _, (Heap.get?_update_ne _ _ _ _ hxs.symm).trans (Heap.get?_push_at rfl rfl), rfl, fun e he => absurd he (by simp), fun _ => rfl⟩
  · intro h' tk' hn' hs
    have hx₁ : (hp.push { cls := .type "dict", data := .dict #[] }).get? x = some { cls := .ref C, data := .fields fv } := Heap.get?_push_of_some _ hx
    refine hq h' tk' hp.objs.size (fun b o hb ho => ?_) (Nat.le_refl _) hxs.symm ?_ hn'
    · exact (hs.2 b (Nat.ne_of_lt (Heap.lt_size ho))).trans ((Heap.get?_update_ne _ _ _ _ hb).trans (Heap.get?_push_of_some _ ho))
    · exact (hs.2 x hxs).trans (Heap.get?_update_self _ hx₁ rfl)
end
section
variable {X : Cx} {pins : List (Addr × Obj)} {σ : L2.St} {H : Hp} {s : Shared} {a C dx : Addr} {f : Str} {y : V} {u : Value} {fs : List (Str × V)} {Q : Unit → Shared → Prop} {E : Value → Shared → Prop} {A : Around}
  {B newId initId : String} {bm : List Value}
/-- self.f = y, the first one -/
theorem st_new (BX : BaseX B newId initId bm) (T : ExC X.K C bm newId) (I : Inv X pins σ H s) (e : H a = some (exo a C none)) (hno : PySem.W.findIn X.K (.ref C) f = some none) (ry : RelV y u)
    (h : ∀ dx s', H dx = none → dx ≠ a → Inv X pins σ (upd (upd H dx (exd dx [(f, y)])) a (exo a C (some dx))) s' → Q () s') : wpAny (model X.prog X.w) A (setAttr (.ref a) f u) Q E s := by
  obtain ⟨nm, q, N, bs, sn, sub, ab, col, dd, k0, k1, k2, k3, k5, hC⟩ := T.cls
  have hcl : PySem.W.clsIn X.K C = some { name := nm, bases := bs, mro := .ref C :: bm, ns := N, qualname := q, hasDict := true, slotNames := sn, subclasses := sub, abstract := ab, collection := col, hasDel := false } := by unfold PySem.W.clsIn; rw [hC] <;> rfl
  obtain ⟨t1, ho⟩ := exo_at I.hok e
  obtain ⟨hp, g, d, t, os⟩ := s
  refine PySem.W.set_plain I.kIn (ox := { cls := .ref C, dict := none, data := .fields #[.ref t1, .none, .none, .none, .bool false, .none] }) (od := none) ⟨ho, rfl, rfl, trivial⟩ T.sa ?_
  refine osa_new I.kIn ho hcl rfl (by show (Value.ref C :: bm).contains (.type "object") = true; rw [List.contains_cons, BX.obj, Bool.or_true]) (by show refuseLoop (.ref a) "__setattr__" (.ref C :: bm) = pure (); rw [refuseLoop_ref]; exact BX.S.passes _) rfl hno (fun h' tk' dx k dn dne hx hn => ?_)
  have hnd : H dx = none := I.hok.fresh dn
  have nd : ∀ {b : Addr} {o : Obj}, hp.get? b = some o → b ≠ dx := fun {b o} q => Nat.ne_of_lt (Nat.lt_of_lt_of_le (Heap.lt_size q) dn)
  have na : ∀ {b : Addr}, H b = none → b ≠ a := fun {b} n z => by
    rw [z, e] at n
    cases n
  have Un1 : Un X.fs [] H (upd (upd H dx (exd dx [(f, y)])) a (exo a C (some dx))) hp h' := {
    keep := fun b o q n _ _ => k b o (na n) q
    slot := fun b o q n _ _ => ⟨o.slots, k b o (na n) q⟩
    free := fun b o q n _ => by rw [upd_ne (na n), upd_ne (nd q)]; exact n
    there := fun b o q _ => by
      by_cases hb : b = a
      · exact ⟨_, by rw [hb]; exact hx⟩
      · exact ⟨o, k b o hb q⟩
    tups := fun b xs q => by rw [upd_ne (at_ne e q exo_tup), upd_ne (ne_of_none q hnd)]; exact q
    frzs := fun b o v q => by rw [upd_ne (at_ne e q exo_frz), upd_ne (ne_of_none q hnd)]; exact q
    tbls := fun b ps q => ⟨#[], by rw [upd_ne (at_ne e q exo_tbl), upd_ne (ne_of_none q hnd), q]; simp⟩ }
  refine h dx _ hnd dne (I.un (t' := tk') Un1 fun b o q => ?_)
  by_cases hb : b = a
  · subst hb
    rw [upd_same] at q
    cases q
    exact exo_ok hx
  · rw [upd_ne hb] at q
    by_cases hd : b = dx
    · subst hd
      rw [upd_same] at q
      cases q
      exact exd_ok hn (relO_put (fs := []) ry fun g => True.intro)
    · rw [upd_ne hd] at q
      exact (I.hok b o q).stay (fun c v hc z => k c v (by
          rcases hc with hc | hc
          · rw [hc]
            exact hb
          · exact at_ne e hc exo_own) z)
        (fun c hc => by rw [upd_ne (at_ne e hc exo_own), upd_ne (ne_of_none hc hnd)]; exact hc) (fun c xs hc => by rw [upd_ne (at_ne e hc exo_tup), upd_ne (ne_of_none hc hnd)]; exact hc)
/-- B.__init__(self, ..): nothing of it is told -/
theorem binit_ok {us : List Value} {Q : Value → Shared → Prop} (BX : BaseX B newId initId bm) (T : ExC X.K C bm newId) (I : Inv X pins σ H s) (e : H a = some (exo a C none)) (hl : us.length ≤ sizeLine) (h : ∀ s', Inv X pins σ H s' → Q .none s') :
    wpAny (model X.prog X.w) A (call (.builtin initId) (.ref a :: us)) Q E s := by
  obtain ⟨nm, q, N, bs, sn, sub, ab, col, dd, k0, k1, k2, k3, k5, hC⟩ := T.cls
  obtain ⟨t1, ho⟩ := exo_at I.hok e
  obtain ⟨hp, g, d, t, os⟩ := s
  refine wpAny_call (PySem.HandSPX.init_base BX.F (fun Y => rfl) (I.kIn _ _ hC) ho hl fun h' t2 k hx => ?_)
  have J := I.write (t' := t) (x := a) (e := a) (o := exo a C none) (by rw [e]; exact True.intro) (.inl rfl) k ⟨_, hx⟩ (exo_ok hx)
  have eu : upd H a (exo a C none) = H := by
    funext b
    by_cases hb : b = a
    · rw [hb, upd_same, e]
    · rw [upd_ne hb]
  rw [eu] at J
  exact h _ J
end
/-! ### readings and rules -/
/-- B.__init__(self, ..) -/
def tBinit (K : PySem.W.Frag) (bm : List Value) (newId : String) (ta : TA) : TE := fun σ H Q => ta σ H fun vs H1 => ∃ (a C : Addr) (ws : List V), vs = .ref a :: ws ∧ ws.length ≤ 1000 ∧ ExC K C bm newId ∧ H1 a = some (exo a C none) ∧ Q .non H1
/-- self.f = e -/
def tSt1 (K : PySem.W.Frag) (bm : List Value) (newId : String) (f : Str) (to te : TE) : TS := fun D σ H => te σ H fun y H1 => to σ H1 fun x H2 => ∃ a C : Addr, x = .ref a ∧ ExC K C bm newId ∧ PySem.W.findIn K (.ref C) f = some none ∧
  H2 a = some (exo a C none) ∧ ∀ dx, H2 dx = none → dx ≠ a → D.nx σ (upd (upd H2 dx (exd dx [(f, y)])) a (exo a C (some dx)))
/-- C(e, ..), C's own __init__ keeping sp -/
def tMkX (C : Addr) (sp : Sp) (ta : TA) : L2.St → Hp → XK → Prop := fun σ H Q => ta σ H fun vs H1 => vs.length ≤ 1000 ∧ ∀ a, H1 a = none → sp (.ref a :: vs) (upd H1 a (exo a C none))
  (fun v H2 => v = .non ∧ ∃ (d : Addr) (fs : List (Str × V)), H2 a = some (exo a C (some d)) ∧ H2 d = some (exd d fs) ∧ H1 d = none ∧ Q (.ref C) (some d) (upd (del H2 a) d (.xd fs))) (fun _ _ _ => False)
section
variable {X : Cx} {o e : Expr} {es : List Expr} {to te : TE} {ta : TA} {f : Str} {p p' p1 p2 pos : Pos} {B : Str} {Bn newId initId : String} {bm : List Value}
theorem pe_binit {pl : Sem Bool} (BX : BaseX Bn newId initId bm) (hg : Gl X B) (hm : X.mg B = none) (hbt : bootBuiltins B = some (.type Bn)) (vV : PySem.W.findCls X.K (.type Bn) (.type "type") "__init__" = some (.val (.builtin initId))) (ha : PA X (e :: es) ta)
    (hni : PySem.W.handedIn (.builtin initId) = true := by decide +kernel)
    (hc : eval (.Call (.Attribute (.Name B p1) "__init__" p2) (e :: es) [] pos) X.env = (do
      let ov ← eval (.Name B p1) X.env
      standAt p2.atName
      let (f, first) ← holding [ov] (getMethod ov "__init__" pl)
      callWith pos f first (backTo pos (starEach (e :: es) X.env)) (backToKw pos (keywordEach [] X.env))) := by rfl)
    (he : starEach (e :: es) X.env = (false, eval e X.env) :: starEach es X.env := by rfl) (hpl : (backTo pos (starEach es X.env)).any (·.1) = false := by rfl) (hn : B ≠ "__name__" := by decide) (hd : (B == ("__debug__" : Str)) = false := by decide) :
    PE X (.Call (.Attribute (.Name B p1) "__init__" p2) (e :: es) [] pos) (tBinit X.K bm newId ta) := by
  refine ⟨fun pins s σ H Q I h => ?_⟩
  refine PySem.W.methodCall_KW (ld_blt I hg hm hbt ?_ hn hd) hc
  obtain ⟨m, fr⟩ := I.fr
  refine PySem.W.method_type fr I.ok.mod.kin BX.typ BX.stub vV hni ?_
  show wpAny _ _ (callWith pos (Value.builtin initId) [] (backTo pos (starEach (e :: es) X.env)) []) _ _ _
  refine PyProof.Rows.callWith_method1 (thn (ha.run pos pins _ σ H _ (I.tok _) h) fun us s1 ⟨vs, H1, I1, r1, a, C, ws, ev, hl, T, ea, q⟩ => ?_) he hpl
  subst ev
  cases r1 with
  | @cons _ u0 _ ur ra rw' =>
    obtain rfl : u0 = Value.ref a := ra
    have hlen : ur.length ≤ sizeLine := by
      rw [← Paired.length rw', sizeLine_eq]
      omega
    exact binit_ok BX T I1 ea hlen fun s' J => ⟨.non, H1, J, rfl, q⟩
theorem ps_st1 (BX : BaseX Bn newId initId bm) (ho : PE X o to) (he : PE X e te) (hs : swapsWith e (some (.Attribute o f p')) pos.line X.env = pure false := by rfl) : PS X (.Assign [.Attribute o f p'] e pos) (tSt1 X.K bm newId f to te) := by
  refine ⟨fun pins s σ H D I h => ?_⟩
  refine plainObj_wpAny_Assign_Attribute (thn (he.run pins s σ H _ I h) fun v s1 ⟨y, H1, I1, r1, q1⟩ => thn (ho.run pins s1 σ H1 _ I1 q1) fun u s2 ⟨x, H2, I2, r2, a, C, ex, T, hno, ea, q⟩ => ?_) hs
  subst ex
  obtain rfl : u = Value.ref a := r2
  exact st_new BX T I2 ea hno r1 fun dx s' n ne J => ⟨σ, _, J, q dx n ne⟩
theorem pmk_x {CX : CXT} {x : Str} {C fI : Addr} {k : Nat} {fd : FuncData} {ps : List Str} {sp : Sp} (BX : BaseX Bn newId initId bm) (T : ExC X.K C bm newId) (iC : PySem.W.findIn X.K (.ref C) "__init__" = some (some (.ref fI))) (tI : PySem.W.typeIn X.K (.ref fI) = some (.type "function"))
    (F1 : FnOk X.prog X.w X.K X.mg X.base CX k fI fd ps sp) (hr : Room (k + 1) X.A) (hb : Binds X.K fd ps []) (hx : Passes CX X (fun _ _ _ => False)) (hg : Gl X x) (hm : X.mg x = some (.ref C)) (ha : PA X (e :: es) ta)
    (hdb : (x == ("__debug__" : Str)) = false := by decide) (he : starEach (e :: es) X.env = (false, eval e X.env) :: starEach es X.env := by rfl) (hpl : (backTo pos (starEach es X.env)).any (·.1) = false := by rfl) :
    PMk X (.Call (.Name x p) (e :: es) [] pos) (tMkX C sp ta) := by
  intro pins s σ H Q I h
  obtain ⟨nm, q, N, bs, sn, sub, ab, col, dd, k0, k1, k2, k3, k5, hC⟩ := T.cls
  refine wpAny_Call_Name_kw (ld_glob I hg hm ?_ hdb)
  refine PySem.W.callWith_K (h₀ := X.base) I.ok.mod.kin T.kC (thn (ha.run pos pins s σ H _ I h) fun us s1 ⟨vs, H1, I1, r1, hz, q1⟩ => ⟨I1.kIn, ?_⟩) he hpl
  show wpAny _ _ (call (.ref C) us) _ _ _
  obtain ⟨hp, g, dr, tk, os⟩ := s1
  have hsz : hp.objs.size ≤ hp.objs.size + 1 := Nat.le_succ _
  have hn : H1 (hp.objs.size + 1) = none := I1.hok.fresh hsz
  have hq := q1 (hp.objs.size + 1) hn
  have kk : ∀ b o, hp.get? b = some o → ((hp.push (PySem.W.kdv_tup us)).push (PySem.HandSPX.excO C hp.objs.size)).get? b = some o := fun b o e => Heap.get?_push_of_some _ (Heap.get?_push_of_some _ e)
  have hget : ((hp.push (PySem.W.kdv_tup us)).push (PySem.HandSPX.excO C hp.objs.size)).get? (hp.objs.size + 1) = some (PySem.HandSPX.excO C hp.objs.size) := by heap_get
  have I2 : Inv X pins σ (upd H1 (hp.objs.size + 1) (exo (hp.objs.size + 1) C none)) ⟨(hp.push (PySem.W.kdv_tup us)).push (PySem.HandSPX.excO C hp.objs.size), g, dr, tk, os⟩ :=
    I1.laid (t' := tk) (a := hp.objs.size + 1) (o := exo (hp.objs.size + 1) C none) (h' := (hp.push (PySem.W.kdv_tup us)).push (PySem.HandSPX.excO C hp.objs.size)) kk hsz (exo_ok hget)
  have r2 : Vals (V.ref (hp.objs.size + 1) :: vs) (Value.ref (hp.objs.size + 1) :: us) := .cons rfl r1
  have hl : (Value.ref (hp.objs.size + 1) :: us).length = ps.length := by
    have e := r2.length
    rw [F1.len _ _ _ _ hq] at e
    exact e.symm
  have hus : us.length ≤ sizeLine := by
    rw [← Paired.length r1, sizeLine_eq]
    omega
  have hbb := hb ⟨(hp.push (PySem.W.kdv_tup us)).push (PySem.HandSPX.excO C hp.objs.size), g, dr, tk, os⟩ (Value.ref (hp.objs.size + 1) :: us) I2.kIn (by rw [List.append_nil]; exact hl)
  rw [List.append_nil] at hbb
  refine wpAny_call (PySem.HandSPX.call_own BX.F (fun Y => rfl) (I1.kIn _ _ hC) (PySem.W.looks_findIn I1.kIn iC) (fun self => PySem.W.bind_fn I1.kIn self tI) hus
    (codeAny_mono (F1.run _ X.stack _ _ ⟨Value.ref (hp.objs.size + 1) :: us, []⟩ (Value.ref (hp.objs.size + 1) :: us) _ _ (fun _ _ _ => False) (hr.make C us []) (I2.env0.make C us []) hbb r2 hq) fun r s' hq' => ?_))
  cases r with
  | error er => exact hx pins σ _ _ er s' I2 hq'
  | ok fl =>
    cases fl with
    | ret u =>
      obtain ⟨v, H2, os2, bare2, un2, hok2, rv, ev, d, fs, ea, ed, hd1, q2⟩ := hq'
      subst ev
      obtain ⟨h2, g2, d2, t2, os'⟩ := s'
      exact ⟨rv, mk_end (raises_own T.exC T.tyC) I1 hsz kk un2 hok2 os2 bare2 ea ed hd1 q2⟩
    | next => exact False.elim hq'
    | brk => exact False.elim hq'
    | cont => exact False.elim hq'
theorem pmk_xN {CX : CXT} {x : Str} {C fI : Addr} {k : Nat} {fd : FuncData} {ps : List Str} {sp : Sp} (BX : BaseX Bn newId initId bm) (T : ExC X.K C bm newId) (iC : PySem.W.findIn X.K (.ref C) "__init__" = some (some (.ref fI))) (tI : PySem.W.typeIn X.K (.ref fI) = some (.type "function"))
    (F1 : FnOk X.prog X.w X.K X.mg X.base CX k fI fd ps sp) (hr : Room (k + 1) X.A) (hb : Binds X.K fd ps []) (hx : Passes CX X (fun _ _ _ => False)) (hg : Gl X x) (hm : X.mg x = some (.ref C)) (ha : PA X (e :: es) ta)
    (hdb : (x == ("__debug__" : Str)) = false := by decide) (he : starEach (e :: es) X.env = (false, eval e X.env) :: starEach es X.env := by rfl) (hpl : (backTo pos (starEach es X.env)).any (·.1) = false := by rfl) :
    L2N.PMk X (.Call (.Name x p) (e :: es) [] pos) (tMkX C sp ta) := by
  intro pins s σ H Q I h
  obtain ⟨nm, q, N, bs, sn, sub, ab, col, dd, k0, k1, k2, k3, k5, hC⟩ := T.cls
  refine wpAny_Call_Name_kw (ld_glob I hg hm ?_ hdb)
  refine PySem.W.callWith_K (h₀ := X.base) I.ok.mod.kin T.kC (thn (ha.run pos pins s σ H _ I h) fun us s1 ⟨vs, H1, I1, r1, hz, q1⟩ => ⟨I1.kIn, ?_⟩) he hpl
  show wpAny _ _ (call (.ref C) us) _ _ _
  obtain ⟨hp, g, dr, tk, os⟩ := s1
  have hsz : hp.objs.size ≤ hp.objs.size + 1 := Nat.le_succ _
  have hn : H1 (hp.objs.size + 1) = none := I1.hok.fresh hsz
  have hq := q1 (hp.objs.size + 1) hn
  have kk : ∀ b o, hp.get? b = some o → ((hp.push (PySem.W.kdv_tup us)).push (PySem.HandSPX.excO C hp.objs.size)).get? b = some o := fun b o e => Heap.get?_push_of_some _ (Heap.get?_push_of_some _ e)
  have hget : ((hp.push (PySem.W.kdv_tup us)).push (PySem.HandSPX.excO C hp.objs.size)).get? (hp.objs.size + 1) = some (PySem.HandSPX.excO C hp.objs.size) := by heap_get
  have I2 : Inv X pins σ (upd H1 (hp.objs.size + 1) (exo (hp.objs.size + 1) C none)) ⟨(hp.push (PySem.W.kdv_tup us)).push (PySem.HandSPX.excO C hp.objs.size), g, dr, tk, os⟩ :=
    I1.laid (t' := tk) (a := hp.objs.size + 1) (o := exo (hp.objs.size + 1) C none) (h' := (hp.push (PySem.W.kdv_tup us)).push (PySem.HandSPX.excO C hp.objs.size)) kk hsz (exo_ok hget)
  have r2 : Vals (V.ref (hp.objs.size + 1) :: vs) (Value.ref (hp.objs.size + 1) :: us) := .cons rfl r1
  have hl : (Value.ref (hp.objs.size + 1) :: us).length = ps.length := by
    have e := r2.length
    rw [F1.len _ _ _ _ hq] at e
    exact e.symm
  have hus : us.length ≤ sizeLine := by
    rw [← Paired.length r1, sizeLine_eq]
    omega
  have hbb := hb ⟨(hp.push (PySem.W.kdv_tup us)).push (PySem.HandSPX.excO C hp.objs.size), g, dr, tk, os⟩ (Value.ref (hp.objs.size + 1) :: us) I2.kIn (by rw [List.append_nil]; exact hl)
  rw [List.append_nil] at hbb
  refine wpAny_call (PySem.HandSPX.call_own BX.F (fun Y => rfl) (I1.kIn _ _ hC) (PySem.W.looks_findIn I1.kIn iC) (fun self => PySem.W.bind_fn I1.kIn self tI) hus
    (codeAny_mono (F1.run _ X.stack _ _ ⟨Value.ref (hp.objs.size + 1) :: us, []⟩ (Value.ref (hp.objs.size + 1) :: us) _ _ (fun _ _ _ => False) (hr.make C us []) (I2.env0.make C us []) hbb r2 hq) fun r s' hq' => ?_))
  cases r with
  | error er => exact hx pins σ _ _ er s' I2 hq'
  | ok fl =>
    cases fl with
    | ret u =>
      obtain ⟨v, H2, os2, bare2, un2, hok2, rv, ev, d, fs, ea, ed, hd1, q2⟩ := hq'
      subst ev
      obtain ⟨h2, g2, d2, t2, os'⟩ := s'
      obtain ⟨t0, G, J, kG, ge, hoe, na⟩ := mk_end0 (d2 := d2) (t2 := t2) I1 hsz kk un2 hok2 os2 bare2 ea ed hd1
      exact ⟨rv, hp.objs.size + 1, _, _, ⟨G, g2, d2, t2, os'⟩, _, .ref C, some d, rfl, J, kG, ge, hoe, ⟨rfl, rfl, fun vs hv => by cases hv; rfl⟩, rfl, rfl, na, rfl, bare2, raises_own T.exC T.tyC, q2⟩
    | next => exact False.elim hq'
    | brk => exact False.elim hq'
    | cont => exact False.elim hq'
theorem passNx {X : Cx} {E₀ : XK} (tk : L2N.Takes X (fun cls d _ H => E₀ cls d H)) : ∀ σ, PassesAt (L2N.CX X.prog X.w) X σ ((fun _ => E₀) σ) := fun _ _ _ _ e s' I c => tk e s' (L2N.XE.of_call I (fun _ _ _ h => h) c)
theorem hotc {X : Cx} {a : Addr} {oe : Obj} {cls : Value} {d : Option Addr} {pn : List (Addr × Obj)} (hz : L2N.Zn cls d oe) (hv : ∃ vs, oe.data = .fields vs) : L2H.HotC (X.suite a ((a, oe) :: pn)) := by
  obtain ⟨vs, e⟩ := hv
  exact ⟨(a, oe), ⟨rfl, vs, e, hz.2.2 vs e⟩, List.mem_cons_self⟩
end
end RXe
end
section
set_option maxHeartbeats 4000000
/-! more facts of a head: own exceptions over any base, methods as values, inits by class -/
namespace ExF
open PySem PySem.Spec PyProof.Rows L2 He
theorem ov_init (K : PySem.W.Frag) : PySem.W.findCls K (.type "OverflowError") (.type "type") "__init__" = some (.val (.builtin "OverflowError.__init__")) := by kernel_rfl
theorem lo_init (K : PySem.W.Frag) : PySem.W.findCls K (.type "LookupError") (.type "type") "__init__" = some (.val (.builtin "LookupError.__init__")) := by kernel_rfl
theorem ru_init (K : PySem.W.Frag) : PySem.W.findCls K (.type "RuntimeError") (.type "type") "__init__" = some (.val (.builtin "RuntimeError.__init__")) := by kernel_rfl
theorem va_init (K : PySem.W.Frag) : PySem.W.findCls K (.type "ValueError") (.type "type") "__init__" = some (.val (.builtin "ValueError.__init__")) := by kernel_rfl
/-- an own exception class, its __init__ and its one field -/
def xOk (K : PySem.W.Frag) (x f : Str) (bm : List Value) (newId : String) : Bool :=
  RXe.excOk K (ga K x) bm newId && (eqO (PySem.W.findIn K (.ref (ga K x)) "__init__") (some (some (.ref (ma K (ga K x) "__init__")))) &&
  (decide (PySem.W.typeIn K (.ref (ma K (ga K x) "__init__")) = some (.type "function")) && eqO (PySem.W.findIn K (.ref (ga K x)) f) (some none)))
structure XOk (K : PySem.W.Frag) (x f : Str) (bm : List Value) (newId : String) : Prop where
  c : RXe.ExC K (ga K x) bm newId
  i : PySem.W.findIn K (.ref (ga K x)) "__init__" = some (some (.ref (ma K (ga K x) "__init__")))
  t : PySem.W.typeIn K (.ref (ma K (ga K x) "__init__")) = some (.type "function")
  n : PySem.W.findIn K (.ref (ga K x)) f = some none
theorem xOk_of {K : PySem.W.Frag} {x f : Str} {bm : List Value} {newId : String} (h : xOk K x f bm newId = true) : XOk K x f bm newId := by
  unfold xOk at h
  simp only [Bool.and_eq_true, decide_eq_true_eq] at h
  obtain ⟨h0, h1, h2, h3⟩ := h
  exact ⟨RXe.exC_of h0, eqO_ok h1, h2, eqO_ok h3⟩
def mOk (K : PySem.W.Frag) (x y : Str) (b : Bool) : Bool := decide (PySem.W.exmOne K (.ref (ga K x)) (.ref (ga K y)) = some b)
theorem mOk_of {K : PySem.W.Frag} {x y : Str} {b : Bool} (h : mOk K x y b = true) : PySem.W.exmOne K (.ref (ga K x)) (.ref (ga K y)) = some b := of_decide_eq_true h
/-- a method that is taken as a value -/
def bOk (K : PySem.W.Frag) (x m : Str) : Bool :=
  eqO (PySem.W.findIn K (.ref (ga K x)) m) (some (some (.ref (ma K (ga K x) m)))) && (PySem.W.isFn K (.ref (ma K (ga K x) m)) && (PySem.W.keepIn K (.ref (ma K (ga K x) m)) &&
  (eqO (PySem.W.specialIn K (.ref (ma K (ga K x) m)) "__get__") (some (some (.builtin "function.__get__"))) && (decide (PySem.W.takesIn K (.ref (ma K (ga K x) m)) = some false) && (!PySem.W.copiedNames.contains m && PySem.W.fnIn K (ma K (ga K x) m))))))
/-- C.m read off the class C -/
def cOk (K : PySem.W.Frag) (x m : Str) : Bool :=
  PySem.W.readsIn K (ga K x) (.type "type") && (eqO (PySem.W.specialIn K (.ref (ga K x)) "__getattribute__") (some (some (.builtin "type.__getattribute__"))) &&
  ((match PySem.W.findCls K (.ref (ga K x)) (.type "type") m with | some (.val v) => decide (v = .ref (ma K (ga K x) m)) | _ => false) && PySem.W.keepIn K (.ref (ma K (ga K x) m))))
structure COk (K : PySem.W.Frag) (x m : Str) : Prop where
  r : ClX.CRead K (ga K x) (.type "type")
  v : PySem.W.findCls K (.ref (ga K x)) (.type "type") m = some (.val (.ref (ma K (ga K x) m)))
  k : PySem.W.keepIn K (.ref (ma K (ga K x) m)) = true
theorem cOk_of {K : PySem.W.Frag} {x m : Str} (h : cOk K x m = true) : COk K x m := by
  unfold cOk at h
  simp only [Bool.and_eq_true] at h
  obtain ⟨h0, h1, h2, h3⟩ := h
  refine ⟨⟨h0, eqO_ok h1⟩, ?_, h3⟩
  cases e : PySem.W.findCls K (.ref (ga K x)) (.type "type") m with
  | none => rw [e] at h2; cases h2
  | some r =>
    rw [e] at h2
    cases r with
    | val v => rw [of_decide_eq_true h2]
    | get _ _ _ _ => cases h2
theorem bOk_of {K : PySem.W.Frag} {x m : Str} (h : bOk K x m = true) : BMeth K (ga K x) m (ma K (ga K x) m) := by
  unfold bOk at h
  simp only [Bool.and_eq_true, decide_eq_true_eq, Bool.not_eq_true'] at h
  obtain ⟨h0, h1, h2, h3, h4, h5, h6⟩ := h
  exact ⟨⟨eqO_ok h0, h1, h2⟩, eqO_ok h3, h4, h5, h6⟩
end ExF
end
section
set_option maxHeartbeats 0
namespace Hd
open PySem PySem.Spec PyProof.Rows L2
abbrev R : PySem.W.OpenRow := PySem.W.OpenLaw.row PySem.Challenge.rw_roundstore_k87_whole_worst_both_edges
def top (i : Nat) : Stmt := PySem.Challenge.pw_roundstore_k87_whole_worst_both_edges.main.body.getD i (.Pass ⟨0, 0, 0, 0⟩)
def names0 : List PySem.Str := ["_wall", "RING", "STOP", "WARN", "worst", "NoStore", "Busy", "Taken", "NoDeed", "NoName", "NoHouse", "NoTable", "NoRow", "Late", "Waits", "Looked", "NoNumber", "Stopped", "on", "steps", "before", "eldest", "LETTERS", "LONGEST_WORD", "LEAST_RING", "is_word", "is_whole", "is_worth", "is_ring", "is_on"]
def names1 : List PySem.Str := ["DONE_looks", "FELL_looks", "OPEN_looks", "low", "sees", "LATER", "CUT", "SEEN", "state_by", "frozen_by", "frozen", "DEED", "HOUSE", "OPEN_deedbook", "DONE_deedbook", "FELL_deedbook", "GONE", "Looker", "Deeds", "TABLE", "Freezing", "are_tables", "are_marks", "Store", "_law_hand", "_law_take", "_law_of", "_law_words", "_law_given", "_law_house"]
def names2 : List PySem.Str := ["_law_freezing", "_law_gone_far", "_law_drawn_right"]
def names : List PySem.Str := names0 ++ names1 ++ names2
abbrev s_worst : Stmt := top 5
abbrev s_on : Stmt := top 21
abbrev s_steps : Stmt := top 22
abbrev s_before : Stmt := top 23
abbrev s_eldest : Stmt := top 24
abbrev s_is_word : Stmt := top 29
abbrev s_is_whole : Stmt := top 30
abbrev s_is_worth : Stmt := top 31
abbrev s_is_ring : Stmt := top 32
abbrev s_is_on : Stmt := top 33
abbrev s_low : Stmt := top 38
abbrev s_sees : Stmt := top 39
abbrev s_state_by : Stmt := top 44
abbrev s_frozen_by : Stmt := top 45
abbrev s_frozen : Stmt := top 46
abbrev s_are_tables : Stmt := top 60
abbrev s_are_marks : Stmt := top 61
abbrev s__law_hand : Stmt := top 64
abbrev s__law_take : Stmt := top 65
abbrev s__law_of : Stmt := top 66
abbrev s__law_words : Stmt := top 67
abbrev s__law_given : Stmt := top 68
abbrev s__law_house : Stmt := top 69
abbrev s__law_freezing : Stmt := top 70
abbrev s__law_gone_far : Stmt := top 71
abbrev s__law_drawn_right : Stmt := top 72
abbrev s_law : Stmt := top 73
abbrev s_Taken_init : Stmt := inClass (top 9) 0
abbrev s_NoDeed_init : Stmt := inClass (top 10) 0
abbrev s_NoName_init : Stmt := inClass (top 11) 0
abbrev s_NoHouse_init : Stmt := inClass (top 12) 0
abbrev s_NoTable_init : Stmt := inClass (top 13) 0
abbrev s_NoRow_init : Stmt := inClass (top 14) 0
abbrev s_Late_init : Stmt := inClass (top 15) 0
abbrev s_Waits_init : Stmt := inClass (top 16) 0
abbrev s_Looked_init : Stmt := inClass (top 17) 0
abbrev s_NoNumber_init : Stmt := inClass (top 18) 0
abbrev s_Stopped_init : Stmt := inClass (top 19) 0
abbrev s_Looker_init : Stmt := inClass (top 54) 0
abbrev s_Deeds_init : Stmt := inClass (top 55) 0
abbrev s_Deeds_look_free : Stmt := inClass (top 55) 1
abbrev s_Deeds_check_room : Stmt := inClass (top 55) 2
abbrev s_Deeds_note : Stmt := inClass (top 55) 3
abbrev s_Deeds_open_lookers : Stmt := inClass (top 55) 4
abbrev s_Deeds_steps_back : Stmt := inClass (top 55) 5
abbrev s_Deeds_in_order : Stmt := inClass (top 55) 6
abbrev s_Deeds_look_now : Stmt := inClass (top 55) 7
abbrev s_Deeds_is_looker : Stmt := inClass (top 55) 8
abbrev s_Deeds_check_name : Stmt := inClass (top 55) 9
abbrev s_Deeds_check_table : Stmt := inClass (top 55) 10
abbrev s_Deeds_looker_of : Stmt := inClass (top 55) 11
abbrev s_Deeds_deed_of : Stmt := inClass (top 55) 12
abbrev s_Deeds_look_by : Stmt := inClass (top 55) 13
abbrev s_Deeds_begin : Stmt := inClass (top 55) 14
abbrev s_Deeds_fate_of : Stmt := inClass (top 55) 15
abbrev s_Deeds_fates : Stmt := inClass (top 55) 16
abbrev s_Deeds_forget : Stmt := inClass (top 55) 17
abbrev s_Deeds_state_for : Stmt := inClass (top 55) 18
abbrev s_Deeds_check_others : Stmt := inClass (top 55) 19
abbrev s_Deeds_place_seen : Stmt := inClass (top 55) 20
abbrev s_Deeds_number_of : Stmt := inClass (top 55) 21
abbrev s_Deeds_end_version : Stmt := inClass (top 55) 22
abbrev s_Deeds_put : Stmt := inClass (top 55) 23
abbrev s_Deeds_cut : Stmt := inClass (top 55) 24
abbrev s_Deeds_end_deed : Stmt := inClass (top 55) 25
abbrev s_Deeds_done : Stmt := inClass (top 55) 26
abbrev s_Deeds_fell : Stmt := inClass (top 55) 27
abbrev s_Deeds_versions : Stmt := inClass (top 55) 31
abbrev s_Deeds_next : Stmt := inClass (top 55) 33
abbrev s_Freezing_init : Stmt := inClass (top 58) 0
abbrev s_Freezing_horizon : Stmt := inClass (top 58) 1
abbrev s_Freezing_lookers_at : Stmt := inClass (top 58) 2
abbrev s_Freezing_floor : Stmt := inClass (top 58) 3
abbrev s_Freezing_room : Stmt := inClass (top 58) 4
abbrev s_Freezing_holders : Stmt := inClass (top 58) 6
abbrev s_Freezing_check_room : Stmt := inClass (top 58) 7
abbrev s_Freezing_check_upto : Stmt := inClass (top 58) 9
abbrev s_Freezing_turned : Stmt := inClass (top 58) 10
abbrev s_Freezing_turn : Stmt := inClass (top 58) 11
abbrev s_Freezing_raise_eldest : Stmt := inClass (top 58) 13
abbrev s_Freezing_hand_change : Stmt := inClass (top 58) 14
abbrev s_Freezing_freeze : Stmt := inClass (top 58) 15
abbrev s_Freezing_hold : Stmt := inClass (top 58) 16
abbrev s_Freezing_let : Stmt := inClass (top 58) 17
abbrev s_Store_init : Stmt := inClass (top 62) 0
abbrev s_Store_made_of : Stmt := inClass (top 62) 1
abbrev s_Store_len : Stmt := inClass (top 62) 2
abbrev s_Store_eq : Stmt := inClass (top 62) 3
abbrev s_Store_str : Stmt := inClass (top 62) 4
abbrev s_Store_repr : Stmt := inClass (top 62) 5
def d_worst : He.DefD := ⟨("worst", none), "worst", "worst", defArgs s_worst, defBody s_worst, defScope s_worst, [], []⟩
def d_on : He.DefD := ⟨("on", none), "on", "on", defArgs s_on, defBody s_on, defScope s_on, [], [("ring", .int 64)]⟩
def d_steps : He.DefD := ⟨("steps", none), "steps", "steps", defArgs s_steps, defBody s_steps, defScope s_steps, [], [("ring", .int 64)]⟩
def d_before : He.DefD := ⟨("before", none), "before", "before", defArgs s_before, defBody s_before, defScope s_before, [], [("ring", .int 64)]⟩
def d_eldest : He.DefD := ⟨("eldest", none), "eldest", "eldest", defArgs s_eldest, defBody s_eldest, defScope s_eldest, [], [("ring", .int 64)]⟩
def d_is_word : He.DefD := ⟨("is_word", none), "is_word", "is_word", defArgs s_is_word, defBody s_is_word, defScope s_is_word, [], []⟩
def d_is_whole : He.DefD := ⟨("is_whole", none), "is_whole", "is_whole", defArgs s_is_whole, defBody s_is_whole, defScope s_is_whole, [], []⟩
def d_is_worth : He.DefD := ⟨("is_worth", none), "is_worth", "is_worth", defArgs s_is_worth, defBody s_is_worth, defScope s_is_worth, [], []⟩
def d_is_ring : He.DefD := ⟨("is_ring", none), "is_ring", "is_ring", defArgs s_is_ring, defBody s_is_ring, defScope s_is_ring, [], []⟩
def d_is_on : He.DefD := ⟨("is_on", none), "is_on", "is_on", defArgs s_is_on, defBody s_is_on, defScope s_is_on, [], []⟩
def d_low : He.DefD := ⟨("low", none), "low", "low", defArgs s_low, defBody s_low, defScope s_low, [], []⟩
def d_sees : He.DefD := ⟨("sees", none), "sees", "sees", defArgs s_sees, defBody s_sees, defScope s_sees, [], [("ring", .int 64)]⟩
def d_state_by : He.DefD := ⟨("state_by", none), "state_by", "state_by", defArgs s_state_by, defBody s_state_by, defScope s_state_by, [], []⟩
def d_frozen_by : He.DefD := ⟨("frozen_by", none), "frozen_by", "frozen_by", defArgs s_frozen_by, defBody s_frozen_by, defScope s_frozen_by, [], []⟩
def d_frozen : He.DefD := ⟨("frozen", none), "frozen", "frozen", defArgs s_frozen, defBody s_frozen, defScope s_frozen, [], [("ring", .int 64)]⟩
def d_are_tables : He.DefD := ⟨("are_tables", none), "are_tables", "are_tables", defArgs s_are_tables, defBody s_are_tables, defScope s_are_tables, [], []⟩
def d_are_marks : He.DefD := ⟨("are_marks", none), "are_marks", "are_marks", defArgs s_are_marks, defBody s_are_marks, defScope s_are_marks, [], []⟩
def d__law_hand : He.DefD := ⟨("_law_hand", none), "_law_hand", "_law_hand", defArgs s__law_hand, defBody s__law_hand, defScope s__law_hand, [], []⟩
def d__law_take : He.DefD := ⟨("_law_take", none), "_law_take", "_law_take", defArgs s__law_take, defBody s__law_take, defScope s__law_take, [], []⟩
def d__law_of : He.DefD := ⟨("_law_of", none), "_law_of", "_law_of", defArgs s__law_of, defBody s__law_of, defScope s__law_of, [], []⟩
def d__law_words : He.DefD := ⟨("_law_words", none), "_law_words", "_law_words", defArgs s__law_words, defBody s__law_words, defScope s__law_words, [], []⟩
def d__law_given : He.DefD := ⟨("_law_given", none), "_law_given", "_law_given", defArgs s__law_given, defBody s__law_given, defScope s__law_given, [], []⟩
def d__law_house : He.DefD := ⟨("_law_house", none), "_law_house", "_law_house", defArgs s__law_house, defBody s__law_house, defScope s__law_house, [], []⟩
def d__law_freezing : He.DefD := ⟨("_law_freezing", none), "_law_freezing", "_law_freezing", defArgs s__law_freezing, defBody s__law_freezing, defScope s__law_freezing, [], []⟩
def d__law_gone_far : He.DefD := ⟨("_law_gone_far", none), "_law_gone_far", "_law_gone_far", defArgs s__law_gone_far, defBody s__law_gone_far, defScope s__law_gone_far, [], []⟩
def d__law_drawn_right : He.DefD := ⟨("_law_drawn_right", none), "_law_drawn_right", "_law_drawn_right", defArgs s__law_drawn_right, defBody s__law_drawn_right, defScope s__law_drawn_right, [], []⟩
def d_law : He.DefD := ⟨("law", none), "law", "law", defArgs s_law, defBody s_law, defScope s_law, [], []⟩
def d_Taken_init : He.DefD := ⟨("Taken", some "__init__"), "__init__", "Taken.__init__", defArgs s_Taken_init, defBody s_Taken_init, defScope s_Taken_init, [], []⟩
def d_NoDeed_init : He.DefD := ⟨("NoDeed", some "__init__"), "__init__", "NoDeed.__init__", defArgs s_NoDeed_init, defBody s_NoDeed_init, defScope s_NoDeed_init, [], []⟩
def d_NoName_init : He.DefD := ⟨("NoName", some "__init__"), "__init__", "NoName.__init__", defArgs s_NoName_init, defBody s_NoName_init, defScope s_NoName_init, [], []⟩
def d_NoHouse_init : He.DefD := ⟨("NoHouse", some "__init__"), "__init__", "NoHouse.__init__", defArgs s_NoHouse_init, defBody s_NoHouse_init, defScope s_NoHouse_init, [], []⟩
def d_NoTable_init : He.DefD := ⟨("NoTable", some "__init__"), "__init__", "NoTable.__init__", defArgs s_NoTable_init, defBody s_NoTable_init, defScope s_NoTable_init, [], []⟩
def d_NoRow_init : He.DefD := ⟨("NoRow", some "__init__"), "__init__", "NoRow.__init__", defArgs s_NoRow_init, defBody s_NoRow_init, defScope s_NoRow_init, [], []⟩
def d_Late_init : He.DefD := ⟨("Late", some "__init__"), "__init__", "Late.__init__", defArgs s_Late_init, defBody s_Late_init, defScope s_Late_init, [], []⟩
def d_Waits_init : He.DefD := ⟨("Waits", some "__init__"), "__init__", "Waits.__init__", defArgs s_Waits_init, defBody s_Waits_init, defScope s_Waits_init, [], []⟩
def d_Looked_init : He.DefD := ⟨("Looked", some "__init__"), "__init__", "Looked.__init__", defArgs s_Looked_init, defBody s_Looked_init, defScope s_Looked_init, [], []⟩
def d_NoNumber_init : He.DefD := ⟨("NoNumber", some "__init__"), "__init__", "NoNumber.__init__", defArgs s_NoNumber_init, defBody s_NoNumber_init, defScope s_NoNumber_init, [], []⟩
def d_Stopped_init : He.DefD := ⟨("Stopped", some "__init__"), "__init__", "Stopped.__init__", defArgs s_Stopped_init, defBody s_Stopped_init, defScope s_Stopped_init, [], []⟩
def d_Looker_init : He.DefD := ⟨("Looker", some "__init__"), "__init__", "Looker.__init__", defArgs s_Looker_init, defBody s_Looker_init, defScope s_Looker_init, [], []⟩
def d_Deeds_init : He.DefD := ⟨("Deeds", some "__init__"), "__init__", "Deeds.__init__", defArgs s_Deeds_init, defBody s_Deeds_init, defScope s_Deeds_init, [], []⟩
def d_Deeds_look_free : He.DefD := ⟨("Store", some "look_free"), "look_free", "Deeds.look_free", defArgs s_Deeds_look_free, defBody s_Deeds_look_free, defScope s_Deeds_look_free, [], []⟩
def d_Deeds_check_room : He.DefD := ⟨("Deeds", some "check_room"), "check_room", "Deeds.check_room", defArgs s_Deeds_check_room, defBody s_Deeds_check_room, defScope s_Deeds_check_room, [], []⟩
def d_Deeds_note : He.DefD := ⟨("Store", some "note"), "note", "Deeds.note", defArgs s_Deeds_note, defBody s_Deeds_note, defScope s_Deeds_note, [], []⟩
def d_Deeds_open_lookers : He.DefD := ⟨("Store", some "open_lookers"), "open_lookers", "Deeds.open_lookers", defArgs s_Deeds_open_lookers, defBody s_Deeds_open_lookers, defScope s_Deeds_open_lookers, [], []⟩
def d_Deeds_steps_back : He.DefD := ⟨("Store", some "steps_back"), "steps_back", "Deeds.steps_back", defArgs s_Deeds_steps_back, defBody s_Deeds_steps_back, defScope s_Deeds_steps_back, [], []⟩
def d_Deeds_in_order : He.DefD := ⟨("Store", some "in_order"), "in_order", "Deeds.in_order", defArgs s_Deeds_in_order, defBody s_Deeds_in_order, defScope s_Deeds_in_order, [], []⟩
def d_Deeds_look_now : He.DefD := ⟨("Store", some "look_now"), "look_now", "Deeds.look_now", defArgs s_Deeds_look_now, defBody s_Deeds_look_now, defScope s_Deeds_look_now, [], []⟩
def d_Deeds_is_looker : He.DefD := ⟨("Store", some "is_looker"), "is_looker", "Deeds.is_looker", defArgs s_Deeds_is_looker, defBody s_Deeds_is_looker, defScope s_Deeds_is_looker, [], []⟩
def d_Deeds_check_name : He.DefD := ⟨("Store", some "check_name"), "check_name", "Deeds.check_name", defArgs s_Deeds_check_name, defBody s_Deeds_check_name, defScope s_Deeds_check_name, [], []⟩
def d_Deeds_check_table : He.DefD := ⟨("Store", some "check_table"), "check_table", "Deeds.check_table", defArgs s_Deeds_check_table, defBody s_Deeds_check_table, defScope s_Deeds_check_table, [], []⟩
def d_Deeds_looker_of : He.DefD := ⟨("Store", some "looker_of"), "looker_of", "Deeds.looker_of", defArgs s_Deeds_looker_of, defBody s_Deeds_looker_of, defScope s_Deeds_looker_of, [], []⟩
def d_Deeds_deed_of : He.DefD := ⟨("Store", some "deed_of"), "deed_of", "Deeds.deed_of", defArgs s_Deeds_deed_of, defBody s_Deeds_deed_of, defScope s_Deeds_deed_of, [], []⟩
def d_Deeds_look_by : He.DefD := ⟨("Store", some "look_by"), "look_by", "Deeds.look_by", defArgs s_Deeds_look_by, defBody s_Deeds_look_by, defScope s_Deeds_look_by, [], []⟩
def d_Deeds_begin : He.DefD := ⟨("Store", some "begin"), "begin", "Deeds.begin", defArgs s_Deeds_begin, defBody s_Deeds_begin, defScope s_Deeds_begin, [], []⟩
def d_Deeds_fate_of : He.DefD := ⟨("Store", some "fate_of"), "fate_of", "Deeds.fate_of", defArgs s_Deeds_fate_of, defBody s_Deeds_fate_of, defScope s_Deeds_fate_of, [], []⟩
def d_Deeds_fates : He.DefD := ⟨("Store", some "fates"), "fates", "Deeds.fates", defArgs s_Deeds_fates, defBody s_Deeds_fates, defScope s_Deeds_fates, [], []⟩
def d_Deeds_forget : He.DefD := ⟨("Store", some "forget"), "forget", "Deeds.forget", defArgs s_Deeds_forget, defBody s_Deeds_forget, defScope s_Deeds_forget, [], []⟩
def d_Deeds_state_for : He.DefD := ⟨("Store", some "state_for"), "state_for", "Deeds.state_for", defArgs s_Deeds_state_for, defBody s_Deeds_state_for, defScope s_Deeds_state_for, [], []⟩
def d_Deeds_check_others : He.DefD := ⟨("Store", some "check_others"), "check_others", "Deeds.check_others", defArgs s_Deeds_check_others, defBody s_Deeds_check_others, defScope s_Deeds_check_others, [], []⟩
def d_Deeds_place_seen : He.DefD := ⟨("Store", some "place_seen"), "place_seen", "Deeds.place_seen", defArgs s_Deeds_place_seen, defBody s_Deeds_place_seen, defScope s_Deeds_place_seen, [], []⟩
def d_Deeds_number_of : He.DefD := ⟨("Store", some "number_of"), "number_of", "Deeds.number_of", defArgs s_Deeds_number_of, defBody s_Deeds_number_of, defScope s_Deeds_number_of, [], []⟩
def d_Deeds_end_version : He.DefD := ⟨("Store", some "end_version"), "end_version", "Deeds.end_version", defArgs s_Deeds_end_version, defBody s_Deeds_end_version, defScope s_Deeds_end_version, [], []⟩
def d_Deeds_put : He.DefD := ⟨("Store", some "put"), "put", "Deeds.put", defArgs s_Deeds_put, defBody s_Deeds_put, defScope s_Deeds_put, [], []⟩
def d_Deeds_cut : He.DefD := ⟨("Store", some "cut"), "cut", "Deeds.cut", defArgs s_Deeds_cut, defBody s_Deeds_cut, defScope s_Deeds_cut, [], []⟩
def d_Deeds_end_deed : He.DefD := ⟨("Store", some "end_deed"), "end_deed", "Deeds.end_deed", defArgs s_Deeds_end_deed, defBody s_Deeds_end_deed, defScope s_Deeds_end_deed, [], []⟩
def d_Deeds_done : He.DefD := ⟨("Store", some "done"), "done", "Deeds.done", defArgs s_Deeds_done, defBody s_Deeds_done, defScope s_Deeds_done, [], []⟩
def d_Deeds_fell : He.DefD := ⟨("Store", some "fell"), "fell", "Deeds.fell", defArgs s_Deeds_fell, defBody s_Deeds_fell, defScope s_Deeds_fell, [], []⟩
def d_Deeds_versions : He.DefD := ⟨("Store", some "versions"), "versions", "Deeds.versions", defArgs s_Deeds_versions, defBody s_Deeds_versions, defScope s_Deeds_versions, [], []⟩
def d_Deeds_next : He.DefD := ⟨("Store", some "next"), "next", "Deeds.next", defArgs s_Deeds_next, defBody s_Deeds_next, defScope s_Deeds_next, [], []⟩
def d_Freezing_init : He.DefD := ⟨("Freezing", some "__init__"), "__init__", "Freezing.__init__", defArgs s_Freezing_init, defBody s_Freezing_init, defScope s_Freezing_init, [], []⟩
def d_Freezing_horizon : He.DefD := ⟨("Store", some "horizon"), "horizon", "Freezing.horizon", defArgs s_Freezing_horizon, defBody s_Freezing_horizon, defScope s_Freezing_horizon, [], []⟩
def d_Freezing_lookers_at : He.DefD := ⟨("Store", some "lookers_at"), "lookers_at", "Freezing.lookers_at", defArgs s_Freezing_lookers_at, defBody s_Freezing_lookers_at, defScope s_Freezing_lookers_at, [], []⟩
def d_Freezing_floor : He.DefD := ⟨("Store", some "floor"), "floor", "Freezing.floor", defArgs s_Freezing_floor, defBody s_Freezing_floor, defScope s_Freezing_floor, [], []⟩
def d_Freezing_room : He.DefD := ⟨("Store", some "room"), "room", "Freezing.room", defArgs s_Freezing_room, defBody s_Freezing_room, defScope s_Freezing_room, [], []⟩
def d_Freezing_holders : He.DefD := ⟨("Store", some "holders"), "holders", "Freezing.holders", defArgs s_Freezing_holders, defBody s_Freezing_holders, defScope s_Freezing_holders, [], []⟩
def d_Freezing_check_room : He.DefD := ⟨("Store", some "check_room"), "check_room", "Freezing.check_room", defArgs s_Freezing_check_room, defBody s_Freezing_check_room, defScope s_Freezing_check_room, [], []⟩
def d_Freezing_check_upto : He.DefD := ⟨("Store", some "check_upto"), "check_upto", "Freezing.check_upto", defArgs s_Freezing_check_upto, defBody s_Freezing_check_upto, defScope s_Freezing_check_upto, [], []⟩
def d_Freezing_turned : He.DefD := ⟨("Store", some "turned"), "turned", "Freezing.turned", defArgs s_Freezing_turned, defBody s_Freezing_turned, defScope s_Freezing_turned, [], []⟩
def d_Freezing_turn : He.DefD := ⟨("Store", some "turn"), "turn", "Freezing.turn", defArgs s_Freezing_turn, defBody s_Freezing_turn, defScope s_Freezing_turn, [], []⟩
def d_Freezing_raise_eldest : He.DefD := ⟨("Store", some "raise_eldest"), "raise_eldest", "Freezing.raise_eldest", defArgs s_Freezing_raise_eldest, defBody s_Freezing_raise_eldest, defScope s_Freezing_raise_eldest, [], []⟩
def d_Freezing_hand_change : He.DefD := ⟨("Store", some "hand_change"), "hand_change", "Freezing.hand_change", defArgs s_Freezing_hand_change, defBody s_Freezing_hand_change, defScope s_Freezing_hand_change, [], []⟩
def d_Freezing_freeze : He.DefD := ⟨("Store", some "freeze"), "freeze", "Freezing.freeze", defArgs s_Freezing_freeze, defBody s_Freezing_freeze, defScope s_Freezing_freeze, [], [("upto", .non), ("most", .non), ("each", .non)]⟩
def d_Freezing_hold : He.DefD := ⟨("Store", some "hold"), "hold", "Freezing.hold", defArgs s_Freezing_hold, defBody s_Freezing_hold, defScope s_Freezing_hold, [], [("like", .non)]⟩
def d_Freezing_let : He.DefD := ⟨("Store", some "let"), "let", "Freezing.let", defArgs s_Freezing_let, defBody s_Freezing_let, defScope s_Freezing_let, [], []⟩
def d_Store_init : He.DefD := ⟨("Store", some "__init__"), "__init__", "Store.__init__", defArgs s_Store_init, defBody s_Store_init, defScope s_Store_init, [], [("ring", .int 64), ("stop", .int 28), ("warn", .int 20), ("first", .int 0)]⟩
def d_Store_made_of : He.DefD := ⟨("Store", some "made_of"), "made_of", "Store.made_of", defArgs s_Store_made_of, defBody s_Store_made_of, defScope s_Store_made_of, [], []⟩
def d_Store_len : He.DefD := ⟨("Store", some "__len__"), "__len__", "Store.__len__", defArgs s_Store_len, defBody s_Store_len, defScope s_Store_len, [], []⟩
def d_Store_eq : He.DefD := ⟨("Store", some "__eq__"), "__eq__", "Store.__eq__", defArgs s_Store_eq, defBody s_Store_eq, defScope s_Store_eq, [], []⟩
def d_Store_str : He.DefD := ⟨("Store", some "__str__"), "__str__", "Store.__str__", defArgs s_Store_str, defBody s_Store_str, defScope s_Store_str, [], []⟩
def d_Store_repr : He.DefD := ⟨("Store", some "__repr__"), "__repr__", "Store.__repr__", defArgs s_Store_repr, defBody s_Store_repr, defScope s_Store_repr, [], []⟩
def fn0 : List He.DefD := [d_worst, d_on, d_steps, d_before, d_eldest, d_is_word, d_is_whole, d_is_worth, d_is_ring, d_is_on, d_low, d_sees, d_state_by, d_frozen_by, d_frozen, d_are_tables, d_are_marks, d__law_hand, d__law_take, d__law_of]
def fn1 : List He.DefD := [d__law_words, d__law_given, d__law_house, d__law_freezing, d__law_gone_far, d__law_drawn_right, d_law, d_Taken_init, d_NoDeed_init, d_NoName_init, d_NoHouse_init, d_NoTable_init, d_NoRow_init, d_Late_init, d_Waits_init, d_Looked_init, d_NoNumber_init, d_Stopped_init, d_Looker_init, d_Deeds_init]
def fn2 : List He.DefD := [d_Deeds_look_free, d_Deeds_check_room, d_Deeds_note, d_Deeds_open_lookers, d_Deeds_steps_back, d_Deeds_in_order, d_Deeds_look_now, d_Deeds_is_looker, d_Deeds_check_name, d_Deeds_check_table, d_Deeds_looker_of, d_Deeds_deed_of, d_Deeds_look_by, d_Deeds_begin, d_Deeds_fate_of, d_Deeds_fates, d_Deeds_forget, d_Deeds_state_for, d_Deeds_check_others, d_Deeds_place_seen]
def fn3 : List He.DefD := [d_Deeds_number_of, d_Deeds_end_version, d_Deeds_put, d_Deeds_cut, d_Deeds_end_deed, d_Deeds_done, d_Deeds_fell, d_Deeds_versions, d_Deeds_next, d_Freezing_init, d_Freezing_horizon, d_Freezing_lookers_at, d_Freezing_floor, d_Freezing_room, d_Freezing_holders, d_Freezing_check_room, d_Freezing_check_upto, d_Freezing_turned, d_Freezing_turn, d_Freezing_raise_eldest]
def fn4 : List He.DefD := [d_Freezing_hand_change, d_Freezing_freeze, d_Freezing_hold, d_Freezing_let, d_Store_init, d_Store_made_of, d_Store_len, d_Store_eq, d_Store_str, d_Store_repr]
def fn : List He.DefD := fn0 ++ fn1 ++ fn2 ++ fn3 ++ fn4
def fa0 : List He.Fa := [.glo "worst", .glo "on", .glo "steps", .glo "before", .glo "eldest", .glo "is_word", .glo "is_whole", .glo "is_worth", .glo "is_ring", .glo "is_on", .glo "low", .glo "sees", .glo "state_by", .glo "frozen_by", .glo "frozen", .glo "are_tables", .glo "are_marks", .glo "_law_hand", .glo "_law_take", .glo "_law_of"]
def fa1 : List He.Fa := [.glo "_law_words", .glo "_law_given", .glo "_law_house", .glo "_law_freezing", .glo "_law_gone_far", .glo "_law_drawn_right", .glo "law", .glo "NoStore", .glo "Busy", .glo "Taken", .glo "NoDeed", .glo "NoName", .glo "NoHouse", .glo "NoTable", .glo "NoRow", .glo "Late", .glo "Waits", .glo "Looked", .glo "NoNumber", .glo "Stopped"]
def fa2 : List He.Fa := [.glo "Looker", .glo "Deeds", .glo "Freezing", .glo "Store", .free "len", .free "range", .free "tuple", .free "dict", .free "sorted", .free "min", .free "max", .free "all", .free "any", .free "isinstance", .free "int", .free "str", .free "bool", .free "abs", .free "enumerate", .free "zip"]
def fa3 : List He.Fa := [.free "ValueError", .free "KeyError", .free "LookupError", .free "RuntimeError", .free "OverflowError", .int "RING" 64, .int "STOP" 28, .int "WARN" 20, .str "LETTERS" "abcdefghijklmnopqrstuvwxyz", .int "LONGEST_WORD" 8, .int "LEAST_RING" 8, .str "DONE_looks" "done", .str "FELL_looks" "fell", .str "OPEN_looks" "open", .str "LATER" "later", .str "CUT" "cut", .str "SEEN" "seen", .str "DEED" "deed", .str "HOUSE" "house", .str "OPEN_deedbook" "open"]
def fa4 : List He.Fa := [.str "DONE_deedbook" "done", .str "FELL_deedbook" "fell", .str "GONE" "gone", .str "TABLE" "table", .cls "Looker", .mkr "Looker", .noat "Looker" "looker_name", .noat "Looker" "looker_sort", .noat "Looker" "looker_look", .noat "Looker" "looker_number", .noat "Looker" "looker_end", .cls "Store", .mkr "Store", .noat "Store" "store_first", .noat "Store" "book_stop", .noat "Store" "book_warn", .noat "Store" "book_eldests", .noat "Store" "is_busy", .noat "Store" "book_ring", .noat "Store" "book_next"]
def fa5 : List He.Fa := [.noat "Store" "book_tables", .noat "Store" "book_fates", .noat "Store" "book_lookers", .noat "Store" "book_log", .meth "Store" "made_of", .meth "Store" "horizon", .meth "Store" "lookers_at", .meth "Store" "floor", .meth "Store" "room", .meth "Store" "holders", .meth "Store" "check_room", .meth "Store" "check_upto", .meth "Store" "turned", .meth "Store" "turn", .meth "Store" "raise_eldest", .meth "Store" "hand_change", .meth "Store" "freeze", .meth "Store" "hold", .meth "Store" "let", .meth "Store" "look_free"]
def fa6 : List He.Fa := [.meth "Store" "note", .meth "Store" "open_lookers", .meth "Store" "steps_back", .meth "Store" "in_order", .meth "Store" "look_now", .meth "Store" "is_looker", .meth "Store" "check_name", .meth "Store" "check_table", .meth "Store" "looker_of", .meth "Store" "deed_of", .meth "Store" "look_by", .meth "Store" "begin", .meth "Store" "fate_of", .meth "Store" "fates", .meth "Store" "forget", .meth "Store" "state_for", .meth "Store" "check_others", .meth "Store" "place_seen", .meth "Store" "number_of", .meth "Store" "end_version"]
def fa7 : List He.Fa := [.meth "Store" "put", .meth "Store" "cut", .meth "Store" "end_deed", .meth "Store" "done", .meth "Store" "fell", .meth "Store" "versions", .meth "Store" "next"]
def fa : List He.Fa := fa0 ++ fa1 ++ fa2 ++ fa3 ++ fa4 ++ fa5 ++ fa6 ++ fa7
end Hd
namespace Hd
open PySem PySem.Spec PyProof.Rows L2 ExF
def ovBm : List Value := [.type "OverflowError", .type "ArithmeticError", .type "Exception", .type "BaseException", .type "object"]
def ex (K : PySem.W.Frag) : Bool := xOk K "Stopped" "by" ovBm "OverflowError.__new__" && (mOk K "Stopped" "Stopped" true && (bOk K "Store" "steps_back" && (cOk K "Deeds" "__init__" && cOk K "Freezing" "__init__")))
abbrev hk : PySem.W.Hook := HkM.hookM fa fn ex
def ob (s : PySem.W.SharedT) : HkM.AlM := HkM.obsM fa fn ex (HandSHeadRun.getT s)
theorem ob_eq (s : PySem.W.SharedT) : ob s = hk.obs s.abs := HkM.obsM_eq (HandSHeadRun.getT_eq s)
theorem run (w : World) : HandSHeadRun.RunEq R (PySem.W.view R.prog [73]) hk ob 20000 names w := by
  intro os
  kernel_rfl
end Hd
end
section
set_option maxHeartbeats 4000000
namespace Hd
open PySem PySem.Spec PyProof.Rows L2 He ExF
/-- what a walk knows of the text -/
structure Txt (K : PySem.W.Frag) (mg : Str → Option Value) : Prop where
  says : HkM.SaysM fa fn ex K
  gl : ∀ (i : Nat) (x : Str), fa[i]? = some (Fa.glo x) → mg x = some (.ref (ga K x))
  fr : ∀ (i : Nat) (x : Str), fa[i]? = some (Fa.free x) → mg x = none
  it : ∀ (i : Nat) (x : Str) (v : Int), fa[i]? = some (Fa.int x v) → ∃ t, mg x = some (.int v t)
  st : ∀ (i : Nat) (x z : Str), fa[i]? = some (Fa.str x z) → ∃ t, mg x = some (.str z t)
section
variable {K : PySem.W.Frag} {mg : Str → Option Value} (T : Txt K mg)
include T
theorem Txt.glo (i : Nat) {x : Str} (h : fa[i]? = some (Fa.glo x) := by rfl) : mg x = some (.ref (ga K x)) := T.gl i x h
theorem Txt.fre (i : Nat) {x : Str} (h : fa[i]? = some (Fa.free x) := by rfl) : mg x = none := T.fr i x h
theorem Txt.int (i : Nat) {x : Str} {v : Int} (h : fa[i]? = some (Fa.int x v) := by rfl) : ∃ t, mg x = some (.int v t) := T.it i x v h
theorem Txt.str (i : Nat) {x z : Str} (h : fa[i]? = some (Fa.str x z) := by rfl) : ∃ t, mg x = some (.str z t) := T.st i x z h
theorem Txt.fct (i : Nat) {f : Fa} (h : fa[i]? = some f := by rfl) : f.ok K = true := T.says.d.fact i h
end
abbrev FnD (K : PySem.W.Frag) (d : DefD) (fd : FuncData) : Prop := FunD K d.name d.qual d.params d.body d.scope (d.dvs K) (d.kws K) (fAd K d.at_) fd
abbrev CS (K : PySem.W.Frag) : Addr := ga K "Store"
abbrev CL (K : PySem.W.Frag) : Addr := ga K "Looker"
section
variable {K : PySem.W.Frag} {mg : Str → Option Value} (T : Txt K mg)
include T
theorem Txt.fn (i : Nat) {d : DefD} (h : Hd.fn[i]? = some d := by rfl) : ∃ fd, FnD K d fd := T.says.d.def_ i h
theorem Txt.clStore : Cls K (CS K) := cls_ok (T.fct 91 (f := .cls "Store"))
theorem Txt.clLooker : Cls K (CL K) := cls_ok (T.fct 84 (f := .cls "Looker"))
theorem Txt.mkLooker : Mk K (CL K) (ma K (CL K) "__init__") := mkr_ok (T.fct 85 (f := .mkr "Looker"))
theorem Txt.mkStore : Mk K (CS K) (ma K (CS K) "__init__") := mkr_ok (T.fct 92 (f := .mkr "Store"))
theorem Txt.mt (i : Nat) {m : Str} (h : fa[i]? = some (Fa.meth "Store" m) := by rfl) : Meth K (CS K) m (ma K (CS K) m) := meth_ok (T.fct i (f := .meth "Store" m) h)
end
def noB (x f : Str) : Fa → Bool
  | .noat y g => decide (y = x) && decide (g = f)
  | _ => false
section
variable {K : PySem.W.Frag} {mg : Str → Option Value} (T : Txt K mg)
include T
theorem Txt.na {x f : Str} (h : fa.any (noB x f) = true) : NoAttr K (ga K x) f := by
  obtain ⟨g, hg, e⟩ := List.any_eq_true.mp h
  obtain ⟨i, hi⟩ := List.mem_iff_getElem?.mp hg
  have c := T.fct i hi
  cases g with
  | noat y z =>
    simp only [noB, Bool.and_eq_true, decide_eq_true_eq] at e
    obtain ⟨rfl, rfl⟩ := e
    exact noat_ok c
  | _ => cases e
theorem Txt.naS {f : Str} (h : fa.any (noB "Store" f) = true) : NoAttr K (CS K) f := T.na h
theorem Txt.naL {f : Str} (h : fa.any (noB "Looker" f) = true) : NoAttr K (CL K) f := T.na h
theorem Txt.exs : xOk K "Stopped" "by" ovBm "OverflowError.__new__" = true ∧ mOk K "Stopped" "Stopped" true = true ∧ bOk K "Store" "steps_back" = true ∧ cOk K "Deeds" "__init__" = true ∧ cOk K "Freezing" "__init__" = true := by
  have h := T.says.more
  unfold ex at h
  simp only [Bool.and_eq_true] at h
  exact h
theorem Txt.xStopped : XOk K "Stopped" "by" ovBm "OverflowError.__new__" := xOk_of T.exs.1
theorem Txt.xcStopped : RXe.ExC K (ga K "Stopped") ovBm "OverflowError.__new__" := T.xStopped.c
theorem Txt.xiStopped : PySem.W.findIn K (.ref (ga K "Stopped")) "__init__" = some (some (.ref (ma K (ga K "Stopped") "__init__"))) := T.xStopped.i
theorem Txt.xtStopped : PySem.W.typeIn K (.ref (ma K (ga K "Stopped") "__init__")) = some (.type "function") := T.xStopped.t
theorem Txt.exm : PySem.W.exmOne K (.ref (ga K "Stopped")) (.ref (ga K "Stopped")) = some true := mOk_of T.exs.2.1
theorem Txt.bmSteps : BMeth K (CS K) "steps_back" (ma K (CS K) "steps_back") := bOk_of T.exs.2.2.1
theorem Txt.coDeeds : COk K "Deeds" "__init__" := cOk_of T.exs.2.2.2.1
theorem Txt.coFreezing : COk K "Freezing" "__init__" := cOk_of T.exs.2.2.2.2
end
/-! ### the fields of a store, of a looker -/
/-- the values of a store's fields -/
structure SF where
  ring : Int
  next : Int
  aT : Addr
  aF : Addr
  aL : Addr
  aG : Addr
  busy : Bool
  stop : Int
  warn : Int
  aE : Addr
  first : Int
def SF.l (s : SF) : List (Str × V) := [("book_ring", .int s.ring), ("book_next", .int s.next), ("book_tables", .ref s.aT), ("book_fates", .ref s.aF), ("book_lookers", .ref s.aL), ("book_log", .ref s.aG), ("is_busy", .bl s.busy), ("book_stop", .int s.stop), ("book_warn", .int s.warn), ("book_eldests", .ref s.aE), ("store_first", .int s.first)]
section
variable {s : SF}
theorem SF.ring_ : s.l.lookup ("book_ring" : Str) = some (.int s.ring) := by kernel_rfl
theorem SF.next_ : s.l.lookup ("book_next" : Str) = some (.int s.next) := by kernel_rfl
theorem SF.tables_ : s.l.lookup ("book_tables" : Str) = some (.ref s.aT) := by kernel_rfl
theorem SF.fates_ : s.l.lookup ("book_fates" : Str) = some (.ref s.aF) := by kernel_rfl
theorem SF.lookers_ : s.l.lookup ("book_lookers" : Str) = some (.ref s.aL) := by kernel_rfl
theorem SF.log_ : s.l.lookup ("book_log" : Str) = some (.ref s.aG) := by kernel_rfl
theorem SF.busy_ : s.l.lookup ("is_busy" : Str) = some (.bl s.busy) := by kernel_rfl
theorem SF.stop_ : s.l.lookup ("book_stop" : Str) = some (.int s.stop) := by kernel_rfl
theorem SF.warn_ : s.l.lookup ("book_warn" : Str) = some (.int s.warn) := by kernel_rfl
theorem SF.eldests_ : s.l.lookup ("book_eldests" : Str) = some (.ref s.aE) := by kernel_rfl
theorem SF.first_ : s.l.lookup ("store_first" : Str) = some (.int s.first) := by kernel_rfl
theorem SF.put_next {n : Int} : putF "book_next" (.int n) s.l = { s with next := n }.l := by kernel_rfl
theorem SF.put_fates {a : Addr} : putF "book_fates" (.ref a) s.l = { s with aF := a }.l := by kernel_rfl
theorem SF.put_busy {b : Bool} : putF "is_busy" (.bl b) s.l = { s with busy := b }.l := by kernel_rfl
theorem SF.len : s.l.length = 11 := rfl
/-- no method's name is a field -/
theorem SF.noM {m : Str} (h : ((["book_ring", "book_next", "book_tables", "book_fates", "book_lookers", "book_log", "is_busy", "book_stop", "book_warn", "book_eldests", "store_first"] : List Str).contains m) = false) : s.l.lookup m = none := by
  have : ∀ (l : List (Str × V)), (l.map (·.1)).contains m = false → l.lookup m = none := by
    intro l
    induction l with
    | nil => intro _; rfl
    | cons p r ih =>
      intro h
      rw [List.map_cons, List.contains_cons, Bool.or_eq_false_iff] at h
      obtain ⟨k, v⟩ := p
      rw [List.lookup_cons, h.1]
      exact ih h.2
  exact this s.l h
end
/-- a number, or None -/
def oI : Option Int → V
  | none => .non
  | some i => .int i
def oS : Option Str → V
  | none => .non
  | some i => .str i
def nK (m : Option Int) : Option Key := m.map Sum.inl
theorem _root_.RX.nkV_oI (m : Option Int) : oI m = RX.nkV (nK m) := by cases m <;> rfl
theorem _root_.RX.isD_rd {H : Hp} {a : Addr} {kvs : List (Key × V)} (h : Rd H a (.dK kvs)) : IsD H a := .inl ⟨_, h⟩
theorem _root_.RX.tyL {K : PySem.W.Frag} {H : Hp} {p : Addr} {xs : List V} (h : SqL K H p xs) : tyV K "list" (.ref p) H := .inl ⟨rfl, _, h⟩
theorem _root_.RX.tyD {K : PySem.W.Frag} {H : Hp} {p : Addr} {kvs : List (Key × V)} (h : H p = some (.dK kvs)) : tyV K "dict" (.ref p) H := .inr (.inr (.inl ⟨rfl, .inl ⟨_, h⟩⟩))
structure LF where
  name : Str
  sort : Str
  look : Addr
  num : Option Int
  fin : Option Str
def LF.l (s : LF) : List (Str × V) := [("looker_name", .str s.name), ("looker_sort", .str s.sort), ("looker_look", .ref s.look), ("looker_number", oI s.num), ("looker_end", oS s.fin)]
section
variable {s : LF}
theorem LF.name_ : s.l.lookup ("looker_name" : Str) = some (.str s.name) := by kernel_rfl
theorem LF.sort_ : s.l.lookup ("looker_sort" : Str) = some (.str s.sort) := by kernel_rfl
theorem LF.look_ : s.l.lookup ("looker_look" : Str) = some (.ref s.look) := by kernel_rfl
theorem LF.num_ : s.l.lookup ("looker_number" : Str) = some (oI s.num) := by kernel_rfl
theorem LF.fin_ : s.l.lookup ("looker_end" : Str) = some (oS s.fin) := by kernel_rfl
theorem LF.put_num {n : Int} : putF "looker_number" (.int n) s.l = { s with num := some n }.l := by kernel_rfl
theorem LF.put_fin {n : Str} : putF "looker_end" (.str n) s.l = { s with fin := some n }.l := by kernel_rfl
theorem LF.len : s.l.length = 5 := rfl
end
end Hd
end
section
set_option maxHeartbeats 4000000
/-! the forms of Lc where the items are told by a list of things -/
namespace RX
open PySem PySem.Spec PyProof.Rows L2
section
variable {α : Type} {K : PySem.W.Frag} {a : Addr} {g : TG} {tt : TT} {te : TE} {vs : List Nat} {σ : L2.St} {H1 : Hp} {D : Addr} {Qd : Hp → Prop}
theorem lm_lst {its : List α} {vf : α → V} {f : α → List V} (hD : H1 D = none) (h1 : ∀ x, (f x).length ≤ 1) (hz : its.length ≤ sizeLine) (hl : SqL K H1 a (its.map vf))
    (hs : ∀ (i : Nat) t l H', its[i]? = some t → l.length < sizeLine → Acc H1 D l H' → g (vf t) (wipe σ vs) H' fun σ2 H2 => wipe σ2 vs = wipe σ vs ∧ tt σ2 H2 fun b H3 =>
      if b = true then te σ2 H3 fun y H4 => ∃ acc, H4 D = some (.lst acc) ∧ acc.length < sizeLine ∧ Acc H1 D (l ++ f t) (upd H4 D (.lst (acc ++ [y]))) else Acc H1 D (l ++ f t) H3)
    (hd : ∀ H, Acc H1 D (its.flatMap f) H → Qd H) :
    ∃ W : Nat → Nat → Hp → Prop, (∃ m, W 0 m (upd H1 D (.lst []))) ∧ ∀ i m H, W i m H →
      ((Itl K a).stop i H ∧ Qd H) ∨ ((Itl K a).go i H ∧ ∃ Nx : Hp → Prop, (∀ H', Nx H' → ∃ m', m' < m ∧ W (i + 1) m' H') ∧ ∀ x H', (Itl K a).yld i H x H' → g x (wipe σ vs) H' fun σ2 H2 => wipe σ2 vs = wipe σ vs ∧ tt σ2 H2 fun b H3 =>
        if b = true then te σ2 H3 fun y H4 => ∃ acc, H4 D = some (.lst acc) ∧ acc.length < sizeLine ∧ Nx (upd H4 D (.lst (acc ++ [y]))) else Nx H3) :=
  lc_items (its := its) (Y := fun i t v _ => v = vf t) hD h1 hz (fun i H hi e => ⟨_, vf its[i], e.seq hl, by rw [List.getElem?_map, List.getElem?_eq_getElem hi]; rfl⟩) (fun H e => ⟨_, e.seq hl, by simp⟩) (fun i H x H' hi e ⟨q1, q2⟩ => ⟨q1 ▸ Same.refl _, its[i], List.getElem?_eq_getElem hi, by have z := q2 _ (e.seq hl); rw [List.getElem?_map, List.getElem?_eq_getElem hi] at z; exact (Option.some.inj z).symm⟩) (fun i t v l H' hi y hl p => y ▸ hs i t l H' hi hl p) hd
theorem lm_tpl {its : List α} {vf : α → V} {f : α → List V} (hD : H1 D = none) (h1 : ∀ x, (f x).length ≤ 1) (hz : its.length ≤ sizeLine) (hl : SqT K H1 a (its.map vf))
    (hs : ∀ (i : Nat) t l H', its[i]? = some t → l.length < sizeLine → Acc H1 D l H' → g (vf t) (wipe σ vs) H' fun σ2 H2 => wipe σ2 vs = wipe σ vs ∧ tt σ2 H2 fun b H3 =>
      if b = true then te σ2 H3 fun y H4 => ∃ acc, H4 D = some (.lst acc) ∧ acc.length < sizeLine ∧ Acc H1 D (l ++ f t) (upd H4 D (.lst (acc ++ [y]))) else Acc H1 D (l ++ f t) H3)
    (hd : ∀ H, Acc H1 D (its.flatMap f) H → Qd H) :
    ∃ W : Nat → Nat → Hp → Prop, (∃ m, W 0 m (upd H1 D (.lst []))) ∧ ∀ i m H, W i m H →
      ((Itt K a).stop i H ∧ Qd H) ∨ ((Itt K a).go i H ∧ ∃ Nx : Hp → Prop, (∀ H', Nx H' → ∃ m', m' < m ∧ W (i + 1) m' H') ∧ ∀ x H', (Itt K a).yld i H x H' → g x (wipe σ vs) H' fun σ2 H2 => wipe σ2 vs = wipe σ vs ∧ tt σ2 H2 fun b H3 =>
        if b = true then te σ2 H3 fun y H4 => ∃ acc, H4 D = some (.lst acc) ∧ acc.length < sizeLine ∧ Nx (upd H4 D (.lst (acc ++ [y]))) else Nx H3) :=
  lc_items (its := its) (Y := fun i t v _ => v = vf t) hD h1 hz (fun i H hi e => ⟨_, vf its[i], same_sqT e hl, by rw [List.getElem?_map, List.getElem?_eq_getElem hi]; rfl⟩) (fun H e => ⟨_, same_sqT e hl, by simp⟩) (fun i H x H' hi e ⟨q1, q2⟩ => ⟨q1 ▸ Same.refl _, its[i], List.getElem?_eq_getElem hi, by have z := q2 _ (same_sqT e hl); rw [List.getElem?_map, List.getElem?_eq_getElem hi] at z; exact (Option.some.inj z).symm⟩) (fun i t v l H' hi y hl p => y ▸ hs i t l H' hi hl p) hd
theorem lm_vals {its : List α} {kf : α → Key × V} {o : Obj} {f : α → List V} (hD : H1 D = none) (h1 : ∀ x, (f x).length ≤ 1) (hz : its.length ≤ sizeLine) (hl : H1 a = some (.frz o (.dK (its.map kf))))
    (hs : ∀ (i : Nat) t l H', its[i]? = some t → l.length < sizeLine → Acc H1 D l H' → g (kf t).2 (wipe σ vs) H' fun σ2 H2 => wipe σ2 vs = wipe σ vs ∧ tt σ2 H2 fun b H3 =>
      if b = true then te σ2 H3 fun y H4 => ∃ acc, H4 D = some (.lst acc) ∧ acc.length < sizeLine ∧ Acc H1 D (l ++ f t) (upd H4 D (.lst (acc ++ [y]))) else Acc H1 D (l ++ f t) H3)
    (hd : ∀ H, Acc H1 D (its.flatMap f) H → Qd H) :
    ∃ W : Nat → Nat → Hp → Prop, (∃ m, W 0 m (upd H1 D (.lst []))) ∧ ∀ i m H, W i m H →
      ((Itd a o (its.map kf)).stop i H ∧ Qd H) ∨ ((Itd a o (its.map kf)).go i H ∧ ∃ Nx : Hp → Prop, (∀ H', Nx H' → ∃ m', m' < m ∧ W (i + 1) m' H') ∧ ∀ x H', (Itd a o (its.map kf)).yld i H x H' → g x (wipe σ vs) H' fun σ2 H2 => wipe σ2 vs = wipe σ vs ∧ tt σ2 H2 fun b H3 =>
        if b = true then te σ2 H3 fun y H4 => ∃ acc, H4 D = some (.lst acc) ∧ acc.length < sizeLine ∧ Nx (upd H4 D (.lst (acc ++ [y]))) else Nx H3) :=
  lc_items (its := its) (Y := fun i t v _ => v = (kf t).2) hD h1 hz (fun i H hi e => ⟨e _ _ hl, by simpa using hi⟩) (fun H e => ⟨e _ _ hl, by simp⟩) (fun i H x H' hi e ⟨q1, k, q2⟩ => ⟨q1 ▸ Same.refl _, its[i], List.getElem?_eq_getElem hi, by rw [List.getElem?_map, List.getElem?_eq_getElem hi] at q2; rw [Option.some.inj q2]⟩) (fun i t v l H' hi y hl p => y ▸ hs i t l H' hi hl p) hd
theorem lm_itms {its : List α} {kf : α → Key × V} {o : Obj} {f : α → List V} (hD : H1 D = none) (h1 : ∀ x, (f x).length ≤ 1) (hz : its.length ≤ sizeLine) (hl : H1 a = some (.frz o (.dK (its.map kf))))
    (hs : ∀ (i : Nat) t T l H', its[i]? = some t → H' T = some (.tup [kV (kf t).1, (kf t).2]) → l.length < sizeLine → Acc H1 D l H' → g (.ref T) (wipe σ vs) H' fun σ2 H2 => wipe σ2 vs = wipe σ vs ∧ tt σ2 H2 fun b H3 =>
      if b = true then te σ2 H3 fun y H4 => ∃ acc, H4 D = some (.lst acc) ∧ acc.length < sizeLine ∧ Acc H1 D (l ++ f t) (upd H4 D (.lst (acc ++ [y]))) else Acc H1 D (l ++ f t) H3)
    (hd : ∀ H, Acc H1 D (its.flatMap f) H → Qd H) :
    ∃ W : Nat → Nat → Hp → Prop, (∃ m, W 0 m (upd H1 D (.lst []))) ∧ ∀ i m H, W i m H →
      ((Iti a o (its.map kf)).stop i H ∧ Qd H) ∨ ((Iti a o (its.map kf)).go i H ∧ ∃ Nx : Hp → Prop, (∀ H', Nx H' → ∃ m', m' < m ∧ W (i + 1) m' H') ∧ ∀ x H', (Iti a o (its.map kf)).yld i H x H' → g x (wipe σ vs) H' fun σ2 H2 => wipe σ2 vs = wipe σ vs ∧ tt σ2 H2 fun b H3 =>
        if b = true then te σ2 H3 fun y H4 => ∃ acc, H4 D = some (.lst acc) ∧ acc.length < sizeLine ∧ Nx (upd H4 D (.lst (acc ++ [y]))) else Nx H3) :=
  lc_items (its := its) (Y := fun i t v H' => ∃ T, v = .ref T ∧ H' T = some (.tup [kV (kf t).1, (kf t).2])) hD h1 hz (fun i H hi e => ⟨e _ _ hl, by simpa using hi⟩) (fun H e => ⟨e _ _ hl, by simp⟩) (fun i H x H' hi e ⟨T, k, v, q1, q2, q3, q4⟩ => ⟨q4 ▸ same_new q3, its[i], List.getElem?_eq_getElem hi, T, q2, by rw [List.getElem?_map, List.getElem?_eq_getElem hi] at q1; rw [q4, upd_same]; have z := Option.some.inj q1; rw [z]⟩) (fun i t v l H' hi ⟨T, y, hT⟩ hl p => y ▸ hs i t T l H' hi hT hl p) hd
theorem lm_enum {its : List α} {vf : α → V} {f : α → List V} (hD : H1 D = none) (h1 : ∀ x, (f x).length ≤ 1) (hz : its.length ≤ sizeLine) (hl : SqL K H1 a (its.map vf))
    (hs : ∀ (i : Nat) t T l H', its[i]? = some t → H' T = some (.tup [.int (i : Nat), vf t]) → l.length < sizeLine → Acc H1 D l H' → g (.ref T) (wipe σ vs) H' fun σ2 H2 => wipe σ2 vs = wipe σ vs ∧ tt σ2 H2 fun b H3 =>
      if b = true then te σ2 H3 fun y H4 => ∃ acc, H4 D = some (.lst acc) ∧ acc.length < sizeLine ∧ Acc H1 D (l ++ f t) (upd H4 D (.lst (acc ++ [y]))) else Acc H1 D (l ++ f t) H3)
    (hd : ∀ H, Acc H1 D (its.flatMap f) H → Qd H) :
    ∃ W : Nat → Nat → Hp → Prop, (∃ m, W 0 m (upd H1 D (.lst []))) ∧ ∀ i m H, W i m H →
      ((Ite K a).stop i H ∧ Qd H) ∨ ((Ite K a).go i H ∧ ∃ Nx : Hp → Prop, (∀ H', Nx H' → ∃ m', m' < m ∧ W (i + 1) m' H') ∧ ∀ x H', (Ite K a).yld i H x H' → g x (wipe σ vs) H' fun σ2 H2 => wipe σ2 vs = wipe σ vs ∧ tt σ2 H2 fun b H3 =>
        if b = true then te σ2 H3 fun y H4 => ∃ acc, H4 D = some (.lst acc) ∧ acc.length < sizeLine ∧ Nx (upd H4 D (.lst (acc ++ [y]))) else Nx H3) :=
  lc_items (its := its) (Y := fun i t v H' => ∃ T, v = .ref T ∧ H' T = some (.tup [.int (i : Nat), vf t])) hD h1 hz (fun i H hi e => ⟨_, vf its[i], e.seq hl, by rw [List.getElem?_map, List.getElem?_eq_getElem hi]; rfl⟩) (fun H e => ⟨_, e.seq hl, by simp⟩) (fun i H x H' hi e ⟨T, y, q1, q2, q3, q4⟩ => ⟨q3 ▸ same_new q2, its[i], List.getElem?_eq_getElem hi, T, q1, by have z := q4 _ (e.seq hl); rw [List.getElem?_map, List.getElem?_eq_getElem hi] at z; rw [q3, upd_same]; cases Option.some.inj z; rfl⟩) (fun i t v l H' hi ⟨T, y, hT⟩ hl p => y ▸ hs i t T l H' hi hT hl p) hd
theorem via_same {H H' : Hp} {a : Addr} {o : HO} (e : Same H H') (h : H a = some o) : H' a = some o := e _ _ h
theorem same_sqL {H H' : Hp} {xs : List V} (e : Same H H') (h : SqL K H a xs) : SqL K H' a xs := e.seq h
theorem dget_same {H H' : Hp} {a : Addr} {y : V} {o : Option V} (e : Same H H') (h : DGet H a y o) : DGet H' a y o := by
  rcases h with ⟨kvs, k, h, r⟩ | ⟨kvs, k, b, h, h2, h3, r⟩
  · refine .inl ⟨kvs, k, ?_, r⟩
    rcases h with h | ⟨o, h⟩
    · exact .inl (e _ _ h)
    · exact .inr ⟨o, e _ _ h⟩
  · refine .inr ⟨kvs, k, b, ?_, h2, e _ _ h3, r⟩
    rcases h with h | ⟨o, h⟩
    · exact .inl (e _ _ h)
    · exact .inr ⟨o, e _ _ h⟩
theorem kv_str {n : Str} : V.str n = kV (.inr n) := rfl
theorem kv_int {n : Int} : V.int n = kV (.inl n) := rfl
theorem dput_K {H : Hp} {a : Addr} {kvs : List (Key × V)} {k : Key} {v : V} (h : H a = some (.dK kvs)) (hz : kvs.length < sizeLine) : DPut H a (kV k) v (upd H a (.dK (putK kvs k v))) := .inl ⟨kvs, k, h, rfl, hz, rfl⟩
theorem drop_none {kvs : List (Key × V)} {k : Key} (h : valV kvs k = none) : dropK kvs k = kvs := by
  unfold dropK
  apply List.filter_eq_self.mpr
  intro q hq
  unfold valV at h
  rw [Option.map_eq_none_iff, List.find?_eq_none] at h
  simpa using h q hq
theorem drop_off {kvs : List (Key × V)} {k : Key} : k ∉ (dropK kvs k).map (·.1) := by
  intro h
  obtain ⟨q, hq, e⟩ := List.mem_map.mp h
  unfold dropK at hq
  have := (List.mem_filter.mp hq).2
  simp [e] at this
theorem put_new {kvs : List (Key × V)} {k : Key} {v : V} (h : k ∉ kvs.map (·.1)) : putK kvs k v = kvs ++ [(k, v)] := by
  unfold putK
  rw [if_neg]
  intro hx
  simp only [List.any_eq_true, decide_eq_true_eq] at hx
  obtain ⟨q, hq, e⟩ := hx
  exact h (List.mem_map.mpr ⟨q, hq, e⟩)
theorem none_up {H : Hp} {p l : Addr} {o : HO} (h : upd H p o l = none) : H l = none := by
  by_cases e : l = p
  · rw [e, upd_same] at h; cases h
  · rwa [upd_ne e] at h
theorem fm_filter {β : Type} {p : α → Bool} {f : α → β} : ∀ (l : List α), (l.flatMap fun x => if p x = true then [f x] else []) = (l.filter p).map f
  | [] => rfl
  | x :: r => by
    rw [List.flatMap_cons, fm_filter r]
    cases h : p x <;> simp [h]
theorem if_len {β : Type} {c : Prop} [Decidable c] {x : β} : (if c then [x] else []).length ≤ 1 := by split <;> simp
end
end RX
end
section
set_option maxHeartbeats 4000000
/-! comprehensions that change nothing, whose items are told loosely -/
namespace RX
open PySem PySem.Spec PyProof.Rows L2
structure AccR (H0 : Hp) (D : Addr) (R : V → Hp → Prop) (n : Nat) (H : Hp) : Prop where
  same : Same H0 H
  at_ : ∃ l, H D = some (.lst l) ∧ l.length ≤ n ∧ ∀ y ∈ l, R y H
def StR (D : Addr) (R : V → Hp → Prop) : Prop := ∀ y H H', (∀ b o, b ≠ D → H b = some o → H' b = some o) → R y H → R y H'
theorem AccR.start {H0 : Hp} {D : Addr} {R : V → Hp → Prop} (hD : H0 D = none) : AccR H0 D R 0 (upd H0 D (.lst [])) := ⟨same_new hD, [], upd_same, Nat.le_refl _, fun _ h => nomatch h⟩
theorem AccR.yes {H0 H H4 : Hp} {D : Addr} {R : V → Hp → Prop} {n : Nat} {y : V} (a : AccR H0 D R n H) (hR : StR D R) (hD : H0 D = none) (e : Same H H4) (hy : R y H4) (hz : n < sizeLine) :
    ∃ acc, H4 D = some (.lst acc) ∧ acc.length < sizeLine ∧ AccR H0 D R (n + 1) (upd H4 D (.lst (acc ++ [y]))) := by
  obtain ⟨l, h1, h2, h3⟩ := a.at_
  refine ⟨l, e _ _ h1, by omega, ⟨fun b o q => by rw [upd_ne (ne_of_none q hD)]; exact e _ _ (a.same b o q), l ++ [y], upd_same, by simp; omega, fun z hz => ?_⟩⟩
  have k : ∀ b o, b ≠ D → H4 b = some o → upd H4 D (.lst (l ++ [y])) b = some o := fun b o q g => by rw [upd_ne q]; exact g
  rcases List.mem_append.mp hz with hz | hz
  · exact hR z _ _ k (hR z H H4 (fun b o _ g => e b o g) (h3 z hz))
  · rw [List.mem_singleton.mp hz]; exact hR y _ _ k hy
theorem AccR.no {H0 H H4 : Hp} {D : Addr} {R : V → Hp → Prop} {n : Nat} (a : AccR H0 D R n H) (hR : StR D R) (e : Same H H4) : AccR H0 D R (n + 1) H4 := by
  obtain ⟨l, h1, h2, h3⟩ := a.at_
  exact ⟨a.same.trans e, l, e _ _ h1, by omega, fun z hz => hR z _ _ (fun b o _ g => e b o g) (h3 z hz)⟩
theorem AccR.same' {H0 H H4 : Hp} {D : Addr} {R : V → Hp → Prop} {n : Nat} (a : AccR H0 D R n H) (hR : StR D R) (e : Same H H4) : AccR H0 D R n H4 := by
  obtain ⟨l, h1, h2, h3⟩ := a.at_
  exact ⟨a.same.trans e, l, e _ _ h1, h2, fun z hz => hR z _ _ (fun b o _ g => e b o g) (h3 z hz)⟩
section
variable {α : Type} {K : PySem.W.Frag} {a : Addr} {g : TG} {tt : TT} {te : TE} {vs : List Nat} {σ : L2.St} {H1 : Hp} {D : Addr} {Qd : Hp → Prop} {R : V → Hp → Prop}
theorem lr_items {J : It} {its : List α} {Y : Nat → α → V → Hp → Prop} (hR : StR D R) (hD : H1 D = none) (hz : its.length ≤ sizeLine) (hgo : ∀ i H, i < its.length → Same H1 H → J.go i H) (hst : ∀ H, Same H1 H → J.stop its.length H)
    (hy : ∀ i H x H', i < its.length → Same H1 H → J.yld i H x H' → Same H H' ∧ ∃ a, its[i]? = some a ∧ Y i a x H')
    (hs : ∀ (i : Nat) a x H', its[i]? = some a → Y i a x H' → i < sizeLine → AccR H1 D R i H' → g x (wipe σ vs) H' fun σ2 H2 => wipe σ2 vs = wipe σ vs ∧ tt σ2 H2 fun b H3 =>
    if b = true then te σ2 H3 fun y H4 => ∃ acc, H4 D = some (.lst acc) ∧ acc.length < sizeLine ∧ AccR H1 D R (i + 1) (upd H4 D (.lst (acc ++ [y]))) else AccR H1 D R (i + 1) H3)
    (hd : ∀ H, AccR H1 D R its.length H → Qd H) :
    ∃ W : Nat → Nat → Hp → Prop, (∃ m, W 0 m (upd H1 D (.lst []))) ∧ ∀ i m H, W i m H →
      (J.stop i H ∧ Qd H) ∨ (J.go i H ∧ ∃ Nx : Hp → Prop, (∀ H', Nx H' → ∃ m', m' < m ∧ W (i + 1) m' H') ∧ ∀ x H', J.yld i H x H' → g x (wipe σ vs) H' fun σ2 H2 => wipe σ2 vs = wipe σ vs ∧ tt σ2 H2 fun b H3 =>
        if b = true then te σ2 H3 fun y H4 => ∃ acc, H4 D = some (.lst acc) ∧ acc.length < sizeLine ∧ Nx (upd H4 D (.lst (acc ++ [y]))) else Nx H3) := by
  refine ⟨fun i m H => m = its.length - i ∧ i ≤ its.length ∧ AccR H1 D R i H, ⟨its.length, by simp, Nat.zero_le _, AccR.start hD⟩, ?_⟩
  rintro i m H ⟨rfl, hi, p⟩
  by_cases hlt : i < its.length
  · refine .inr ⟨hgo i H hlt p.same, AccR H1 D R (i + 1), fun H' p' => ⟨its.length - (i + 1), by omega, rfl, hlt, p'⟩, fun x H' y => ?_⟩
    obtain ⟨e, a, ha, y'⟩ := hy i H x H' hlt p.same y
    exact hs i a x H' ha y' (by omega) (p.same' hR e)
  · have e : i = its.length := by omega
    subst e
    exact .inl ⟨hst H p.same, hd H p⟩
theorem lr_lst {its : List α} {vf : α → V} (hR : StR D R) (hD : H1 D = none) (hz : its.length ≤ sizeLine) (hl : SqL K H1 a (its.map vf))
    (hs : ∀ (i : Nat) t H', its[i]? = some t → i < sizeLine → AccR H1 D R i H' → g (vf t) (wipe σ vs) H' fun σ2 H2 => wipe σ2 vs = wipe σ vs ∧ tt σ2 H2 fun b H3 =>
      if b = true then te σ2 H3 fun y H4 => ∃ acc, H4 D = some (.lst acc) ∧ acc.length < sizeLine ∧ AccR H1 D R (i + 1) (upd H4 D (.lst (acc ++ [y]))) else AccR H1 D R (i + 1) H3)
    (hd : ∀ H, AccR H1 D R its.length H → Qd H) :
    ∃ W : Nat → Nat → Hp → Prop, (∃ m, W 0 m (upd H1 D (.lst []))) ∧ ∀ i m H, W i m H →
      ((Itl K a).stop i H ∧ Qd H) ∨ ((Itl K a).go i H ∧ ∃ Nx : Hp → Prop, (∀ H', Nx H' → ∃ m', m' < m ∧ W (i + 1) m' H') ∧ ∀ x H', (Itl K a).yld i H x H' → g x (wipe σ vs) H' fun σ2 H2 => wipe σ2 vs = wipe σ vs ∧ tt σ2 H2 fun b H3 =>
        if b = true then te σ2 H3 fun y H4 => ∃ acc, H4 D = some (.lst acc) ∧ acc.length < sizeLine ∧ Nx (upd H4 D (.lst (acc ++ [y]))) else Nx H3) :=
  lr_items (its := its) (Y := fun i t v _ => v = vf t) hR hD hz (fun i H hi e => ⟨_, vf its[i], e.seq hl, by rw [List.getElem?_map, List.getElem?_eq_getElem hi]; rfl⟩) (fun H e => ⟨_, e.seq hl, by simp⟩) (fun i H x H' hi e ⟨q1, q2⟩ => ⟨q1 ▸ Same.refl _, its[i], List.getElem?_eq_getElem hi, by have z := q2 _ (e.seq hl); rw [List.getElem?_map, List.getElem?_eq_getElem hi] at z; exact (Option.some.inj z).symm⟩) (fun i t v H' hi y hl p => y ▸ hs i t H' hi hl p) hd
theorem lr_itms {its : List α} {kf : α → Key × V} {o : Obj} (hR : StR D R) (hD : H1 D = none) (hz : its.length ≤ sizeLine) (hl : H1 a = some (.frz o (.dK (its.map kf))))
    (hs : ∀ (i : Nat) t T H', its[i]? = some t → H' T = some (.tup [kV (kf t).1, (kf t).2]) → i < sizeLine → AccR H1 D R i H' → g (.ref T) (wipe σ vs) H' fun σ2 H2 => wipe σ2 vs = wipe σ vs ∧ tt σ2 H2 fun b H3 =>
      if b = true then te σ2 H3 fun y H4 => ∃ acc, H4 D = some (.lst acc) ∧ acc.length < sizeLine ∧ AccR H1 D R (i + 1) (upd H4 D (.lst (acc ++ [y]))) else AccR H1 D R (i + 1) H3)
    (hd : ∀ H, AccR H1 D R its.length H → Qd H) :
    ∃ W : Nat → Nat → Hp → Prop, (∃ m, W 0 m (upd H1 D (.lst []))) ∧ ∀ i m H, W i m H →
      ((Iti a o (its.map kf)).stop i H ∧ Qd H) ∨ ((Iti a o (its.map kf)).go i H ∧ ∃ Nx : Hp → Prop, (∀ H', Nx H' → ∃ m', m' < m ∧ W (i + 1) m' H') ∧ ∀ x H', (Iti a o (its.map kf)).yld i H x H' → g x (wipe σ vs) H' fun σ2 H2 => wipe σ2 vs = wipe σ vs ∧ tt σ2 H2 fun b H3 =>
        if b = true then te σ2 H3 fun y H4 => ∃ acc, H4 D = some (.lst acc) ∧ acc.length < sizeLine ∧ Nx (upd H4 D (.lst (acc ++ [y]))) else Nx H3) :=
  lr_items (its := its) (Y := fun i t v H' => ∃ T, v = .ref T ∧ H' T = some (.tup [kV (kf t).1, (kf t).2])) hR hD hz (fun i H hi e => ⟨e _ _ hl, by simpa using hi⟩) (fun H e => ⟨e _ _ hl, by simp⟩) (fun i H x H' hi e ⟨T, k, v, q1, q2, q3, q4⟩ => ⟨q4 ▸ same_new q3, its[i], List.getElem?_eq_getElem hi, T, q2, by rw [List.getElem?_map, List.getElem?_eq_getElem hi] at q1; rw [q4, upd_same]; have z := Option.some.inj q1; rw [z]⟩) (fun i t v H' hi ⟨T, y, hT⟩ hl p => y ▸ hs i t T H' hi hT hl p) hd
end
/-- pairs of texts -/
def PrS (K : PySem.W.Frag) (D : Addr) (y : V) (H : Hp) : Prop := ∃ (p : Addr) (z1 z2 : Str), y = .ref p ∧ p ≠ D ∧ SqT K H p [.str z1, .str z2]
theorem sqT_st {K : PySem.W.Frag} {D p : Addr} {H H' : Hp} {xs : List V} (k : ∀ b o, b ≠ D → H b = some o → H' b = some o) (hp : p ≠ D) (h : SqT K H p xs) : SqT K H' p xs := by
  rcases h with (h | ⟨o, h⟩) | h
  · exact .inl (.inl (k _ _ hp h))
  · exact .inl (.inr ⟨o, k _ _ hp h⟩)
  · exact .inr h
theorem prS_st {K : PySem.W.Frag} {D : Addr} : StR D (PrS K D) := fun y H H' k ⟨p, z1, z2, e, n, h⟩ => ⟨p, z1, z2, e, n, sqT_st k n h⟩
def pEnc (z : Str × Str) : PyData := .tuple [.str z.1, .str z.2]
theorem pairs_data {K : PySem.W.Frag} {H : Hp} : ∀ {l : List V}, (∀ y ∈ l, ∃ (p : Addr) (z1 z2 : Str), y = V.ref p ∧ SqT K H p [.str z1, .str z2]) →
    ∃ bs : List (V × (Str × Str)), bs.map (·.1) = l ∧ ∀ b ∈ bs, Dp K H b.1 (pEnc b.2)
  | [], _ => ⟨[], rfl, fun _ h => nomatch h⟩
  | y :: l, h => by
    obtain ⟨bs, e, hb⟩ := pairs_data (l := l) fun z hz => h z (List.mem_cons_of_mem _ hz)
    obtain ⟨p, z1, z2, e1, e2⟩ := h y (List.mem_cons_self ..)
    refine ⟨(y, (z1, z2)) :: bs, by rw [List.map_cons, e], fun b hb' => ?_⟩
    rcases List.mem_cons.mp hb' with q | q
    · rw [q, e1]
      exact .tup e2 (.cons (.str _) (.cons (.str _) .nil))
    · exact hb b q
theorem sort_pairs {K : PySem.W.Frag} {H : Hp} {l : List V} (hl : ∀ y ∈ l, ∃ (p : Addr) (z1 z2 : Str), y = V.ref p ∧ SqT K H p [.str z1, .str z2]) :
    ∃ bs : List (V × PyData), bs.map (·.1) = l ∧ (∀ b ∈ bs, Dp K H b.1 b.2 ∧ b.2.depth ≤ 8) ∧ PySem.W.AllAlike (bs.map (·.2)) ∧ PySem.W.Sortable (bs.map (·.2)) := by
  obtain ⟨bs, e, hb⟩ := pairs_data hl
  refine ⟨bs.map fun b => (b.1, pEnc b.2), by rw [List.map_map]; exact e, fun b h => ?_, ?_, ?_⟩
  · obtain ⟨c, hc, rfl⟩ := List.mem_map.mp h
    exact ⟨hb c hc, by first | exact (show (1 : Nat) ≤ 8 by decide) | exact (show (2 : Nat) ≤ 8 by decide) | (show (pEnc c.2).depth ≤ 8; unfold pEnc; simp [PyData.depth])⟩
  · rw [List.map_map]
    exact PySem.W.AllAlike.of (enc := fun b : V × (Str × Str) => pEnc b.2) fun b b' => rfl
  · rw [List.map_map]
    exact PySem.W.Sortable.tuples (enc := fun b : V × (Str × Str) => pEnc b.2) fun b => ⟨_, _, rfl⟩
end RX
end
section
set_option maxHeartbeats 4000000
/-! dict comprehensions that change nothing -/
namespace RX
open PySem PySem.Spec PyProof.Rows L2
structure AccD (H0 : Hp) (D : Addr) (kvs : List (Key × V)) (H : Hp) : Prop where
  same : Same H0 H
  at_ : H D = some (.dK kvs)
def dps (d es : List (Key × V)) : List (Key × V) := es.foldl (fun d e => putK d e.1 e.2) d
theorem dps_len : ∀ (es d : List (Key × V)), (dps d es).length ≤ d.length + es.length
  | [], d => Nat.le_refl _
  | e :: es, d => by
    have h := dps_len es (putK d e.1 e.2)
    have h2 := length_putK d e.1 e.2
    show (dps (putK d e.1 e.2) es).length ≤ _
    rw [List.length_cons]
    omega
theorem dps_app (d a b : List (Key × V)) : dps d (a ++ b) = dps (dps d a) b := List.foldl_append ..
theorem AccD.start {H0 : Hp} {D : Addr} (hD : H0 D = none) : AccD H0 D [] (upd H0 D (.dK [])) := ⟨same_new hD, upd_same⟩
theorem AccD.yes {H0 H H4 : Hp} {D : Addr} {l : List (Key × V)} {k : Key} {z : V} (a : AccD H0 D l H) (hD : H0 D = none) (e : Same H H4) (hz : l.length < sizeLine) :
    ∃ kvs k', kV k = kV k' ∧ H4 D = some (.dK kvs) ∧ kvs.length < sizeLine ∧ AccD H0 D (dps l [(k, z)]) (upd H4 D (.dK (putK kvs k' z))) :=
  ⟨l, k, rfl, e _ _ a.at_, hz, ⟨fun b o q => by rw [upd_ne (ne_of_none q hD)]; exact e _ _ (a.same b o q), upd_same⟩⟩
theorem AccD.no {H0 H H4 : Hp} {D : Addr} {l : List (Key × V)} (a : AccD H0 D l H) (e : Same H H4) : AccD H0 D l H4 := ⟨a.same.trans e, e _ _ a.at_⟩
section
variable {α : Type} {K : PySem.W.Frag} {a : Addr} {g : TG} {tt : TT} {tk tv : TE} {vs : List Nat} {σ : L2.St} {H1 : Hp} {D : Addr} {Qd : Hp → Prop}
theorem ld_items {J : It} {its : List α} {f : α → List (Key × V)} {Y : Nat → α → V → Hp → Prop} (hD : H1 D = none) (h1 : ∀ x, (f x).length ≤ 1) (hz : its.length ≤ sizeLine) (hgo : ∀ i H, i < its.length → Same H1 H → J.go i H) (hst : ∀ H, Same H1 H → J.stop its.length H)
    (hy : ∀ i H x H', i < its.length → Same H1 H → J.yld i H x H' → Same H H' ∧ ∃ a, its[i]? = some a ∧ Y i a x H')
    (hs : ∀ (i : Nat) a x l H', its[i]? = some a → Y i a x H' → l.length < sizeLine → AccD H1 D l H' → g x (wipe σ vs) H' fun σ2 H2 => wipe σ2 vs = wipe σ vs ∧ tt σ2 H2 fun b H3 =>
      if b = true then tk σ2 H3 fun y H4 => tv σ2 H4 fun z H5 => ∃ kvs k, y = kV k ∧ H5 D = some (.dK kvs) ∧ kvs.length < sizeLine ∧ AccD H1 D (dps l (f a)) (upd H5 D (.dK (putK kvs k z))) else AccD H1 D (dps l (f a)) H3)
    (hd : ∀ H, AccD H1 D (dps [] (its.flatMap f)) H → Qd H) :
    ∃ W : Nat → Nat → Hp → Prop, (∃ m, W 0 m (upd H1 D (.dK []))) ∧ ∀ i m H, W i m H →
      (J.stop i H ∧ Qd H) ∨ (J.go i H ∧ ∃ Nx : Hp → Prop, (∀ H', Nx H' → ∃ m', m' < m ∧ W (i + 1) m' H') ∧ ∀ x H', J.yld i H x H' → g x (wipe σ vs) H' fun σ2 H2 => wipe σ2 vs = wipe σ vs ∧ tt σ2 H2 fun b H3 =>
        if b = true then tk σ2 H3 fun y H4 => tv σ2 H4 fun z H5 => ∃ kvs k, y = kV k ∧ H5 D = some (.dK kvs) ∧ kvs.length < sizeLine ∧ Nx (upd H5 D (.dK (putK kvs k z))) else Nx H3) := by
  have fl : ∀ (l : List α), (l.flatMap f).length ≤ l.length := by
    intro l
    induction l with
    | nil => exact Nat.le_refl _
    | cons x r ih => have := h1 x; rw [List.flatMap_cons, List.length_append, List.length_cons]; omega
  have ln : ∀ i, i < its.length → (dps [] ((its.take i).flatMap f)).length < sizeLine := fun i hi => by
    have h2 := dps_len ((its.take i).flatMap f) []
    have h3 := fl (its.take i)
    have h4 : (its.take i).length ≤ i := by rw [List.length_take]; omega
    simp only [List.length_nil] at h2
    omega
  refine ⟨fun i m H => m = its.length - i ∧ i ≤ its.length ∧ AccD H1 D (dps [] ((its.take i).flatMap f)) H, ⟨its.length, by simp, Nat.zero_le _, by simpa [dps] using AccD.start hD⟩, ?_⟩
  rintro i m H ⟨rfl, hi, p⟩
  by_cases hlt : i < its.length
  · obtain ⟨y0, hy0⟩ : ∃ y, its[i]? = some y := ⟨_, List.getElem?_eq_getElem hlt⟩
    have sc : dps [] ((its.take (i + 1)).flatMap f) = dps (dps [] ((its.take i).flatMap f)) (f y0) := by
      rw [List.take_add_one, hy0, Option.toList_some, List.flatMap_append, dps_app]
      simp
    refine .inr ⟨hgo i H hlt p.same, AccD H1 D (dps (dps [] ((its.take i).flatMap f)) (f y0)), fun H' p' => ⟨its.length - (i + 1), by omega, rfl, hlt, by rw [sc]; exact p'⟩, fun x H' y => ?_⟩
    obtain ⟨e, a, ha, y'⟩ := hy i H x H' hlt p.same y
    rw [hy0] at ha
    cases ha
    exact hs i y0 x _ H' hy0 y' (ln i hlt) (p.no e)
  · have e : i = its.length := by omega
    subst e
    exact .inl ⟨hst H p.same, hd H (by rw [List.take_length] at p; exact p)⟩
theorem ld_tpl {its : List α} {vf : α → V} {f : α → List (Key × V)} (hD : H1 D = none) (h1 : ∀ x, (f x).length ≤ 1) (hz : its.length ≤ sizeLine) (hl : SqT K H1 a (its.map vf))
    (hs : ∀ (i : Nat) t l H', its[i]? = some t → l.length < sizeLine → AccD H1 D l H' → g (vf t) (wipe σ vs) H' fun σ2 H2 => wipe σ2 vs = wipe σ vs ∧ tt σ2 H2 fun b H3 =>
      if b = true then tk σ2 H3 fun y H4 => tv σ2 H4 fun z H5 => ∃ kvs k, y = kV k ∧ H5 D = some (.dK kvs) ∧ kvs.length < sizeLine ∧ AccD H1 D (dps l (f t)) (upd H5 D (.dK (putK kvs k z))) else AccD H1 D (dps l (f t)) H3)
    (hd : ∀ H, AccD H1 D (dps [] (its.flatMap f)) H → Qd H) :
    ∃ W : Nat → Nat → Hp → Prop, (∃ m, W 0 m (upd H1 D (.dK []))) ∧ ∀ i m H, W i m H →
      ((Itt K a).stop i H ∧ Qd H) ∨ ((Itt K a).go i H ∧ ∃ Nx : Hp → Prop, (∀ H', Nx H' → ∃ m', m' < m ∧ W (i + 1) m' H') ∧ ∀ x H', (Itt K a).yld i H x H' → g x (wipe σ vs) H' fun σ2 H2 => wipe σ2 vs = wipe σ vs ∧ tt σ2 H2 fun b H3 =>
        if b = true then tk σ2 H3 fun y H4 => tv σ2 H4 fun z H5 => ∃ kvs k, y = kV k ∧ H5 D = some (.dK kvs) ∧ kvs.length < sizeLine ∧ Nx (upd H5 D (.dK (putK kvs k z))) else Nx H3) :=
  ld_items (its := its) (Y := fun i t v _ => v = vf t) hD h1 hz (fun i H hi e => ⟨_, vf its[i], same_sqT e hl, by rw [List.getElem?_map, List.getElem?_eq_getElem hi]; rfl⟩) (fun H e => ⟨_, same_sqT e hl, by simp⟩) (fun i H x H' hi e ⟨q1, q2⟩ => ⟨q1 ▸ Same.refl _, its[i], List.getElem?_eq_getElem hi, by have z := q2 _ (same_sqT e hl); rw [List.getElem?_map, List.getElem?_eq_getElem hi] at z; exact (Option.some.inj z).symm⟩) (fun i t v l H' hi y hl p => y ▸ hs i t l H' hi hl p) hd
theorem ld_itms {its : List α} {kf : α → Key × V} {o : Obj} {f : α → List (Key × V)} (hD : H1 D = none) (h1 : ∀ x, (f x).length ≤ 1) (hz : its.length ≤ sizeLine) (hl : H1 a = some (.frz o (.dK (its.map kf))))
    (hs : ∀ (i : Nat) t T l H', its[i]? = some t → H' T = some (.tup [kV (kf t).1, (kf t).2]) → l.length < sizeLine → AccD H1 D l H' → g (.ref T) (wipe σ vs) H' fun σ2 H2 => wipe σ2 vs = wipe σ vs ∧ tt σ2 H2 fun b H3 =>
      if b = true then tk σ2 H3 fun y H4 => tv σ2 H4 fun z H5 => ∃ kvs k, y = kV k ∧ H5 D = some (.dK kvs) ∧ kvs.length < sizeLine ∧ AccD H1 D (dps l (f t)) (upd H5 D (.dK (putK kvs k z))) else AccD H1 D (dps l (f t)) H3)
    (hd : ∀ H, AccD H1 D (dps [] (its.flatMap f)) H → Qd H) :
    ∃ W : Nat → Nat → Hp → Prop, (∃ m, W 0 m (upd H1 D (.dK []))) ∧ ∀ i m H, W i m H →
      ((Iti a o (its.map kf)).stop i H ∧ Qd H) ∨ ((Iti a o (its.map kf)).go i H ∧ ∃ Nx : Hp → Prop, (∀ H', Nx H' → ∃ m', m' < m ∧ W (i + 1) m' H') ∧ ∀ x H', (Iti a o (its.map kf)).yld i H x H' → g x (wipe σ vs) H' fun σ2 H2 => wipe σ2 vs = wipe σ vs ∧ tt σ2 H2 fun b H3 =>
        if b = true then tk σ2 H3 fun y H4 => tv σ2 H4 fun z H5 => ∃ kvs k, y = kV k ∧ H5 D = some (.dK kvs) ∧ kvs.length < sizeLine ∧ Nx (upd H5 D (.dK (putK kvs k z))) else Nx H3) :=
  ld_items (its := its) (Y := fun i t v H' => ∃ T, v = .ref T ∧ H' T = some (.tup [kV (kf t).1, (kf t).2])) hD h1 hz (fun i H hi e => ⟨e _ _ hl, by simpa using hi⟩) (fun H e => ⟨e _ _ hl, by simp⟩) (fun i H x H' hi e ⟨T, k, v, q1, q2, q3, q4⟩ => ⟨q4 ▸ same_new q3, its[i], List.getElem?_eq_getElem hi, T, q2, by rw [List.getElem?_map, List.getElem?_eq_getElem hi] at q1; rw [q4, upd_same]; have z := Option.some.inj q1; rw [z]⟩) (fun i t v l H' hi ⟨T, y, hT⟩ hl p => y ▸ hs i t T l H' hi hT hl p) hd
end
end RX
end
section
set_option maxHeartbeats 4000000
/-! comprehensions of two walks that change nothing -/
namespace RX
open PySem PySem.Spec PyProof.Rows L2
section
variable {α : Type} {K : PySem.W.Frag} {a : Addr} {g : TG} {tt : TT} {te : TE} {vs : List Nat} {σ : L2.St} {H1 : Hp} {D : Addr} {Qd : Hp → Prop}
/-- the outer walk, its body B not opened -/
theorem lo_items {J : It} {its : List α} {F : α → List V} {c : Nat} {Y : Nat → α → V → Hp → Prop} {B : (Hp → Prop) → L2.St → Hp → Prop} (hD : H1 D = none) (hc : ∀ x ∈ its, (F x).length ≤ c) (hgo : ∀ i H, i < its.length → Same H1 H → J.go i H) (hst : ∀ H, Same H1 H → J.stop its.length H)
    (hy : ∀ i H x H', i < its.length → Same H1 H → J.yld i H x H' → Same H H' ∧ ∃ a, its[i]? = some a ∧ Y i a x H')
    (hs : ∀ (i : Nat) a x l H', its[i]? = some a → Y i a x H' → l.length ≤ c * i → i < its.length → Acc H1 D l H' → g x (wipe σ vs) H' (B (Acc H1 D (l ++ F a))))
    (hd : ∀ H, Acc H1 D (its.flatMap F) H → Qd H) :
    ∃ W : Nat → Nat → Hp → Prop, (∃ m, W 0 m (upd H1 D (.lst []))) ∧ ∀ i m H, W i m H →
      (J.stop i H ∧ Qd H) ∨ (J.go i H ∧ ∃ Nx : Hp → Prop, (∀ H', Nx H' → ∃ m', m' < m ∧ W (i + 1) m' H') ∧ ∀ x H', J.yld i H x H' → g x (wipe σ vs) H' (B Nx)) := by
  have len : ∀ i, i ≤ its.length → ((its.take i).flatMap F).length ≤ c * i := by
    intro i
    induction i with
    | zero => intro _; simp
    | succ i ih =>
      intro hi
      have hy0 : its[i]? = some its[i] := List.getElem?_eq_getElem (by omega)
      rw [List.take_add_one, hy0, Option.toList_some, List.flatMap_append, List.length_append, Nat.mul_succ]
      have := ih (by omega)
      have := hc its[i] (List.getElem_mem _)
      simp only [List.flatMap_cons, List.flatMap_nil, List.append_nil]
      omega
  refine ⟨fun i m H => m = its.length - i ∧ i ≤ its.length ∧ Acc H1 D ((its.take i).flatMap F) H, ⟨its.length, by simp, Nat.zero_le _, by simpa using Acc.start hD⟩, ?_⟩
  rintro i m H ⟨rfl, hi, p⟩
  by_cases hlt : i < its.length
  · have hy0 : its[i]? = some its[i] := List.getElem?_eq_getElem hlt
    have sc : (its.take (i + 1)).flatMap F = (its.take i).flatMap F ++ F its[i] := by
      rw [List.take_add_one, hy0, Option.toList_some, List.flatMap_append]
      simp
    refine .inr ⟨hgo i H hlt p.same, Acc H1 D ((its.take i).flatMap F ++ F its[i]), fun H' p' => ⟨its.length - (i + 1), by omega, rfl, hlt, by rw [sc]; exact p'⟩, fun x H' y => ?_⟩
    obtain ⟨e, a, ha, y'⟩ := hy i H x H' hlt p.same y
    rw [hy0] at ha
    cases ha
    exact hs i _ x _ H' hy0 y' (len i hi) hlt (p.no e)
  · have e : i = its.length := by omega
    subst e
    exact .inl ⟨hst H p.same, hd H (by rw [List.take_length] at p; exact p)⟩
theorem lo_lst {its : List α} {vf : α → V} {F : α → List V} {c : Nat} {B : (Hp → Prop) → L2.St → Hp → Prop} (hD : H1 D = none) (hc : ∀ x ∈ its, (F x).length ≤ c) (hl : SqL K H1 a (its.map vf))
    (hs : ∀ (i : Nat) t l H', its[i]? = some t → l.length ≤ c * i → i < its.length → Acc H1 D l H' → g (vf t) (wipe σ vs) H' (B (Acc H1 D (l ++ F t))))
    (hd : ∀ H, Acc H1 D (its.flatMap F) H → Qd H) :
    ∃ W : Nat → Nat → Hp → Prop, (∃ m, W 0 m (upd H1 D (.lst []))) ∧ ∀ i m H, W i m H →
      ((Itl K a).stop i H ∧ Qd H) ∨ ((Itl K a).go i H ∧ ∃ Nx : Hp → Prop, (∀ H', Nx H' → ∃ m', m' < m ∧ W (i + 1) m' H') ∧ ∀ x H', (Itl K a).yld i H x H' → g x (wipe σ vs) H' (B Nx)) :=
  lo_items (its := its) (Y := fun i t v _ => v = vf t) hD hc (fun i H hi e => ⟨_, vf its[i], e.seq hl, by rw [List.getElem?_map, List.getElem?_eq_getElem hi]; rfl⟩) (fun H e => ⟨_, e.seq hl, by simp⟩) (fun i H x H' hi e ⟨q1, q2⟩ => ⟨q1 ▸ Same.refl _, its[i], List.getElem?_eq_getElem hi, by have z := q2 _ (e.seq hl); rw [List.getElem?_map, List.getElem?_eq_getElem hi] at z; exact (Option.some.inj z).symm⟩) (fun i t v l H' hi y hl hlt p => y ▸ hs i t l H' hi hl hlt p) hd
theorem Acc.yesT {H0 H H4 : Hp} {l : List V} {y : V} {xs : List V} (p : Acc H0 D l H) (hD : H0 D = none) (e : Same H H4) (hz : l.length < sizeLine) (hq : SqT K H a xs) :
    ∃ acc, H4 D = some (.lst acc) ∧ acc.length < sizeLine ∧ (Acc H0 D (l ++ [y]) (upd H4 D (.lst (acc ++ [y]))) ∧ SqT K (upd H4 D (.lst (acc ++ [y]))) a xs) := by
  refine ⟨l, e _ _ p.at_, hz, ⟨fun b o q => by rw [upd_ne (ne_of_none q hD)]; exact e _ _ (p.same b o q), upd_same⟩, ?_⟩
  have h4 : H4 D = some (.lst l) := e _ _ p.at_
  rcases same_sqT e hq with (t | ⟨u, t⟩) | t
  · exact .inl (.inl (by rw [upd_ne (ne_of t h4 (fun z => nomatch z))]; exact t))
  · exact .inl (.inr ⟨u, by rw [upd_ne (ne_of t h4 (fun z => nomatch z))]; exact t⟩)
  · exact .inr t
/-- the inner walk over a tuple -/
theorem li_tpl {H0 H4 : Hp} {l0 : List V} {its : List α} {vf : α → V} {f : α → List V} (hD : H0 D = none) (h1 : ∀ x, (f x).length ≤ 1) (hz : l0.length + its.length < sizeLine) (p : Acc H0 D l0 H4) (hl : SqT K H4 a (its.map vf))
    (hs : ∀ (i : Nat) t l H', its[i]? = some t → l.length < sizeLine → Acc H0 D l H' → SqT K H' a (its.map vf) → g (vf t) (wipe σ vs) H' fun σ2 H2 => wipe σ2 vs = wipe σ vs ∧ tt σ2 H2 fun b H3 =>
      if b = true then te σ2 H3 fun y H4 => ∃ acc, H4 D = some (.lst acc) ∧ acc.length < sizeLine ∧ (Acc H0 D (l ++ f t) (upd H4 D (.lst (acc ++ [y]))) ∧ SqT K (upd H4 D (.lst (acc ++ [y]))) a (its.map vf)) else (Acc H0 D (l ++ f t) H3 ∧ SqT K H3 a (its.map vf)))
    (hd : ∀ H, Acc H0 D (l0 ++ its.flatMap f) H → Qd H) :
    ∃ W : Nat → Nat → Hp → Prop, (∃ m, W 0 m H4) ∧ ∀ i m H, W i m H →
      ((Itt K a).stop i H ∧ Qd H) ∨ ((Itt K a).go i H ∧ ∃ Nx : Hp → Prop, (∀ H', Nx H' → ∃ m', m' < m ∧ W (i + 1) m' H') ∧ ∀ x H', (Itt K a).yld i H x H' → g x (wipe σ vs) H' fun σ2 H2 => wipe σ2 vs = wipe σ vs ∧ tt σ2 H2 fun b H3 =>
        if b = true then te σ2 H3 fun y H4 => ∃ acc, H4 D = some (.lst acc) ∧ acc.length < sizeLine ∧ Nx (upd H4 D (.lst (acc ++ [y]))) else Nx H3) := by
  have len : ∀ i, ((its.take i).flatMap f).length ≤ i := by
    intro i
    have : ∀ (l : List α), (l.flatMap f).length ≤ l.length := by
      intro l
      induction l with
      | nil => exact Nat.le_refl _
      | cons x r ih => have := h1 x; rw [List.flatMap_cons, List.length_append, List.length_cons]; omega
    have h2 := this (its.take i)
    rw [List.length_take] at h2
    omega
  refine ⟨fun i m H => m = its.length - i ∧ i ≤ its.length ∧ Acc H0 D (l0 ++ (its.take i).flatMap f) H ∧ SqT K H a (its.map vf), ⟨its.length, by simp, Nat.zero_le _, by simpa using p, hl⟩, ?_⟩
  rintro i m H ⟨rfl, hi, p, hq⟩
  by_cases hlt : i < its.length
  · have hy0 : its[i]? = some its[i] := List.getElem?_eq_getElem hlt
    have sc : l0 ++ (its.take (i + 1)).flatMap f = l0 ++ (its.take i).flatMap f ++ f its[i] := by
      rw [List.take_add_one, hy0, Option.toList_some, List.flatMap_append, List.append_assoc]
      simp
    refine .inr ⟨⟨_, vf its[i], hq, by rw [List.getElem?_map, hy0]; rfl⟩, fun H => Acc H0 D (l0 ++ (its.take i).flatMap f ++ f its[i]) H ∧ SqT K H a (its.map vf), fun H' ⟨p', q'⟩ => ⟨its.length - (i + 1), by omega, rfl, hlt, by rw [sc]; exact p', q'⟩, fun x H' ⟨y1, y2⟩ => ?_⟩
    have z := y2 _ hq
    rw [List.getElem?_map, hy0] at z
    have z := Option.some.inj z
    subst z
    subst y1
    have := len i
    exact hs i _ _ _ hy0 (by rw [List.length_append]; omega) p hq
  · have e : i = its.length := by omega
    subst e
    exact .inl ⟨⟨_, hq, by simp⟩, hd H (by rw [List.take_length] at p; exact p)⟩
theorem lr_zipl {R : V → Hp → Prop} {b : Addr} {xs ys : List V} (hR : StR D R) (hD : H1 D = none) (hz : (xs.zip ys).length ≤ sizeLine) (hl : SqL K H1 a xs) (hl2 : SqL K H1 b ys)
    (hs : ∀ (i : Nat) q T H', (xs.zip ys)[i]? = some q → H' T = some (.tup [q.1, q.2]) → i < sizeLine → AccR H1 D R i H' → g (.ref T) (wipe σ vs) H' fun σ2 H2 => wipe σ2 vs = wipe σ vs ∧ tt σ2 H2 fun b H3 =>
    if b = true then te σ2 H3 fun y H4 => ∃ acc, H4 D = some (.lst acc) ∧ acc.length < sizeLine ∧ AccR H1 D R (i + 1) (upd H4 D (.lst (acc ++ [y]))) else AccR H1 D R (i + 1) H3)
    (hd : ∀ H, AccR H1 D R (xs.zip ys).length H → Qd H) :
    ∃ W : Nat → Nat → Hp → Prop, (∃ m, W 0 m (upd H1 D (.lst []))) ∧ ∀ i m H, W i m H →
      ((Itz K a b).stop i H ∧ Qd H) ∨ ((Itz K a b).go i H ∧ ∃ Nx : Hp → Prop, (∀ H', Nx H' → ∃ m', m' < m ∧ W (i + 1) m' H') ∧ ∀ x H', (Itz K a b).yld i H x H' → g x (wipe σ vs) H' fun σ2 H2 => wipe σ2 vs = wipe σ vs ∧ tt σ2 H2 fun b H3 =>
        if b = true then te σ2 H3 fun y H4 => ∃ acc, H4 D = some (.lst acc) ∧ acc.length < sizeLine ∧ Nx (upd H4 D (.lst (acc ++ [y]))) else Nx H3) :=
  lr_items (its := (xs.zip ys)) (Y := fun i q v H' => ∃ T, v = .ref T ∧ H' T = some (.tup [q.1, q.2])) hR hD hz (fun i H hi e => by rw [List.length_zip] at hi; exact ⟨xs, ys, xs[i]'(by omega), ys[i]'(by omega), e.seq hl, e.seq hl2, List.getElem?_eq_getElem _, List.getElem?_eq_getElem _⟩) (fun H e => ⟨xs, ys, e.seq hl, e.seq hl2, by rw [List.length_zip]; omega⟩) (fun i H v H' hi e ⟨T, x, y, q1, q2, q3, q4, q5⟩ => ⟨q3 ▸ same_new q2, (x, y), List.getElem?_zip_eq_some.mpr ⟨q4 xs (e.seq hl), q5 ys (e.seq hl2)⟩, T, q1, by rw [q3]; exact upd_same⟩) (fun i q v H' hi ⟨T, y, hT⟩ hl p => y ▸ hs i q T H' hi hT hl p) hd
end
end RX
end
section
set_option maxHeartbeats 4000000
/-! lists of numbers as data -/
namespace RX
open PySem PySem.Spec PyProof.Rows L2
theorem ints_of : ∀ (l : List V), (∀ y ∈ l, ∃ i : Int, y = V.int i) → ∃ ns : List Int, l = ns.map V.int
  | [], _ => ⟨[], rfl⟩
  | y :: r, h => by
    obtain ⟨ns, q⟩ := ints_of r fun z hz => h z (List.mem_cons_of_mem _ hz)
    obtain ⟨i, rfl⟩ := h y (List.mem_cons_self ..)
    exact ⟨i :: ns, by rw [q]; rfl⟩
theorem dpInts {K : PySem.W.Frag} (H : Hp) : ∀ ns : List Int, DpAll K H (ns.map V.int) (ns.map PyData.int)
  | [] => .nil
  | n :: r => .cons (.int n) (dpInts H r)
theorem ints_lay : ∀ ns : List Int, PyData.canLayAll0 (ns.map PyData.int) = true
  | [] => by simp [PyData.canLayAll0]
  | n :: r => by simp [PyData.canLayAll0, PyData.canLay0, ints_lay r]
theorem ints_depth : ∀ ns : List Int, PyData.depthAll (ns.map PyData.int) ≤ 1
  | [] => by simp [PyData.depthAll]
  | n :: r => by
    have h1 := ints_depth r
    have h2 : PyData.depth (.int n) ≤ 1 := by simp [PyData.depth]
    simp only [List.map_cons, PyData.depthAll]
    omega
theorem ints_shL (ns : List Int) : SeqAt.shaped (.list (ns.map PyData.int)) = true := by
  have h1 := ints_depth ns
  have h2 : PyData.depth (.list (ns.map PyData.int)) ≤ 64 := by
    simp only [PyData.depth]
    omega
  show (PyData.canLay0 (.list (ns.map PyData.int)) && decide (PyData.depth (.list (ns.map PyData.int)) ≤ 64)) = true
  rw [Bool.and_eq_true]
  exact ⟨by simp only [PyData.canLay0]; exact ints_lay ns, decide_eq_true h2⟩
theorem ints_shT (ns : List Int) : SeqAt.shaped (.tuple (ns.map PyData.int)) = true := by
  have h1 := ints_depth ns
  have h2 : PyData.depth (.tuple (ns.map PyData.int)) ≤ 64 := by
    simp only [PyData.depth]
    omega
  show (PyData.canLay0 (.tuple (ns.map PyData.int)) && decide (PyData.depth (.tuple (ns.map PyData.int)) ≤ 64)) = true
  rw [Bool.and_eq_true]
  exact ⟨by simp only [PyData.canLay0]; exact ints_lay ns, decide_eq_true h2⟩
theorem ints_eqv : ∀ a b : List Int, PyData.eqvAll (a.map PyData.int) (b.map PyData.int) = decide (a = b)
  | [], [] => by simp [PyData.eqvAll]
  | [], y :: s => by simp [PyData.eqvAll]
  | x :: r, [] => by simp [PyData.eqvAll]
  | x :: r, y :: s => by
    simp only [List.map_cons, PyData.eqvAll, PyData.eqv, ints_eqv r s, List.cons.injEq]
    by_cases h : x = y <;> by_cases h2 : r = s <;> simp [h, h2]
theorem ints_eqL (a b : List Int) : PyData.eqv (.list (a.map PyData.int)) (.list (b.map PyData.int)) = decide (a = b) := by simp only [PyData.eqv]; exact ints_eqv a b
theorem ints_eqT (a b : List Int) : PyData.eqv (.tuple (a.map PyData.int)) (.tuple (b.map PyData.int)) = decide (a = b) := by simp only [PyData.eqv]; exact ints_eqv a b
end RX
end
section
/-! lengths of texts put together -/
namespace RX
open PySem PySem.Spec PyProof.Rows L2
theorem len_app2 {x y : Str} {a b : Nat} (h : x.length ≤ a) (h2 : y.length ≤ b) : (x ++ y).length ≤ a + b := by rw [PySem.Str.length_append]; omega
theorem len_empty : Str.empty.length ≤ 0 := by decide +kernel
theorem len_lit {x : Str} (h : decide (x.length ≤ 50) = true) : x.length ≤ 50 := of_decide_eq_true h
theorem fmt_l {i : Int} (h0 : 0 ≤ i) (h1 : i < 1000000000) : (PySem.Str.ofString (toString i)).length ≤ 10 := toString_length_le h0 (by decide) (by omega)
theorem len_fin {x : Str} {n : Nat} (h : x.length ≤ n) (h1 : n ≤ 1000) : x.length ≤ sizeLine := Nat.le_trans h (Nat.le_trans h1 (by decide))
theorem fmt_i {i : Int} (h0 : 0 ≤ i) (h1 : i < 1000000000) : i.natAbs.log2 < 1920 := by
  have h : i.natAbs < 1000000000 := by omega
  by_cases z : i.natAbs = 0
  · rw [z]; decide
  · exact (Nat.log2_lt z).mpr (Nat.lt_of_lt_of_le h (Nat.le_trans (show 1000000000 ≤ 2 ^ 30 by decide) (Nat.pow_le_pow_right (by decide) (by decide))))
end RX
end
section
set_option maxHeartbeats 4000000
namespace PySem
open PySem PySem.Spec PyProof.Rows AutoSeq1
theorem rx_extend_tuple (l : Addr) (items : Array Value) (n : Nat) (b : Addr) (items2 : Array Value) (n2 : Nat) (dd : Option Addr) (sl : Array (Option Value)) (hs0 : ¬(!items.isEmpty && Builtin.List.listTooLong (items.size + items2.size)) = true) (hs1 : items.size ≤ sizeLine) (hs2 : items.size + items2.size ≤ sizeLine + 1) :
    Meets (Builtin.«list.extend» ⟨[.ref l, .ref b], []⟩) (fun _ R s => s.heap.get? l = some { cls := .type "list", dict := none, data := .seq items n, slots := #[] } ∧ s.heap.get? b = some { cls := .type "tuple", dict := dd, data := .seq items2 n2, slots := sl } ∧ R (.ok (.ret Value.none)) { s with heap := s.heap.update l (Obj.mapSeq fun x => x ++ items2), toks := s.toks }) :=
  .of_wp fun prog w A R s h => by
    obtain ⟨hp, g, d, tk, os⟩ := s; obtain ⟨hl, hb, h⟩ := h; have f1 := AutoSeq1.idx_int; have f2 := AutoSeq1.sub_tuple_tuple; have f3 := AutoSeq1.sub_list_list; have f4 := AutoSeq1.sub_tuple_list; have f5 := AutoSeq1.sub_list_tuple;
    have hz' : (items ++ items2).size ≤ sizeLine + 1 := by rw [Array.size_append]; exact hs2
    wp_walk using (wpAny_updateSeq hl rfl (hz := hs1) (_hz' := hz')), AutoSeq1.wpAny_loadPart' hl, AutoSeq1.wpAny_loadPart' hb; exact ⟨_, rfl, h⟩
end PySem
namespace RX
open PySem PySem.Spec PyProof.Rows L2
def rExtendT (K : PySem.W.Frag) : V → List V → Hp → VK → Prop := fun x vs H Q => ∃ l b xs zs, x = .ref l ∧ vs = [.ref b] ∧ H l = some (.lst xs) ∧ SqT K H b zs ∧ xs.length + zs.length ≤ sizeLine ∧ Q .non (upd H l (.lst (xs ++ zs)))
theorem mt_extendT {X : Cx} : MtM X "list.extend" (rExtendT X.K) := by
  intro pins s σ H x vs v us Q I rx rv h
  obtain ⟨l, b, xs, zs, rfl, rfl, hH, hB, hz, q⟩ := h
  cases rx
  obtain ⟨u, rfl, ru⟩ := rv.one
  cases ru
  obtain ⟨z, its, n, r, hl, e⟩ := I.lstM hH
  obtain ⟨its2, r2, ⟨o, e2, hc, n2, hd⟩, z2⟩ := I.tuple hB
  have hl2 := r2.length
  obtain ⟨oc, od, odt, osl⟩ := o
  simp only at hc hd
  subst hc hd
  have hsz : its.toArray.size + its2.toArray.size ≤ sizeLine := by rw [List.size_toArray, List.size_toArray]; omega
  have hlong : ¬ (!its.toArray.isEmpty && Builtin.List.listTooLong (its.toArray.size + its2.toArray.size)) = true := by
    rw [notLongL hsz, Bool.and_false]
    exact Bool.false_ne_true
  refine call_meets F.slot_list_extend ⟨_, e, rfl⟩ F.entry_list_extend (F.args_list_extend_2 _ _)
    (PySem.rx_extend_tuple l its.toArray n b its2.toArray n2 od osl hlong (by rw [List.size_toArray]; omega) (by omega)) ⟨e, e2, ?_⟩
  refine ⟨.non, _, I.lset (its' := its ++ its2) hH e (by simp) (r.append r2) ?_, rfl, q⟩
  rw [List.length_append]
  omega
end RX
end
section
set_option maxHeartbeats 4000000
/-! calls within an except suite, in the forms of RX -/
namespace RX
open PySem PySem.Spec PyProof.Rows L2 L2H
theorem okH {P : Program} {w : World} {K : PySem.W.Frag} {mg : Str → Option Value} {base : Heap} {x qual : Str} {params : Arguments} {body : List Stmt} {scope : Scope} {dvs : List V} {kws : List (Str × V)} {f : Addr} {fd : FuncData}
    {CX : CXT} {N ps : List Str} {k : Nat} {sp : Sp} (F : FunD K x qual params body scope dvs kws f fd) (S : FnScope N ps scope) (len : ∀ vs H Q E, sp vs H Q E → vs.length = ps.length)
    (hbody : ∀ (cdv : Value) (A : Around) (outer : List Env) (s : Shared) (H : Hp) (vs : List V) (Q : VK) (E : XK) (p : Addr × Obj), HotC (cxH CX P w K mg base N qual scope f cdv A outer s H E p) → RoomH k (A.deeper (envOfC qual scope s.heap.objs.size f cdv)) → sp vs H Q E →
      ∃ t, PSs (cxH CX P w K mg base N qual scope f cdv A outer s H E p) body t ∧ t { nx := fun _ H' => Q .non H', rt := Q } (L2.start N vs) H) : FnH P w K mg base CX (k + 1) f fd ps sp := by
  obtain ⟨oc, od, dV, kV, doc, pm, an, cdv, ct, osl, rfl, lk, hcd, _, _⟩ := F.ex
  exact fn_ofH lk hcd S len fun A outer s H vs Q E p hot hr hsp => hbody cdv A outer s H vs Q E p ⟨p, hot, List.mem_cons_self⟩ hr hsp
theorem FnH.imp {P : Program} {w : World} {K : PySem.W.Frag} {mg : Str → Option Value} {base : Heap} {CX : CXT} {k : Nat} {f : Addr} {fd : FuncData} {ps : List Str} {sp sp' : Sp} (F : L2H.FnH P w K mg base CX k f fd ps sp)
    (h : ∀ vs H Q E, sp' vs H Q E → sp vs H Q E) : L2H.FnH P w K mg base CX k f fd ps sp' :=
  ⟨fun vs H Q E q => F.len vs H Q E (h _ _ _ _ q), fun A outer s H args us vs Q E p hr hh hp he hb hv hs => F.run A outer s H args us vs Q E p hr hh hp he hb hv (h _ _ _ _ hs)⟩
theorem hu_ofH {A : Around} {k : Nat} (hr : RoomH k A) : A.units + 1 < cLine := by have := hr.un; omega
section
variable {X : Cx} {CX : CXT} {k n : Nat} {f C : Addr} {fd : FuncData} {ps ks : List Str} {sp : Sp} {E : L2.St → XK} {x m : Str} {p pos apos : Pos} {e o : Expr} {es : List Expr} {kws : List Keyword} {ta : TE} {t tk : TA} {g : List Value → List Value → List Value} {gV : List V → List V → List V}
theorem run_SH {pins : List (Addr × Obj)} {σ : L2.St} {H : Hp} {s : Shared} {Q : VK} {us ws : List Value} {vs zs : List V} (F : FnH X.prog X.w X.K X.mg X.base CX k f fd ps sp) (hr : RoomH k X.A) (hc : HotC X) (hb : KBn X.K fd ps n ks g gV) (hx : PassesAt CX X σ (E σ))
    (I : Inv X pins σ H s) (r : Vals vs us) (rz : Vals zs ws) (l1 : vs.length = n) (l2 : zs.length = ks.length) (h : sp (gV vs zs) H Q (E σ)) : wpAny (model X.prog X.w) X.A (call (.ref f) us (ks.zip ws)) (EP X pins σ Q) X.xe s := by
  obtain ⟨p, hot, hp⟩ := hc
  have P1 := I.pin p (List.mem_append_left _ hp)
  have hpin : PinOk X.stack H s p := ⟨P1.1, P1.2.1, fun hm => (List.mem_cons.mp (I.stkSub p.1 hm)).elim P1.2.2.1 P1.2.2.2.1, P1.2.2.2.2⟩
  refine wpAny_call (codeAny_mono (F.run X.A X.stack s H ⟨us, ks.zip ws⟩ (g us ws) (gV vs zs) Q (E σ) p hr hot hpin I.env0 (hb.to s us ws I.kIn (r.length.symm.trans l1) (rz.length.symm.trans l2)) (hb.rel r rz) h) fun r s' hq => ?_)
  cases r with
  | error e => exact hx pins H s e s' I hq
  | ok fl =>
    cases fl with
    | ret u => exact I.after hq
    | next => exact False.elim hq
    | brk => exact False.elim hq
    | cont => exact False.elim hq
theorem pe_csH (hc : HotC X) (F : FnH X.prog X.w X.K X.mg X.base CX k f fd ps sp) (hr : RoomH k X.A) (hm : X.mg x = some (.ref f)) (hk : PySem.W.keepIn X.K (.ref f) = true) (hb : KBn X.K fd ps n ks g gV) (hx : ∀ σ, PassesAt CX X σ (E σ))
    (ha : PA X (e :: es) t) (hkw : PK X kws tk) (hg : Gl X x := by rfl) (hall : (backToKw pos (keywordEach kws X.env)).all (·.1.isSome) = true := by rfl) (hks : (backToKw pos (keywordEach kws X.env)).filterMap (·.1) = ks := by rfl)
    (hdb : (x == ("__debug__" : Str)) = false := by decide) (he : starEach (e :: es) X.env = (false, eval e X.env) :: starEach es X.env := by rfl)
    (hpl : ((backTo pos (starEach (e :: es) X.env)).any (·.1) || (backToKw pos (keywordEach kws X.env)).any (·.1.isNone)) = false := by rfl) :
    PE X (.Call (.Name x p) (e :: es) kws pos) (tCs n ks.length sp gV E t tk) := by
  refine ⟨fun pins s σ H Q I h => ?_⟩
  refine wpAny_Call_Name_kw (ld_glob I hg hm ?_ hdb)
  refine PySem.W.callWith_KW (h₀ := X.base) I.ok.mod.kin hk hall (thn (ha.run pos pins s σ H _ I h) fun us s1 ⟨vs, H1, I1, r, q⟩ => ?_) hpl he
  refine thn (hkw.run pos pins s1 σ H1 _ I1 q) fun ws s2 ⟨zs, H2, I2, rz, l1, l2, q2⟩ => ⟨I2.kIn, ?_⟩
  rw [hks]
  exact run_SH F hr hc hb (hx σ) I2 r rz l1 l2 q2
theorem pe_msH (hc : HotC X) {pl : Sem Bool} (he : PE X o ta) (c : Cls X.K C) (hm : Meth X.K C m f) (F : FnH X.prog X.w X.K X.mg X.base CX k f fd ps sp) (hr : RoomH k X.A) (hb : KBn X.K fd ps n ks g gV) (hx : ∀ σ, PassesAt CX X σ (E σ)) (ha : PA X (e :: es) t) (hkw : PK X kws tk)
    (hall : (backToKw pos (keywordEach kws X.env)).all (·.1.isSome) = true := by rfl) (hks : (backToKw pos (keywordEach kws X.env)).filterMap (·.1) = ks := by rfl)
    (hst : starEach (e :: es) X.env = (false, eval e X.env) :: starEach es X.env := by rfl)
    (hpl : ((backTo pos (starEach (e :: es) X.env)).any (·.1) || (backToKw pos (keywordEach kws X.env)).any (·.1.isNone)) = false := by rfl)
    (ht : eval (.Call (.Attribute o m apos) (e :: es) kws pos) X.env = (do
      let ov ← eval o X.env
      standAt apos.atName
      let (f, first) ← holding [ov] (getMethod ov m pl)
      callWith pos f first (backTo pos (starEach (e :: es) X.env)) (backToKw pos (keywordEach kws X.env))) := by rfl) :
    PE X (.Call (.Attribute o m apos) (e :: es) kws pos) (tMs C m n ks.length sp gV E ta t tk) := by
  refine ⟨fun pins s σ H Q I h => ?_⟩
  refine PySem.W.methodCall_KW (pl := pl) (thn (he.run pins s σ H _ I h) fun u s1 ⟨x, H1, I1, rx, a, dx, fs, ex, ea, l, q⟩ => ?_) ht
  subst ex
  obtain rfl : u = Value.ref a := rx
  refine getmeth_ok I1 ea c hm l ?_
  refine PySem.W.callWith_KW (first := [.ref a]) (h₀ := X.base) I.ok.mod.kin hm.kp hall (thn (ha.run pos pins s1 σ H1 _ I1 q) fun us s2 ⟨vs, H2, I2, r, q2⟩ => ?_) hpl hst
  refine thn (hkw.run pos pins s2 σ H2 _ I2 q2) fun ws s3 ⟨zs, H3, I3, rz, l1, l2, q3⟩ => ⟨I3.kIn, ?_⟩
  rw [hks]
  exact run_SH (us := .ref a :: us) (vs := .ref a :: vs) F hr hc hb (hx σ) I3 (.cons rfl r) rz l1 l2 q3
theorem pe_ms0H (hc : HotC X) {pl : Sem Bool} (he : PE X o ta) (c : Cls X.K C) (hm : Meth X.K C m f) (F : FnH X.prog X.w X.K X.mg X.base CX k f fd ps sp) (hr : RoomH k X.A) (hb : KBn X.K fd ps n [] g gV) (hx : ∀ σ, PassesAt CX X σ (E σ))
    (ht : eval (.Call (.Attribute o m apos) [] [] pos) X.env = (do
      let ov ← eval o X.env
      standAt apos.atName
      let (f, first) ← holding [ov] (getMethod ov m pl)
      callWith pos f first (backTo pos (starEach [] X.env)) (backToKw pos (keywordEach [] X.env))) := by rfl) :
    PE X (.Call (.Attribute o m apos) [] [] pos) (tMs C m n 0 sp gV E ta tNil tNil) := by
  refine ⟨fun pins s σ H Q I h => ?_⟩
  refine PySem.W.methodCall_KW (pl := pl) (thn (he.run pins s σ H _ I h) fun u s1 ⟨x, H1, I1, rx, a, dx, fs, ex, ea, l, l1, l2, q⟩ => ?_) ht
  subst ex
  obtain rfl : u = Value.ref a := rx
  refine getmeth_ok I1 ea c hm l ?_
  exact PySem.W.callWith_K0 (first := [.ref a]) I1.kIn hm.kp (run_SH (us := [.ref a]) (vs := [.ref a]) (ws := []) (zs := []) F hr hc hb (hx σ) I1 (.cons rfl .nil) .nil l1 rfl q)
end
end RX
namespace RX
open PySem PySem.Spec PyProof.Rows L2 L2H
theorem takes_noneN {X : Cx} : L2N.Takes X (fun _ _ _ _ => False) := fun u s' xx => by
  obtain ⟨a, B, sI, pins', σ', H', cls, d, rfl, J', nb, up, sky, na, os, ag, w⟩ := xx
  exact False.elim w
theorem roomSuite {X : Cx} {a : Addr} {pn : List (Addr × Obj)} {j k : Nat} (hr : Room j X.A) (h : k ≤ j) : RoomH k (X.suite a pn).A :=
  ⟨by have := hr.dp; show X.A.depth + _ + _ < _; omega, by have := hr.un; show X.A.units + _ + _ < _; omega⟩
end RX
end
section
namespace RX
open PySem PySem.Spec PyProof.Rows L2
def CPowW (i j : Int) : Prop := 0 ≤ j ∧ (Builtin.Int.intBits i : Int) * j ≤ 2 ^ 27
theorem op_powW {X : Cx} : OpR X (binaryOp .Pow) (rI CPowW fun i j => .int (i ^ j.toNat)) := opI fun _ _ _ _ _ _ _ hc q => pow_int hc.1 hc.2 q
theorem big900 : CPowW ((10 : Int) ^ (60 : Int).toNat) 15 ∧ (0 : Int) < ((10 : Int) ^ (60 : Int).toNat) ^ (15 : Int).toNat := by
  refine ⟨⟨by decide, ?_⟩, ?_⟩
  · decide +kernel
  · decide +kernel
theorem ife_join2 {c : Bool} {A B : TE} {σ : L2.St} {H1 : Hp} {Kk : VK} {Pv : V → Prop} (key : ∀ v, Pv v → Kk v H1) (h1 : c = true → ∀ Kk' : VK, (∀ v, Pv v → Kk' v H1) → A σ H1 Kk') (h2 : c = false → ∀ Kk' : VK, (∀ v, Pv v → Kk' v H1) → B σ H1 Kk') : if c = true then A σ H1 Kk else B σ H1 Kk := by
  cases c
  · exact h2 rfl _ key
  · exact h1 rfl _ key
end RX
end
section
set_option maxHeartbeats 4000000
/-! rules joined; texts of signs joined -/
namespace RX
open PySem PySem.Spec PyProof.Rows L2
theorem callR_or {X : Cx} {f : Value} {r1 r2 : List V → Hp → VK → Prop} (h1 : CallR X f r1) (h2 : CallR X f r2) : CallR X f (fun xs H Q => r1 xs H Q ∨ r2 xs H Q) :=
  fun pins s σ H xs us Q I r h => h.elim (h1 pins s σ H xs us Q I r) (h2 pins s σ H xs us Q I r)
theorem ixR_or {X : Cx} {r1 r2 : R2} (h1 : IxR X r1) (h2 : IxR X r2) : IxR X (fun x y H Q => r1 x y H Q ∨ r2 x y H Q) :=
  fun value slice pins s σ H x y v u Q I rx ry h hs => h.elim (fun h => h1 value slice pins s σ H x y v u Q I rx ry h hs) (fun h => h2 value slice pins s σ H x y v u Q I rx ry h hs)
/-- len of a list or tuple -/
abbrev rLenQ (K : PySem.W.Frag) : List V → Hp → VK → Prop := fun xs H Q => ∃ p ys, xs = [V.ref p] ∧ (SqL K H p ys ∨ SqT K H p ys) ∧ Q (V.int (ys.length : Nat)) H
def lets : List Nat := (Str.ofString "abcdefghijklmnopqrstuvwxyz").cps.toList
theorem joinL_nil : ∀ ps : List (List Nat), TL.joinL [] ps = ps.flatten
  | [] => rfl
  | [p] => by simp [TL.joinL]
  | p :: q :: r => by
    show p ++ ([] ++ TL.joinL [] (q :: r)) = _
    rw [joinL_nil (q :: r), List.nil_append]; rfl
theorem join_signs (cs : List Nat) : (Txt.join (Str.ofString "") (cs.map fun c => (⟨#[c]⟩ : Str))).cps.toList = cs := by
  have h := TL.tl_join (Str.ofString "") (cs.map fun c => (⟨#[c]⟩ : Str))
  rw [← TL.join_eq] at h
  have e : TL.tl (Str.ofString "") = [] := by decide +kernel
  rw [e, joinL_nil, List.map_map] at h
  have e2 : (cs.map (TL.tl ∘ fun c => (⟨#[c]⟩ : Str))) = cs.map fun c => [c] := List.map_congr_left fun _ _ => rfl
  rw [e2] at h
  have e3 : (cs.map fun c => [c]).flatten = cs := by
    induction cs with
    | nil => rfl
    | cons c r ih =>
      have : (r.map fun c => [c]).flatten = r := by
        clear ih h e2
        induction r with
        | nil => rfl
        | cons c r ih => rw [List.map_cons, List.flatten_cons, ih]; rfl
      rw [List.map_cons, List.flatten_cons, this]; rfl
  rw [e3] at h
  exact h
theorem inV_str {n : Str} : ∀ {es : List Str}, inV (.str n) (es.map V.str) = decide (n ∈ es)
  | [] => rfl
  | x :: r => by
    have ih := inV_str (n := n) (es := r)
    unfold inV at ih ⊢
    rw [List.map_cons, List.any_cons, ih]
    have : eqV (.str x) (.str n) = decide (x = n) := by
      show (x == n) = _
      by_cases h : x = n
      · subst h; simp
      · have : (x == n) = false := by simpa using h
        simp [h, this]
    rw [this]
    by_cases h : x = n
    · simp [h]
    · have h2 : ¬ n = x := fun z => h z.symm
      simp [h, h2]
theorem flat_strs (es : List Str) : (es.map V.str).all flatV = true := by rw [List.all_map]; exact List.all_eq_true.mpr fun _ _ => rfl
/-- a text's first seven signs and one more -/
def pre7 (W : Str) (c : Nat) : Str := cutS W none (some 7) ++ ⟨#[c]⟩
theorem pre7_list (W : Str) (c : Nat) : (pre7 W c).cps.toList = W.cps.toList.take 7 ++ [c] := by
  have h : (cutS W none (some 7)).cps.toList = W.cps.toList.take 7 := by
    unfold cutS
    rw [HT.sIx_none, show (7 : Int) = ((7 : Nat) : Int) from rfl, HT.sIx_nat]
    have : W.cps.toList.length = W.length := by simp [PySem.Str.length]
    show (List.drop 0 W.cps.toList).take (min 7 W.length - 0) = _
    rw [List.drop_zero, Nat.sub_zero]
    by_cases h : 7 ≤ W.length
    · rw [Nat.min_eq_left h]
    · rw [Nat.min_eq_right (by omega), List.take_of_length_le (by omega), List.take_of_length_le (by omega)]
  unfold pre7
  show ((cutS W none (some 7)).cps ++ #[c]).toList = _
  rw [Array.toList_append, h]
theorem pre7_inj {W : Str} {a b : Nat} (h : pre7 W a = pre7 W b) : a = b := by
  have := congrArg (fun z : Str => z.cps.toList) h
  simp only [pre7_list] at this
  simpa using this
theorem lets_nodup : lets.Nodup := by decide +kernel
theorem lets_len : lets.length = 26 := by decide +kernel
/-- of 26 unlike words one is not among fewer -/
theorem free_ex (W : Str) (ws : List Str) (h : ws.length < 26) : ∃ c r, (lets.filter fun c => !decide (pre7 W c ∈ ws)) = c :: r := by
  cases e : lets.filter fun c => !decide (pre7 W c ∈ ws) with
  | cons c r => exact ⟨c, r, rfl⟩
  | nil =>
    exfalso
    have hall : ∀ c ∈ lets, pre7 W c ∈ ws := fun c hc => by
      have := List.filter_eq_nil_iff.mp e c hc
      simpa using this
    have hnd : (lets.map (pre7 W)).Nodup := by
      have : ∀ l : List Nat, l.Nodup → (l.map (pre7 W)).Nodup := by
        intro l
        induction l with
        | nil => intro _; exact List.nodup_nil
        | cons x r ih =>
          intro h
          rw [List.nodup_cons] at h
          rw [List.map_cons, List.nodup_cons]
          refine ⟨fun z => ?_, ih h.2⟩
          obtain ⟨y, hy, q⟩ := List.mem_map.mp z
          exact h.1 (pre7_inj q ▸ hy)
      exact this _ lets_nodup
    have := hnd.length_le_of_subset (l₂ := ws) (fun x hx => by
      obtain ⟨c, hc, rfl⟩ := List.mem_map.mp hx
      exact hall c hc)
    rw [List.length_map, lets_len] at this
    omega
end RX
end
section
set_option maxHeartbeats 4000000
namespace Hd
open PySem PySem.Spec PyProof.Rows L2 He ExF
-- tactics of our own: membership, heaps, sides, the walk on
local macro_rules | `(tactic| walk_at "memt") => `(tactic| first
  | with_reducible exact List.mem_cons_self ..
  | assumption
  | ((with_reducible apply List.mem_cons_of_mem); walk_at "memt")
  | ((with_reducible apply List.mem_append_left); walk_at "memt")
  | ((with_reducible apply List.mem_append_right); walk_at "memt"))
local macro_rules | `(tactic| walk_at "same") => `(tactic| first
  | assumption
  | with_reducible exact Same.refl _
  | ((with_reducible refine Same.trans ?_ (RX.same_new ?_)); (focus (walk_at "same")); (focus assumption)))
local macro_rules | `(tactic| walk_at "hs") => `(tactic| first
  | assumption
  | ((with_reducible apply RX.HS.allocT); (focus (walk_at "hs")); (focus assumption))
  | ((with_reducible apply RX.HS.allocL); (focus (walk_at "hs")); (focus assumption); (focus trivial)))
local macro_rules | `(tactic| walk_at "hp") => `(tactic| first
  | assumption
  | with_reducible exact upd_same
  | ((with_reducible refine RX.up_ne ?_ ?_); (focus assumption); (focus (walk_at "hp")))
  | ((with_reducible apply RX.via_same); (focus assumption); (focus (walk_at "hp")))
  | ((with_reducible apply RX.HS.get); (focus (walk_at "hs")); (focus (walk_at "memt"))))
local macro_rules | `(tactic| walk_at "ht") => `(tactic| first
  | assumption
  | ((with_reducible apply RX.HS.getT); (focus (walk_at "hs")); (focus (walk_at "memt")))
  | ((with_reducible refine RX.sqT_fresh ?_ ?_); (focus assumption); (focus (walk_at "ht")))
  | ((with_reducible apply RX.same_sqT); (focus assumption); (focus (walk_at "ht")))
  | ((with_reducible apply SqT.of); walk_at "hp"))
local macro_rules | `(tactic| walk_at "hl") => `(tactic| first
  | assumption
  | ((with_reducible refine RX.sqL_fresh ?_ ?_); (focus assumption); (focus (walk_at "hl")))
  | ((with_reducible apply RX.same_sqL); (focus assumption); (focus (walk_at "hl")))
  | ((with_reducible apply SqL.of); walk_at "hp"))
local macro_rules | `(tactic| walk_at "fl") => `(tactic| first
  | with_reducible exact SF.ring_
  | with_reducible exact SF.next_
  | with_reducible exact SF.tables_
  | with_reducible exact SF.fates_
  | with_reducible exact SF.lookers_
  | with_reducible exact SF.log_
  | with_reducible exact SF.busy_
  | with_reducible exact SF.stop_
  | with_reducible exact SF.warn_
  | with_reducible exact SF.eldests_
  | with_reducible exact SF.first_
  | with_reducible exact LF.name_
  | with_reducible exact LF.sort_
  | with_reducible exact LF.look_
  | with_reducible exact LF.num_
  | with_reducible exact LF.fin_
  | with_reducible exact SF.noM (by decide +kernel))
local macro_rules | `(tactic| walk_at "len") => `(tactic| first
  | assumption
  | ((with_reducible apply RX.len_app2); (focus (walk_at "len")); (focus (walk_at "len")))
  | with_reducible exact RX.len_empty
  | exact RX.len_lit (by decide +kernel)
  | exact RX.fmt_l (by omega) (by omega))
local macro_rules | `(tactic| walk_at "side") => `(tactic| first
  | with_reducible rfl
  | ((with_reducible show wipe _ _ = wipe _ _); kernel_rfl)
  | ((with_reducible show (_ : List (Option V))[_]? = some (some _)); (simp only [wipe, L2.start, List.map_cons, List.map_nil, List.length_cons, List.length_nil, List.replicate_succ, List.replicate_zero, Nat.reduceAdd, Nat.reduceSub, List.set_cons_succ, List.set_cons_zero, List.cons_append, List.nil_append, List.getElem?_cons_succ, List.getElem?_cons_zero] <;> exact rfl))
  | with_reducible assumption
  | ((with_reducible show PySem.Str.length _ ≤ sizeLine); (apply RX.len_fin); (focus (walk_at "len")); (focus decide))
  | ((with_reducible show Nat.log2 _ < 1920); exact RX.fmt_i (by omega) (by omega))
  | ((with_reducible show CMul _ _); (unfold CMul); omega)
  | ((with_reducible show CDiv _ _); (unfold CDiv); omega)
  | ((with_reducible show CPow _ _); first | (exact ⟨by decide, by decide, by decide⟩) | (refine ⟨by decide, by decide, ?_⟩; omega))
  | ((with_reducible show (_ : Int) ≤ _); omega)
  | ((with_reducible show (_ : Int) < _); omega)
  | assumption
  | ((with_reducible show SqT _ _ _ _); walk_at "ht")
  | ((with_reducible show SqL _ _ _ _); walk_at "hl")
  | ((with_reducible show _ ∨ _); first | (apply Or.inl; (with_reducible show SqL _ _ _ _); walk_at "hl") | (apply Or.inr; (with_reducible show SqT _ _ _ _); walk_at "ht"))
  | ((with_reducible show (∃ xs : List V, SqL _ _ _ xs)); apply Exists.intro; walk_at "hl")
  | ((with_reducible show (∃ xs : List V, SqT _ _ _ xs)); apply Exists.intro; walk_at "ht")
  | ((with_reducible show RX.HS _ _ _ _); walk_at "hs")
  | ((with_reducible show Same _ _); walk_at "same")
  | ((with_reducible show _ ∈ _); walk_at "memt")
  | ((with_reducible show (_ : Option HO) = _); walk_at "hp")
  | ((with_reducible show List.lookup _ _ = _); walk_at "fl")
  | ((with_reducible show RX.IsB _ _ _ _ _); first | exact .ss _ | exact .ii _ | exact .ib _ | exact .si _ | exact .is _ | (apply RX.IsB.tt; walk_at "ht"))
  | ((with_reducible show DGet _ _ _ _); (with_reducible apply RX.dget_same); (focus assumption); (focus assumption))
  | ((with_reducible show tyV _ _ _ _); first | (apply RX.tyL; walk_at "hl") | (apply RX.tyD; walk_at "hp"))
  | ((with_reducible show (∀ l ∈ _, Lk.there _ _ l)); (with_reducible apply there_same); (focus assumption); (focus assumption))
  | ((with_reducible show Rd _ _ _); first | assumption | (apply Or.inl; walk_at "hp"))
  | ((with_reducible show IsD _ _); apply RX.isD_rd; first | assumption | (apply Or.inl; walk_at "hp"))
  | with_reducible exact RX.nkV_oI _
  | with_reducible exact RX.kv_str
  | with_reducible exact RX.kv_int
  | ((with_reducible show Cls _ _); first | ((apply Txt.clStore) <;> assumption) | ((apply Txt.clLooker) <;> assumption))
  | ((with_reducible show NoAttr _ _ _); first | ((apply Txt.naS) <;> first | assumption | decide +kernel) | ((apply Txt.naL) <;> first | assumption | decide +kernel))
  | rfl
  | omega
  | exact Nat.le_of_lt (small1000 (Nat.le_of_ble_eq_true rfl))
  | ((with_reducible show _ < 1000); exact Nat.le_of_ble_eq_true (by kernel_rfl))
  | exact ⟨by decide, by decide⟩
  | decide)
local macro_rules | `(tactic| walk_at "stop") => `(tactic| first
  | with_reducible show (∃ W : Nat → Nat → Hp → Prop, _)
  | with_reducible show (∃ W : Nat → Nat → L2.St → Hp → Prop, _)
  | with_reducible show (∃ W : Nat → L2.St → Hp → Prop, _)
  | with_reducible show (seqIndex? _ _ = some _ ∧ _)
  | with_reducible show rCatA _ _ _ _ _
  | with_reducible show tWhile _ _ _ _ _
  | with_reducible show tSeq (tWhile _ _) _ _ _ _
  | with_reducible show (∃ acc : List V, _ = some (HO.lst acc) ∧ _))
local macro_rules | `(tactic| walk_at "go2") => `(tactic| first
  | with_reducible refine iteT ?_
  | with_reducible refine iteF ?_
  | (refine And.intro ?l ?r; (case l => walk_at "side"))
  | ((with_reducible show (∃ y : Str, V.str _ = V.str y ∧ _) ∨ _); apply Or.inl)
  | ((with_reducible show _ ∨ (∃ y : Int, V.int _ = V.int y ∧ _)); apply Or.inr)
  | apply Exists.intro
  | (intro p hp)
  | (intro hh))
local macro_rules | `(tactic| walk_at "go1") => `(tactic| ((fail_if_success (walk_at "stop")); walk_at "go2"))
local macro_rules | `(tactic| walk_at "go") => `(tactic| repeat (walk_at "go1"))
/-! ### plain meanings -/
def bef (r a b : Int) : Bool := decide (0 < (b - a) % r) && decide ((b - a) % r < r / 2)
/-- a word: texts of letters, one to eight -/
def isW (z : Str) : Bool := decide (1 ≤ z.length) && (decide (z.length ≤ 8) && z.cps.toList.all fun c => decide (c ∈ (Str.ofString "abcdefghijklmnopqrstuvwxyz").cps.toList))
/-- eldest's first walk -/
def eldF (r : Int) (n : Int) (ns : List Int) : Int := ns.foldl (fun f o => if bef r o f then o else f) n
def eldV (r : Int) (n : Int) (ns : List Int) : V := if (n :: ns).all (fun o => decide ((o - eldF r n ns) % r < r / 2)) then .int (eldF r n ns) else .non
section
variable {P : Program} {w : World} {K : PySem.W.Frag} {mg : Str → Option Value} {base : Heap}
def sp_on (K : PySem.W.Frag) : Sp := fun vs H Q _ => ∃ a b r : Int, vs = [.int a, .int b, .int r] ∧ 0 < r ∧ Q (.int ((a + b) % r)) H
theorem sc_on : FnScope ["number", "many", "ring"] ["number", "many", "ring"] (defScope s_on) := ⟨rfl, rfl, rfl, by decide +kernel, rfl, by decide +kernel, by decide +kernel⟩
theorem ok_on {fd : FuncData} (T : Txt K mg) (F : FnD K d_on fd) : FnOk P w K mg base CX0 1 (He.fAd K d_on.at_) fd ["number", "many", "ring"] (sp_on K) := by
  refine F.ok sc_on (fun vs H Q E h => ?_) (fun cdv A outer s H vs Q E hr h => ?_)
  · obtain ⟨a, b, r, rfl, _⟩ := h; rfl
  · obtain ⟨a, b, r, rfl, h0, k⟩ := h
    refine ⟨_, (PSs.nox (pss_one (ps_ret (pe_op op_mod (pe_op op_add (pv 0) (pv 1)) (pv 2))))), ?_⟩
    walk_at "go"
    exact k
def sp_steps (K : PySem.W.Frag) : Sp := fun vs H Q _ => ∃ a b r : Int, vs = [.int a, .int b, .int r] ∧ 0 < r ∧ Q (.int ((b - a) % r)) H
theorem sc_steps : FnScope ["one", "other", "ring"] ["one", "other", "ring"] (defScope s_steps) := ⟨rfl, rfl, rfl, by decide +kernel, rfl, by decide +kernel, by decide +kernel⟩
theorem ok_steps {fd : FuncData} (T : Txt K mg) (F : FnD K d_steps fd) : FnOk P w K mg base CX0 1 (He.fAd K d_steps.at_) fd ["one", "other", "ring"] (sp_steps K) := by
  refine F.ok sc_steps (fun vs H Q E h => ?_) (fun cdv A outer s H vs Q E hr h => ?_)
  · obtain ⟨a, b, r, rfl, _⟩ := h; rfl
  · obtain ⟨a, b, r, rfl, h0, k⟩ := h
    refine ⟨_, (PSs.nox (pss_one (ps_ret (pe_op op_mod (pe_op op_sub (pv 1) (pv 0)) (pv 2))))), ?_⟩
    walk_at "go"
    exact k
def sp_before (K : PySem.W.Frag) : Sp := fun vs H Q _ => ∃ a b r : Int, vs = [.int a, .int b, .int r] ∧ 0 < r ∧ Q (.bl (bef r a b)) H
theorem sc_before : FnScope ["one", "other", "ring"] ["one", "other", "ring"] (defScope s_before) := ⟨rfl, rfl, rfl, by decide +kernel, rfl, by decide +kernel, by decide +kernel⟩
theorem ok_before {fd : FuncData} (T : Txt K mg) (F : FnD K d_before fd) : FnOk P w K mg base CX0 2 (He.fAd K d_before.at_) fd ["one", "other", "ring"] (sp_before K) := by
  obtain ⟨fd_steps, F_steps⟩ := T.fn 2 (d := d_steps)
  have G_steps := ok_steps (P := P) (w := w) (base := base) T F_steps
  have B_steps_2_ring : KBn K fd_steps ["one", "other", "ring"] 2 ["ring"] (fun us ws => us ++ ws) (fun us ws => us ++ ws) := RX.kb0 F_steps 2 ["ring"] (fun us ws => us ++ ws) (fun a b => a.append b) (fun _ _ _ _ _ _ us ws h1 h2 => match us, ws, h1, h2 with | [_, _], [_], _, _ => rfl)
  refine F.ok sc_before (fun vs H Q E h => ?_) (fun cdv A outer s H vs Q E hr h => ?_)
  · obtain ⟨a, b, r, rfl, _⟩ := h; rfl
  · obtain ⟨a, b, r, rfl, h0, k⟩ := h
    refine ⟨_, (PSs.nox (pss_one (ps_ret (pe_chain op_lt op_lt pe_int (RX.pe_cs G_steps (hr.mono (by decide)) (T.glo 2) F_steps.kp B_steps_2_ring RX.passS0 (pa_cons (pv 0) (pa_cons (pv 1) pa_nil)) (pk_cons (pv 2) pk_nil)) (pe_op op_fdiv (pv 2) pe_int))))), ?_⟩
    walk_at "go"
    unfold bef at k
    by_cases c : 0 < (b - a) % r
    · rw [if_pos (by simpa using c)]
      walk_at "go"
      simpa [c] using k
    · rw [if_neg (by simpa using c)]
      simpa [c] using k
def sp_is_whole (K : PySem.W.Frag) : Sp := fun vs H Q _ => ∃ i : Int, vs = [.int i] ∧ Q (.bl true) H
theorem sc_is_whole : FnScope ["thing"] ["thing"] (defScope s_is_whole) := ⟨rfl, rfl, rfl, by decide +kernel, rfl, by decide +kernel, by decide +kernel⟩
theorem ok_is_whole {fd : FuncData} (T : Txt K mg) (F : FnD K d_is_whole fd) : FnOk P w K mg base CX0 1 (He.fAd K d_is_whole.at_) fd ["thing"] (sp_is_whole K) := by
  refine F.ok sc_is_whole (fun vs H Q E h => ?_) (fun cdv A outer s H vs Q E hr h => ?_)
  · obtain ⟨i, rfl, _⟩ := h; rfl
  · obtain ⟨i, rfl, k⟩ := h
    refine ⟨_, (PSs.nox (pss_one (ps_ret (pe_and (pe_callB RX.call_isB (by rfl) (T.fre 53) (by decide +kernel) (pa_cons (pv 0) (pa_cons (pe_bltn (v := .ty "int") (by rfl) (T.fre 54) (by decide +kernel) rfl) pa_nil))) (pe_one (pe_not (pe_callB RX.call_isB (by rfl) (T.fre 53) (by decide +kernel) (pa_cons (pv 0) (pa_cons (pe_bltn (v := .ty "bool") (by rfl) (T.fre 56) (by decide +kernel) rfl) pa_nil))))))))), ?_⟩
    walk_at "go"
    exact k
def sp_is_ring (K : PySem.W.Frag) : Sp := fun vs H Q _ => ∃ i : Int, vs = [.int i] ∧ Q (.bl (decide (8 ≤ i) && decide (i % 2 = 0))) H
theorem sc_is_ring : FnScope ["thing"] ["thing"] (defScope s_is_ring) := ⟨rfl, rfl, rfl, by decide +kernel, rfl, by decide +kernel, by decide +kernel⟩
theorem ok_is_ring {fd : FuncData} (T : Txt K mg) (F : FnD K d_is_ring fd) : FnOk P w K mg base CX0 2 (He.fAd K d_is_ring.at_) fd ["thing"] (sp_is_ring K) := by
  obtain ⟨t_LEAST_RING, g_LEAST_RING⟩ := T.int 70 (x := "LEAST_RING") (v := 8)
  obtain ⟨fd_is_whole, F_is_whole⟩ := T.fn 6 (d := d_is_whole)
  have G_is_whole := ok_is_whole (P := P) (w := w) (base := base) T F_is_whole
  have B_is_whole_1 : KBn K fd_is_whole ["thing"] 1 [] (fun us ws => us ++ ws) (fun us ws => us ++ ws) := RX.kb0 F_is_whole 1 [] (fun us ws => us ++ ws) (fun a b => a.append b) (fun _ _ _ _ _ _ us ws h1 h2 => match us, ws, h1, h2 with | [_], [], _, _ => rfl)
  refine F.ok sc_is_ring (fun vs H Q E h => ?_) (fun cdv A outer s H vs Q E hr h => ?_)
  · obtain ⟨i, rfl, _⟩ := h; rfl
  · obtain ⟨i, rfl, k⟩ := h
    refine ⟨_, (PSs.nox (pss_one (ps_ret (pe_and (RX.pe_cs G_is_whole (hr.mono (by decide)) (T.glo 6) F_is_whole.kp B_is_whole_1 RX.passS0 (pa_cons (pv 0) pa_nil) pk_nil) (pe_and (pe_cmpR op_ge (pv 0) (pe_glob (v := .int 8) rfl g_LEAST_RING ⟨_, rfl⟩) (nomark _)) (pe_one (pe_cmpR op_eq (pe_op op_mod (pv 0) pe_int) pe_int (nomark _)))))))), ?_⟩
    walk_at "go"
    refine RX.iteB (fun hc => ?_) (fun hc => ?_) <;> simp only [decide_eq_true_eq, decide_eq_false_iff_not] at hc
    · walk_at "go"
      simpa [hc, Int.emod_emod_of_dvd] using k
    · simpa [hc] using k
def sp_is_on (K : PySem.W.Frag) : Sp := fun vs H Q _ => ∃ i r : Int, vs = [.int i, .int r] ∧ Q (.bl (decide (0 ≤ i) && decide (i < r))) H
theorem sc_is_on : FnScope ["thing", "ring"] ["thing", "ring"] (defScope s_is_on) := ⟨rfl, rfl, rfl, by decide +kernel, rfl, by decide +kernel, by decide +kernel⟩
theorem ok_is_on {fd : FuncData} (T : Txt K mg) (F : FnD K d_is_on fd) : FnOk P w K mg base CX0 2 (He.fAd K d_is_on.at_) fd ["thing", "ring"] (sp_is_on K) := by
  obtain ⟨fd_is_whole, F_is_whole⟩ := T.fn 6 (d := d_is_whole)
  have G_is_whole := ok_is_whole (P := P) (w := w) (base := base) T F_is_whole
  have B_is_whole_1 : KBn K fd_is_whole ["thing"] 1 [] (fun us ws => us ++ ws) (fun us ws => us ++ ws) := RX.kb0 F_is_whole 1 [] (fun us ws => us ++ ws) (fun a b => a.append b) (fun _ _ _ _ _ _ us ws h1 h2 => match us, ws, h1, h2 with | [_], [], _, _ => rfl)
  refine F.ok sc_is_on (fun vs H Q E h => ?_) (fun cdv A outer s H vs Q E hr h => ?_)
  · obtain ⟨i, r, rfl, _⟩ := h; rfl
  · obtain ⟨i, r, rfl, k⟩ := h
    refine ⟨_, (PSs.nox (pss_one (ps_ret (pe_and (RX.pe_cs G_is_whole (hr.mono (by decide)) (T.glo 6) F_is_whole.kp B_is_whole_1 RX.passS0 (pa_cons (pv 0) pa_nil) pk_nil) (pe_one (pe_chain op_le op_lt pe_int (pv 0) (pv 1))))))), ?_⟩
    walk_at "go"
    refine RX.iteB (fun hc => ?_) (fun hc => ?_) <;> simp only [decide_eq_true_eq, decide_eq_false_iff_not] at hc
    · walk_at "go"
      simpa [hc] using k
    · simpa [hc] using k
def sp_low (K : PySem.W.Frag) : Sp := fun vs H Q _ => ∃ (a e : Addr) (c : Int) (es : List Int), vs = [.ref a] ∧ SqT K H a [.int c, .ref e] ∧ SqT K H e (es.map V.int) ∧ Q (.int (es.headD c)) H
theorem sc_low : FnScope ["look", "coming", "elder"] ["look"] (defScope s_low) := ⟨rfl, rfl, rfl, by decide +kernel, rfl, by decide +kernel, by decide +kernel⟩
theorem ok_low {fd : FuncData} (T : Txt K mg) (F : FnD K d_low fd) : FnOk P w K mg base CX0 1 (He.fAd K d_low.at_) fd ["look"] (sp_low K) := by
  refine F.ok sc_low (fun vs H Q E h => ?_) (fun cdv A outer s H vs Q E hr h => ?_)
  · obtain ⟨a, e, c, es, rfl, _⟩ := h; rfl
  · obtain ⟨a, e, c, es, rfl, ha, he, k⟩ := h
    refine ⟨_, (PSs.nox (pss_cons (ps_asg (pv 0) (pg_tup rfl (pgs_cons (pg_name (i := 1) sc_low.nd rfl (Or.inl rfl)) (pgs_cons (pg_name (i := 2) sc_low.nd rfl (Or.inl rfl)) pgs_nil)))) (pss_one (ps_ret (pe_ifExp (pt_cmpR op_gt (pe_callB call_len_seq (by rfl) (T.fre 44) (by decide +kernel) (pa_cons (pv 2) pa_nil)) pe_int (nomark _)) (pe_ix ix_tup (pv 2) pe_int (fun _ _ => rfl)) (pv 1)))))), ?_⟩
    walk_at "go"
    refine RX.iteB (fun hc => ?_) (fun hc => ?_) <;> simp only [decide_eq_true_eq, decide_eq_false_iff_not] at hc
    · cases es with
      | nil => simp at hc
      | cons e0 es => walk_at "go"; exact ⟨RX.atI_zero, k⟩
    · cases es with
      | nil => walk_at "go"; exact k
      | cons e0 es => simp at hc
def sp_sees (K : PySem.W.Frag) : Sp := fun vs H Q _ => ∃ (a e : Addr) (c n r : Int) (z : Str) (es : List Int), vs = [.ref a, .int n, .str z, .int r] ∧ SqT K H a [.int c, .ref e] ∧ SqT K H e (es.map V.int) ∧ 0 < r ∧
  Q (.bl (decide (z = "done") && (bef r n c && !decide (n ∈ es)))) H
theorem sc_sees : FnScope ["look", "number", "fate", "ring", "coming", "elder"] ["look", "number", "fate", "ring"] (defScope s_sees) := ⟨rfl, rfl, rfl, by decide +kernel, rfl, by decide +kernel, by decide +kernel⟩
theorem ok_sees {fd : FuncData} (T : Txt K mg) (F : FnD K d_sees fd) : FnOk P w K mg base CX0 3 (He.fAd K d_sees.at_) fd ["look", "number", "fate", "ring"] (sp_sees K) := by
  obtain ⟨fd_before, F_before⟩ := T.fn 3 (d := d_before)
  have G_before := ok_before (P := P) (w := w) (base := base) T F_before
  have B_before_2_ring : KBn K fd_before ["one", "other", "ring"] 2 ["ring"] (fun us ws => us ++ ws) (fun us ws => us ++ ws) := RX.kb0 F_before 2 ["ring"] (fun us ws => us ++ ws) (fun a b => a.append b) (fun _ _ _ _ _ _ us ws h1 h2 => match us, ws, h1, h2 with | [_, _], [_], _, _ => rfl)
  obtain ⟨t_DONE_looks, g_DONE_looks⟩ := T.str 71 (x := "DONE_looks") (z := "done")
  refine F.ok sc_sees (fun vs H Q E h => ?_) (fun cdv A outer s H vs Q E hr h => ?_)
  · obtain ⟨a, e, c, n, r, z, es, rfl, _⟩ := h; rfl
  · obtain ⟨a, e, c, n, r, z, es, rfl, ha, he, h0, k⟩ := h
    refine ⟨_, (PSs.nox (pss_cons (ps_asg (pv 0) (pg_tup rfl (pgs_cons (pg_name (i := 4) sc_sees.nd rfl (Or.inl rfl)) (pgs_cons (pg_name (i := 5) sc_sees.nd rfl (Or.inl rfl)) pgs_nil)))) (pss_one (ps_ret (pe_and (pe_cmpR op_eq (pv 2) (pe_glob (v := .str "done") rfl g_DONE_looks ⟨_, rfl⟩) (nomark _)) (pe_and (RX.pe_cs G_before (hr.mono (by decide)) (T.glo 3) F_before.kp B_before_2_ring RX.passS0 (pa_cons (pv 1) (pa_cons (pv 4) pa_nil)) (pk_cons (pv 3) pk_nil)) (pe_one (pe_cmpR op_notIn_seq (pv 1) (pv 5) rfl)))))))), ?_⟩
    walk_at "go"
    refine RX.iteB (fun hc => ?_) (fun hc => ?_) <;> simp only [decide_eq_true_eq, decide_eq_false_iff_not, V.str.injEq] at hc
    · walk_at "go"
      refine RX.iteB (fun hb => ?_) (fun hb => ?_)
      · walk_at "go"
        refine ⟨by simp [flatV], ?_⟩
        simpa [hc, hb, RX.inV_int] using k
      · simpa [hc, hb] using k
    · simpa [hc] using k
def sp_is_word (K : PySem.W.Frag) : Sp := fun vs H Q _ => ∃ z : Str, vs = [.str z] ∧ z.length ≤ sizeLine ∧ ∀ H', Same H H' → Q (.bl (isW z)) H'
theorem sc_is_word : FnScope ["thing", "sign"] ["thing"] (defScope s_is_word) := ⟨rfl, rfl, rfl, by decide +kernel, rfl, by decide +kernel, by decide +kernel⟩
theorem ok_is_word {fd : FuncData} (T : Txt K mg) (F : FnD K d_is_word fd) : FnOk P w K mg base CX0 1 (He.fAd K d_is_word.at_) fd ["thing"] (sp_is_word K) := by
  obtain ⟨t_LETTERS, g_LETTERS⟩ := T.str 68 (x := "LETTERS") (z := "abcdefghijklmnopqrstuvwxyz")
  obtain ⟨t_LONGEST_WORD, g_LONGEST_WORD⟩ := T.int 69 (x := "LONGEST_WORD") (v := 8)
  refine F.ok sc_is_word (fun vs H Q E h => ?_) (fun cdv A outer s H vs Q E hr h => ?_)
  · obtain ⟨z, rfl, _⟩ := h; rfl
  · obtain ⟨z, rfl, hz, k⟩ := h
    refine ⟨_, (PSs.nox (pss_one (ps_ret (pe_and (pe_callB RX.call_isB (by rfl) (T.fre 53) (by decide +kernel) (pa_cons (pv 0) (pa_cons (pe_bltn (v := .ty "str") (by rfl) (T.fre 55) (by decide +kernel) rfl) pa_nil))) (pe_and (pe_chain op_le op_le pe_int (pe_callB call_len_str (by rfl) (T.fre 44) (by decide +kernel) (pa_cons (pv 0) pa_nil)) (pe_glob (v := .int 8) rfl g_LONGEST_WORD ⟨_, rfl⟩)) (pe_one (pe_callB (cr_all rfl) (by rfl) (T.fre 51) (by decide +kernel) (pa_cons (pe_lc (own := [("sign", 1)]) (g := (gName 1)) (tt := tYes) rfl sc_is_word.nd (pi_str (pv 0)) (blkOk_by (own := [("sign", 1)]) (by kernel_rfl)) (fun _ _ _ _ _ => (pg_name (i := 1) sc_is_word.nd rfl (Or.inl rfl))) (fun _ _ _ _ _ => pts_nil) (fun _ _ _ _ _ => (pe_cmpR op_in_sign (pv 1) (pe_glob (v := .str "abcdefghijklmnopqrstuvwxyz") rfl g_LETTERS ⟨_, rfl⟩) rfl))) pa_nil)))))))), ?_⟩
    walk_at "go"
    unfold isW at k
    have big : (8 : Int) < z.length ∨ z.length ≤ 8 := by omega
    refine RX.iteB (fun hc => ?_) (fun hc => ?_) <;> simp only [decide_eq_true_eq, decide_eq_false_iff_not] at hc
    · walk_at "go"
      refine RX.iteB (fun hb => ?_) (fun hb => ?_) <;> simp only [decide_eq_true_eq, decide_eq_false_iff_not] at hb
      · walk_at "go"
        refine RX.lc_str (f := fun c => [V.bl (decide (c ∈ (Str.ofString "abcdefghijklmnopqrstuvwxyz").cps.toList))]) (by assumption) (fun _ => Nat.le_refl _) (by rw [Array.length_toList]; exact hz) (fun i c l H' hi hl ac => ?_) (fun H' ac => ?_)
        · walk_at "go"
          exact ac.yes (by assumption) (Same.refl _) hl
        · have e1 : z.length ≤ 8 := by omega
          have e2 : 1 ≤ z.length := by omega
          refine ⟨_, _, rfl, ac.bls, ?_⟩
          rw [RX.all_map]
          simpa only [e1, e2, decide_true, Bool.true_and] using k H' ac.same
      · have e1 : ¬ z.length ≤ 8 := by omega
        have e2 : 1 ≤ z.length := by omega
        simpa only [e1, e2, decide_true, decide_false, Bool.true_and, Bool.false_and] using k H (Same.refl _)
    · have e2 : ¬ 1 ≤ z.length := by omega
      walk_at "go"
      simpa only [e2, decide_false, Bool.false_and] using k H (Same.refl _)
end
section
variable {P : Program} {w : World} {K : PySem.W.Frag} {mg : Str → Option Value} {base : Heap}
def sp_eldest (K : PySem.W.Frag) : Sp := fun vs H Q _ => ∃ (a : Addr) (n r : Int) (ns : List Int), vs = [.ref a, .int r] ∧ SqT K H a ((n :: ns).map V.int) ∧ 0 < r ∧ ns.length < 1000 ∧ ∀ H', Same H H' → Q (eldV r n ns) H'
theorem sc_eldest : FnScope ["numbers", "ring", "first", "rest", "one"] ["numbers", "ring"] (defScope s_eldest) := ⟨rfl, rfl, rfl, by decide +kernel, rfl, by decide +kernel, by decide +kernel⟩
theorem ok_eldest {fd : FuncData} (T : Txt K mg) (F : FnD K d_eldest fd) : FnOk P w K mg base CX0 3 (He.fAd K d_eldest.at_) fd ["numbers", "ring"] (sp_eldest K) := by
  obtain ⟨fd_before, F_before⟩ := T.fn 3 (d := d_before)
  have G_before := ok_before (P := P) (w := w) (base := base) T F_before
  have B_before_2_ring : KBn K fd_before ["one", "other", "ring"] 2 ["ring"] (fun us ws => us ++ ws) (fun us ws => us ++ ws) := RX.kb0 F_before 2 ["ring"] (fun us ws => us ++ ws) (fun a b => a.append b) (fun _ _ _ _ _ _ us ws h1 h2 => match us, ws, h1, h2 with | [_, _], [_], _, _ => rfl)
  obtain ⟨fd_steps, F_steps⟩ := T.fn 2 (d := d_steps)
  have G_steps := ok_steps (P := P) (w := w) (base := base) T F_steps
  have B_steps_2_ring : KBn K fd_steps ["one", "other", "ring"] 2 ["ring"] (fun us ws => us ++ ws) (fun us ws => us ++ ws) := RX.kb0 F_steps 2 ["ring"] (fun us ws => us ++ ws) (fun a b => a.append b) (fun _ _ _ _ _ _ us ws h1 h2 => match us, ws, h1, h2 with | [_, _], [_], _, _ => rfl)
  refine F.ok sc_eldest (fun vs H Q E h => ?_) (fun cdv A outer s H vs Q E hr h => ?_)
  · obtain ⟨a, n, r, ns, rfl, _⟩ := h; rfl
  · obtain ⟨a, n, r, ns, rfl, ha, h0, hz, k⟩ := h
    refine ⟨_, (PSs.nox (pss_cons (ps_asg (pv 0) (RX.pg_starR rfl (pgs_cons (pg_name (i := 2) sc_eldest.nd rfl (Or.inr rfl)) (pgs_cons (pg_name (i := 3) sc_eldest.nd rfl (Or.inl rfl)) pgs_nil)))) (pss_cons (ps_for PassesOwn.never rfl (pi_list (pv 3)) (pg_name (i := 4) sc_eldest.nd rfl (Or.inl rfl)) (pss_one (ps_if (pt_val (RX.pe_cs G_before (hr.mono (by decide)) (T.glo 3) F_before.kp B_before_2_ring RX.passS0 (pa_cons (pv 4) (pa_cons (pv 2) pa_nil)) (pk_cons (pv 1) pk_nil))) (pss_one (ps_set (i := 2) sc_eldest.nd rfl (Or.inr rfl) (pv 4))) pss_nil))) (pss_one (ps_ret (pe_ifExp (pt_val (pe_callB (cr_all rfl) (by rfl) (T.fre 51) (by decide +kernel) (pa_cons (pe_lc (own := [("one", 4)]) (g := (gName 4)) (tt := tYes) rfl sc_eldest.nd (pi_tup (pv 0)) (blkOk_by (own := [("one", 4)]) (by kernel_rfl)) (fun _ _ _ _ _ => (pg_name (i := 4) sc_eldest.nd rfl (Or.inl rfl))) (fun _ _ _ _ _ => pts_nil) (fun _ _ _ _ _ => (pe_cmpR op_lt (RX.pe_cs G_steps (hr.mono (by decide)) (T.glo 2) F_steps.kp B_steps_2_ring RX.passS0 (pa_cons (pv 2) (pa_cons (pv 4) pa_nil)) (pk_cons (pv 1) pk_nil)) (pe_op op_fdiv (pv 1) pe_int) (nomark _)))) pa_nil))) (pv 2) pe_non)))))), ?_⟩
    walk_at "go"
    rename_i p hp
    refine for_list (xs := ns.map V.int) (fun i σ H' => RX.Box (Same (upd H p (.lst (ns.map V.int))) H' ∧ ∃ o, σ = [some (.ref a), some (.int r), some (.int (eldF r n (ns.take i))), some (.ref p), o])) ⟨⟨Same.refl _, none, rfl⟩⟩ (fun i σ H' hi ⟨⟨e, _⟩⟩ => SqL.of (e _ _ upd_same)) (fun i x σ H' hi ⟨⟨e, o, hσ⟩⟩ => ?_) (fun σ H' ⟨⟨e, o, hσ⟩⟩ => ?_)
    · subst hσ
      rw [List.getElem?_map] at hi
      obtain ⟨y, hy, rfl⟩ := Option.map_eq_some_iff.mp hi
      have et : eldF r n (ns.take (i + 1)) = if bef r y (eldF r n (ns.take i)) then y else eldF r n (ns.take i) := by
        unfold eldF
        rw [List.take_add_one, hy, Option.toList_some, List.foldl_append]
        rfl
      walk_at "go"
      refine RX.iteB (fun hb => ?_) (fun hb => ?_)
      · walk_at "go"
        refine ⟨⟨e, some (.int y), ?_⟩⟩
        rw [et, hb]
        rfl
      · refine ⟨⟨e, some (.int y), ?_⟩⟩
        rw [et, hb]
        rfl
    · subst hσ
      rw [List.length_map, List.take_length]
      have s0 : Same H H' := (RX.same_new hp).trans e
      have ha' : SqT K H' a ((n :: ns).map V.int) := RX.same_sqT s0 ha
      walk_at "go"
      rename_i q hq
      refine RX.lc_tpl (xs := (n :: ns).map V.int) (f := fun x => [V.bl (match x with | .int o => decide ((o - eldF r n ns) % r < r / 2) | _ => true)]) hq (fun _ => Nat.le_refl _) (by rw [List.length_map, List.length_cons]; exact small1000 (by omega)) ha' (fun i x l H2 hi hl ac => ?_) (fun H2 ac => ?_)
      · rw [List.getElem?_map] at hi
        obtain ⟨y, hy, rfl⟩ := Option.map_eq_some_iff.mp hi
        walk_at "go"
        exact ac.yes hq (Same.refl _) hl
      · refine ⟨_, _, rfl, ac.bls, ?_⟩
        have k2 := k H2 (s0.trans ac.same)
        unfold eldV at k2
        have e2 : ((n :: ns).map V.int).all (fun x => match x with | .int o => decide ((o - eldF r n ns) % r < r / 2) | _ => true) = (n :: ns).all fun o => decide ((o - eldF r n ns) % r < r / 2) := by rw [List.all_map]; rfl
        rw [RX.all_map, e2]
        refine ⟨_, rfl, ?_⟩
        refine RX.iteB (fun hb => ?_) (fun hb => ?_)
        · rw [hb] at k2
          walk_at "go"
          exact k2
        · rw [hb] at k2
          exact k2
end
/-- fates: numbers with what became of them -/
abbrev Fb := List (Int × Str)
def fbK (f : Fb) : List (Key × V) := f.map fun p => (.inl p.1, .str p.2)
def fbG (f : Fb) (n : Int) : Option Str := (f.find? fun p => decide (p.1 = n)).map (·.2)
theorem fb_val (f : Fb) (n : Int) : valV (fbK f) (.inl n) = (fbG f n).map V.str := by
  unfold valV fbK fbG
  induction f with
  | nil => rfl
  | cons p r ih =>
    rw [List.map_cons, List.find?_cons, List.find?_cons]
    have e : (decide (((Sum.inl p.1 : Key), V.str p.2).1 = Sum.inl n)) = decide (p.1 = n) := by
      by_cases h : p.1 = n
      · simp [h]
      · have : ¬ (Sum.inl p.1 : Key) = Sum.inl n := fun z => h (Sum.inl.inj z)
        simp [h, this]
    rw [e]
    cases decide (p.1 = n) with
    | true => rfl
    | false => exact ih
/-- a version: its key, its worth, who made it, who ended it -/
structure Ver where
  key : Str
  worth : V
  maker : Option Int
  ender : Option Int
def Ver.l (v : Ver) : List V := [.str v.key, v.worth, oI v.maker, oI v.ender]
def Ver.ok (v : Ver) : Prop := (∃ z, v.worth = .str z) ∨ ∃ i, v.worth = .int i
theorem fb_nk (f : Fb) (m : Option Int) : (nK m).bind (valV (fbK f)) = (m.bind (fbG f)).map V.str := by
  cases m with
  | none => rfl
  | some n => exact fb_val f n
theorem getD_str (o : Option Str) (d : Str) : ((o.map V.str).getD (.str d)) = .str (o.getD d) := by cases o <;> rfl
theorem dget_fb {H : Hp} {fa : Addr} {fb : Fb} {e : Int} (h : Rd H fa (.dK (fbK fb))) (z : Str) (hz : fbG fb e = some z) : DGet H fa (.int e) (some (.str z)) := .inl ⟨_, .inl e, h, rfl, by rw [fb_val, hz]; rfl⟩
section
variable {P : Program} {w : World} {K : PySem.W.Frag} {mg : Str → Option Value} {base : Heap}
def sp_is_worth (K : PySem.W.Frag) : Sp := fun vs H Q _ => ∃ i : Int, vs = [.int i] ∧ Q (.bl true) H
theorem sc_is_worth : FnScope ["thing"] ["thing"] (defScope s_is_worth) := ⟨rfl, rfl, rfl, by decide +kernel, rfl, by decide +kernel, by decide +kernel⟩
theorem ok_is_worth {fd : FuncData} (T : Txt K mg) (F : FnD K d_is_worth fd) : FnOk P w K mg base CX0 2 (He.fAd K d_is_worth.at_) fd ["thing"] (sp_is_worth K) := by
  obtain ⟨fd_is_word, F_is_word⟩ := T.fn 5 (d := d_is_word)
  have G_is_word := ok_is_word (P := P) (w := w) (base := base) T F_is_word
  have B_is_word_1 : KBn K fd_is_word ["thing"] 1 [] (fun us ws => us ++ ws) (fun us ws => us ++ ws) := RX.kb0 F_is_word 1 [] (fun us ws => us ++ ws) (fun a b => a.append b) (fun _ _ _ _ _ _ us ws h1 h2 => match us, ws, h1, h2 with | [_], [], _, _ => rfl)
  obtain ⟨fd_is_whole, F_is_whole⟩ := T.fn 6 (d := d_is_whole)
  have G_is_whole := ok_is_whole (P := P) (w := w) (base := base) T F_is_whole
  have B_is_whole_1 : KBn K fd_is_whole ["thing"] 1 [] (fun us ws => us ++ ws) (fun us ws => us ++ ws) := RX.kb0 F_is_whole 1 [] (fun us ws => us ++ ws) (fun a b => a.append b) (fun _ _ _ _ _ _ us ws h1 h2 => match us, ws, h1, h2 with | [_], [], _, _ => rfl)
  refine F.ok sc_is_worth (fun vs H Q E h => ?_) (fun cdv A outer s H vs Q E hr h => ?_)
  · obtain ⟨i, rfl, _⟩ := h; rfl
  · obtain ⟨i, rfl, k⟩ := h
    refine ⟨_, (PSs.nox (pss_one (ps_ret (pe_or (RX.pe_cs G_is_whole (hr.mono (by decide)) (T.glo 6) F_is_whole.kp B_is_whole_1 RX.passS0 (pa_cons (pv 0) pa_nil) pk_nil) (pe_one (RX.pe_cs G_is_word (hr.mono (by decide)) (T.glo 5) F_is_word.kp B_is_word_1 RX.passS0 (pa_cons (pv 0) pa_nil) pk_nil)))))), ?_⟩
    walk_at "go"
    exact k
/-- what state_by tells is some text -/
def sp_state_by (K : PySem.W.Frag) : Sp := fun vs H Q _ => ∃ (v lk el fa : Addr) (ver : Ver) (c r : Int) (es : List Int) (fb : Fb) (own : Option Int), vs = [.ref v, .ref lk, .ref fa, oI own, .int r] ∧ SqT K H v ver.l ∧ SqT K H lk [.int c, .ref el] ∧ SqT K H el (es.map V.int) ∧
  Rd H fa (.dK (fbK fb)) ∧ 0 < r ∧ (∀ e, ver.ender = some e → (fbG fb e).isSome = true) ∧ ∀ z, Q (.str z) H
theorem sc_state_by : FnScope ["version", "look", "fate_by", "own", "ring", "key", "worth", "maker", "ender", "fate"] ["version", "look", "fate_by", "own", "ring"] (defScope s_state_by) := ⟨rfl, rfl, rfl, by decide +kernel, rfl, by decide +kernel, by decide +kernel⟩
theorem ok_state_by {fd : FuncData} (T : Txt K mg) (F : FnD K d_state_by fd) : FnOk P w K mg base CX0 4 (He.fAd K d_state_by.at_) fd ["version", "look", "fate_by", "own", "ring"] (sp_state_by K) := by
  obtain ⟨t_DONE_looks, g_DONE_looks⟩ := T.str 71 (x := "DONE_looks") (z := "done")
  obtain ⟨t_FELL_looks, g_FELL_looks⟩ := T.str 72 (x := "FELL_looks") (z := "fell")
  obtain ⟨t_OPEN_looks, g_OPEN_looks⟩ := T.str 73 (x := "OPEN_looks") (z := "open")
  obtain ⟨fd_sees, F_sees⟩ := T.fn 11 (d := d_sees)
  have G_sees := ok_sees (P := P) (w := w) (base := base) T F_sees
  have B_sees_3_ring : KBn K fd_sees ["look", "number", "fate", "ring"] 3 ["ring"] (fun us ws => us ++ ws) (fun us ws => us ++ ws) := RX.kb0 F_sees 3 ["ring"] (fun us ws => us ++ ws) (fun a b => a.append b) (fun _ _ _ _ _ _ us ws h1 h2 => match us, ws, h1, h2 with | [_, _, _], [_], _, _ => rfl)
  obtain ⟨t_LATER, g_LATER⟩ := T.str 74 (x := "LATER") (z := "later")
  obtain ⟨t_CUT, g_CUT⟩ := T.str 75 (x := "CUT") (z := "cut")
  obtain ⟨t_SEEN, g_SEEN⟩ := T.str 76 (x := "SEEN") (z := "seen")
  refine F.ok sc_state_by (fun vs H Q E h => ?_) (fun cdv A outer s H vs Q E hr h => ?_)
  · obtain ⟨v, lk, el, fa, ver, c, r, es, fb, own, rfl, _⟩ := h; rfl
  · obtain ⟨v, lk, el, fa, ver, c, r, es, fb, own, rfl, hv, hlk, hel, hfa, h0, hen, k⟩ := h
    refine ⟨_, (PSs.nox (pss_cons (ps_asg (pv 0) (pg_tup rfl (pgs_cons (pg_name (i := 5) sc_state_by.nd rfl (Or.inl rfl)) (pgs_cons (pg_name (i := 6) sc_state_by.nd rfl (Or.inl rfl)) (pgs_cons (pg_name (i := 7) sc_state_by.nd rfl (Or.inl rfl)) (pgs_cons (pg_name (i := 8) sc_state_by.nd rfl (Or.inl rfl)) pgs_nil)))))) (pss_cons (ps_set (i := 9) sc_state_by.nd rfl (Or.inl rfl) (RX.pe_dgetN2 (pv 2) (pv 7) (pe_glob (v := .str "done") rfl g_DONE_looks ⟨_, rfl⟩) ⟨rfl, rfl, rfl, rfl⟩)) (pss_cons (ps_if (pt_cmpR op_eq (pv 9) (pe_glob (v := .str "fell") rfl g_FELL_looks ⟨_, rfl⟩) (nomark _)) (pss_one (ps_ret (pe_glob (v := .str "fell") rfl g_FELL_looks ⟨_, rfl⟩))) pss_nil) (pss_cons (ps_if (PW.pt (pw_and (pt_cmpR op_eq (pv 9) (pe_glob (v := .str "open") rfl g_OPEN_looks ⟨_, rfl⟩) (nomark _)) (pw_and1 (pt_cmpR op_ne (pv 7) (pv 3) (nomark _))))) (pss_one (ps_ret (pe_glob (v := .str "open") rfl g_OPEN_looks ⟨_, rfl⟩))) pss_nil) (pss_cons (ps_if (PW.pt (pw_and (pt_cmp (pc_notN (pv 7))) (pw_and (pt_cmpR op_eq (pv 9) (pe_glob (v := .str "done") rfl g_DONE_looks ⟨_, rfl⟩) (nomark _)) (pw_and1 (pt_not (pt_val (RX.pe_cs G_sees (hr.mono (by decide)) (T.glo 11) F_sees.kp B_sees_3_ring RX.passS0 (pa_cons (pv 1) (pa_cons (pv 7) (pa_cons (pv 9) pa_nil))) (pk_cons (pv 4) pk_nil)))))))) (pss_one (ps_ret (pe_glob (v := .str "later") rfl g_LATER ⟨_, rfl⟩))) pss_nil) (pss_cons (ps_if (PW.pt (pw_and (pt_cmp (pc_notN (pv 8))) (pw_and1 (PW.pt (pw_or (pt_cmpR op_eq (pv 8) (pv 3) (nomark _)) (pw_or1 (pt_val (RX.pe_cs G_sees (hr.mono (by decide)) (T.glo 11) F_sees.kp B_sees_3_ring RX.passS0 (pa_cons (pv 1) (pa_cons (pv 8) (pa_cons (pe_dget (hu_of hr) (pv 2) (pv 8) (fun _ _ => rfl)) pa_nil))) (pk_cons (pv 4) pk_nil))))))))) (pss_one (ps_ret (pe_glob (v := .str "cut") rfl g_CUT ⟨_, rfl⟩))) pss_nil) (pss_one (ps_ret (pe_glob (v := .str "seen") rfl g_SEEN ⟨_, rfl⟩)))))))))), ?_⟩
    obtain ⟨key, worth, maker, ender⟩ := ver
    unfold Ver.l at hv
    simp only at hv hen
    rcases ender with _ | e
    · rcases maker with _ | m <;> rcases own with _ | o <;>
      · walk_at "go"
        simp only [fb_nk, getD_str]
        repeat (first | exact k _ | walk_at "go1" | refine RX.iteB (fun hc => ?_) (fun hc => ?_))
    · obtain ⟨z, hz⟩ := Option.isSome_iff_exists.mp (hen e rfl)
      have hg := dget_fb hfa z hz
      rcases maker with _ | m <;> rcases own with _ | o <;>
      · walk_at "go"
        simp only [fb_nk, getD_str]
        repeat (first | exact k _ | walk_at "go1" | refine RX.iteB (fun hc => ?_) (fun hc => ?_))
end
def befO (r : Int) (m : Option Int) (upto : Int) : Bool := match m with
  | some i => bef r i upto
  | none => false
/-- a version frozen up to a number, where all that made or ended it is done -/
def frzV (r upto : Int) (v : Ver) : Option Ver := if befO r v.ender upto then none else some { v with maker := if befO r v.maker upto then none else v.maker }
/-- all that it names is done, by these fates -/
structure Dn (fb : Fb) (v : Ver) : Prop where
  ma : ∀ m, v.maker = some m → fbG fb m = some (Str.ofString "done")
  en : ∀ e, v.ender = some e → fbG fb e = some (Str.ofString "done")
section
variable {P : Program} {w : World} {K : PySem.W.Frag} {mg : Str → Option Value} {base : Heap}
def sp_frozen_by (K : PySem.W.Frag) : Sp := fun vs H Q _ => ∃ (v fa : Addr) (ver : Ver) (upto r : Int) (fb : Fb), vs = [.ref v, .int upto, .ref fa, .int r] ∧ SqT K H v ver.l ∧
  Rd H fa (.dK (fbK fb)) ∧ 0 < r ∧ Dn fb ver ∧ (frzV r upto ver = none → Q .non H) ∧ ∀ v', frzV r upto ver = some v' → ∀ p, H p = none → Q (.ref p) (upd H p (.tup v'.l))
theorem sc_frozen_by : FnScope ["version", "upto", "fate_by", "ring", "key", "worth", "maker", "ender", "ended"] ["version", "upto", "fate_by", "ring"] (defScope s_frozen_by) := ⟨rfl, rfl, rfl, by decide +kernel, rfl, by decide +kernel, by decide +kernel⟩
theorem ok_frozen_by {fd : FuncData} (T : Txt K mg) (F : FnD K d_frozen_by fd) : FnOk P w K mg base CX0 3 (He.fAd K d_frozen_by.at_) fd ["version", "upto", "fate_by", "ring"] (sp_frozen_by K) := by
  obtain ⟨t_FELL_looks, g_FELL_looks⟩ := T.str 72 (x := "FELL_looks") (z := "fell")
  obtain ⟨fd_before, F_before⟩ := T.fn 3 (d := d_before)
  have G_before := ok_before (P := P) (w := w) (base := base) T F_before
  have B_before_2_ring : KBn K fd_before ["one", "other", "ring"] 2 ["ring"] (fun us ws => us ++ ws) (fun us ws => us ++ ws) := RX.kb0 F_before 2 ["ring"] (fun us ws => us ++ ws) (fun a b => a.append b) (fun _ _ _ _ _ _ us ws h1 h2 => match us, ws, h1, h2 with | [_, _], [_], _, _ => rfl)
  obtain ⟨t_DONE_looks, g_DONE_looks⟩ := T.str 71 (x := "DONE_looks") (z := "done")
  refine F.ok sc_frozen_by (fun vs H Q E h => ?_) (fun cdv A outer s H vs Q E hr h => ?_)
  · obtain ⟨v, fa, ver, upto, r, fb, rfl, _⟩ := h; rfl
  · obtain ⟨v, fa, ver, upto, r, fb, rfl, hv, hfa, h0, hd, k0, k1⟩ := h
    refine ⟨_, (PSs.nox (pss_cons (ps_asg (pv 0) (pg_tup rfl (pgs_cons (pg_name (i := 4) sc_frozen_by.nd rfl (Or.inl rfl)) (pgs_cons (pg_name (i := 5) sc_frozen_by.nd rfl (Or.inl rfl)) (pgs_cons (pg_name (i := 6) sc_frozen_by.nd rfl (Or.inl rfl)) (pgs_cons (pg_name (i := 7) sc_frozen_by.nd rfl (Or.inl rfl)) pgs_nil)))))) (pss_cons (ps_if (pt_cmpR op_eq (RX.pe_dgetN1 (pv 2) (pv 6) ⟨rfl, rfl, rfl, rfl⟩) (pe_glob (v := .str "fell") rfl g_FELL_looks ⟨_, rfl⟩) (nomark _)) (pss_one (ps_ret pe_non)) pss_nil) (pss_cons (ps_set (i := 8) sc_frozen_by.nd rfl (Or.inl rfl) (RX.pe_dgetN1 (pv 2) (pv 7) ⟨rfl, rfl, rfl, rfl⟩)) (pss_cons (ps_if (PW.pt (pw_and (pt_cmpR op_eq (pv 8) (pe_glob (v := .str "done") rfl g_DONE_looks ⟨_, rfl⟩) (nomark _)) (pw_and1 (pt_val (RX.pe_cs G_before (hr.mono (by decide)) (T.glo 3) F_before.kp B_before_2_ring RX.passS0 (pa_cons (pv 7) (pa_cons (pv 1) pa_nil)) (pk_cons (pv 3) pk_nil)))))) (pss_one (ps_ret pe_non)) pss_nil) (pss_cons (ps_if (PW.pt (pw_and (pt_cmpR op_eq (RX.pe_dgetN1 (pv 2) (pv 6) ⟨rfl, rfl, rfl, rfl⟩) (pe_glob (v := .str "done") rfl g_DONE_looks ⟨_, rfl⟩) (nomark _)) (pw_and1 (pt_val (RX.pe_cs G_before (hr.mono (by decide)) (T.glo 3) F_before.kp B_before_2_ring RX.passS0 (pa_cons (pv 6) (pa_cons (pv 1) pa_nil)) (pk_cons (pv 3) pk_nil)))))) (pss_one (ps_set (i := 6) sc_frozen_by.nd rfl (Or.inl rfl) pe_non)) pss_nil) (pss_one (ps_ret (pe_tup (pa_cons (pv 4) (pa_cons (pv 5) (pa_cons (pv 6) (pa_cons (pe_ifExp (pt_cmpR op_eq (pv 8) (pe_glob (v := .str "fell") rfl g_FELL_looks ⟨_, rfl⟩) (nomark _)) pe_non (pv 7)) pa_nil))))))))))))), ?_⟩
    obtain ⟨key, worth, maker, ender⟩ := ver
    obtain ⟨dm, de⟩ := hd
    unfold Ver.l at hv
    simp only at hv dm de
    rcases maker with _ | m <;> rcases ender with _ | e
    · walk_at "go"
      simp only [fb_nk, Option.bind_none, Option.map_none, Option.getD_none]
      walk_at "go"
      exact k1 _ rfl _ (by assumption)
    · have e1 := de e rfl
      repeat (first | walk_at "go1" | simp only [fb_nk, Option.bind_none, Option.map_none, Option.getD_none, Option.bind_some, e1, Option.map_some, Option.getD_some])
      refine RX.iteB (fun hb => ?_) (fun hb => ?_)
      · walk_at "go"
        exact k0 (by simp [frzV, befO, hb])
      · walk_at "go"
        exact k1 _ (by simp [frzV, befO, hb]; rfl) _ (by assumption)
    · have e1 := dm m rfl
      repeat (first | walk_at "go1" | simp only [fb_nk, Option.bind_none, Option.map_none, Option.getD_none, Option.bind_some, e1, Option.map_some, Option.getD_some])
      refine RX.iteB (fun hb => ?_) (fun hb => ?_)
      · walk_at "go"
        exact k1 _ (by simp [frzV, befO, hb]; rfl) _ (by assumption)
      · walk_at "go"
        exact k1 _ (by simp [frzV, befO, hb]; rfl) _ (by assumption)
    · have e1 := dm m rfl
      have e2 := de e rfl
      repeat (first | walk_at "go1" | simp only [fb_nk, Option.bind_none, Option.map_none, Option.getD_none, Option.bind_some, e1, e2, Option.map_some, Option.getD_some])
      refine RX.iteB (fun hb => ?_) (fun hb => ?_)
      · walk_at "go"
        exact k0 (by simp [frzV, befO, hb])
      · repeat (first | walk_at "go1" | simp only [fb_nk, Option.bind_none, Option.map_none, Option.getD_none, Option.bind_some, e1, e2, Option.map_some, Option.getD_some])
        refine RX.iteB (fun hc => ?_) (fun hc => ?_)
        · walk_at "go"
          exact k1 _ (by simp [frzV, befO, hb, hc]; rfl) _ (by assumption)
        · walk_at "go"
          exact k1 _ (by simp [frzV, befO, hb, hc]; rfl) _ (by assumption)
end
theorem putK_new {kvs : List (Key × V)} {k : Key} {v : V} (h : k ∉ kvs.map (·.1)) : putK kvs k v = kvs ++ [(k, v)] := by
  unfold putK
  rw [if_neg]
  intro hx
  simp only [List.any_eq_true, decide_eq_true_eq] at hx
  obtain ⟨q, hq, e⟩ := hx
  exact h (List.mem_map.mpr ⟨q, hq, e⟩)
theorem merge_new : ∀ {more kvs : List (Key × V)}, ((kvs ++ more).map (·.1)).Nodup → mergeK kvs more = kvs ++ more
  | [], kvs, _ => by simp [mergeK]
  | p :: r, kvs, h => by
    have hn : p.1 ∉ kvs.map (·.1) := by
      rw [List.map_append, List.map_cons, List.nodup_append] at h
      intro z
      exact h.2.2 _ z _ List.mem_cons_self rfl
    show mergeK (putK kvs p.1 p.2) r = _
    rw [putK_new hn, merge_new (by rw [List.append_assoc]; exact h), List.append_assoc]
    rfl
theorem fb_nodup {fb : Fb} (h : (fb.map (·.1)).Nodup) : ((fbK fb).map (·.1)).Nodup := by
  unfold fbK
  rw [List.map_map]
  have : (fb.map ((fun x : Key × V => x.1) ∘ fun p : Int × Str => ((.inl p.1, .str p.2) : Key × V))) = (fb.map (·.1)).map Sum.inl := by rw [List.map_map]; rfl
  rw [this]
  exact List.Pairwise.map _ (fun a b hab z => hab (Sum.inl.inj z)) h
section
variable {P : Program} {w : World} {K : PySem.W.Frag} {mg : Str → Option Value} {base : Heap}
/-- what a frozen version is told as -/
def FrzQ (K : PySem.W.Frag) (H : Hp) (r upto : Int) (ver : Ver) (Q : VK) : Prop := ∀ H', Same H H' → (frzV r upto ver = none → Q .non H') ∧ ∀ v', frzV r upto ver = some v' → ∀ p, H p = none → SqT K H' p v'.l → Q (.ref p) H'
def sp_frozen (K : PySem.W.Frag) : Sp := fun vs H Q _ => ∃ (v fa : Addr) (o : Obj) (ts : List Addr) (ver : Ver) (upto r : Int) (fb : Fb), vs = [.ref v, .int upto, .ref fa, .int r] ∧ SqT K H v ver.l ∧
  H fa = some (.frz o (.tup (ts.map V.ref))) ∧ o.dict = none ∧ Paired (fun p kv => SqT K H p [kV kv.1, kv.2]) ts (fbK fb) ∧ (fb.map (·.1)).Nodup ∧ 0 < r ∧ Dn fb ver ∧ FrzQ K H r upto ver Q
theorem sc_frozen : FnScope ["version", "upto", "fates", "ring"] ["version", "upto", "fates", "ring"] (defScope s_frozen) := ⟨rfl, rfl, rfl, by decide +kernel, rfl, by decide +kernel, by decide +kernel⟩
theorem ok_frozen {fd : FuncData} (T : Txt K mg) (F : FnD K d_frozen fd) : FnOk P w K mg base CX0 4 (He.fAd K d_frozen.at_) fd ["version", "upto", "fates", "ring"] (sp_frozen K) := by
  obtain ⟨fd_frozen_by, F_frozen_by⟩ := T.fn 13 (d := d_frozen_by)
  have G_frozen_by := ok_frozen_by (P := P) (w := w) (base := base) T F_frozen_by
  have B_frozen_by_4 : KBn K fd_frozen_by ["version", "upto", "fate_by", "ring"] 4 [] (fun us ws => us ++ ws) (fun us ws => us ++ ws) := RX.kb0 F_frozen_by 4 [] (fun us ws => us ++ ws) (fun a b => a.append b) (fun _ _ _ _ _ _ us ws h1 h2 => match us, ws, h1, h2 with | [_, _, _, _], [], _, _ => rfl)
  refine F.ok sc_frozen (fun vs H Q E h => ?_) (fun cdv A outer s H vs Q E hr h => ?_)
  · obtain ⟨v, fa, o, ts, ver, upto, r, fb, rfl, _⟩ := h; rfl
  · obtain ⟨v, fa, o, ts, ver, upto, r, fb, rfl, hv, hfa, ho, hp, nd, h0, hd, k⟩ := h
    refine ⟨_, (PSs.nox (pss_one (ps_ret (RX.pe_cs G_frozen_by (hr.mono (by decide)) (T.glo 13) F_frozen_by.kp B_frozen_by_4 RX.passS0 (pa_cons (pv 0) (pa_cons (pv 1) (pa_cons (pe_callTy (RX.call_dictT rfl) (by rfl) (T.fre 47) (by decide +kernel) (pa_cons (pv 2) pa_nil)) (pa_cons (pv 3) pa_nil)))) pk_nil)))), ?_⟩
    walk_at "go"
    rename_i q hq
    have em : mergeK [] (fbK fb) = fbK fb := merge_new (by simpa using fb_nodup nd)
    rw [em]
    refine ⟨.inl upd_same, h0, hd, fun e => (k _ (RX.same_new hq)).1 e, fun v' e p hp' => ?_⟩
    have hp0 : H p = none := by
      have : p ≠ q := fun z => by rw [z, upd_same] at hp'; cases hp'
      rwa [upd_ne this] at hp'
    exact (k _ ((RX.same_new hq).trans (RX.same_new hp'))).2 v' e p hp0 (SqT.of upd_same)
/-! ### a looker, a refusal -/
def lkL (s : LF) : List (Str × V) := s.l
def sp_Looker_init (K : PySem.W.Frag) : Sp := fun vs H Q _ => ∃ (x dx lk : Addr) (n z : Str), vs = [.ref x, .str n, .str z, .ref lk] ∧ H x = some (.ins (CL K) dx []) ∧ Q .non (upd H x (.ins (CL K) dx (LF.mk n z lk none none).l))
theorem sc_Looker_init : FnScope ["self", "name", "sort", "look"] ["self", "name", "sort", "look"] (defScope s_Looker_init) := ⟨rfl, rfl, rfl, by decide +kernel, rfl, by decide +kernel, by decide +kernel⟩
theorem ok_Looker_init {fd : FuncData} (T : Txt K mg) (F : FnD K d_Looker_init fd) : FnOk P w K mg base CX0 1 (He.fAd K d_Looker_init.at_) fd ["self", "name", "sort", "look"] (sp_Looker_init K) := by
  refine F.ok sc_Looker_init (fun vs H Q E h => ?_) (fun cdv A outer s H vs Q E hr h => ?_)
  · obtain ⟨x, dx, lk, n, z, rfl, _⟩ := h; rfl
  · obtain ⟨x, dx, lk, n, z, rfl, hx, k⟩ := h
    refine ⟨_, (PSs.nox (pss_cons (ps_fld (pv 0) (pv 1) rfl) (pss_cons (ps_fld (pv 0) (pv 2) rfl) (pss_cons (ps_fld (pv 0) (pv 3) rfl) (pss_cons (ps_fld (pv 0) pe_non rfl) (pss_one (ps_fld (pv 0) pe_non rfl))))))), ?_⟩
    walk_at "go"
    have e : putF "looker_end" V.non (putF "looker_number" V.non (putF "looker_look" (V.ref lk) (putF "looker_sort" (V.str z) (putF "looker_name" (V.str n) [])))) = (LF.mk n z lk none none).l := by kernel_rfl
    simp only [upd_upd, e]
    exact k
def sp_Stopped_init (K : PySem.W.Frag) : Sp := fun vs H Q _ => ∃ (a : Addr) (v : V), vs = [.ref a, v] ∧ H a = some (exo a (ga K "Stopped") none) ∧ ∀ dx, H dx = none → dx ≠ a → Q .non (upd (upd H dx (exd dx [("by", v)])) a (exo a (ga K "Stopped") (some dx)))
theorem sc_Stopped_init : FnScope ["self", "by"] ["self", "by"] (defScope s_Stopped_init) := ⟨rfl, rfl, rfl, by decide +kernel, rfl, by decide +kernel, by decide +kernel⟩
theorem ok_Stopped_init {fd : FuncData} (T : Txt K mg) (F : FnD K d_Stopped_init fd) : FnOk P w K mg base CX0 1 (He.fAd K d_Stopped_init.at_) fd ["self", "by"] (sp_Stopped_init K) := by
  refine F.ok sc_Stopped_init (fun vs H Q E h => ?_) (fun cdv A outer s H vs Q E hr h => ?_)
  · obtain ⟨a, v, rfl, _⟩ := h; rfl
  · obtain ⟨a, v, rfl, ha, k⟩ := h
    refine ⟨_, (PSs.nox (pss_cons (ps_expr (RXe.pe_binit RXe.bx_Overflow (by rfl) (T.fre 64) (by decide +kernel) (ExF.ov_init _) (pa_cons (pv 0) (pa_cons pe_str pa_nil)))) (pss_one (RXe.ps_st1 RXe.bx_Overflow (pv 0) (pv 1))))), ?_⟩
    have hx := T.xcStopped
    have hn := T.xStopped.n
    walk_at "go"
    exact k _ (by assumption) (by assumption)
end
/-- a looker as the book has it: its name, its object, that one's dict, its fields -/
structure Lk where
  n : Str
  a : Addr
  dx : Addr
  f : LF
def lkK (ls : List Lk) : List (Key × V) := ls.map fun l => (.inr l.n, .ref l.a)
def Lk.there (K : PySem.W.Frag) (H : Hp) (l : Lk) : Prop := H l.a = some (.ins (CL K) l.dx l.f.l)
def lkG (ls : List Lk) (n : Str) : Option Lk := ls.find? fun l => decide (l.n = n)
theorem lk_val (ls : List Lk) (n : Str) : valV (lkK ls) (.inr n) = (lkG ls n).map fun l => V.ref l.a := by
  unfold valV lkK lkG
  induction ls with
  | nil => rfl
  | cons p r ih =>
    rw [List.map_cons, List.find?_cons, List.find?_cons]
    have e : (decide (((Sum.inr p.n : Key), V.ref p.a).1 = Sum.inr n)) = decide (p.n = n) := by
      by_cases h : p.n = n
      · simp [h]
      · have : ¬ (Sum.inr p.n : Key) = Sum.inr n := fun z => h (Sum.inr.inj z)
        simp [h, this]
    rw [e]
    cases decide (p.n = n) with
    | true => rfl
    | false => exact ih
theorem dget_lk {H : Hp} {aL : Addr} {ls : List Lk} {n : Str} (h : H aL = some (.dK (lkK ls))) : DGet H aL (.str n) ((lkG ls n).map fun l => V.ref l.a) := .inl ⟨_, .inr n, .inl h, rfl, (lk_val ls n).symm⟩
theorem lkG_mem {ls : List Lk} {n : Str} {l : Lk} (h : lkG ls n = some l) : l ∈ ls ∧ l.n = n := ⟨List.mem_of_find?_eq_some h, by simpa using List.find?_some h⟩
theorem lock_ins {H : Hp} {a d C dx : Addr} {fs : List (Str × V)} {kvs : List (Key × V)} {od : Obj} (h : H a = some (.ins C dx fs)) (hd : H d = some (.dK kvs)) : upd H d (.frz od (.dK kvs)) a = some (.ins C dx fs) := by
  rw [upd_ne (ne_of h hd (fun z => nomatch z))]; exact h
section
variable {P : Program} {w : World} {K : PySem.W.Frag} {mg : Str → Option Value} {base : Heap}
def sp_Deeds_look_free (K : PySem.W.Frag) : Sp := fun vs H Q _ => ∃ (a dx : Addr) (s : SF), vs = [.ref a] ∧ H a = some (.ins (CS K) dx s.l) ∧ s.busy = false ∧ Q .non H
theorem sc_Deeds_look_free : FnScope ["self"] ["self"] (defScope s_Deeds_look_free) := ⟨rfl, rfl, rfl, by decide +kernel, rfl, by decide +kernel, by decide +kernel⟩
theorem ok_Deeds_look_free {fd : FuncData} (T : Txt K mg) (F : FnD K d_Deeds_look_free fd) : FnOk P w K mg base CX0 1 (He.fAd K d_Deeds_look_free.at_) fd ["self"] (sp_Deeds_look_free K) := by
  refine F.ok sc_Deeds_look_free (fun vs H Q E h => ?_) (fun cdv A outer s H vs Q E hr h => ?_)
  · obtain ⟨a, dx, s, rfl, _⟩ := h; rfl
  · obtain ⟨a, dx, sf, rfl, ha, hb, k⟩ := h
    refine ⟨_, (PSs.nox (pss_one (ps_if (pt_val (pe_fld (pv 0) rfl)) (pss_one ps_never) pss_nil))), ?_⟩
    walk_at "go"
    rw [hb]
    walk_at "go"
    exact k
def sp_Deeds_note (K : PySem.W.Frag) : Sp := fun vs H Q _ => ∃ (a dx : Addr) (s : SF) (z : Str) (log : List V), vs = [.ref a, .str z] ∧ H a = some (.ins (CS K) dx s.l) ∧ H s.aG = some (.lst log) ∧ log.length < sizeLine ∧ Q .non (upd H s.aG (.lst (log ++ [.str z])))
theorem sc_Deeds_note : FnScope ["self", "row"] ["self", "row"] (defScope s_Deeds_note) := ⟨rfl, rfl, rfl, by decide +kernel, rfl, by decide +kernel, by decide +kernel⟩
theorem ok_Deeds_note {fd : FuncData} (T : Txt K mg) (F : FnD K d_Deeds_note fd) : FnOk P w K mg base CX0 1 (He.fAd K d_Deeds_note.at_) fd ["self", "row"] (sp_Deeds_note K) := by
  refine F.ok sc_Deeds_note (fun vs H Q E h => ?_) (fun cdv A outer s H vs Q E hr h => ?_)
  · obtain ⟨a, dx, s, z, log, rfl, _⟩ := h; rfl
  · obtain ⟨a, dx, sf, z, log, rfl, ha, hg, hz, k⟩ := h
    refine ⟨_, (PSs.nox (pss_one (ps_expr (pe_bm PySem.F.plainAttrs_list PySem.F.slot_list_append PySem.F.type_list_append mt_append (pe_fld (pv 0) rfl) (pa_cons (pv 1) pa_nil))))), ?_⟩
    walk_at "go"
    exact k
def sp_Deeds_steps_back (K : PySem.W.Frag) : Sp := fun vs H Q _ => ∃ (a dx : Addr) (s : SF) (n : Int), vs = [.ref a, .int n] ∧ H a = some (.ins (CS K) dx s.l) ∧ 0 < s.ring ∧ Q (.int ((s.next - n) % s.ring)) H
theorem sc_Deeds_steps_back : FnScope ["self", "number"] ["self", "number"] (defScope s_Deeds_steps_back) := ⟨rfl, rfl, rfl, by decide +kernel, rfl, by decide +kernel, by decide +kernel⟩
theorem ok_Deeds_steps_back {fd : FuncData} (T : Txt K mg) (F : FnD K d_Deeds_steps_back fd) : FnOk P w K mg base CX0 2 (He.fAd K d_Deeds_steps_back.at_) fd ["self", "number"] (sp_Deeds_steps_back K) := by
  obtain ⟨fd_steps, F_steps⟩ := T.fn 2 (d := d_steps)
  have G_steps := ok_steps (P := P) (w := w) (base := base) T F_steps
  have B_steps_2_ring : KBn K fd_steps ["one", "other", "ring"] 2 ["ring"] (fun us ws => us ++ ws) (fun us ws => us ++ ws) := RX.kb0 F_steps 2 ["ring"] (fun us ws => us ++ ws) (fun a b => a.append b) (fun _ _ _ _ _ _ us ws h1 h2 => match us, ws, h1, h2 with | [_, _], [_], _, _ => rfl)
  refine F.ok sc_Deeds_steps_back (fun vs H Q E h => ?_) (fun cdv A outer s H vs Q E hr h => ?_)
  · obtain ⟨a, dx, s, n, rfl, _⟩ := h; rfl
  · obtain ⟨a, dx, sf, n, rfl, ha, h0, k⟩ := h
    refine ⟨_, (PSs.nox (pss_one (ps_ret (RX.pe_cs G_steps (hr.mono (by decide)) (T.glo 2) F_steps.kp B_steps_2_ring RX.passS0 (pa_cons (pv 1) (pa_cons (pe_fld (pv 0) rfl) pa_nil)) (pk_cons (pe_fld (pv 0) rfl) pk_nil))))), ?_⟩
    walk_at "go"
    exact k
def sp_Deeds_next (K : PySem.W.Frag) : Sp := fun vs H Q _ => ∃ (a dx : Addr) (s : SF), vs = [.ref a] ∧ H a = some (.ins (CS K) dx s.l) ∧ Q (.int s.next) H
theorem sc_Deeds_next : FnScope ["self"] ["self"] (defScope s_Deeds_next) := ⟨rfl, rfl, rfl, by decide +kernel, rfl, by decide +kernel, by decide +kernel⟩
theorem ok_Deeds_next {fd : FuncData} (T : Txt K mg) (F : FnD K d_Deeds_next fd) : FnOk P w K mg base CX0 1 (He.fAd K d_Deeds_next.at_) fd ["self"] (sp_Deeds_next K) := by
  refine F.ok sc_Deeds_next (fun vs H Q E h => ?_) (fun cdv A outer s H vs Q E hr h => ?_)
  · obtain ⟨a, dx, s, rfl, _⟩ := h; rfl
  · obtain ⟨a, dx, sf, rfl, ha, k⟩ := h
    refine ⟨_, (PSs.nox (pss_one (ps_ret (pe_fld (pv 0) rfl)))), ?_⟩
    walk_at "go"
    exact k
def sp_Deeds_fate_of (K : PySem.W.Frag) : Sp := fun vs H Q _ => ∃ (a dx l ldx : Addr) (s : SF) (n : Int) (f : LF), vs = [.ref a, .int n] ∧ H a = some (.ins (CS K) dx s.l) ∧ DGet H s.aF (.int n) (some (.ref l)) ∧ H l = some (.ins (CL K) ldx f.l) ∧ Q (.str (f.fin.getD "open")) H
theorem sc_Deeds_fate_of : FnScope ["self", "number", "end"] ["self", "number"] (defScope s_Deeds_fate_of) := ⟨rfl, rfl, rfl, by decide +kernel, rfl, by decide +kernel, by decide +kernel⟩
theorem ok_Deeds_fate_of {fd : FuncData} (T : Txt K mg) (F : FnD K d_Deeds_fate_of fd) : FnOk P w K mg base CX0 1 (He.fAd K d_Deeds_fate_of.at_) fd ["self", "number"] (sp_Deeds_fate_of K) := by
  obtain ⟨t_OPEN_deedbook, g_OPEN_deedbook⟩ := T.str 79 (x := "OPEN_deedbook") (z := "open")
  refine F.ok sc_Deeds_fate_of (fun vs H Q E h => ?_) (fun cdv A outer s H vs Q E hr h => ?_)
  · obtain ⟨a, dx, l, ldx, s, n, f, rfl, _⟩ := h; rfl
  · obtain ⟨a, dx, l, ldx, sf, n, f, rfl, ha, hg, hl, k⟩ := h
    refine ⟨_, (PSs.nox (pss_cons (ps_set (i := 2) sc_Deeds_fate_of.nd rfl (Or.inl rfl) (pe_fld (pe_dget (hu_of hr) (pe_fld (pv 0) rfl) (pv 1) (fun _ _ => rfl)) rfl)) (pss_one (ps_ret (pe_ifExp (pt_cmp (pc_isN (pv 2))) (pe_glob (v := .str "open") rfl g_OPEN_deedbook ⟨_, rfl⟩) (pv 2)))))), ?_⟩
    walk_at "go"
    obtain ⟨fn, fs, flk, fnum, fin⟩ := f
    cases fin with
    | none =>
      refine RX.iteB (fun hc => ?_) (fun hc => ?_)
      · exact k
      · simp [oS] at hc
    | some z =>
      refine RX.iteB (fun hc => ?_) (fun hc => ?_)
      · simp [oS] at hc
      · walk_at "go"
        exact k
def sp_Deeds_open_lookers (K : PySem.W.Frag) : Sp := fun vs H Q _ => ∃ (a dx : Addr) (s : SF) (ls : List Lk), vs = [.ref a] ∧ H a = some (.ins (CS K) dx s.l) ∧ H s.aL = some (.dK (lkK ls)) ∧ (∀ l ∈ ls, l.there K H) ∧ ls.length ≤ sizeLine ∧
  ∀ H' p, Same H H' → H p = none → H' p = some (.lst ((ls.filter fun l => l.f.fin.isNone).map fun l => V.ref l.a)) → Q (.ref p) H'
theorem sc_Deeds_open_lookers : FnScope ["self", "looker"] ["self"] (defScope s_Deeds_open_lookers) := ⟨rfl, rfl, rfl, by decide +kernel, rfl, by decide +kernel, by decide +kernel⟩
theorem ok_Deeds_open_lookers {fd : FuncData} (T : Txt K mg) (F : FnD K d_Deeds_open_lookers fd) : FnOk P w K mg base CX0 1 (He.fAd K d_Deeds_open_lookers.at_) fd ["self"] (sp_Deeds_open_lookers K) := by
  refine F.ok sc_Deeds_open_lookers (fun vs H Q E h => ?_) (fun cdv A outer s H vs Q E hr h => ?_)
  · obtain ⟨a, dx, s, ls, rfl, _⟩ := h; rfl
  · obtain ⟨a, dx, sf, ls, rfl, ha, hL, hl, hz, k⟩ := h
    refine ⟨_, (PSs.nox (pss_one (ps_ret (pe_lock (pe_lc (own := [("looker", 1)]) (g := (gName 1)) rfl sc_Deeds_open_lookers.nd (pi_values (pe_fld (pv 0) rfl)) (blkOk_by (own := [("looker", 1)]) (by kernel_rfl)) (fun _ _ _ _ _ => (pg_name (i := 1) sc_Deeds_open_lookers.nd rfl (Or.inl rfl))) (fun _ _ _ _ _ => (pts_one (pt_cmp (pc_isN ((pe_fld (pv 1) rfl) : PE _ _ (tFld K _ _)))))) (fun _ _ _ _ _ => (pv 1))))))), ?_⟩
    refine ⟨sf.aL, _, hL, trivial, fun od => ?_⟩
    have ha' := lock_ins (od := od) ha hL
    have hL' : upd H sf.aL (.frz od (.dK (lkK ls))) sf.aL = some (.frz od (.dK (lkK ls))) := upd_same
    refine ⟨_, rfl, a, _, dx, sf.l, _, rfl, ha', T.clStore, T.naS (by decide +kernel), SF.lookers_, _, od, lkK ls, rfl, hL', fun D hD => ?_⟩
    refine RX.lm_vals (f := fun l : Lk => if l.f.fin.isNone = true then [V.ref l.a] else []) hD (fun x => RX.if_len) hz hL' (fun i y l H' hi hlen ac => ?_) (fun H' ac => ?_)
    · have hly := hl y (List.mem_of_getElem? hi)
      unfold Lk.there at hly
      have hly' := ac.same _ _ (lock_ins (od := od) hly hL)
      walk_at "go"
      obtain ⟨yn, ya, ydx, ⟨f1, f2, f3, f4, fin⟩⟩ := y
      cases fin with
      | none =>
        refine RX.iteB (fun hc => ?_) (fun hc => ?_)
        · walk_at "go"
          exact ac.yes hD (Same.refl _) hlen
        · simp [oS] at hc
      | some z =>
        refine RX.iteB (fun hc => ?_) (fun hc => ?_)
        · simp [oS] at hc
        · have := ac.no (Same.refl H')
          simpa using this
    · have e := ac.at_
      rw [RX.fm_filter] at e
      have nD : D ≠ sf.aL := fun z => by rw [z, hL'] at hD; cases hD
      refine ⟨ac.same _ _ hL', k _ _ (RX.same_unlock ac.same hL) ?_ (by rw [upd_ne nD]; exact e)⟩
      rw [upd_ne nD] at hD
      exact hD
end
def isLk (ls : List Lk) (n : Str) : Bool := isW n && (match lkG ls n with | some l => l.f.fin.isNone | none => false)
theorem there_same {K : PySem.W.Frag} {H H' : Hp} {ls : List Lk} (e : Same H H') (h : ∀ l ∈ ls, l.there K H) : ∀ l ∈ ls, l.there K H' := fun l hl => e _ _ (h l hl)
section
variable {P : Program} {w : World} {K : PySem.W.Frag} {mg : Str → Option Value} {base : Heap}
def sp_Deeds_in_order (K : PySem.W.Frag) : Sp := fun vs H Q _ => ∃ (a dx b : Addr) (s : SF), vs = [.ref a, .ref b] ∧ H a = some (.ins (CS K) dx s.l) ∧ SqL K H b [] ∧ ∀ H' p, Same H H' → H p = none → H' p = some (.tup []) → Q (.ref p) H'
theorem sc_Deeds_in_order : FnScope ["self", "numbers"] ["self", "numbers"] (defScope s_Deeds_in_order) := ⟨rfl, rfl, rfl, by decide +kernel, rfl, by decide +kernel, by decide +kernel⟩
theorem ok_Deeds_in_order {fd : FuncData} (T : Txt K mg) (F : FnD K d_Deeds_in_order fd) : FnOk P w K mg base CX0 1 (He.fAd K d_Deeds_in_order.at_) fd ["self", "numbers"] (sp_Deeds_in_order K) := by
  refine F.ok sc_Deeds_in_order (fun vs H Q E h => ?_) (fun cdv A outer s H vs Q E hr h => ?_)
  · obtain ⟨a, dx, b, s, rfl, _⟩ := h; rfl
  · obtain ⟨a, dx, b, sf, rfl, ha, hb, k⟩ := h
    refine ⟨_, (PSs.nox (pss_one (ps_ret (pe_callTy call_tuple_of (by rfl) (T.fre 46) (by decide +kernel) (pa_cons (pe_callBK RX.cr_sortedK0 (by rfl) (T.fre 48) rfl (pa_cons (pv 1) pa_nil) (pk_cons (RX.pe_bnd (pv 0) T.clStore T.bmSteps) (pk_cons pe_bl pk_nil))) pa_nil))))), ?_⟩
    walk_at "go"
    refine Or.inl ⟨SqL.of upd_same, fun l hl => k _ _ ((((RX.same_new (by assumption)).trans (RX.same_new (by assumption)))).trans (RX.same_new hl)) (RX.none_up (RX.none_up hl)) upd_same⟩
def sp_Deeds_is_looker (K : PySem.W.Frag) : Sp := fun vs H Q _ => ∃ (a dx : Addr) (s : SF) (n : Str) (ls : List Lk), vs = [.ref a, .str n] ∧ H a = some (.ins (CS K) dx s.l) ∧ H s.aL = some (.dK (lkK ls)) ∧ (∀ l ∈ ls, l.there K H) ∧ n.length ≤ sizeLine ∧
  ∀ H', Same H H' → Q (.bl (isLk ls n)) H'
theorem sc_Deeds_is_looker : FnScope ["self", "name"] ["self", "name"] (defScope s_Deeds_is_looker) := ⟨rfl, rfl, rfl, by decide +kernel, rfl, by decide +kernel, by decide +kernel⟩
theorem ok_Deeds_is_looker {fd : FuncData} (T : Txt K mg) (F : FnD K d_Deeds_is_looker fd) : FnOk P w K mg base CX0 2 (He.fAd K d_Deeds_is_looker.at_) fd ["self", "name"] (sp_Deeds_is_looker K) := by
  obtain ⟨fd_is_word, F_is_word⟩ := T.fn 5 (d := d_is_word)
  have G_is_word := ok_is_word (P := P) (w := w) (base := base) T F_is_word
  have B_is_word_1 : KBn K fd_is_word ["thing"] 1 [] (fun us ws => us ++ ws) (fun us ws => us ++ ws) := RX.kb0 F_is_word 1 [] (fun us ws => us ++ ws) (fun a b => a.append b) (fun _ _ _ _ _ _ us ws h1 h2 => match us, ws, h1, h2 with | [_], [], _, _ => rfl)
  refine F.ok sc_Deeds_is_looker (fun vs H Q E h => ?_) (fun cdv A outer s H vs Q E hr h => ?_)
  · obtain ⟨a, dx, s, n, ls, rfl, _⟩ := h; rfl
  · obtain ⟨a, dx, sf, n, ls, rfl, ha, hL, hl, hz, k⟩ := h
    refine ⟨_, (PSs.nox (pss_one (ps_ret (pe_and (RX.pe_cs G_is_word (hr.mono (by decide)) (T.glo 5) F_is_word.kp B_is_word_1 RX.passS0 (pa_cons (pv 1) pa_nil) pk_nil) (pe_and (pe_cmp (pc_din (hu_of hr) (pv 1) (pe_fld (pv 0) rfl)) rfl) (pe_one (pe_cmp (pc_isN (pe_fld (pe_dget (hu_of hr) (pe_fld (pv 0) rfl) (pv 1) (fun _ _ => rfl)) rfl)) rfl))))))), ?_⟩
    walk_at "go"
    unfold isLk at k
    refine RX.iteB (fun hc => ?_) (fun hc => ?_)
    · rw [hc] at k
      cases e : lkG ls n with
      | none =>
        have hg := dget_lk (n := n) (RX.via_same (by assumption) hL)
        rw [e] at hg
        walk_at "go"
        simpa [e] using k _ (by assumption)
      | some l =>
        have hg := dget_lk (n := n) (RX.via_same (by assumption) hL)
        rw [e] at hg
        have hll := hl l (lkG_mem e).1
        unfold Lk.there at hll
        walk_at "go"
        have k2 := k _ (by assumption)
        rw [e] at k2
        obtain ⟨ln, la, ldx, ⟨f1, f2, f3, f4, fin⟩⟩ := l
        cases fin with
        | none => simpa [oS] using k2
        | some z => simpa [oS] using k2
    · rw [hc] at k
      exact k _ (by assumption)
def sp_Deeds_check_name (K : PySem.W.Frag) : Sp := fun vs H Q _ => ∃ (a dx : Addr) (s : SF) (n : Str) (ls : List Lk), vs = [.ref a, .str n] ∧ H a = some (.ins (CS K) dx s.l) ∧ H s.aL = some (.dK (lkK ls)) ∧ (∀ l ∈ ls, l.there K H) ∧ n.length ≤ sizeLine ∧
  isW n = true ∧ isLk ls n = false ∧ ∀ H', Same H H' → Q .non H'
theorem sc_Deeds_check_name : FnScope ["self", "name"] ["self", "name"] (defScope s_Deeds_check_name) := ⟨rfl, rfl, rfl, by decide +kernel, rfl, by decide +kernel, by decide +kernel⟩
theorem ok_Deeds_check_name {fd : FuncData} (T : Txt K mg) (F : FnD K d_Deeds_check_name fd) : FnOk P w K mg base CX0 3 (He.fAd K d_Deeds_check_name.at_) fd ["self", "name"] (sp_Deeds_check_name K) := by
  obtain ⟨fd_Deeds_is_looker, F_Deeds_is_looker⟩ := T.fn 47 (d := d_Deeds_is_looker)
  have G_Deeds_is_looker := ok_Deeds_is_looker (P := P) (w := w) (base := base) T F_Deeds_is_looker
  have B_Deeds_is_looker_2 : KBn K fd_Deeds_is_looker ["self", "name"] 2 [] (fun us ws => us ++ ws) (fun us ws => us ++ ws) := RX.kb0 F_Deeds_is_looker 2 [] (fun us ws => us ++ ws) (fun a b => a.append b) (fun _ _ _ _ _ _ us ws h1 h2 => match us, ws, h1, h2 with | [_, _], [], _, _ => rfl)
  obtain ⟨fd_is_word, F_is_word⟩ := T.fn 5 (d := d_is_word)
  have G_is_word := ok_is_word (P := P) (w := w) (base := base) T F_is_word
  have B_is_word_1 : KBn K fd_is_word ["thing"] 1 [] (fun us ws => us ++ ws) (fun us ws => us ++ ws) := RX.kb0 F_is_word 1 [] (fun us ws => us ++ ws) (fun a b => a.append b) (fun _ _ _ _ _ _ us ws h1 h2 => match us, ws, h1, h2 with | [_], [], _, _ => rfl)
  refine F.ok sc_Deeds_check_name (fun vs H Q E h => ?_) (fun cdv A outer s H vs Q E hr h => ?_)
  · obtain ⟨a, dx, s, n, ls, rfl, _⟩ := h; rfl
  · obtain ⟨a, dx, sf, n, ls, rfl, ha, hL, hl, hz, hw, hn, k⟩ := h
    refine ⟨_, (PSs.nox (pss_one (ps_if (PW.pt (pw_or (pt_not (pt_val (RX.pe_cs G_is_word (hr.mono (by decide)) (T.glo 5) F_is_word.kp B_is_word_1 RX.passS0 (pa_cons (pv 1) pa_nil) pk_nil))) (pw_or1 (pt_val (RX.pe_ms (pv 0) T.clStore (T.mt 125) G_Deeds_is_looker (hr.mono (by decide)) B_Deeds_is_looker_2 RX.passS0 (pa_cons (pv 1) pa_nil) pk_nil))))) (pss_one ps_never) pss_nil))), ?_⟩
    walk_at "go"
    rw [hw]
    walk_at "go"
    refine ⟨there_same (by assumption) hl, hz, fun H2 e2 => ?_⟩
    rw [hn]
    walk_at "go"
    exact k _ (Same.trans (by assumption) e2)
def sp_Deeds_check_table (K : PySem.W.Frag) : Sp := fun vs H Q _ => ∃ (a dx : Addr) (s : SF) (n : Str) (v : V), vs = [.ref a, .str n] ∧ H a = some (.ins (CS K) dx s.l) ∧ DGet H s.aT (.str n) (some v) ∧ n.length ≤ sizeLine ∧
  isW n = true ∧ ∀ H', Same H H' → Q .non H'
theorem sc_Deeds_check_table : FnScope ["self", "table"] ["self", "table"] (defScope s_Deeds_check_table) := ⟨rfl, rfl, rfl, by decide +kernel, rfl, by decide +kernel, by decide +kernel⟩
theorem ok_Deeds_check_table {fd : FuncData} (T : Txt K mg) (F : FnD K d_Deeds_check_table fd) : FnOk P w K mg base CX0 3 (He.fAd K d_Deeds_check_table.at_) fd ["self", "table"] (sp_Deeds_check_table K) := by
  obtain ⟨fd_is_word, F_is_word⟩ := T.fn 5 (d := d_is_word)
  have G_is_word := ok_is_word (P := P) (w := w) (base := base) T F_is_word
  have B_is_word_1 : KBn K fd_is_word ["thing"] 1 [] (fun us ws => us ++ ws) (fun us ws => us ++ ws) := RX.kb0 F_is_word 1 [] (fun us ws => us ++ ws) (fun a b => a.append b) (fun _ _ _ _ _ _ us ws h1 h2 => match us, ws, h1, h2 with | [_], [], _, _ => rfl)
  refine F.ok sc_Deeds_check_table (fun vs H Q E h => ?_) (fun cdv A outer s H vs Q E hr h => ?_)
  · obtain ⟨a, dx, s, n, v, rfl, _⟩ := h; rfl
  · obtain ⟨a, dx, sf, n, v, rfl, ha, hT, hz, hw, k⟩ := h
    refine ⟨_, (PSs.nox (pss_one (ps_if (PW.pt (pw_or (pt_not (pt_val (RX.pe_cs G_is_word (hr.mono (by decide)) (T.glo 5) F_is_word.kp B_is_word_1 RX.passS0 (pa_cons (pv 1) pa_nil) pk_nil))) (pw_or1 (pt_cmp (pc_dnotin (hu_of hr) (pv 1) (pe_fld (pv 0) rfl)) rfl)))) (pss_one ps_never) pss_nil))), ?_⟩
    walk_at "go"
    rw [hw]
    walk_at "go"
    exact k _ (by assumption)
def sp_Deeds_deed_of (K : PySem.W.Frag) : Sp := fun vs H Q _ => ∃ (a dx : Addr) (s : SF) (n : Str) (ls : List Lk) (l : Lk), vs = [.ref a, .str n] ∧ H a = some (.ins (CS K) dx s.l) ∧ H s.aL = some (.dK (lkK ls)) ∧ (∀ l ∈ ls, l.there K H) ∧ n.length ≤ sizeLine ∧
  isW n = true ∧ lkG ls n = some l ∧ l.f.fin = none ∧ l.f.sort = Str.ofString "deed" ∧ ∀ H', Same H H' → Q (.ref l.a) H'
theorem sc_Deeds_deed_of : FnScope ["self", "name"] ["self", "name"] (defScope s_Deeds_deed_of) := ⟨rfl, rfl, rfl, by decide +kernel, rfl, by decide +kernel, by decide +kernel⟩
theorem ok_Deeds_deed_of {fd : FuncData} (T : Txt K mg) (F : FnD K d_Deeds_deed_of fd) : FnOk P w K mg base CX0 3 (He.fAd K d_Deeds_deed_of.at_) fd ["self", "name"] (sp_Deeds_deed_of K) := by
  obtain ⟨t_DEED, g_DEED⟩ := T.str 77 (x := "DEED") (z := "deed")
  obtain ⟨fd_Deeds_is_looker, F_Deeds_is_looker⟩ := T.fn 47 (d := d_Deeds_is_looker)
  have G_Deeds_is_looker := ok_Deeds_is_looker (P := P) (w := w) (base := base) T F_Deeds_is_looker
  have B_Deeds_is_looker_2 : KBn K fd_Deeds_is_looker ["self", "name"] 2 [] (fun us ws => us ++ ws) (fun us ws => us ++ ws) := RX.kb0 F_Deeds_is_looker 2 [] (fun us ws => us ++ ws) (fun a b => a.append b) (fun _ _ _ _ _ _ us ws h1 h2 => match us, ws, h1, h2 with | [_, _], [], _, _ => rfl)
  refine F.ok sc_Deeds_deed_of (fun vs H Q E h => ?_) (fun cdv A outer s H vs Q E hr h => ?_)
  · obtain ⟨a, dx, s, n, ls, l, rfl, _⟩ := h; rfl
  · obtain ⟨a, dx, sf, n, ls, l, rfl, ha, hL, hl, hz, hw, hg, hf, hs, k⟩ := h
    refine ⟨_, (PSs.nox (pss_cons (ps_if (PW.pt (pw_or (pt_not (pt_val (RX.pe_ms (pv 0) T.clStore (T.mt 125) G_Deeds_is_looker (hr.mono (by decide)) B_Deeds_is_looker_2 RX.passS0 (pa_cons (pv 1) pa_nil) pk_nil))) (pw_or1 (pt_cmpR op_ne (pe_fld (pe_dget (hu_of hr) (pe_fld (pv 0) rfl) (pv 1) (fun _ _ => rfl)) rfl) (pe_glob (v := .str "deed") rfl g_DEED ⟨_, rfl⟩) (nomark _))))) (pss_one ps_never) pss_nil) (pss_one (ps_ret (pe_dget (hu_of hr) (pe_fld (pv 0) rfl) (pv 1) (fun _ _ => rfl)))))), ?_⟩
    walk_at "go"
    rename_i H2 e2
    have ei : isLk ls n = true := by simp [isLk, hw, hg, hf]
    rw [ei]
    have hd := dget_lk (n := n) (RX.via_same e2 hL)
    rw [hg] at hd
    have hll := hl l (lkG_mem hg).1
    unfold Lk.there at hll
    walk_at "go"
    refine RX.iteB (fun hc => ?_) (fun hc => ?_)
    · simp [hs] at hc
    · walk_at "go"
      exact k _ (by assumption)
def sp_Deeds_look_now (K : PySem.W.Frag) : Sp := fun vs H Q _ => ∃ (a dx : Addr) (s : SF) (ls : List Lk), vs = [.ref a] ∧ H a = some (.ins (CS K) dx s.l) ∧ H s.aL = some (.dK (lkK ls)) ∧ (∀ l ∈ ls, l.there K H) ∧ ls.length ≤ sizeLine ∧
  (∀ l ∈ ls, l.f.fin = none → l.f.num = none) ∧ ∀ H' p q, Same H H' → H p = none → H q = none → p ≠ q → H' p = some (.tup [.int s.next, .ref q]) → H' q = some (.tup []) → Q (.ref p) H'
theorem sc_Deeds_look_now : FnScope ["self", "numbers", "looker"] ["self"] (defScope s_Deeds_look_now) := ⟨rfl, rfl, rfl, by decide +kernel, rfl, by decide +kernel, by decide +kernel⟩
theorem ok_Deeds_look_now {fd : FuncData} (T : Txt K mg) (F : FnD K d_Deeds_look_now fd) : FnOk P w K mg base CX0 2 (He.fAd K d_Deeds_look_now.at_) fd ["self"] (sp_Deeds_look_now K) := by
  obtain ⟨fd_Deeds_open_lookers, F_Deeds_open_lookers⟩ := T.fn 43 (d := d_Deeds_open_lookers)
  have G_Deeds_open_lookers := ok_Deeds_open_lookers (P := P) (w := w) (base := base) T F_Deeds_open_lookers
  have B_Deeds_open_lookers_1 : KBn K fd_Deeds_open_lookers ["self"] 1 [] (fun us ws => us ++ ws) (fun us ws => us ++ ws) := RX.kb0 F_Deeds_open_lookers 1 [] (fun us ws => us ++ ws) (fun a b => a.append b) (fun _ _ _ _ _ _ us ws h1 h2 => match us, ws, h1, h2 with | [_], [], _, _ => rfl)
  obtain ⟨fd_Deeds_in_order, F_Deeds_in_order⟩ := T.fn 45 (d := d_Deeds_in_order)
  have G_Deeds_in_order := ok_Deeds_in_order (P := P) (w := w) (base := base) T F_Deeds_in_order
  have B_Deeds_in_order_2 : KBn K fd_Deeds_in_order ["self", "numbers"] 2 [] (fun us ws => us ++ ws) (fun us ws => us ++ ws) := RX.kb0 F_Deeds_in_order 2 [] (fun us ws => us ++ ws) (fun a b => a.append b) (fun _ _ _ _ _ _ us ws h1 h2 => match us, ws, h1, h2 with | [_, _], [], _, _ => rfl)
  refine F.ok sc_Deeds_look_now (fun vs H Q E h => ?_) (fun cdv A outer s H vs Q E hr h => ?_)
  · obtain ⟨a, dx, s, ls, rfl, _⟩ := h; rfl
  · obtain ⟨a, dx, sf, ls, rfl, ha, hL, hl, hz, hn, k⟩ := h
    refine ⟨_, (PSs.nox (pss_cons (ps_setLc (i := 1) (own := [("looker", 2)]) (g := (gName 2)) rfl sc_Deeds_look_now.nd rfl rfl (sw_true rfl rfl rfl (by decide +kernel)) (pi_list (RX.pe_ms0 (pv 0) T.clStore (T.mt 121) G_Deeds_open_lookers (hr.mono (by decide)) B_Deeds_open_lookers_1 RX.passS0)) (blkOk_by (own := [("looker", 2)]) (by kernel_rfl)) (fun _ _ _ _ _ => (pg_name (i := 2) sc_Deeds_look_now.nd rfl (Or.inl rfl))) (fun _ _ _ _ _ => (pts_one (pt_cmp (pc_notN ((pe_fld (pv 2) rfl) : PE _ _ (tFld K _ _)))))) (fun _ _ _ _ _ => ((pe_fld (pv 2) rfl) : PE _ _ (tFld K _ _)))) (pss_one (ps_ret (pe_tup (pa_cons (pe_fld (pv 0) rfl) (pa_cons (RX.pe_ms (pv 0) T.clStore (T.mt 123) G_Deeds_in_order (hr.mono (by decide)) B_Deeds_in_order_2 RX.passS0 (pa_cons (pv 1) pa_nil) pk_nil) pa_nil))))))), ?_⟩
    walk_at "go"
    rename_i H2 b e2 hb at2 D hD
    refine RX.lm_lst (its := ls.filter fun l => l.f.fin.isNone) (vf := fun l => V.ref l.a) (f := fun _ => []) hD (fun _ => Nat.zero_le _) (Nat.le_trans (List.length_filter_le _ _) hz) (SqL.of at2) (fun i l acc H3 hi hlen ac => ?_) (fun H3 ac => ?_)
    · have hm := List.mem_filter.mp (List.mem_of_getElem? hi)
      have hll := hl l hm.1
      unfold Lk.there at hll
      have hl3 := ac.same _ _ (e2 _ _ hll)
      have en : l.f.num = none := hn l hm.1 (by simpa using hm.2)
      walk_at "go"
      rw [en]
      walk_at "go"
      refine RX.iteB (fun hc => ?_) (fun hc => ?_)
      · simp [oI] at hc
      · simpa using ac.no (Same.refl _)
    · have e3 : Same H H3 := e2.trans ac.same
      have hnil : H3 D = some (.lst []) := by rw [ac.at_]; simp
      walk_at "go"
      rename_i H4 q e4 hq at4 p hp
      exact k _ p q ((e3.trans e4).trans (RX.same_new hp)) ((e3.trans e4).free hp) (e3.free hq) (fun z => by rw [z, at4] at hp; cases hp) upd_same (RX.up_ne hp at4)
end
end Hd
end
section
set_option maxHeartbeats 4000000
namespace Hd
open PySem PySem.Spec PyProof.Rows L2 He ExF
-- tactics of our own: membership, heaps, sides, the walk on
local macro_rules | `(tactic| walk_at "memt") => `(tactic| first
  | with_reducible exact List.mem_cons_self ..
  | assumption
  | ((with_reducible apply List.mem_cons_of_mem); walk_at "memt")
  | ((with_reducible apply List.mem_append_left); walk_at "memt")
  | ((with_reducible apply List.mem_append_right); walk_at "memt"))
local macro_rules | `(tactic| walk_at "same") => `(tactic| first
  | assumption
  | with_reducible exact Same.refl _
  | ((with_reducible refine Same.trans ?_ (RX.same_new ?_)); (focus (walk_at "same")); (focus assumption)))
local macro_rules | `(tactic| walk_at "hs") => `(tactic| first
  | assumption
  | ((with_reducible apply RX.HS.allocT); (focus (walk_at "hs")); (focus assumption))
  | ((with_reducible apply RX.HS.allocL); (focus (walk_at "hs")); (focus assumption); (focus trivial)))
local macro_rules | `(tactic| walk_at "hp") => `(tactic| first
  | assumption
  | with_reducible exact upd_same
  | ((with_reducible refine RX.up_ne ?_ ?_); (focus assumption); (focus (walk_at "hp")))
  | ((with_reducible apply RX.via_same); (focus assumption); (focus (walk_at "hp")))
  | ((with_reducible apply RX.HS.get); (focus (walk_at "hs")); (focus (walk_at "memt"))))
local macro_rules | `(tactic| walk_at "ht") => `(tactic| first
  | assumption
  | ((with_reducible apply RX.HS.getT); (focus (walk_at "hs")); (focus (walk_at "memt")))
  | ((with_reducible refine RX.sqT_fresh ?_ ?_); (focus assumption); (focus (walk_at "ht")))
  | ((with_reducible apply RX.same_sqT); (focus assumption); (focus (walk_at "ht")))
  | ((with_reducible apply SqT.of); walk_at "hp"))
local macro_rules | `(tactic| walk_at "hl") => `(tactic| first
  | assumption
  | ((with_reducible refine RX.sqL_fresh ?_ ?_); (focus assumption); (focus (walk_at "hl")))
  | ((with_reducible apply RX.same_sqL); (focus assumption); (focus (walk_at "hl")))
  | ((with_reducible apply SqL.of); walk_at "hp"))
local macro_rules | `(tactic| walk_at "fl") => `(tactic| first
  | with_reducible exact SF.ring_
  | with_reducible exact SF.next_
  | with_reducible exact SF.tables_
  | with_reducible exact SF.fates_
  | with_reducible exact SF.lookers_
  | with_reducible exact SF.log_
  | with_reducible exact SF.busy_
  | with_reducible exact SF.stop_
  | with_reducible exact SF.warn_
  | with_reducible exact SF.eldests_
  | with_reducible exact SF.first_
  | with_reducible exact LF.name_
  | with_reducible exact LF.sort_
  | with_reducible exact LF.look_
  | with_reducible exact LF.num_
  | with_reducible exact LF.fin_
  | with_reducible exact SF.noM (by decide +kernel))
local macro_rules | `(tactic| walk_at "len") => `(tactic| first
  | assumption
  | ((with_reducible apply RX.len_app2); (focus (walk_at "len")); (focus (walk_at "len")))
  | with_reducible exact RX.len_empty
  | exact RX.len_lit (by decide +kernel)
  | exact RX.fmt_l (by omega) (by omega))
local macro_rules | `(tactic| walk_at "side") => `(tactic| first
  | with_reducible rfl
  | ((with_reducible show wipe _ _ = wipe _ _); kernel_rfl)
  | ((with_reducible show (_ : List (Option V))[_]? = some (some _)); (simp only [wipe, L2.start, List.map_cons, List.map_nil, List.length_cons, List.length_nil, List.replicate_succ, List.replicate_zero, Nat.reduceAdd, Nat.reduceSub, List.set_cons_succ, List.set_cons_zero, List.cons_append, List.nil_append, List.getElem?_cons_succ, List.getElem?_cons_zero] <;> exact rfl))
  | with_reducible assumption
  | ((with_reducible show PySem.Str.length _ ≤ sizeLine); (apply RX.len_fin); (focus (walk_at "len")); (focus decide))
  | ((with_reducible show Nat.log2 _ < 1920); exact RX.fmt_i (by omega) (by omega))
  | ((with_reducible show CMul _ _); (unfold CMul); omega)
  | ((with_reducible show CDiv _ _); (unfold CDiv); omega)
  | ((with_reducible show CPow _ _); first | (exact ⟨by decide, by decide, by decide⟩) | (refine ⟨by decide, by decide, ?_⟩; omega))
  | ((with_reducible show (_ : Int) ≤ _); omega)
  | ((with_reducible show (_ : Int) < _); omega)
  | assumption
  | ((with_reducible show SqT _ _ _ _); walk_at "ht")
  | ((with_reducible show SqL _ _ _ _); walk_at "hl")
  | ((with_reducible show _ ∨ _); first | (apply Or.inl; (with_reducible show SqL _ _ _ _); walk_at "hl") | (apply Or.inr; (with_reducible show SqT _ _ _ _); walk_at "ht"))
  | ((with_reducible show (∃ xs : List V, SqL _ _ _ xs)); apply Exists.intro; walk_at "hl")
  | ((with_reducible show (∃ xs : List V, SqT _ _ _ xs)); apply Exists.intro; walk_at "ht")
  | ((with_reducible show RX.HS _ _ _ _); walk_at "hs")
  | ((with_reducible show Same _ _); walk_at "same")
  | ((with_reducible show _ ∈ _); walk_at "memt")
  | ((with_reducible show (_ : Option HO) = _); walk_at "hp")
  | ((with_reducible show List.lookup _ _ = _); walk_at "fl")
  | ((with_reducible show RX.IsB _ _ _ _ _); first | exact .ss _ | exact .ii _ | exact .ib _ | exact .si _ | exact .is _ | (apply RX.IsB.tt; walk_at "ht"))
  | ((with_reducible show DGet _ _ _ _); (with_reducible apply RX.dget_same); (focus assumption); (focus assumption))
  | ((with_reducible show tyV _ _ _ _); first | (apply RX.tyL; walk_at "hl") | (apply RX.tyD; walk_at "hp"))
  | ((with_reducible show (∀ l ∈ _, Lk.there _ _ l)); (with_reducible apply there_same); (focus assumption); (focus assumption))
  | ((with_reducible show Rd _ _ _); first | assumption | (apply Or.inl; walk_at "hp"))
  | ((with_reducible show IsD _ _); apply RX.isD_rd; first | assumption | (apply Or.inl; walk_at "hp"))
  | with_reducible exact RX.nkV_oI _
  | with_reducible exact RX.kv_str
  | with_reducible exact RX.kv_int
  | ((with_reducible show Cls _ _); first | ((apply Txt.clStore) <;> assumption) | ((apply Txt.clLooker) <;> assumption))
  | ((with_reducible show NoAttr _ _ _); first | ((apply Txt.naS) <;> first | assumption | decide +kernel) | ((apply Txt.naL) <;> first | assumption | decide +kernel))
  | rfl
  | omega
  | exact Nat.le_of_lt (small1000 (Nat.le_of_ble_eq_true rfl))
  | ((with_reducible show _ < 1000); exact Nat.le_of_ble_eq_true (by kernel_rfl))
  | exact ⟨by decide, by decide⟩
  | decide)
local macro_rules | `(tactic| walk_at "stop") => `(tactic| first
  | with_reducible show (∃ W : Nat → Nat → Hp → Prop, _)
  | with_reducible show (∃ W : Nat → Nat → L2.St → Hp → Prop, _)
  | with_reducible show (∃ W : Nat → L2.St → Hp → Prop, _)
  | with_reducible show (seqIndex? _ _ = some _ ∧ _)
  | with_reducible show rCatA _ _ _ _ _
  | with_reducible show tWhile _ _ _ _ _
  | with_reducible show tSeq (tWhile _ _) _ _ _ _
  | with_reducible show (∃ acc : List V, _ = some (HO.lst acc) ∧ _))
local macro_rules | `(tactic| walk_at "go2") => `(tactic| first
  | with_reducible refine iteT ?_
  | with_reducible refine iteF ?_
  | (refine And.intro ?l ?r; (case l => walk_at "side"))
  | ((with_reducible show (∃ y : Str, V.str _ = V.str y ∧ _) ∨ _); apply Or.inl)
  | ((with_reducible show _ ∨ (∃ y : Int, V.int _ = V.int y ∧ _)); apply Or.inr)
  | apply Exists.intro
  | (intro p hp)
  | (intro hh))
local macro_rules | `(tactic| walk_at "go1") => `(tactic| ((fail_if_success (walk_at "stop")); walk_at "go2"))
local macro_rules | `(tactic| walk_at "go") => `(tactic| repeat (walk_at "go1"))
/-- all but the object at a is as it was -/
def Sb (a : Addr) (H H' : Hp) : Prop := ∀ b o, b ≠ a → H b = some o → H' b = some o
theorem Sb.refl {a : Addr} (H : Hp) : Sb a H H := fun _ _ _ h => h
theorem Sb.up {a : Addr} {H H' : Hp} {o : HO} (e : Sb a H H') : Sb a H (upd H' a o) := fun b q hb h => by rw [upd_ne hb]; exact e b q hb h
theorem Sb.same {a : Addr} {H H1 H2 : Hp} (e : Sb a H H1) (h : Same H1 H2) : Sb a H H2 := fun b q hb hq => h _ _ (e b q hb hq)
theorem up_ins {H : Hp} {a d C dx : Addr} {fs : List (Str × V)} {kvs : List (Key × V)} {o : HO} (h : H a = some (.ins C dx fs)) (hd : H d = some (.dK kvs)) : upd H d o a = some (.ins C dx fs) := by
  rw [upd_ne (ne_of h hd (fun z => nomatch z))]; exact h
theorem same_made {H : Hp} {x dx : Addr} {o1 o2 o3 : HO} (hx : H x = none) (hdx : H dx = none) (hne : dx ≠ x) : Same H (upd (upd (upd H dx o1) x o2) x o3) := by
  rw [upd_upd]
  exact (RX.same_new hdx).trans (RX.same_new (by rw [upd_ne (Ne.symm hne)]; exact hx))
section
variable {P : Program} {w : World} {K : PySem.W.Frag} {mg : Str → Option Value} {base : Heap}
def sp_Deeds_look_by (K : PySem.W.Frag) : Sp := fun vs H Q _ => ∃ (a dx lk : Addr) (s : SF) (n z : Str) (kvs : List (Key × V)), vs = [.ref a, .str n, .str z, .ref lk] ∧ H a = some (.ins (CS K) dx s.l) ∧ H s.aL = some (.dK kvs) ∧ kvs.length < sizeLine ∧
  ∀ H' x dx', H x = none → Sb s.aL H H' → H' s.aL = some (.dK (dropK kvs (.inr n) ++ [(.inr n, .ref x)])) → H' x = some (.ins (CL K) dx' (LF.mk n z lk none none).l) → Q .non H'
theorem sc_Deeds_look_by : FnScope ["self", "name", "sort", "look"] ["self", "name", "sort", "look"] (defScope s_Deeds_look_by) := ⟨rfl, rfl, rfl, by decide +kernel, rfl, by decide +kernel, by decide +kernel⟩
theorem ok_Deeds_look_by {fd : FuncData} (T : Txt K mg) (F : FnD K d_Deeds_look_by fd) : FnOk P w K mg base CX0 3 (He.fAd K d_Deeds_look_by.at_) fd ["self", "name", "sort", "look"] (sp_Deeds_look_by K) := by
  obtain ⟨fd_Looker_init, F_Looker_init⟩ := T.fn 38 (d := d_Looker_init)
  have G_Looker_init := ok_Looker_init (P := P) (w := w) (base := base) T F_Looker_init
  have B_Looker_init_4 : KBn K fd_Looker_init ["self", "name", "sort", "look"] 4 [] (fun us ws => us ++ ws) (fun us ws => us ++ ws) := RX.kb0 F_Looker_init 4 [] (fun us ws => us ++ ws) (fun a b => a.append b) (fun _ _ _ _ _ _ us ws h1 h2 => match us, ws, h1, h2 with | [_, _, _, _], [], _, _ => rfl)
  refine F.ok sc_Deeds_look_by (fun vs H Q E h => ?_) (fun cdv A outer s H vs Q E hr h => ?_)
  · obtain ⟨a, dx, lk, s, n, z, kvs, rfl, _⟩ := h; rfl
  · obtain ⟨a, dx, lk, sf, n, z, kvs, rfl, ha, hL, hz, k⟩ := h
    refine ⟨_, (PSs.nox (pss_cons (ps_expr (pe_dpop2 (pe_fld (pv 0) rfl) (pv 1) pe_non ⟨rfl, rfl, rfl, rfl⟩)) (pss_one (ps_dput (hu_of hr) (pe_fld (pv 0) rfl) (pv 1) (RX.pe_mk T.mkLooker G_Looker_init (hr.mono (by decide)) (T.glo 40) B_Looker_init_4 RX.passS0 (pa_cons (pv 1) (pa_cons (pv 2) (pa_cons (pv 3) pa_nil))) pk_nil) rfl)))), ?_⟩
    have hisd : IsD H sf.aL := .inl ⟨_, .inl hL⟩
    walk_at "go"
    refine ⟨fun v hv => ?_, fun hv => ?_⟩
    · have hL1 : upd H sf.aL (.dK (dropK kvs (.inr n))) sf.aL = some (.dK (dropK kvs (.inr n))) := upd_same
      have ha1 := up_ins (o := .dK (dropK kvs (.inr n))) ha hL
      have sb1 : Sb sf.aL H (upd H sf.aL (.dK (dropK kvs (.inr n)))) := (Sb.refl H).up
      have hz1 : (dropK kvs (.inr n)).length < sizeLine := Nat.lt_of_le_of_lt (dropK_le _ _) hz
      walk_at "go"
      rename_i x dx' hx hdx hne
      have s3 := same_made (o1 := .own x) (o2 := .ins (CL K) dx' []) (o3 := .ins (CL K) dx' (LF.mk n z lk none none).l) hx hdx hne
      have hp4 := RX.dput_K (k := .inr n) (v := V.ref x) (s3 _ _ hL1) hz1
      walk_at "go"
      have nx : x ≠ sf.aL := fun q => by rw [q, hL1] at hx; cases hx
      refine k _ x dx' (RX.none_up hx) (sb1.same s3).up ?_ ?_
      · rw [upd_same, RX.put_new RX.drop_off]
      · rw [upd_ne nx, upd_same]
    · have hL1 : H sf.aL = some (.dK (dropK kvs (.inr n))) := by rw [RX.drop_none hv]; exact hL
      have ha1 := ha
      have sb1 : Sb sf.aL H H := Sb.refl H
      have hz1 : (dropK kvs (.inr n)).length < sizeLine := Nat.lt_of_le_of_lt (dropK_le _ _) hz
      walk_at "go"
      rename_i x dx' hx hdx hne
      have s3 := same_made (o1 := .own x) (o2 := .ins (CL K) dx' []) (o3 := .ins (CL K) dx' (LF.mk n z lk none none).l) hx hdx hne
      have hp4 := RX.dput_K (k := .inr n) (v := V.ref x) (s3 _ _ hL1) hz1
      walk_at "go"
      have nx : x ≠ sf.aL := fun q => by rw [q, hL1] at hx; cases hx
      refine k _ x dx' hx (sb1.same s3).up ?_ ?_
      · rw [upd_same, RX.put_new RX.drop_off]
      · rw [upd_ne nx, upd_same]
end
theorem len_le {z : Str} (h : z.length ≤ 1000) : z.length ≤ sizeLine := Nat.le_of_lt (small1000 h)
theorem len_app {x y : Str} (a b : Nat) (h : x.length ≤ a) (h2 : y.length ≤ b) (hc : a + b ≤ 1000) : (x ++ y).length ≤ 1000 := by rw [PySem.Str.length_append]; omega
section
variable {P : Program} {w : World} {K : PySem.W.Frag} {mg : Str → Option Value} {base : Heap}
def sp_Deeds_begin (K : PySem.W.Frag) : Sp := fun vs H Q _ => ∃ (a dx : Addr) (s : SF) (n : Str) (ls : List Lk) (log : List V), vs = [.ref a, .str n] ∧ H a = some (.ins (CS K) dx s.l) ∧ s.busy = false ∧ H s.aL = some (.dK (lkK ls)) ∧ (∀ l ∈ ls, l.there K H) ∧
  ls.length < 1000 ∧ n.length ≤ 100 ∧ isW n = true ∧ isLk ls n = false ∧ (∀ l ∈ ls, l.f.fin = none → l.f.num = none) ∧ H s.aG = some (.lst log) ∧ log.length < sizeLine ∧
  ∀ H' x dx' p q z, H x = none → H p = none → H q = none → p ≠ q → (∀ b o, b ≠ s.aL → b ≠ s.aG → H b = some o → H' b = some o) → H' s.aL = some (.dK (dropK (lkK ls) (.inr n) ++ [(.inr n, .ref x)])) → H' s.aG = some (.lst (log ++ [.str z])) →
    H' x = some (.ins (CL K) dx' (LF.mk n "deed" p none none).l) → H' p = some (.tup [.int s.next, .ref q]) → H' q = some (.tup []) → Q .non H'
theorem sc_Deeds_begin : FnScope ["self", "name"] ["self", "name"] (defScope s_Deeds_begin) := ⟨rfl, rfl, rfl, by decide +kernel, rfl, by decide +kernel, by decide +kernel⟩
theorem ok_Deeds_begin {fd : FuncData} (T : Txt K mg) (F : FnD K d_Deeds_begin fd) : FnOk P w K mg base CX0 4 (He.fAd K d_Deeds_begin.at_) fd ["self", "name"] (sp_Deeds_begin K) := by
  obtain ⟨fd_Deeds_look_free, F_Deeds_look_free⟩ := T.fn 40 (d := d_Deeds_look_free)
  have G_Deeds_look_free := ok_Deeds_look_free (P := P) (w := w) (base := base) T F_Deeds_look_free
  have B_Deeds_look_free_1 : KBn K fd_Deeds_look_free ["self"] 1 [] (fun us ws => us ++ ws) (fun us ws => us ++ ws) := RX.kb0 F_Deeds_look_free 1 [] (fun us ws => us ++ ws) (fun a b => a.append b) (fun _ _ _ _ _ _ us ws h1 h2 => match us, ws, h1, h2 with | [_], [], _, _ => rfl)
  obtain ⟨fd_Deeds_check_name, F_Deeds_check_name⟩ := T.fn 48 (d := d_Deeds_check_name)
  have G_Deeds_check_name := ok_Deeds_check_name (P := P) (w := w) (base := base) T F_Deeds_check_name
  have B_Deeds_check_name_2 : KBn K fd_Deeds_check_name ["self", "name"] 2 [] (fun us ws => us ++ ws) (fun us ws => us ++ ws) := RX.kb0 F_Deeds_check_name 2 [] (fun us ws => us ++ ws) (fun a b => a.append b) (fun _ _ _ _ _ _ us ws h1 h2 => match us, ws, h1, h2 with | [_, _], [], _, _ => rfl)
  obtain ⟨fd_Deeds_look_by, F_Deeds_look_by⟩ := T.fn 52 (d := d_Deeds_look_by)
  have G_Deeds_look_by := ok_Deeds_look_by (P := P) (w := w) (base := base) T F_Deeds_look_by
  have B_Deeds_look_by_4 : KBn K fd_Deeds_look_by ["self", "name", "sort", "look"] 4 [] (fun us ws => us ++ ws) (fun us ws => us ++ ws) := RX.kb0 F_Deeds_look_by 4 [] (fun us ws => us ++ ws) (fun a b => a.append b) (fun _ _ _ _ _ _ us ws h1 h2 => match us, ws, h1, h2 with | [_, _, _, _], [], _, _ => rfl)
  obtain ⟨fd_Deeds_look_now, F_Deeds_look_now⟩ := T.fn 46 (d := d_Deeds_look_now)
  have G_Deeds_look_now := ok_Deeds_look_now (P := P) (w := w) (base := base) T F_Deeds_look_now
  have B_Deeds_look_now_1 : KBn K fd_Deeds_look_now ["self"] 1 [] (fun us ws => us ++ ws) (fun us ws => us ++ ws) := RX.kb0 F_Deeds_look_now 1 [] (fun us ws => us ++ ws) (fun a b => a.append b) (fun _ _ _ _ _ _ us ws h1 h2 => match us, ws, h1, h2 with | [_], [], _, _ => rfl)
  obtain ⟨t_DEED, g_DEED⟩ := T.str 77 (x := "DEED") (z := "deed")
  obtain ⟨fd_Deeds_note, F_Deeds_note⟩ := T.fn 42 (d := d_Deeds_note)
  have G_Deeds_note := ok_Deeds_note (P := P) (w := w) (base := base) T F_Deeds_note
  have B_Deeds_note_2 : KBn K fd_Deeds_note ["self", "row"] 2 [] (fun us ws => us ++ ws) (fun us ws => us ++ ws) := RX.kb0 F_Deeds_note 2 [] (fun us ws => us ++ ws) (fun a b => a.append b) (fun _ _ _ _ _ _ us ws h1 h2 => match us, ws, h1, h2 with | [_, _], [], _, _ => rfl)
  refine F.ok sc_Deeds_begin (fun vs H Q E h => ?_) (fun cdv A outer s H vs Q E hr h => ?_)
  · obtain ⟨a, dx, s, n, ls, log, rfl, _⟩ := h; rfl
  · obtain ⟨a, dx, sf, n, ls, log, rfl, ha, hb, hL, hl, hz, hnl, hw, hn, hnn, hG, hzG, k⟩ := h
    refine ⟨_, (PSs.nox (pss_cons (ps_expr (RX.pe_ms0 (pv 0) T.clStore (T.mt 119) G_Deeds_look_free (hr.mono (by decide)) B_Deeds_look_free_1 RX.passS0)) (pss_cons (ps_expr (RX.pe_ms (pv 0) T.clStore (T.mt 126) G_Deeds_check_name (hr.mono (by decide)) B_Deeds_check_name_2 RX.passS0 (pa_cons (pv 1) pa_nil) pk_nil)) (pss_cons (ps_expr (RX.pe_ms (pv 0) T.clStore (T.mt 130) G_Deeds_look_by (hr.mono (by decide)) B_Deeds_look_by_4 RX.passS0 (pa_cons (pv 1) (pa_cons (pe_glob (v := .str "deed") rfl g_DEED ⟨_, rfl⟩) (pa_cons (RX.pe_ms0 (pv 0) T.clStore (T.mt 124) G_Deeds_look_now (hr.mono (by decide)) B_Deeds_look_now_1 RX.passS0) pa_nil))) pk_nil)) (pss_one (ps_expr (RX.pe_ms (pv 0) T.clStore (T.mt 120) G_Deeds_note (hr.mono (by decide)) B_Deeds_note_2 RX.passS0 (pa_cons (pe_joined (PJ.cons pe_str (PJ.cons (pe_fmt (pv 1)) PJ.nil))) pa_nil) pk_nil))))))), ?_⟩
    have hb1 : (Str.empty ++ Str.ofString "begin ").length ≤ sizeLine := len_le (by decide +kernel)
    have hb2 : (Str.empty ++ Str.ofString "begin " ++ n).length ≤ sizeLine := len_le (len_app 50 100 (by decide +kernel) hnl (by decide))
    have hnz : n.length ≤ sizeLine := Nat.le_of_lt (small1000 (by omega))
    have hlz : ls.length ≤ sizeLine := Nat.le_of_lt (small1000 (by omega))
    have hkz : (lkK ls).length < sizeLine := by unfold lkK; rw [List.length_map]; exact small1000 (by omega)
    walk_at "go"
    rename_i H1 e1 H2 p q e2 hp hq npq atp atq H3 x dx' hx sb atL atx
    have naL : a ≠ sf.aL := ne_of ha hL (fun z => nomatch z)
    have nGL : sf.aG ≠ sf.aL := ne_of hG hL (fun z => nomatch z)
    have ha3 := sb _ _ naL (e2 _ _ (e1 _ _ ha))
    have hG3 := sb _ _ nGL (e2 _ _ (e1 _ _ hG))
    walk_at "go"
    have nx1 : ∀ {b o}, H3 b = some o → b ≠ sf.aG → upd H3 sf.aG (.lst (log ++ [V.str (Str.empty ++ Str.ofString "begin " ++ n)])) b = some o := fun h hn => by rw [upd_ne hn]; exact h
    have hx0 : H x = none := e1.free (e2.free hx)
    have pL : p ≠ sf.aL := fun z => by rw [z, e2 _ _ (e1 _ _ hL)] at atp; cases atp
    have pG : p ≠ sf.aG := fun z => by rw [z, e2 _ _ (e1 _ _ hG)] at atp; cases atp
    have qL : q ≠ sf.aL := fun z => by rw [z, e2 _ _ (e1 _ _ hL)] at atq; cases atq
    have qG : q ≠ sf.aG := fun z => by rw [z, e2 _ _ (e1 _ _ hG)] at atq; cases atq
    have xG : x ≠ sf.aG := fun z => by rw [z, e2 _ _ (e1 _ _ hG)] at hx; cases hx
    exact k _ x dx' p q _ hx0 (e1.free hp) (e1.free hq) npq (fun b o h1 h2 h => nx1 (sb _ _ h1 (e2 _ _ (e1 _ _ h))) h2) (nx1 atL (Ne.symm nGL)) upd_same (nx1 atx xG) (nx1 (sb _ _ pL atp) pG) (nx1 (sb _ _ qL atq) qG)
end
/-- the tables' eldests as the book has them -/
def elK (el : List (Str × Int)) : List (Key × V) := el.map fun e => (.inr e.1, .int e.2)
def elI (el : List (Str × Int)) : List Int := el.map (·.2)
theorem elK_snd (el : List (Str × Int)) : (elK el).map (·.2) = (elI el).map V.int := by unfold elK elI; rw [List.map_map, List.map_map]; rfl
/-- the floor is f -/
def FloorIs (r : Int) (el : List (Str × Int)) (f : Int) : Prop := ∃ e es, elI el = e :: es ∧ eldV r e es = .int f
section
variable {P : Program} {w : World} {K : PySem.W.Frag} {mg : Str → Option Value} {base : Heap}
def sp_Freezing_floor (K : PySem.W.Frag) : Sp := fun vs H Q _ => ∃ (a dx : Addr) (s : SF) (el : List (Str × Int)) (f : Int), vs = [.ref a] ∧ H a = some (.ins (CS K) dx s.l) ∧ H s.aE = some (.dK (elK el)) ∧ 0 < s.ring ∧ el.length < 1000 ∧ FloorIs s.ring el f ∧ ∀ H', Same H H' → Q (.int f) H'
theorem sc_Freezing_floor : FnScope ["self"] ["self"] (defScope s_Freezing_floor) := ⟨rfl, rfl, rfl, by decide +kernel, rfl, by decide +kernel, by decide +kernel⟩
theorem ok_Freezing_floor {fd : FuncData} (T : Txt K mg) (F : FnD K d_Freezing_floor fd) : FnOk P w K mg base CX0 4 (He.fAd K d_Freezing_floor.at_) fd ["self"] (sp_Freezing_floor K) := by
  obtain ⟨fd_eldest, F_eldest⟩ := T.fn 4 (d := d_eldest)
  have G_eldest := ok_eldest (P := P) (w := w) (base := base) T F_eldest
  have B_eldest_1_ring : KBn K fd_eldest ["numbers", "ring"] 1 ["ring"] (fun us ws => us ++ ws) (fun us ws => us ++ ws) := RX.kb0 F_eldest 1 ["ring"] (fun us ws => us ++ ws) (fun a b => a.append b) (fun _ _ _ _ _ _ us ws h1 h2 => match us, ws, h1, h2 with | [_], [_], _, _ => rfl)
  refine F.ok sc_Freezing_floor (fun vs H Q E h => ?_) (fun cdv A outer s H vs Q E hr h => ?_)
  · obtain ⟨a, dx, s, el, f, rfl, _⟩ := h; rfl
  · obtain ⟨a, dx, sf, el, f, rfl, ha, hE, h0, hz, ⟨e, es, he, hf⟩, k⟩ := h
    refine ⟨_, (PSs.nox (pss_one (ps_ret (RX.pe_cs G_eldest (hr.mono (by decide)) (T.glo 4) F_eldest.kp B_eldest_1_ring RX.passS0 (pa_cons (RX.pe_tupVals rfl (pe_fld (pv 0) rfl) (by rfl) (T.fre 46) rfl) pa_nil) (pk_cons (pe_fld (pv 0) rfl) pk_nil))))), ?_⟩
    have hes : es.length < 1000 := by
      have := congrArg List.length he
      unfold elI at this
      rw [List.length_map, List.length_cons] at this
      omega
    walk_at "go"
    rename_i p hp
    rw [elK_snd, he]
    refine ⟨SqT.of upd_same, h0, hes, fun H2 e2 => ?_⟩
    rw [hf]
    exact k _ ((RX.same_new hp).trans e2)
def sp_Freezing_room (K : PySem.W.Frag) : Sp := fun vs H Q _ => ∃ (a dx : Addr) (s : SF) (el : List (Str × Int)) (f : Int), vs = [.ref a] ∧ H a = some (.ins (CS K) dx s.l) ∧ H s.aE = some (.dK (elK el)) ∧ 0 < s.ring ∧ el.length < 1000 ∧ FloorIs s.ring el f ∧
  ∀ H', Same H H' → Q (.int (s.stop - (s.next - f) % s.ring)) H'
theorem sc_Freezing_room : FnScope ["self"] ["self"] (defScope s_Freezing_room) := ⟨rfl, rfl, rfl, by decide +kernel, rfl, by decide +kernel, by decide +kernel⟩
theorem ok_Freezing_room {fd : FuncData} (T : Txt K mg) (F : FnD K d_Freezing_room fd) : FnOk P w K mg base CX0 5 (He.fAd K d_Freezing_room.at_) fd ["self"] (sp_Freezing_room K) := by
  obtain ⟨fd_Deeds_steps_back, F_Deeds_steps_back⟩ := T.fn 44 (d := d_Deeds_steps_back)
  have G_Deeds_steps_back := ok_Deeds_steps_back (P := P) (w := w) (base := base) T F_Deeds_steps_back
  have B_Deeds_steps_back_2 : KBn K fd_Deeds_steps_back ["self", "number"] 2 [] (fun us ws => us ++ ws) (fun us ws => us ++ ws) := RX.kb0 F_Deeds_steps_back 2 [] (fun us ws => us ++ ws) (fun a b => a.append b) (fun _ _ _ _ _ _ us ws h1 h2 => match us, ws, h1, h2 with | [_, _], [], _, _ => rfl)
  obtain ⟨fd_Freezing_floor, F_Freezing_floor⟩ := T.fn 72 (d := d_Freezing_floor)
  have G_Freezing_floor := ok_Freezing_floor (P := P) (w := w) (base := base) T F_Freezing_floor
  have B_Freezing_floor_1 : KBn K fd_Freezing_floor ["self"] 1 [] (fun us ws => us ++ ws) (fun us ws => us ++ ws) := RX.kb0 F_Freezing_floor 1 [] (fun us ws => us ++ ws) (fun a b => a.append b) (fun _ _ _ _ _ _ us ws h1 h2 => match us, ws, h1, h2 with | [_], [], _, _ => rfl)
  refine F.ok sc_Freezing_room (fun vs H Q E h => ?_) (fun cdv A outer s H vs Q E hr h => ?_)
  · obtain ⟨a, dx, s, el, f, rfl, _⟩ := h; rfl
  · obtain ⟨a, dx, sf, el, f, rfl, ha, hE, h0, hz, hf, k⟩ := h
    refine ⟨_, (PSs.nox (pss_one (ps_ret (pe_op op_sub (pe_fld (pv 0) rfl) (RX.pe_ms (pv 0) T.clStore (T.mt 122) G_Deeds_steps_back (hr.mono (by decide)) B_Deeds_steps_back_2 RX.passS0 (pa_cons (RX.pe_ms0 (pv 0) T.clStore (T.mt 107) G_Freezing_floor (hr.mono (by decide)) B_Freezing_floor_1 RX.passS0) pa_nil) pk_nil))))), ?_⟩
    walk_at "go"
    exact k _ (by assumption)
theorem none_back {H H' : Hp} {p : Addr} (e : Same H H') (h : H' p = none) : H p = none := by
  cases g : H p with
  | none => rfl
  | some o => have := e _ _ g; rw [h] at this; cases this
/-- the looks of the lookers, as tuples -/
def LooksAt (K : PySem.W.Frag) (H : Hp) (ls : List Lk) (c : Lk → Int) : Prop := ∀ l ∈ ls, ∃ q, SqT K H l.f.look [.int (c l), .ref q] ∧ SqT K H q []
theorem looks_same {H H' : Hp} {ls : List Lk} {c : Lk → Int} (e : Same H H') (h : LooksAt K H ls c) : LooksAt K H' ls c := fun l hl => let ⟨q, h1, h2⟩ := h l hl; ⟨q, RX.same_sqT e h1, RX.same_sqT e h2⟩
def sp_Freezing_lookers_at (K : PySem.W.Frag) : Sp := fun vs H Q _ => ∃ (a dx : Addr) (s : SF) (n : Int) (ls : List Lk) (c : Lk → Int), vs = [.ref a, .int n] ∧ H a = some (.ins (CS K) dx s.l) ∧ H s.aL = some (.dK (lkK ls)) ∧ (∀ l ∈ ls, l.there K H) ∧ ls.length ≤ sizeLine ∧ LooksAt K H ls c ∧
  ∀ H' p, Same H H' → H p = none → H' p = some (.lst (((ls.filter fun l => l.f.fin.isNone).filter fun l => decide (c l = n)).map fun l => V.ref l.a)) → Q (.ref p) H'
theorem sc_Freezing_lookers_at : FnScope ["self", "number", "looker"] ["self", "number"] (defScope s_Freezing_lookers_at) := ⟨rfl, rfl, rfl, by decide +kernel, rfl, by decide +kernel, by decide +kernel⟩
theorem ok_Freezing_lookers_at {fd : FuncData} (T : Txt K mg) (F : FnD K d_Freezing_lookers_at fd) : FnOk P w K mg base CX0 2 (He.fAd K d_Freezing_lookers_at.at_) fd ["self", "number"] (sp_Freezing_lookers_at K) := by
  obtain ⟨fd_Deeds_open_lookers, F_Deeds_open_lookers⟩ := T.fn 43 (d := d_Deeds_open_lookers)
  have G_Deeds_open_lookers := ok_Deeds_open_lookers (P := P) (w := w) (base := base) T F_Deeds_open_lookers
  have B_Deeds_open_lookers_1 : KBn K fd_Deeds_open_lookers ["self"] 1 [] (fun us ws => us ++ ws) (fun us ws => us ++ ws) := RX.kb0 F_Deeds_open_lookers 1 [] (fun us ws => us ++ ws) (fun a b => a.append b) (fun _ _ _ _ _ _ us ws h1 h2 => match us, ws, h1, h2 with | [_], [], _, _ => rfl)
  obtain ⟨fd_low, F_low⟩ := T.fn 10 (d := d_low)
  have G_low := ok_low (P := P) (w := w) (base := base) T F_low
  have B_low_1 : KBn K fd_low ["look"] 1 [] (fun us ws => us ++ ws) (fun us ws => us ++ ws) := RX.kb0 F_low 1 [] (fun us ws => us ++ ws) (fun a b => a.append b) (fun _ _ _ _ _ _ us ws h1 h2 => match us, ws, h1, h2 with | [_], [], _, _ => rfl)
  refine F.ok sc_Freezing_lookers_at (fun vs H Q E h => ?_) (fun cdv A outer s H vs Q E hr h => ?_)
  · obtain ⟨a, dx, s, n, ls, c, rfl, _⟩ := h; rfl
  · obtain ⟨a, dx, sf, n, ls, c, rfl, ha, hL, hl, hz, hc, k⟩ := h
    refine ⟨_, (PSs.nox (pss_one (ps_ret (pe_lc (own := [("looker", 2)]) (g := (gName 2)) rfl sc_Freezing_lookers_at.nd (pi_list (RX.pe_ms0 (pv 0) T.clStore (T.mt 121) G_Deeds_open_lookers (hr.mono (by decide)) B_Deeds_open_lookers_1 RX.passS0)) (blkOk_by (own := [("looker", 2)]) (by kernel_rfl)) (fun _ _ _ _ _ => (pg_name (i := 2) sc_Freezing_lookers_at.nd rfl (Or.inl rfl))) (fun _ _ _ _ _ => (pts_one (pt_cmpR op_eq (RX.pe_cs G_low (hr.mono (by decide)) (T.glo 10) F_low.kp B_low_1 RX.passS0 (pa_cons ((pe_fld (pv 2) rfl) : PE _ _ (tFld K _ _)) pa_nil) pk_nil) (pv 1) (nomark _)))) (fun _ _ _ _ _ => (pv 2)))))), ?_⟩
    walk_at "go"
    rename_i H2 b e2 hb at2 D hD
    refine RX.lm_lst (its := ls.filter fun l => l.f.fin.isNone) (vf := fun l => V.ref l.a) (f := fun l => if decide (c l = n) = true then [V.ref l.a] else []) hD (fun _ => RX.if_len) (Nat.le_trans (List.length_filter_le _ _) hz) (SqL.of at2) (fun i l acc H3 hi hlen ac => ?_) (fun H3 ac => ?_)
    · have hm := List.mem_filter.mp (List.mem_of_getElem? hi)
      have hll := hl l hm.1
      unfold Lk.there at hll
      have e3 := e2.trans ac.same
      have hl3 := e3 _ _ hll
      obtain ⟨q, hq1, hq2⟩ := looks_same e3 hc l hm.1
      walk_at "go"
      refine ⟨(show SqT K H3 q (([] : List Int).map V.int) from hq2), ?_⟩
      walk_at "go"
      refine RX.iteB (fun hc => ?_) (fun hc => ?_)
      · have hcn : c l = n := by simpa using hc
        rw [hcn] at *
        walk_at "go"
        rw [if_pos (by simp [hcn])]
        exact ac.yes hD (Same.refl _) hlen
      · have hcn : ¬ c l = n := by simpa using hc
        rw [if_neg (by simpa using hcn)]
        have := ac.no (Same.refl H3)
        simpa using this
    · have e := ac.at_
      rw [RX.fm_filter] at e
      exact k _ _ (e2.trans ac.same) (none_back e2 hD) e
end
section
variable {P : Program} {w : World} {K : PySem.W.Frag} {mg : Str → Option Value} {base : Heap}
theorem sqT_fz {H H' : Hp} {A p : Addr} {xs : List V} {od : Obj} {kvs : List (Key × V)} (k : ∀ b o, b ≠ A → H b = some o → H' b = some o) (hA : H A = some (.frz od (.dK kvs))) (h : SqT K H p xs) : SqT K H' p xs := by
  have ne : ∀ o, H p = some o → o ≠ .frz od (.dK kvs) → p ≠ A := fun o e n z => by rw [z, hA] at e; exact n (Option.some.inj e).symm
  rcases h with (h | ⟨o, h⟩) | h
  · exact .inl (.inl (k _ _ (ne _ h (by intro z; cases z)) h))
  · exact .inl (.inr ⟨o, k _ _ (ne _ h (by intro z; cases z)) h⟩)
  · exact .inr h
/-- the horizon is h -/
def HorIs (r nx : Int) (ls : List Lk) (c : Lk → Int) (h : Int) : Prop := ∃ e es, ((ls.filter fun l => l.f.fin.isNone).map c) ++ [nx] = e :: es ∧ eldV r e es = .int h
def sp_Freezing_horizon (K : PySem.W.Frag) : Sp := fun vs H Q _ => ∃ (a dx : Addr) (s : SF) (ls : List Lk) (c : Lk → Int) (h : Int), vs = [.ref a] ∧ H a = some (.ins (CS K) dx s.l) ∧ H s.aL = some (.dK (lkK ls)) ∧ (∀ l ∈ ls, l.there K H) ∧ ls.length < 900 ∧ LooksAt K H ls c ∧ 0 < s.ring ∧
  HorIs s.ring s.next ls c h ∧ ∀ H', Same H H' → Q (.int h) H'
theorem sc_Freezing_horizon : FnScope ["self", "lows", "looker"] ["self"] (defScope s_Freezing_horizon) := ⟨rfl, rfl, rfl, by decide +kernel, rfl, by decide +kernel, by decide +kernel⟩
theorem ok_Freezing_horizon {fd : FuncData} (T : Txt K mg) (F : FnD K d_Freezing_horizon fd) : FnOk P w K mg base CX0 4 (He.fAd K d_Freezing_horizon.at_) fd ["self"] (sp_Freezing_horizon K) := by
  obtain ⟨fd_Deeds_open_lookers, F_Deeds_open_lookers⟩ := T.fn 43 (d := d_Deeds_open_lookers)
  have G_Deeds_open_lookers := ok_Deeds_open_lookers (P := P) (w := w) (base := base) T F_Deeds_open_lookers
  have B_Deeds_open_lookers_1 : KBn K fd_Deeds_open_lookers ["self"] 1 [] (fun us ws => us ++ ws) (fun us ws => us ++ ws) := RX.kb0 F_Deeds_open_lookers 1 [] (fun us ws => us ++ ws) (fun a b => a.append b) (fun _ _ _ _ _ _ us ws h1 h2 => match us, ws, h1, h2 with | [_], [], _, _ => rfl)
  obtain ⟨fd_low, F_low⟩ := T.fn 10 (d := d_low)
  have G_low := ok_low (P := P) (w := w) (base := base) T F_low
  have B_low_1 : KBn K fd_low ["look"] 1 [] (fun us ws => us ++ ws) (fun us ws => us ++ ws) := RX.kb0 F_low 1 [] (fun us ws => us ++ ws) (fun a b => a.append b) (fun _ _ _ _ _ _ us ws h1 h2 => match us, ws, h1, h2 with | [_], [], _, _ => rfl)
  obtain ⟨fd_eldest, F_eldest⟩ := T.fn 4 (d := d_eldest)
  have G_eldest := ok_eldest (P := P) (w := w) (base := base) T F_eldest
  have B_eldest_1_ring : KBn K fd_eldest ["numbers", "ring"] 1 ["ring"] (fun us ws => us ++ ws) (fun us ws => us ++ ws) := RX.kb0 F_eldest 1 ["ring"] (fun us ws => us ++ ws) (fun a b => a.append b) (fun _ _ _ _ _ _ us ws h1 h2 => match us, ws, h1, h2 with | [_], [_], _, _ => rfl)
  refine F.ok sc_Freezing_horizon (fun vs H Q E h => ?_) (fun cdv A outer s H vs Q E hr h => ?_)
  · obtain ⟨a, dx, s, ls, c, h, rfl, _⟩ := h; rfl
  · obtain ⟨a, dx, sf, ls, c, hor, rfl, ha, hL, hl, hz, hc, h0, hh, k⟩ := h
    refine ⟨_, (PSs.nox (pss_cons (ps_setLc (i := 1) (own := [("looker", 2)]) (g := (gName 2)) (tt := tYes) rfl sc_Freezing_horizon.nd rfl rfl (sw_true rfl rfl rfl (by decide +kernel)) (pi_list (RX.pe_ms0 (pv 0) T.clStore (T.mt 121) G_Deeds_open_lookers (hr.mono (by decide)) B_Deeds_open_lookers_1 RX.passS0)) (blkOk_by (own := [("looker", 2)]) (by kernel_rfl)) (fun _ _ _ _ _ => (pg_name (i := 2) sc_Freezing_horizon.nd rfl (Or.inl rfl))) (fun _ _ _ _ _ => pts_nil) (fun _ _ _ _ _ => (RX.pe_cs G_low (hr.mono (by decide)) (T.glo 10) F_low.kp B_low_1 RX.passS0 (pa_cons ((pe_fld (pv 2) rfl) : PE _ _ (tFld K _ _)) pa_nil) pk_nil))) (pss_one (ps_ret (RX.pe_cs G_eldest (hr.mono (by decide)) (T.glo 4) F_eldest.kp B_eldest_1_ring RX.passS0 (pa_cons (pe_callTy call_tuple_of (by rfl) (T.fre 46) (by decide +kernel) (pa_cons (pe_op op_cat (pv 1) (pe_lst (pa_cons (pe_fld (pv 0) rfl) pa_nil))) pa_nil)) pa_nil) (pk_cons (pe_fld (pv 0) rfl) pk_nil)))))), ?_⟩
    have hz' : ls.length ≤ sizeLine := Nat.le_trans (Nat.le_of_lt hz) (by decide)
    walk_at "go"
    rename_i H2 b e2 hb at2 D hD
    refine RX.lm_lst (its := ls.filter fun l => l.f.fin.isNone) (vf := fun l => V.ref l.a) (f := fun l => [V.int (c l)]) hD (fun _ => Nat.le_refl _) (Nat.le_trans (List.length_filter_le _ _) hz') (SqL.of at2) (fun i l acc H3 hi hlen ac => ?_) (fun H3 ac => ?_)
    · have hm := List.mem_filter.mp (List.mem_of_getElem? hi)
      have hll := hl l hm.1
      unfold Lk.there at hll
      have e3 := e2.trans ac.same
      have hl3 := e3 _ _ hll
      obtain ⟨q, hq1, hq2⟩ := looks_same e3 hc l hm.1
      walk_at "go"
      refine ⟨(show SqT K H3 q (([] : List Int).map V.int) from hq2), ?_⟩
      walk_at "go"
      exact ac.yes hD (Same.refl _) hlen
    · have e := ac.at_
      rw [RX.fm1] at e
      have e3 := e2.trans ac.same
      obtain ⟨n0, ns, hn, hv⟩ := hh
      walk_at "go"
      rename_i p hp
      have hfz := List.length_filter_le (fun l : Lk => l.f.fin.isNone) ls
      refine ⟨by simp only [List.length_map, List.length_cons, List.length_nil]; exact Nat.le_trans (by omega) (show 1000 ≤ sizeLine by decide), fun p2 hp2 => ?_⟩
      have ee : (List.map (fun l => V.int (c l)) (List.filter (fun l => l.f.fin.isNone) ls) ++ [V.int sf.next]) = (n0 :: ns).map V.int := by rw [← hn, List.map_append, List.map_map]; rfl
      rw [ee]
      have hns : ns.length < 1000 := by have := congrArg List.length hn; simp only [List.length_append, List.length_map, List.length_cons, List.length_nil] at this; omega
      have e4 : Same H (upd (upd H3 p (HO.lst [V.int sf.next])) p2 (.lst ((n0 :: ns).map V.int))) := e3.trans ((RX.same_new hp).trans (RX.same_new hp2))
      walk_at "go"
      refine Or.inl ⟨SqL.of upd_same, fun p3 hp3 => ?_⟩
      have e5 := e4.trans (RX.same_new (o := .tup ((n0 :: ns).map V.int)) hp3)
      walk_at "go"
      rename_i H5 e6
      rw [hv]
      exact k _ (e5.trans e6)
def sp_Freezing_holders (K : PySem.W.Frag) : Sp := fun vs H Q _ => ∃ (a dx : Addr) (s : SF) (el : List (Str × Int)) (f : Int) (ls : List Lk) (c : Lk → Int), vs = [.ref a] ∧ H a = some (.ins (CS K) dx s.l) ∧ H s.aE = some (.dK (elK el)) ∧ 0 < s.ring ∧ el.length < 900 ∧ FloorIs s.ring el f ∧
  H s.aL = some (.dK (lkK ls)) ∧ (∀ l ∈ ls, l.there K H) ∧ ls.length < 900 ∧ LooksAt K H ls c ∧ ∀ H' v, Same H H' → Q v H'
theorem sc_Freezing_holders : FnScope ["self", "floor", "tables", "table", "number", "one"] ["self"] (defScope s_Freezing_holders) := ⟨rfl, rfl, rfl, by decide +kernel, rfl, by decide +kernel, by decide +kernel⟩
theorem ok_Freezing_holders {fd : FuncData} (T : Txt K mg) (F : FnD K d_Freezing_holders fd) : FnOk P w K mg base CX0 5 (He.fAd K d_Freezing_holders.at_) fd ["self"] (sp_Freezing_holders K) := by
  obtain ⟨fd_Freezing_floor, F_Freezing_floor⟩ := T.fn 72 (d := d_Freezing_floor)
  have G_Freezing_floor := ok_Freezing_floor (P := P) (w := w) (base := base) T F_Freezing_floor
  have B_Freezing_floor_1 : KBn K fd_Freezing_floor ["self"] 1 [] (fun us ws => us ++ ws) (fun us ws => us ++ ws) := RX.kb0 F_Freezing_floor 1 [] (fun us ws => us ++ ws) (fun a b => a.append b) (fun _ _ _ _ _ _ us ws h1 h2 => match us, ws, h1, h2 with | [_], [], _, _ => rfl)
  obtain ⟨t_TABLE, g_TABLE⟩ := T.str 83 (x := "TABLE") (z := "table")
  obtain ⟨fd_Freezing_lookers_at, F_Freezing_lookers_at⟩ := T.fn 71 (d := d_Freezing_lookers_at)
  have G_Freezing_lookers_at := ok_Freezing_lookers_at (P := P) (w := w) (base := base) T F_Freezing_lookers_at
  have B_Freezing_lookers_at_2 : KBn K fd_Freezing_lookers_at ["self", "number"] 2 [] (fun us ws => us ++ ws) (fun us ws => us ++ ws) := RX.kb0 F_Freezing_lookers_at 2 [] (fun us ws => us ++ ws) (fun a b => a.append b) (fun _ _ _ _ _ _ us ws h1 h2 => match us, ws, h1, h2 with | [_, _], [], _, _ => rfl)
  refine F.ok sc_Freezing_holders (fun vs H Q E h => ?_) (fun cdv A outer s H vs Q E hr h => ?_)
  · obtain ⟨a, dx, s, el, f, ls, c, rfl, _⟩ := h; rfl
  · obtain ⟨a, dx, sf, el, f, ls, c, rfl, ha, hE, h0, hz, hf, hL, hl, hzl, hc, k⟩ := h
    refine ⟨_, (PSs.nox (pss_cons (ps_set (i := 1) sc_Freezing_holders.nd rfl (Or.inr rfl) (RX.pe_ms0 (pv 0) T.clStore (T.mt 107) G_Freezing_floor (hr.mono (by decide)) B_Freezing_floor_1 RX.passS0)) (pss_cons (ps_lock (ps_setLc (i := 2) (own := [("table", 3), ("number", 4)]) (g := (gTup K 2 (gCons (gName 3) (gCons (gName 4) gNil)))) rfl sc_Freezing_holders.nd rfl rfl (sw_true rfl rfl rfl (by decide +kernel)) (pi_items (pe_fld (pv 0) rfl)) (blkOk_by (own := [("table", 3), ("number", 4)]) (by kernel_rfl)) (fun _ _ _ _ _ => (pg_tup rfl (pgs_cons (pg_name (i := 3) sc_Freezing_holders.nd rfl (Or.inl rfl)) (pgs_cons (pg_name (i := 4) sc_Freezing_holders.nd rfl (Or.inl rfl)) pgs_nil)))) (fun _ _ _ _ _ => (pts_one (pt_cmpR op_eq (pv 4) (pv 1) (nomark _)))) (fun _ _ _ _ _ => (pe_tup (pa_cons (pe_glob (v := .str "table") rfl g_TABLE ⟨_, rfl⟩) (pa_cons (pv 3) pa_nil)))))) (pss_one (ps_ret (pe_callTy call_tuple_of (by rfl) (T.fre 46) (by decide +kernel) (pa_cons (pe_callB (RX.cr_sortedD hr.units) (by rfl) (T.fre 48) (by decide +kernel) (pa_cons (pe_op op_cat (pv 2) (pe_lc (own := [("one", 5)]) (g := (gName 5)) (tt := tYes) rfl sc_Freezing_holders.nd (pi_list (RX.pe_ms (pv 0) T.clStore (T.mt 106) G_Freezing_lookers_at (hr.mono (by decide)) B_Freezing_lookers_at_2 RX.passS0 (pa_cons (pv 1) pa_nil) pk_nil)) (blkOk_by (own := [("one", 5)]) (by kernel_rfl)) (fun _ _ _ _ _ => (pg_name (i := 5) sc_Freezing_holders.nd rfl (Or.inl rfl))) (fun _ _ _ _ _ => pts_nil) (fun _ _ _ _ _ => (pe_tup (pa_cons ((pe_fld (pv 5) rfl) : PE _ _ (tFld K _ _)) (pa_cons ((pe_fld (pv 5) rfl) : PE _ _ (tFld K _ _)) pa_nil)))))) pa_nil)) pa_nil))))))), ?_⟩
    have hz1 : el.length < 1000 := by omega
    have hLb : RX.Box (H sf.aL = some (.dK (lkK ls))) := ⟨hL⟩
    clear hL
    walk_at "go"
    rename_i H2 e2
    refine ⟨trivial, fun od => ?_⟩
    have hE2 := e2 _ _ hE
    have ha2 := lock_ins (od := od) (e2 _ _ ha) hE2
    have hE3 : upd H2 sf.aE (.frz od (.dK (elK el))) sf.aE = some (.frz od (.dK (el.map fun e => (.inr e.1, .int e.2)))) := upd_same
    refine ⟨_, rfl, a, _, dx, sf.l, _, rfl, ha2, T.clStore, T.naS (by decide +kernel), SF.eldests_, _, od, _, rfl, hE3, fun D hD => ?_⟩
    refine RX.lr_itms (its := el) (kf := fun e => (.inr e.1, .int e.2)) (R := RX.PrS K D) RX.prS_st hD (Nat.le_trans (Nat.le_of_lt hz1) (by decide)) hE3 (fun i t Tp H3 hi hT hn ac => ?_) (fun H3 ac => ?_)
    · have hT' : SqT K H3 Tp [V.str t.1, V.int t.2] := SqT.of hT
      walk_at "go"
      refine RX.iteB (fun hc2 => ?_) (fun hc2 => ?_)
      · walk_at "go"
        rename_i p hp
        have np : p ≠ D := fun z => by obtain ⟨l0, q0, _⟩ := ac.at_; rw [z, q0] at hp; cases hp
        exact ac.yes RX.prS_st hD (RX.same_new hp) ⟨p, _, _, rfl, np, SqT.of upd_same⟩ hn
      · exact ac.no RX.prS_st (Same.refl _)
    · obtain ⟨tl, ht1, ht2, ht3⟩ := ac.at_
      have nD : D ≠ sf.aE := fun z => by rw [z, hE3] at hD; cases hD
      refine ⟨ac.same _ _ hE3, ?_⟩
      have hL := hLb.1
      have e4 : Same H (upd H3 sf.aE (.dK (elK el))) := e2.trans (RX.same_unlock ac.same hE2)
      have ht4 : upd H3 sf.aE (.dK (elK el)) D = some (.lst tl) := by rw [upd_ne nD]; exact ht1
      have hz2 : ls.length ≤ sizeLine := Nat.le_trans (Nat.le_of_lt hzl) (by decide)
      walk_at "go"
      refine ⟨looks_same e4 hc, fun H4 p4 e5 hp4 at4 => ?_⟩
      have e6 := e4.trans e5
      have ht5 := e5 _ _ ht4
      refine ⟨_, rfl, ⟨_, SqL.of at4⟩, fun D2 hD2 => ?_⟩
      refine RX.lr_lst (its := (ls.filter fun l => l.f.fin.isNone).filter fun l => decide (c l = f)) (vf := fun l => V.ref l.a) (R := RX.PrS K D2) RX.prS_st hD2 (Nat.le_trans (Nat.le_trans (List.length_filter_le _ _) (List.length_filter_le _ _)) hz2) (SqL.of at4) (fun i l H5 hi hn ac2 => ?_) (fun H5 ac2 => ?_)
      · have hm := List.mem_filter.mp (List.mem_filter.mp (List.mem_of_getElem? hi)).1
        have hll := hl l hm.1
        unfold Lk.there at hll
        have hl5 := (e6.trans ac2.same) _ _ hll
        walk_at "go"
        rename_i p hp
        have np : p ≠ D2 := fun z => by obtain ⟨l0, q0, _⟩ := ac2.at_; rw [z, q0] at hp; cases hp
        exact ac2.yes RX.prS_st hD2 (RX.same_new hp) ⟨p, _, _, rfl, np, SqT.of upd_same⟩ hn
      · obtain ⟨ul, hu1, hu2, hu3⟩ := ac2.at_
        have ht6 := ac2.same _ _ ht5
        have e7 := e6.trans ac2.same
        walk_at "go"
        have f1 := List.length_filter_le (fun l : Lk => decide (c l = f)) (ls.filter fun l => l.f.fin.isNone)
        have f2 := List.length_filter_le (fun l : Lk => l.f.fin.isNone) ls
        refine ⟨Nat.le_trans (show tl.length + ul.length ≤ 2000 by omega) (by decide), fun p hp => ?_⟩
        obtain ⟨bs, hb1, hb2, hb3, hb4⟩ := RX.sort_pairs (K := K) (H := upd H5 p (.lst (tl ++ ul))) (l := tl ++ ul) (fun y hy => by
          rcases List.mem_append.mp hy with hy | hy
          · obtain ⟨q, z1, z2, r1, r2, r3⟩ := ht3 y hy
            exact ⟨q, z1, z2, r1, RX.same_sqT ((e5.trans ac2.same).trans (RX.same_new hp)) (sqT_fz (fun b o n g => by rw [upd_ne n]; exact g) (ac.same _ _ hE3) r3)⟩
          · obtain ⟨q, z1, z2, r1, r2, r3⟩ := hu3 y hy
            exact ⟨q, z1, z2, r1, RX.same_sqT (RX.same_new hp) r3⟩)
        refine ⟨p, bs, rfl, by rw [hb1]; exact SqL.of upd_same, hb2, hb3, hb4, fun p2 hp2 => ?_⟩
        walk_at "go"
        refine Or.inl ⟨SqL.of upd_same, fun p3 hp3 => k _ _ (e7.trans ((RX.same_new hp).trans ((RX.same_new hp2).trans (RX.same_new hp3))))⟩
end
section
variable {P : Program} {w : World} {K : PySem.W.Frag} {mg : Str → Option Value} {base : Heap}
def sp_Freezing_check_room (K : PySem.W.Frag) : Sp := fun vs H Q E => ∃ (a dx : Addr) (s : SF) (el : List (Str × Int)) (f : Int) (ls : List Lk) (c : Lk → Int), vs = [.ref a] ∧ H a = some (.ins (CS K) dx s.l) ∧ H s.aE = some (.dK (elK el)) ∧ 0 < s.ring ∧ el.length < 900 ∧ FloorIs s.ring el f ∧
  H s.aL = some (.dK (lkK ls)) ∧ (∀ l ∈ ls, l.there K H) ∧ ls.length < 900 ∧ LooksAt K H ls c ∧ (s.stop - (s.next - f) % s.ring ≠ 0 → ∀ H', Same H H' → Q .non H') ∧ (s.stop - (s.next - f) % s.ring = 0 → ∀ H' d, Same H H' → E (.ref (ga K "Stopped")) d H')
theorem sc_Freezing_check_room : FnScope ["self"] ["self"] (defScope s_Freezing_check_room) := ⟨rfl, rfl, rfl, by decide +kernel, rfl, by decide +kernel, by decide +kernel⟩
theorem ok_Freezing_check_room {fd : FuncData} (T : Txt K mg) (F : FnD K d_Freezing_check_room fd) : FnOk P w K mg base (L2N.CX P w) 6 (He.fAd K d_Freezing_check_room.at_) fd ["self"] (sp_Freezing_check_room K) := by
  obtain ⟨fd_Freezing_room, F_Freezing_room⟩ := T.fn 73 (d := d_Freezing_room)
  have G_Freezing_room := ok_Freezing_room (P := P) (w := w) (base := base) T F_Freezing_room
  have B_Freezing_room_1 : KBn K fd_Freezing_room ["self"] 1 [] (fun us ws => us ++ ws) (fun us ws => us ++ ws) := RX.kb0 F_Freezing_room 1 [] (fun us ws => us ++ ws) (fun a b => a.append b) (fun _ _ _ _ _ _ us ws h1 h2 => match us, ws, h1, h2 with | [_], [], _, _ => rfl)
  obtain ⟨fd_Stopped_init, F_Stopped_init⟩ := T.fn 37 (d := d_Stopped_init)
  have G_Stopped_init := ok_Stopped_init (P := P) (w := w) (base := base) T F_Stopped_init
  have X_Stopped := T.xcStopped
  have I_Stopped := T.xiStopped
  have T_Stopped := T.xtStopped
  have b_Stopped_init : Binds K fd_Stopped_init ["self", "by"] [] := F_Stopped_init.bindsN fun _ _ _ _ _ _ us hl => match us, hl with | [_, _], _ => rfl
  obtain ⟨fd_Freezing_holders, F_Freezing_holders⟩ := T.fn 74 (d := d_Freezing_holders)
  have G_Freezing_holders := ok_Freezing_holders (P := P) (w := w) (base := base) T F_Freezing_holders
  have B_Freezing_holders_1 : KBn K fd_Freezing_holders ["self"] 1 [] (fun us ws => us ++ ws) (fun us ws => us ++ ws) := RX.kb0 F_Freezing_holders 1 [] (fun us ws => us ++ ws) (fun a b => a.append b) (fun _ _ _ _ _ _ us ws h1 h2 => match us, ws, h1, h2 with | [_], [], _, _ => rfl)
  refine F.ok sc_Freezing_check_room (fun vs H Q E h => ?_) (fun cdv A outer s H vs Q E hr h => ?_)
  · obtain ⟨a, dx, s, el, f, ls, c, rfl, _⟩ := h; rfl
  · obtain ⟨a, dx, sf, el, f, ls, c, rfl, ha, hE, h0, hz, hf, hL, hl, hzl, hc, k, k2⟩ := h
    refine ⟨_, ((pss_one (ps_if (pt_cmpR op_eq (RX.pe_ms0 (pv 0) T.clStore (T.mt 108) G_Freezing_room (hr.mono (by decide)) B_Freezing_room_1 RX.passS0) pe_int (nomark _)) (pss_one (L2N.ps_raise rfl (L2N.takes_of rfl rfl rfl rfl) (RXe.pmk_xN RXe.bx_Overflow X_Stopped I_Stopped T_Stopped G_Stopped_init (hr.mono (by decide)) b_Stopped_init pass0 rfl (T.glo 39) (pa_cons (RX.pe_ms0 (pv 0) T.clStore (T.mt 109) G_Freezing_holders (hr.mono (by decide)) B_Freezing_holders_1 RX.passS0) pa_nil)))) pss_nil))), ?_⟩
    have hz1 : el.length < 1000 := by omega
    have hLb : RX.Box (H sf.aL = some (.dK (lkK ls))) := ⟨hL⟩
    clear hL
    walk_at "go"
    rename_i H2 e2
    refine RX.iteB (fun hc2 => ?_) (fun hc2 => ?_)
    · have hr0 : sf.stop - (sf.next - f) % sf.ring = 0 := by simpa using hc2
      have hL := hLb.1
      walk_at "go"
      refine ⟨looks_same e2 hc, fun H3 v e3 => ?_⟩
      refine ⟨by show 1 ≤ 1000; decide, fun x hx => ⟨x, v, rfl, upd_same, fun dx hdx hne => ⟨rfl, dx, [("by", v)], upd_same, by rw [upd_ne hne]; exact upd_same, by rw [upd_ne hne] at hdx; exact hdx, k2 hr0 _ _ fun b o g => ?_⟩⟩⟩
      have g3 := (e2.trans e3) b o g
      rw [upd_ne hne] at hdx
      have n1 : b ≠ x := fun z => by rw [z, hx] at g3; cases g3
      have n2 : b ≠ dx := fun z => by rw [z, hdx] at g3; cases g3
      rw [upd_ne n2, del_ne n1, upd_ne n1, upd_ne n2, upd_ne n1]
      exact g3
    · have hr0 : sf.stop - (sf.next - f) % sf.ring ≠ 0 := by simpa using hc2
      exact k hr0 _ e2
def sp_Deeds_number_of (K : PySem.W.Frag) : Sp := fun vs H Q E => ∃ (a dx : Addr) (s : SF) (l : Lk) (el : List (Str × Int)) (f : Int) (ls : List Lk) (c : Lk → Int) (kvs : List (Key × V)), vs = [.ref a, .ref l.a] ∧ H a = some (.ins (CS K) dx s.l) ∧ H s.aE = some (.dK (elK el)) ∧ 0 < s.ring ∧ el.length < 900 ∧ FloorIs s.ring el f ∧
  H s.aL = some (.dK (lkK ls)) ∧ (∀ l ∈ ls, l.there K H) ∧ ls.length < 900 ∧ LooksAt K H ls c ∧ l ∈ ls ∧ H s.aF = some (.dK kvs) ∧ kvs.length < 1000 ∧
  (∀ n, l.f.num = some n → Q (.int n) H) ∧
  (l.f.num = none → s.stop - (s.next - f) % s.ring = 0 → ∀ H' d, Same H H' → E (.ref (ga K "Stopped")) d H') ∧
  (l.f.num = none → s.stop - (s.next - f) % s.ring ≠ 0 → ∀ H', (∀ b o, b ≠ a → b ≠ l.a → b ≠ s.aF → H b = some o → H' b = some o) → H' a = some (.ins (CS K) dx { s with next := (s.next + 1) % s.ring }.l) → H' l.a = some (.ins (CL K) l.dx { l.f with num := some s.next }.l) → H' s.aF = some (.dK (putK kvs (.inl s.next) (.ref l.a))) → Q (.int s.next) H')
theorem sc_Deeds_number_of : FnScope ["self", "looker"] ["self", "looker"] (defScope s_Deeds_number_of) := ⟨rfl, rfl, rfl, by decide +kernel, rfl, by decide +kernel, by decide +kernel⟩
theorem ok_Deeds_number_of {fd : FuncData} (T : Txt K mg) (F : FnD K d_Deeds_number_of fd) : FnOk P w K mg base (L2N.CX P w) 7 (He.fAd K d_Deeds_number_of.at_) fd ["self", "looker"] (sp_Deeds_number_of K) := by
  obtain ⟨fd_Freezing_check_room, F_Freezing_check_room⟩ := T.fn 75 (d := d_Freezing_check_room)
  have G_Freezing_check_room := ok_Freezing_check_room (P := P) (w := w) (base := base) T F_Freezing_check_room
  have B_Freezing_check_room_1 : KBn K fd_Freezing_check_room ["self"] 1 [] (fun us ws => us ++ ws) (fun us ws => us ++ ws) := RX.kb0 F_Freezing_check_room 1 [] (fun us ws => us ++ ws) (fun a b => a.append b) (fun _ _ _ _ _ _ us ws h1 h2 => match us, ws, h1, h2 with | [_], [], _, _ => rfl)
  obtain ⟨fd_on, F_on⟩ := T.fn 1 (d := d_on)
  have G_on := ok_on (P := P) (w := w) (base := base) T F_on
  have B_on_2_ring : KBn K fd_on ["number", "many", "ring"] 2 ["ring"] (fun us ws => us ++ ws) (fun us ws => us ++ ws) := RX.kb0 F_on 2 ["ring"] (fun us ws => us ++ ws) (fun a b => a.append b) (fun _ _ _ _ _ _ us ws h1 h2 => match us, ws, h1, h2 with | [_, _], [_], _, _ => rfl)
  refine F.ok sc_Deeds_number_of (fun vs H Q E h => ?_) (fun cdv A outer s H vs Q E hr h => ?_)
  · obtain ⟨a, dx, s, l, el, f, ls, c, kvs, rfl, _⟩ := h; rfl
  · obtain ⟨a, dx, sf, l, el, f, ls, c, kvs, rfl, ha, hE, h0, hz, hf, hL, hl, hzl, hc, hm, hF, hzk, k1, k2, k3⟩ := h
    refine ⟨_, ((pss_cons (ps_if (pt_cmp (pc_isN (pe_fld (pv 1) rfl))) (pss_cons (ps_expr (RX.pe_ms0 (pv 0) T.clStore (T.mt 110) G_Freezing_check_room (hr.mono (by decide)) B_Freezing_check_room_1 (RXe.passNx (L2N.takes_of rfl rfl rfl rfl)))) (pss_cons (ps_fld (pv 1) (pe_fld (pv 0) rfl) rfl) (pss_cons (ps_dput (hu_of hr) (pe_fld (pv 0) rfl) (pe_fld (pv 0) rfl) (pv 1) rfl) (pss_one (ps_fld (pv 0) (RX.pe_cs G_on (hr.mono (by decide)) (T.glo 1) F_on.kp B_on_2_ring RX.passS0 (pa_cons (pe_fld (pv 0) rfl) (pa_cons pe_int pa_nil)) (pk_cons (pe_fld (pv 0) rfl) pk_nil)) rfl))))) pss_nil) (pss_one (ps_ret (pe_fld (pv 1) rfl))))), ?_⟩
    have hll := hl l hm
    unfold Lk.there at hll
    obtain ⟨ln, la, ldx, ⟨f1, f2, f3, f4, fin⟩⟩ := l
    walk_at "go"
    cases f4 with
    | some n =>
      refine RX.iteB (fun hc2 => ?_) (fun hc2 => ?_)
      · simp [oI] at hc2
      · walk_at "go"
        exact k1 n rfl
    | none =>
      refine RX.iteB (fun hc2 => ?_) (fun hc2 => ?_)
      · have k2' := k2 rfl
        have k3' := k3 rfl
        have hzz : kvs.length < sizeLine := Nat.lt_of_lt_of_le hzk (by decide)
        walk_at "go"
        refine ⟨fun hr0 H2 e2 => ?_, k2'⟩
        have ha2 := e2 _ _ ha
        have hl2 := e2 _ _ hll
        have hF2 := e2 _ _ hF
        have n1 : a ≠ la := fun z => by
          rw [z, hll] at ha
          have z2 := congrArg (fun o : Option HO => match o with | some (.ins _ _ fs) => fs.length | _ => 0) ha
          exact absurd z2 (by show (5 : Nat) ≠ 11; decide)
        have n2 : sf.aF ≠ la := fun z => by rw [z, hll] at hF; cases hF
        have n3 : sf.aF ≠ a := fun z => by rw [z, ha] at hF; cases hF
        let H3 := upd H2 la (.ins (CL K) ldx (putF "looker_number" (V.int sf.next) (LF.mk f1 f2 f3 none fin).l))
        have ha3 : H3 a = some (.ins (CS K) dx sf.l) := by show upd H2 la _ a = _; rw [upd_ne n1]; exact ha2
        have hF3 : H3 sf.aF = some (.dK kvs) := by show upd H2 la _ sf.aF = _; rw [upd_ne n2]; exact hF2
        have hl3 : H3 la = some (.ins (CL K) ldx (LF.mk f1 f2 f3 (some sf.next) fin).l) := by show upd H2 la _ la = _; rw [LF.put_num]; exact upd_same
        let H4 := upd H3 sf.aF (.dK (putK kvs (.inl sf.next) (.ref la)))
        have ha4 : H4 a = some (.ins (CS K) dx sf.l) := by show upd H3 sf.aF _ a = _; rw [upd_ne (Ne.symm n3)]; exact ha3
        let H5 := upd H4 a (.ins (CS K) dx (putF "book_next" (V.int ((sf.next + 1) % sf.ring)) sf.l))
        have hl5 : H5 la = some (.ins (CL K) ldx (LF.mk f1 f2 f3 (some sf.next) fin).l) := by show upd H4 a _ la = _; rw [upd_ne (Ne.symm n1)]; show upd H3 sf.aF _ la = _; rw [upd_ne (Ne.symm n2)]; exact hl3
        have fin5 : Q (.int sf.next) H5 := by
          refine k3' hr0 H5 (fun b o m1 m2 m3 g => ?_) ?_ hl5 ?_
          · show upd H4 a _ b = _
            rw [upd_ne m1]
            show upd H3 sf.aF _ b = _
            rw [upd_ne m3]
            show upd H2 la _ b = _
            rw [upd_ne m2]
            exact e2 _ _ g
          · show upd H4 a _ a = _
            rw [SF.put_next]
            exact upd_same
          · show upd H4 a _ sf.aF = _
            rw [upd_ne n3]
            exact upd_same
        walk_at "go"
        refine ⟨RX.dput_K (k := .inl sf.next) hF3 hzz, ?_⟩
        walk_at "go"
        exact fin5
      · simp [oI] at hc2
end
section
theorem ixNat {n j : Nat} (hj : j < n) : ixN n (j : Int) = some j := by
  unfold ixN
  rw [if_pos (by omega), if_pos (by omega)]
  rfl
variable {P : Program} {w : World} {K : PySem.W.Frag} {mg : Str → Option Value} {base : Heap}
def sp_Deeds_end_version (K : PySem.W.Frag) : Sp := fun vs H Q _ => ∃ (a dx tl p : Addr) (s : SF) (tb : Str) (i : Nat) (n : Int) (vl : List V) (ver : Ver), vs = [.ref a, .str tb, .int i, .int n] ∧ H a = some (.ins (CS K) dx s.l) ∧ DGet H s.aT (.str tb) (some (.ref tl)) ∧
  H tl = some (.lst vl) ∧ vl[i]? = some (.ref p) ∧ SqT K H p ver.l ∧ ∀ p', H p' = none → Q .non (upd (upd H p' (.tup { ver with ender := some n }.l)) tl (.lst (vl.set i (.ref p'))))
theorem sc_Deeds_end_version : FnScope ["self", "table", "place", "number", "key", "worth", "maker", "ender"] ["self", "table", "place", "number"] (defScope s_Deeds_end_version) := ⟨rfl, rfl, rfl, by decide +kernel, rfl, by decide +kernel, by decide +kernel⟩
theorem ok_Deeds_end_version {fd : FuncData} (T : Txt K mg) (F : FnD K d_Deeds_end_version fd) : FnOk P w K mg base CX0 1 (He.fAd K d_Deeds_end_version.at_) fd ["self", "table", "place", "number"] (sp_Deeds_end_version K) := by
  refine F.ok sc_Deeds_end_version (fun vs H Q E h => ?_) (fun cdv A outer s H vs Q E hr h => ?_)
  · obtain ⟨a, dx, tl, p, s, tb, i, n, vl, ver, rfl, _⟩ := h; rfl
  · obtain ⟨a, dx, tl, p, sf, tb, i, n, vl, ver, rfl, ha, hT, hl, hi, hp, k⟩ := h
    refine ⟨_, (PSs.nox (pss_cons (ps_asg (pe_ix ix_list (pe_dget (hu_of hr) (pe_fld (pv 0) rfl) (pv 1) (fun _ _ => rfl)) (pv 2) (fun _ _ => rfl)) (pg_tup rfl (pgs_cons (pg_name (i := 4) sc_Deeds_end_version.nd rfl (Or.inl rfl)) (pgs_cons (pg_name (i := 5) sc_Deeds_end_version.nd rfl (Or.inl rfl)) (pgs_cons (pg_name (i := 6) sc_Deeds_end_version.nd rfl (Or.inl rfl)) (pgs_cons (pg_name (i := 7) sc_Deeds_end_version.nd rfl (Or.inl rfl)) pgs_nil)))))) (pss_one (ps_asg (pe_tup (pa_cons (pv 4) (pa_cons (pv 5) (pa_cons (pv 6) (pa_cons (pv 3) pa_nil))))) (pg_sub (pe_dget (hu_of hr) (pe_fld (pv 0) rfl) (pv 1) (fun _ _ => rfl)) (pv 2) set_list))))), ?_⟩
    have hp' : SqT K H p [.str ver.key, ver.worth, oI ver.maker, oI ver.ender] := hp
    walk_at "go"
    refine ⟨atI_nat hi, ?_⟩
    walk_at "go"
    rename_i q hq
    have hT2 := RX.dget_same (RX.same_new (o := .tup [V.str ver.key, ver.worth, oI ver.maker, V.int n]) hq) hT
    have hl2 := RX.up_ne (o := .tup [V.str ver.key, ver.worth, oI ver.maker, V.int n]) hq hl
    have hlt : i < vl.length := (List.getElem?_eq_some_iff.mp hi).1
    refine ⟨hT2, ?_⟩
    walk_at "go"
    exact ⟨ixNat hlt, k q hq⟩
def sp_Deeds_end_deed (K : PySem.W.Frag) : Sp := fun vs H Q _ => ∃ (a dx : Addr) (s : SF) (n z : Str) (ls : List Lk) (l : Lk) (log : List V), vs = [.ref a, .str n, .str z] ∧ H a = some (.ins (CS K) dx s.l) ∧ s.busy = false ∧ H s.aL = some (.dK (lkK ls)) ∧ (∀ l ∈ ls, l.there K H) ∧ n.length ≤ 100 ∧ z.length ≤ 100 ∧
  isW n = true ∧ lkG ls n = some l ∧ l ∈ ls ∧ l.f.fin = none ∧ l.f.sort = Str.ofString "deed" ∧ H s.aG = some (.lst log) ∧ log.length < sizeLine ∧
  ∀ H2 zz, Same H H2 → Q .non (upd (upd H2 l.a (.ins (CL K) l.dx { l.f with fin := some z }.l)) s.aG (.lst (log ++ [.str zz])))
theorem sc_Deeds_end_deed : FnScope ["self", "name", "end", "looker"] ["self", "name", "end"] (defScope s_Deeds_end_deed) := ⟨rfl, rfl, rfl, by decide +kernel, rfl, by decide +kernel, by decide +kernel⟩
theorem ok_Deeds_end_deed {fd : FuncData} (T : Txt K mg) (F : FnD K d_Deeds_end_deed fd) : FnOk P w K mg base CX0 4 (He.fAd K d_Deeds_end_deed.at_) fd ["self", "name", "end"] (sp_Deeds_end_deed K) := by
  obtain ⟨fd_Deeds_look_free, F_Deeds_look_free⟩ := T.fn 40 (d := d_Deeds_look_free)
  have G_Deeds_look_free := ok_Deeds_look_free (P := P) (w := w) (base := base) T F_Deeds_look_free
  have B_Deeds_look_free_1 : KBn K fd_Deeds_look_free ["self"] 1 [] (fun us ws => us ++ ws) (fun us ws => us ++ ws) := RX.kb0 F_Deeds_look_free 1 [] (fun us ws => us ++ ws) (fun a b => a.append b) (fun _ _ _ _ _ _ us ws h1 h2 => match us, ws, h1, h2 with | [_], [], _, _ => rfl)
  obtain ⟨fd_Deeds_deed_of, F_Deeds_deed_of⟩ := T.fn 51 (d := d_Deeds_deed_of)
  have G_Deeds_deed_of := ok_Deeds_deed_of (P := P) (w := w) (base := base) T F_Deeds_deed_of
  have B_Deeds_deed_of_2 : KBn K fd_Deeds_deed_of ["self", "name"] 2 [] (fun us ws => us ++ ws) (fun us ws => us ++ ws) := RX.kb0 F_Deeds_deed_of 2 [] (fun us ws => us ++ ws) (fun a b => a.append b) (fun _ _ _ _ _ _ us ws h1 h2 => match us, ws, h1, h2 with | [_, _], [], _, _ => rfl)
  obtain ⟨fd_Deeds_note, F_Deeds_note⟩ := T.fn 42 (d := d_Deeds_note)
  have G_Deeds_note := ok_Deeds_note (P := P) (w := w) (base := base) T F_Deeds_note
  have B_Deeds_note_2 : KBn K fd_Deeds_note ["self", "row"] 2 [] (fun us ws => us ++ ws) (fun us ws => us ++ ws) := RX.kb0 F_Deeds_note 2 [] (fun us ws => us ++ ws) (fun a b => a.append b) (fun _ _ _ _ _ _ us ws h1 h2 => match us, ws, h1, h2 with | [_, _], [], _, _ => rfl)
  refine F.ok sc_Deeds_end_deed (fun vs H Q E h => ?_) (fun cdv A outer s H vs Q E hr h => ?_)
  · obtain ⟨a, dx, s, n, z, ls, l, log, rfl, _⟩ := h; rfl
  · obtain ⟨a, dx, sf, n, z, ls, l, log, rfl, ha, hb, hL, hl, hn, hz, hw, hg, hm, hf, hs, hG, hgz, k⟩ := h
    refine ⟨_, (PSs.nox (pss_cons (ps_expr (RX.pe_ms0 (pv 0) T.clStore (T.mt 119) G_Deeds_look_free (hr.mono (by decide)) B_Deeds_look_free_1 RX.passS0)) (pss_cons (ps_set (i := 3) sc_Deeds_end_deed.nd rfl (Or.inl rfl) (RX.pe_ms (pv 0) T.clStore (T.mt 129) G_Deeds_deed_of (hr.mono (by decide)) B_Deeds_deed_of_2 RX.passS0 (pa_cons (pv 1) pa_nil) pk_nil)) (pss_cons (ps_fld (pv 3) (pv 2) rfl) (pss_one (ps_expr (RX.pe_ms (pv 0) T.clStore (T.mt 120) G_Deeds_note (hr.mono (by decide)) B_Deeds_note_2 RX.passS0 (pa_cons (pe_joined (PJ.cons (pe_fmt (pv 2)) (PJ.cons pe_str (PJ.cons (pe_fmt (pv 1)) PJ.nil)))) pa_nil) pk_nil))))))), ?_⟩
    have hll := hl l hm
    unfold Lk.there at hll
    have n1 : a ≠ l.a := fun z => by
      rw [z, hll] at ha
      have z2 := congrArg (fun o : Option HO => match o with | some (.ins _ _ fs) => fs.length | _ => 0) ha
      exact absurd z2 (by show (5 : Nat) ≠ 11; decide)
    have n2 : sf.aG ≠ l.a := fun z => by rw [z, hll] at hG; cases hG
    have hb0 : (Str.empty ++ z).length ≤ sizeLine := len_le (len_app 50 100 (by decide +kernel) hz (by decide))
    have hb1 : (Str.empty ++ z ++ Str.ofString " ").length ≤ sizeLine := len_le (len_app 200 50 (Nat.le_trans (by rw [PySem.Str.length_append]; exact Nat.add_le_add (by decide +kernel : Str.empty.length ≤ 50) hz) (by decide)) (by decide +kernel) (by decide))
    have hb2 : (Str.empty ++ z ++ Str.ofString " " ++ n).length ≤ sizeLine := len_le (len_app 300 100 (by rw [PySem.Str.length_append, PySem.Str.length_append]; exact Nat.le_trans (Nat.add_le_add (Nat.add_le_add (by decide +kernel : Str.empty.length ≤ 50) hz) (by decide +kernel : (Str.ofString " ").length ≤ 50)) (by decide)) hn (by decide))
    have hzz : z.length ≤ sizeLine := Nat.le_trans hz (by decide)
    have hnz : n.length ≤ sizeLine := Nat.le_trans hn (by decide)
    walk_at "go"
    rename_i H2 e2
    have ha2 := e2 _ _ ha
    have hl2 := e2 _ _ hll
    have hG2 := e2 _ _ hG
    have ha3 : upd H2 l.a (.ins (CL K) l.dx (putF "looker_end" (.str z) l.f.l)) a = some (.ins (CS K) dx sf.l) := by rw [upd_ne n1]; exact ha2
    have hG3 : upd H2 l.a (.ins (CL K) l.dx (putF "looker_end" (.str z) l.f.l)) sf.aG = some (.lst log) := by rw [upd_ne n2]; exact hG2
    walk_at "go"
    have k' := k H2 (Str.empty ++ z ++ Str.ofString " " ++ n) e2
    rw [← LF.put_fin] at k'
    exact k'
def sp_Deeds_done (K : PySem.W.Frag) : Sp := fun vs H Q _ => ∃ (a dx : Addr) (s : SF) (n : Str) (ls : List Lk) (l : Lk) (log : List V), vs = [.ref a, .str n] ∧ H a = some (.ins (CS K) dx s.l) ∧ s.busy = false ∧ H s.aL = some (.dK (lkK ls)) ∧ (∀ l ∈ ls, l.there K H) ∧ n.length ≤ 100 ∧
  isW n = true ∧ lkG ls n = some l ∧ l ∈ ls ∧ l.f.fin = none ∧ l.f.sort = Str.ofString "deed" ∧ H s.aG = some (.lst log) ∧ log.length < sizeLine ∧
  ∀ H2 zz, Same H H2 → Q .non (upd (upd H2 l.a (.ins (CL K) l.dx { l.f with fin := some "done" }.l)) s.aG (.lst (log ++ [.str zz])))
theorem sc_Deeds_done : FnScope ["self", "name"] ["self", "name"] (defScope s_Deeds_done) := ⟨rfl, rfl, rfl, by decide +kernel, rfl, by decide +kernel, by decide +kernel⟩
theorem ok_Deeds_done {fd : FuncData} (T : Txt K mg) (F : FnD K d_Deeds_done fd) : FnOk P w K mg base CX0 5 (He.fAd K d_Deeds_done.at_) fd ["self", "name"] (sp_Deeds_done K) := by
  obtain ⟨fd_Deeds_end_deed, F_Deeds_end_deed⟩ := T.fn 64 (d := d_Deeds_end_deed)
  have G_Deeds_end_deed := ok_Deeds_end_deed (P := P) (w := w) (base := base) T F_Deeds_end_deed
  have B_Deeds_end_deed_3 : KBn K fd_Deeds_end_deed ["self", "name", "end"] 3 [] (fun us ws => us ++ ws) (fun us ws => us ++ ws) := RX.kb0 F_Deeds_end_deed 3 [] (fun us ws => us ++ ws) (fun a b => a.append b) (fun _ _ _ _ _ _ us ws h1 h2 => match us, ws, h1, h2 with | [_, _, _], [], _, _ => rfl)
  obtain ⟨t_DONE_deedbook, g_DONE_deedbook⟩ := T.str 80 (x := "DONE_deedbook") (z := "done")
  refine F.ok sc_Deeds_done (fun vs H Q E h => ?_) (fun cdv A outer s H vs Q E hr h => ?_)
  · obtain ⟨a, dx, s, n, ls, l, log, rfl, _⟩ := h; rfl
  · obtain ⟨a, dx, sf, n, ls, l, log, rfl, ha, hb, hL, hl, hn, hw, hg, hm, hf, hs, hG, hgz, k⟩ := h
    refine ⟨_, (PSs.nox (pss_one (ps_expr (RX.pe_ms (pv 0) T.clStore (T.mt 142) G_Deeds_end_deed (hr.mono (by decide)) B_Deeds_end_deed_3 RX.passS0 (pa_cons (pv 1) (pa_cons (pe_glob (v := .str "done") rfl g_DONE_deedbook ⟨_, rfl⟩) pa_nil)) pk_nil)))), ?_⟩
    have hz : (Str.ofString "done").length ≤ 100 := by decide +kernel
    walk_at "go"
    rename_i H2 zz e2
    exact k _ _ e2
end
section
variable {P : Program} {w : World} {K : PySem.W.Frag} {mg : Str → Option Value} {base : Heap}
/-- the deeds of the fates' book: numbers, lookers -/
def fkK (fs : List (Int × Lk)) : List (Key × V) := fs.map fun e => (.inl e.1, .ref e.2.a)
def fkG (fs : List (Int × Lk)) (n : Int) : Option Lk := (fs.find? fun e => decide (e.1 = n)).map (·.2)
theorem fk_val (fs : List (Int × Lk)) (n : Int) : valV (fkK fs) (.inl n) = (fkG fs n).map fun l => V.ref l.a := by
  unfold valV fkK fkG
  induction fs with
  | nil => rfl
  | cons p r ih =>
    by_cases h : p.1 = n
    · simp [List.find?, h]
    · simpa [List.find?, h] using ih
theorem dget_fk {H : Hp} {aF : Addr} {fs : List (Int × Lk)} {n : Int} {l : Lk} (h : H aF = some (.dK (fkK fs))) (g : fkG fs n = some l) : DGet H aF (.int n) (some (.ref l.a)) := .inl ⟨_, .inl n, .inl h, rfl, by rw [fk_val, g]; rfl⟩
def sp_Deeds_check_others (K : PySem.W.Frag) : Sp := fun vs H Q _ => ∃ (a dx q : Addr) (s : SF) (l : Lk) (key : Str) (b : Addr) (ns : List Int) (fs : List (Int × Lk)) (c : Int), vs = [.ref a, .ref l.a, .str key, .ref b] ∧ H a = some (.ins (CS K) dx s.l) ∧ l.there K H ∧ SqL K H b (ns.map V.int) ∧ ns.length ≤ sizeLine ∧ H s.aF = some (.dK (fkK fs)) ∧ (∀ e ∈ fs, e.2.there K H) ∧ 0 < s.ring ∧
  SqT K H l.f.look [.int c, .ref q] ∧ SqT K H q [] ∧ (∀ n ∈ ns, ∃ m, fkG fs n = some m ∧ (∃ e ∈ fs, e.2 = m) ∧ (m.f.fin = none → m.f.name = l.f.name) ∧ (m.f.fin = some (Str.ofString "done") → bef s.ring n c = true)) ∧ ∀ H', Same H H' → Q .non H'
theorem sc_Deeds_check_others : FnScope ["self", "looker", "key", "numbers", "number", "other"] ["self", "looker", "key", "numbers"] (defScope s_Deeds_check_others) := ⟨rfl, rfl, rfl, by decide +kernel, rfl, by decide +kernel, by decide +kernel⟩
theorem ok_Deeds_check_others {fd : FuncData} (T : Txt K mg) (F : FnD K d_Deeds_check_others fd) : FnOk P w K mg base CX0 4 (He.fAd K d_Deeds_check_others.at_) fd ["self", "looker", "key", "numbers"] (sp_Deeds_check_others K) := by
  obtain ⟨fd_sees, F_sees⟩ := T.fn 11 (d := d_sees)
  have G_sees := ok_sees (P := P) (w := w) (base := base) T F_sees
  have B_sees_3_ring : KBn K fd_sees ["look", "number", "fate", "ring"] 3 ["ring"] (fun us ws => us ++ ws) (fun us ws => us ++ ws) := RX.kb0 F_sees 3 ["ring"] (fun us ws => us ++ ws) (fun a b => a.append b) (fun _ _ _ _ _ _ us ws h1 h2 => match us, ws, h1, h2 with | [_, _, _], [_], _, _ => rfl)
  obtain ⟨t_DONE_deedbook, g_DONE_deedbook⟩ := T.str 80 (x := "DONE_deedbook") (z := "done")
  obtain ⟨fd_Deeds_fate_of, F_Deeds_fate_of⟩ := T.fn 54 (d := d_Deeds_fate_of)
  have G_Deeds_fate_of := ok_Deeds_fate_of (P := P) (w := w) (base := base) T F_Deeds_fate_of
  have B_Deeds_fate_of_2 : KBn K fd_Deeds_fate_of ["self", "number"] 2 [] (fun us ws => us ++ ws) (fun us ws => us ++ ws) := RX.kb0 F_Deeds_fate_of 2 [] (fun us ws => us ++ ws) (fun a b => a.append b) (fun _ _ _ _ _ _ us ws h1 h2 => match us, ws, h1, h2 with | [_, _], [], _, _ => rfl)
  refine F.ok sc_Deeds_check_others (fun vs H Q E h => ?_) (fun cdv A outer s H vs Q E hr h => ?_)
  · obtain ⟨a, dx, q, s, l, key, b, ns, fs, c, rfl, _⟩ := h; rfl
  · obtain ⟨a, dx, q, sf, l, key, b, ns, fs, c, rfl, ha, hl, hb, hz, hF, hfs, h0, hc, hq, hn, k⟩ := h
    refine ⟨_, (PSs.nox (pss_cons (ps_for PassesOwn.never rfl (pi_list (pv 3)) (pg_name (i := 4) sc_Deeds_check_others.nd rfl (Or.inl rfl)) (pss_cons (ps_set (i := 5) sc_Deeds_check_others.nd rfl (Or.inl rfl) (pe_dget (hu_of hr) (pe_fld (pv 0) rfl) (pv 4) (fun _ _ => rfl))) (pss_one (ps_if (PW.pt (pw_and (pt_cmp (pc_isN (pe_fld (pv 5) rfl))) (pw_and1 (pt_cmpR op_ne (pe_fld (pv 5) rfl) (pe_fld (pv 1) rfl) (nomark _))))) (pss_one ps_never) pss_nil)))) (pss_one (ps_for PassesOwn.never rfl (pi_list (pv 3)) (pg_name (i := 4) sc_Deeds_check_others.nd rfl (Or.inl rfl)) (pss_one (ps_if (PW.pt (pw_and (pt_cmpR op_eq (RX.pe_ms (pv 0) T.clStore (T.mt 132) G_Deeds_fate_of (hr.mono (by decide)) B_Deeds_fate_of_2 RX.passS0 (pa_cons (pv 4) pa_nil) pk_nil) (pe_glob (v := .str "done") rfl g_DONE_deedbook ⟨_, rfl⟩) (nomark _)) (pw_and1 (pt_not (pt_val (RX.pe_cs G_sees (hr.mono (by decide)) (T.glo 11) F_sees.kp B_sees_3_ring RX.passS0 (pa_cons (pe_fld (pv 1) rfl) (pa_cons (pv 4) (pa_cons (pe_glob (v := .str "done") rfl g_DONE_deedbook ⟨_, rfl⟩) pa_nil))) (pk_cons (pe_fld (pv 0) rfl) pk_nil))))))) (pss_one ps_never) pss_nil)))))), ?_⟩
    walk_at "go"
    unfold Lk.there at hl
    refine for_list (xs := ns.map V.int) (fun i σ H' => RX.Box (Same H H' ∧ ∃ o o2, σ = [some (.ref a), some (.ref l.a), some (.str key), some (.ref b), o, o2])) ⟨⟨Same.refl _, none, none, rfl⟩⟩ (fun i σ H' hi ⟨⟨e, _⟩⟩ => e.seq hb) (fun i x σ H' hi ⟨⟨e, o, o2, hσ⟩⟩ => ?_) (fun σ H' ⟨⟨e, o, o2, hσ⟩⟩ => ?_)
    · subst hσ
      rw [List.getElem?_map] at hi
      obtain ⟨y, hy, rfl⟩ := Option.map_eq_some_iff.mp hi
      obtain ⟨m, hm, ⟨⟨e0, m0⟩, hm2, rfl⟩, hm3, hm4⟩ := hn y (List.mem_of_getElem? hy)
      have hmt := hfs _ hm2
      unfold Lk.there at hmt
      have hmt2 := e _ _ hmt
      have hl2 := e _ _ hl
      have hg2 := RX.dget_same e (dget_fk hF hm)
      obtain ⟨mn, ma, mdx, ⟨f1, f2, f3, f4, fin⟩⟩ := m0
      walk_at "go"
      cases fin with
      | some z =>
        refine RX.iteB (fun hc2 => ?_) (fun hc2 => ?_)
        · simp [oS] at hc2
        · exact ⟨⟨e, _, _, rfl⟩⟩
      | none =>
        refine RX.iteB (fun hc2 => ?_) (fun hc2 => ?_)
        · have hnm := hm3 rfl
          walk_at "go"
          refine RX.iteB (fun hc3 => ?_) (fun hc3 => ?_)
          · have hnm2 : f1 = l.f.name := hnm
            subst hnm2
            exact absurd hc3 (by simp)
          · exact ⟨⟨e, _, _, rfl⟩⟩
        · simp [oS] at hc2
    · subst hσ
      have hb2 := e.seq hb
      walk_at "go"
      refine for_list (xs := ns.map V.int) (fun i σ H' => RX.Box (Same H H' ∧ ∃ o o2, σ = [some (.ref a), some (.ref l.a), some (.str key), some (.ref b), o, o2])) ⟨⟨e, _, _, rfl⟩⟩ (fun i σ H' hi ⟨⟨e, _⟩⟩ => e.seq hb) (fun i x σ H' hi ⟨⟨e, o, o2, hσ⟩⟩ => ?_) (fun σ H' ⟨⟨e, o, o2, hσ⟩⟩ => ?_)
      · subst hσ
        rw [List.getElem?_map] at hi
        obtain ⟨y, hy, rfl⟩ := Option.map_eq_some_iff.mp hi
        obtain ⟨m, hm, ⟨⟨e0, m0⟩, hm2, rfl⟩, hm3, hm4⟩ := hn y (List.mem_of_getElem? hy)
        have hmt := hfs _ hm2
        unfold Lk.there at hmt
        have hmt2 := e _ _ hmt
        have hl2 := e _ _ hl
        have hg2 := RX.dget_same e (dget_fk hF hm)
        have hc2 := RX.same_sqT e hc
        have hq2 : SqT K H' q (([] : List Int).map V.int) := RX.same_sqT e hq
        obtain ⟨mn, ma, mdx, ⟨f1, f2, f3, f4, fin⟩⟩ := m0
        walk_at "go"
        refine RX.iteB (fun hc3 => ?_) (fun hc3 => ?_)
        · have hfd : fin = some (Str.ofString "done") := by
            cases fin with
            | none => exact absurd (hc3 : decide (V.str (Str.ofString "open") = V.str (Str.ofString "done")) = true) (by simp; decide +kernel)
            | some z => simpa using hc3
          have hbf : bef sf.ring y c = true := hm4 hfd
          walk_at "go"
          refine RX.iteB (fun hc4 => ?_) (fun hc4 => ?_)
          · exact absurd hc4 (by simp [hbf])
          · exact ⟨⟨e, _, _, rfl⟩⟩
        · exact ⟨⟨e, _, _, rfl⟩⟩
      · exact k _ e
end
section
variable {P : Program} {w : World} {K : PySem.W.Frag} {mg : Str → Option Value} {base : Heap}
def fkE (fs : List (Int × Lk)) : Option Int → List (Key × V)
  | none => []
  | some n => [(.inl n, .str ((((fkG fs n).map fun l => l.f.fin.getD "open").getD "")))]
theorem fkE_some {fs : List (Int × Lk)} {n : Int} {m : Lk} (h : fkG fs n = some m) : fkE fs (some n) = [(.inl n, .str (m.f.fin.getD "open"))] := by show [(Sum.inl n, V.str ((Option.map (fun l : Lk => l.f.fin.getD (Str.ofString "open")) (fkG fs n)).getD (Str.ofString "")))] = _; rw [h]; rfl
def fbP (d : Fb) (n : Int) (z : Str) : Fb := if (d.any fun p => decide (p.1 = n)) = true then d.map (fun p => if p.1 = n then (p.1, z) else p) else d ++ [(n, z)]
theorem fb_put (d : Fb) (n : Int) (z : Str) : putK (fbK d) (.inl n) (.str z) = fbK (fbP d n z) := by
  have e : ((fbK d).any fun kv => decide (kv.1 = .inl n)) = d.any fun p => decide (p.1 = n) := by
    unfold fbK
    rw [List.any_map]
    congr 1
    funext p
    simp
  unfold putK fbP
  rw [e]
  split
  · unfold fbK
    rw [List.map_map, List.map_map]
    apply List.map_congr_left
    intro p _
    by_cases h : p.1 = n <;> simp [h]
  · unfold fbK
    rw [List.map_append]
    rfl
theorem fb_has {d : Fb} {n m : Int} {z : Str} (h : n = m ∨ (fbG d m).isSome = true) : (fbG (fbP d n z) m).isSome = true := by
  have e := fb_val (fbP d n z) m
  rw [← fb_put, valV_put] at e
  by_cases q : m = n
  · rw [if_pos (by rw [q])] at e
    cases g : fbG (fbP d n z) m with
    | none => rw [g] at e; cases e
    | some _ => rfl
  · rw [if_neg (by intro x; exact q (Sum.inl.inj x)), fb_val] at e
    rcases h with h | h
    · exact absurd h.symm q
    · cases g : fbG (fbP d n z) m with
      | some _ => rfl
      | none =>
        rw [g] at e
        cases g2 : fbG d m with
        | none => rw [g2] at h; cases h
        | some _ => rw [g2] at e; cases e
def sp_Deeds_state_for (K : PySem.W.Frag) : Sp := fun vs H Q _ => ∃ (a dx v q : Addr) (s : SF) (l : Lk) (ver : Ver) (fs : List (Int × Lk)) (c : Int), vs = [.ref a, .ref l.a, .ref v] ∧ H a = some (.ins (CS K) dx s.l) ∧ l.there K H ∧ H s.aF = some (.dK (fkK fs)) ∧ (∀ e ∈ fs, e.2.there K H) ∧ 0 < s.ring ∧
  SqT K H l.f.look [.int c, .ref q] ∧ SqT K H q [] ∧ SqT K H v ver.l ∧ (∀ n, ver.maker = some n ∨ ver.ender = some n → ∃ m, fkG fs n = some m ∧ (∃ e ∈ fs, e.2 = m)) ∧ ∀ H' z, Same H H' → Q (.str z) H'
theorem sc_Deeds_state_for : FnScope ["self", "looker", "version", "fates", "number"] ["self", "looker", "version"] (defScope s_Deeds_state_for) := ⟨rfl, rfl, rfl, by decide +kernel, rfl, by decide +kernel, by decide +kernel⟩
theorem ok_Deeds_state_for {fd : FuncData} (T : Txt K mg) (F : FnD K d_Deeds_state_for fd) : FnOk P w K mg base CX0 5 (He.fAd K d_Deeds_state_for.at_) fd ["self", "looker", "version"] (sp_Deeds_state_for K) := by
  obtain ⟨fd_Deeds_fate_of, F_Deeds_fate_of⟩ := T.fn 54 (d := d_Deeds_fate_of)
  have G_Deeds_fate_of := ok_Deeds_fate_of (P := P) (w := w) (base := base) T F_Deeds_fate_of
  have B_Deeds_fate_of_2 : KBn K fd_Deeds_fate_of ["self", "number"] 2 [] (fun us ws => us ++ ws) (fun us ws => us ++ ws) := RX.kb0 F_Deeds_fate_of 2 [] (fun us ws => us ++ ws) (fun a b => a.append b) (fun _ _ _ _ _ _ us ws h1 h2 => match us, ws, h1, h2 with | [_, _], [], _, _ => rfl)
  obtain ⟨fd_state_by, F_state_by⟩ := T.fn 12 (d := d_state_by)
  have G_state_by := ok_state_by (P := P) (w := w) (base := base) T F_state_by
  have B_state_by_5 : KBn K fd_state_by ["version", "look", "fate_by", "own", "ring"] 5 [] (fun us ws => us ++ ws) (fun us ws => us ++ ws) := RX.kb0 F_state_by 5 [] (fun us ws => us ++ ws) (fun a b => a.append b) (fun _ _ _ _ _ _ us ws h1 h2 => match us, ws, h1, h2 with | [_, _, _, _, _], [], _, _ => rfl)
  refine F.ok sc_Deeds_state_for (fun vs H Q E h => ?_) (fun cdv A outer s H vs Q E hr h => ?_)
  · obtain ⟨a, dx, v, q, s, l, ver, fs, c, rfl, _⟩ := h; rfl
  · obtain ⟨a, dx, v, q, sf, l, ver, fs, c, rfl, ha, hl, hF, hfs, h0, hc, hq, hv, hn, k⟩ := h
    refine ⟨_, (PSs.nox (pss_cons (RX.ps_setDc (i := 3) (own := [("number", 4)]) (g := (gName 4)) rfl sc_Deeds_state_for.nd rfl rfl (RX.sw_trueD rfl rfl rfl (by decide +kernel)) (pi_tup (pe_slice sl_tupA (pv 2) (po_some pe_int) po_none)) (blkOk_by (own := [("number", 4)]) (by kernel_rfl)) (fun _ _ _ _ _ => (pg_name (i := 4) sc_Deeds_state_for.nd rfl (Or.inl rfl))) (fun _ _ _ _ _ => (pts_one (pt_cmp (pc_notN (pv 4))))) (fun _ _ _ _ _ => (pv 4)) (fun _ _ _ _ _ => (RX.pe_ms (pv 0) T.clStore (T.mt 132) G_Deeds_fate_of (hr.mono (by decide)) B_Deeds_fate_of_2 RX.passS0 (pa_cons (pv 4) pa_nil) pk_nil))) (pss_one (ps_ret (RX.pe_cs G_state_by (hr.mono (by decide)) (T.glo 12) F_state_by.kp B_state_by_5 RX.passS0 (pa_cons (pv 2) (pa_cons (pe_fld (pv 1) rfl) (pa_cons (pv 3) (pa_cons (pe_fld (pv 1) rfl) (pa_cons (pe_fld (pv 0) rfl) pa_nil))))) pk_nil))))), ?_⟩
    have hl0 := hl
    unfold Lk.there at hl0
    walk_at "go"
    refine ⟨fun z => absurd z.1 (show ¬ HT.sIx 4 0 (some 2) = 0 by decide), fun _ p hp => ?_⟩
    have hv2 : SqT K (upd H p (.tup [oI ver.maker, oI ver.ender])) p ([ver.maker, ver.ender].map oI) := SqT.of upd_same
    refine ⟨p, rfl, ⟨_, hv2⟩, fun D hD => ?_⟩
    refine RX.ld_tpl (its := [ver.maker, ver.ender]) (vf := oI) (f := fkE fs) hD (fun x => by cases x <;> simp [fkE]) (show 2 ≤ sizeLine by decide) hv2 (fun i m kvs H3 hi hz ac => ?_) (fun H3 ac => ?_)
    · cases m with
      | none =>
        walk_at "go"
        refine RX.iteB (fun hc2 => ?_) (fun hc2 => ?_)
        · simp [oI] at hc2
        · exact ac.no (Same.refl _)
      | some n =>
        have hmem : ver.maker = some n ∨ ver.ender = some n := by
          have := List.mem_of_getElem? hi
          simp only [List.mem_cons, List.not_mem_nil, or_false] at this
          rcases this with h | h
          · exact .inl h.symm
          · exact .inr h.symm
        obtain ⟨m, hm, ⟨⟨e0, m0⟩, hm2, rfl⟩⟩ := hn n hmem
        have hmt := hfs _ hm2
        unfold Lk.there at hmt
        have e3 := (RX.same_new (o := .tup [oI ver.maker, oI ver.ender]) hp).trans ac.same
        have ha3 := e3 _ _ ha
        have hm3 := e3 _ _ hmt
        have hg3 := RX.dget_same e3 (dget_fk hF hm)
        rw [fkE_some hm]
        walk_at "go"
        exact ⟨show oI (some n) = kV (Sum.inl n) from rfl, ac.at_, hz, ⟨fun b o q => by rw [upd_ne (fun z => by rw [z, hD] at q; cases q)]; exact ac.same b o q, upd_same⟩⟩
    · have e4 := (RX.same_new (o := .tup [oI ver.maker, oI ver.ender]) hp).trans ac.same
      have ha4 := e4 _ _ ha
      have hl4 := e4 _ _ hl0
      have hv4 := RX.same_sqT e4 hv
      have hc4 := RX.same_sqT e4 hc
      have hq4 : SqT K H3 q (([] : List Int).map V.int) := RX.same_sqT e4 hq
      obtain ⟨fb, hfb, hfe⟩ : ∃ fb, RX.dps [] ([ver.maker, ver.ender].flatMap (fkE fs)) = fbK fb ∧ ∀ e, ver.ender = some e → (fbG fb e).isSome = true := by
        cases hm : ver.maker with
        | none =>
          cases he : ver.ender with
          | none => exact ⟨[], rfl, fun e h => by cases h⟩
          | some y => exact ⟨fbP [] y _, fb_put [] y _, fun e h => fb_has (.inl (Option.some.inj h))⟩
        | some x =>
          cases he : ver.ender with
          | none => exact ⟨fbP [] x _, fb_put [] x _, fun e h => by cases h⟩
          | some y => exact ⟨fbP (fbP [] x _) y _, by rw [← fb_put, ← fb_put]; rfl, fun e h => fb_has (.inl (Option.some.inj h))⟩
      have hat : H3 D = some (.dK (fbK fb)) := by rw [← hfb]; exact ac.at_
      walk_at "go"
      exact k _ _ e4
end
/-- a version that the fates know, all done but the deed's own -/
def VOk (r c : Int) (l : Lk) (fs : List (Int × Lk)) (ver : Ver) : Prop := ∀ n, ver.maker = some n ∨ ver.ender = some n → ∃ m, fkG fs n = some m ∧ (∃ e ∈ fs, e.2 = m) ∧ (m.f.fin = none → m.f.name = l.f.name) ∧ (m.f.fin = some (Str.ofString "done") → bef r n c = true)
def fateG (fs : List (Int × Lk)) (n : Int) : Str := ((fkG fs n).map fun m => m.f.fin.getD (Str.ofString "open")).getD (Str.ofString "")
def pkV (fs : List (Int × Lk)) (key : Str) (v : Ver) : Bool := decide (v.key = key) && (match v.maker with
  | none => true
  | some n => !decide (fateG fs n = Str.ofString "fell"))
theorem fateG_some {fs : List (Int × Lk)} {n : Int} {m : Lk} (h : fkG fs n = some m) : fateG fs n = m.f.fin.getD (Str.ofString "open") := by unfold fateG; rw [h]; rfl
def oV : Option Int → List V
  | none => []
  | some n => [.int n]
def Ver.ns (v : Ver) : List Int := v.maker.toList ++ v.ender.toList
theorem ver_ns (v : Ver) : [v.maker, v.ender].flatMap oV = v.ns.map V.int := by
  obtain ⟨k, w, m, e⟩ := v
  cases m <;> cases e <;> rfl
theorem ns_len (v : Ver) : v.ns.length ≤ 2 := by
  obtain ⟨k, w, m, e⟩ := v
  cases m <;> cases e <;> simp [Ver.ns]
theorem ns_mem {v : Ver} {n : Int} (h : n ∈ v.ns) : v.maker = some n ∨ v.ender = some n := by
  unfold Ver.ns at h
  rcases List.mem_append.mp h with h | h
  · exact .inl (by simpa using h)
  · exact .inr (by simpa using h)
theorem there_same5 {K : PySem.W.Frag} {H H' : Hp} {fs : List (Int × Lk)} (e : Same H H') (h : ∀ l ∈ fs, l.2.there K H) : ∀ l ∈ fs, l.2.there K H' := fun l hl => e _ _ (h l hl)
section
variable {P : Program} {w : World} {K : PySem.W.Frag} {mg : Str → Option Value} {base : Heap}
def sp_Deeds_place_seen (K : PySem.W.Frag) : Sp := fun vs H Q _ => ∃ (a dx tl q : Addr) (s : SF) (l : Lk) (tb key : Str) (vers : List (Addr × Ver)) (fs : List (Int × Lk)) (c : Int), vs = [.ref a, .ref l.a, .str tb, .str key] ∧ H a = some (.ins (CS K) dx s.l) ∧ l.there K H ∧ H s.aF = some (.dK (fkK fs)) ∧ (∀ e ∈ fs, e.2.there K H) ∧ 0 < s.ring ∧
  SqT K H l.f.look [.int c, .ref q] ∧ SqT K H q [] ∧ DGet H s.aT (.str tb) (some (.ref tl)) ∧ H tl = some (.lst (vers.map fun e => V.ref e.1)) ∧ vers.length ≤ 1000 ∧ (∀ e ∈ vers, SqT K H e.1 e.2.l ∧ VOk s.ring c l fs e.2) ∧ (∀ H', Same H H' → Q .non H') ∧ ∀ H' (i : Nat), i < vers.length → Same H H' → Q (.int i) H'
theorem sc_Deeds_place_seen : FnScope ["self", "looker", "table", "key", "places", "place", "name", "worth", "maker", "ender", "versions", "version", "one", "found"] ["self", "looker", "table", "key"] (defScope s_Deeds_place_seen) := ⟨rfl, rfl, rfl, by decide +kernel, rfl, by decide +kernel, by decide +kernel⟩
theorem ok_Deeds_place_seen {fd : FuncData} (T : Txt K mg) (F : FnD K d_Deeds_place_seen fd) : FnOk P w K mg base CX0 6 (He.fAd K d_Deeds_place_seen.at_) fd ["self", "looker", "table", "key"] (sp_Deeds_place_seen K) := by
  obtain ⟨fd_Deeds_fate_of, F_Deeds_fate_of⟩ := T.fn 54 (d := d_Deeds_fate_of)
  have G_Deeds_fate_of := ok_Deeds_fate_of (P := P) (w := w) (base := base) T F_Deeds_fate_of
  have B_Deeds_fate_of_2 : KBn K fd_Deeds_fate_of ["self", "number"] 2 [] (fun us ws => us ++ ws) (fun us ws => us ++ ws) := RX.kb0 F_Deeds_fate_of 2 [] (fun us ws => us ++ ws) (fun a b => a.append b) (fun _ _ _ _ _ _ us ws h1 h2 => match us, ws, h1, h2 with | [_, _], [], _, _ => rfl)
  obtain ⟨t_FELL_deedbook, g_FELL_deedbook⟩ := T.str 81 (x := "FELL_deedbook") (z := "fell")
  obtain ⟨fd_Deeds_check_others, F_Deeds_check_others⟩ := T.fn 58 (d := d_Deeds_check_others)
  have G_Deeds_check_others := ok_Deeds_check_others (P := P) (w := w) (base := base) T F_Deeds_check_others
  have B_Deeds_check_others_4 : KBn K fd_Deeds_check_others ["self", "looker", "key", "numbers"] 4 [] (fun us ws => us ++ ws) (fun us ws => us ++ ws) := RX.kb0 F_Deeds_check_others 4 [] (fun us ws => us ++ ws) (fun a b => a.append b) (fun _ _ _ _ _ _ us ws h1 h2 => match us, ws, h1, h2 with | [_, _, _, _], [], _, _ => rfl)
  obtain ⟨fd_Deeds_state_for, F_Deeds_state_for⟩ := T.fn 57 (d := d_Deeds_state_for)
  have G_Deeds_state_for := ok_Deeds_state_for (P := P) (w := w) (base := base) T F_Deeds_state_for
  have B_Deeds_state_for_3 : KBn K fd_Deeds_state_for ["self", "looker", "version"] 3 [] (fun us ws => us ++ ws) (fun us ws => us ++ ws) := RX.kb0 F_Deeds_state_for 3 [] (fun us ws => us ++ ws) (fun a b => a.append b) (fun _ _ _ _ _ _ us ws h1 h2 => match us, ws, h1, h2 with | [_, _, _], [], _, _ => rfl)
  refine F.ok sc_Deeds_place_seen (fun vs H Q E h => ?_) (fun cdv A outer s H vs Q E hr h => ?_)
  · obtain ⟨a, dx, tl, q, s, l, tb, key, vers, fs, c, rfl, _⟩ := h; rfl
  · obtain ⟨a, dx, tl, q, sf, l, tb, key, vers, fs, c, rfl, ha, hl, hF, hfs, h0, hc, hq, hT, htl, hz, hv, k1, k2⟩ := h
    refine ⟨_, (PSs.nox (pss_cons (ps_setLc (i := 4) (own := [("place", 5), ("name", 6), ("worth", 7), ("maker", 8), ("ender", 9)]) (g := (gTup K 2 (gCons (gName 5) (gCons (gTup K 4 (gCons (gName 6) (gCons (gName 7) (gCons (gName 8) (gCons (gName 9) gNil))))) gNil)))) rfl sc_Deeds_place_seen.nd rfl rfl (sw_true rfl rfl rfl (by decide +kernel)) (pi_enum (by rfl) (T.fre 58) (pa_cons (pe_dget (hu_of hr) (pe_fld (pv 0) rfl) (pv 2) (fun _ _ => rfl)) pa_nil)) (blkOk_by (own := [("place", 5), ("name", 6), ("worth", 7), ("maker", 8), ("ender", 9)]) (by kernel_rfl)) (fun _ _ _ _ _ => (pg_tup rfl (pgs_cons (pg_name (i := 5) sc_Deeds_place_seen.nd rfl (Or.inl rfl)) (pgs_cons (pg_tup rfl (pgs_cons (pg_name (i := 6) sc_Deeds_place_seen.nd rfl (Or.inl rfl)) (pgs_cons (pg_name (i := 7) sc_Deeds_place_seen.nd rfl (Or.inl rfl)) (pgs_cons (pg_name (i := 8) sc_Deeds_place_seen.nd rfl (Or.inl rfl)) (pgs_cons (pg_name (i := 9) sc_Deeds_place_seen.nd rfl (Or.inl rfl)) pgs_nil))))) pgs_nil)))) (fun _ _ _ _ _ => (pts_one (PW.pt (pw_and (pt_cmpR op_eq (pv 6) (pv 3) (nomark _)) (pw_and1 (PW.pt (pw_or (pt_cmp (pc_isN (pv 8))) (pw_or1 (pt_cmpR op_ne (RX.pe_ms (pv 0) T.clStore (T.mt 132) G_Deeds_fate_of (hr.mono (by decide)) B_Deeds_fate_of_2 RX.passS0 (pa_cons (pv 8) pa_nil) pk_nil) (pe_glob (v := .str "fell") rfl g_FELL_deedbook ⟨_, rfl⟩) (nomark _)))))))))) (fun _ _ _ _ _ => (pv 5))) (pss_cons (ps_setLc (i := 10) (own := [("place", 5)]) (g := (gName 5)) (tt := tYes) rfl sc_Deeds_place_seen.nd rfl rfl (sw_true rfl rfl rfl (by decide +kernel)) (pi_list (pv 4)) (blkOk_by (own := [("place", 5)]) (by kernel_rfl)) (fun _ _ _ _ _ => (pg_name (i := 5) sc_Deeds_place_seen.nd rfl (Or.inl rfl))) (fun _ _ _ _ _ => pts_nil) (fun _ _ _ _ _ => (pe_ix (ix_list : IxR _ (rIxL K)) (pe_dget (hu_of hr) ((pe_fld (pv 0) rfl) : PE _ _ (tFld K _ _)) (pv 2) (fun _ _ => rfl)) (pv 5) (fun _ _ => rfl)))) (pss_cons (ps_expr (RX.pe_ms (pv 0) T.clStore (T.mt 136) G_Deeds_check_others (hr.mono (by decide)) B_Deeds_check_others_4 RX.passS0 (pa_cons (pv 1) (pa_cons (pv 3) (pa_cons (pe_lc2 (own := [("version", 11), ("one", 12)]) (vs1 := [12]) (g := (gName 11)) (g1 := (gName 12)) (tt := tYes) rfl sc_Deeds_place_seen.nd (pi_list (pv 10)) (blkOk_by (own := [("version", 11), ("one", 12)]) (by kernel_rfl)) (by decide) (fun _ _ _ _ _ => (pg_name (i := 11) sc_Deeds_place_seen.nd rfl (Or.inl rfl))) (fun _ _ _ _ _ => pts_nil) (fun _ _ _ _ _ => ((pi_tup (pe_slice (sl_tupA : SlR _ (rSlA K)) (pv 11) (po_some pe_int) po_none)) : PI _ _ _ (iTup K _))) (fun _ _ _ _ _ => (pg_name (i := 12) sc_Deeds_place_seen.nd rfl (Or.inl rfl))) (fun _ _ _ _ _ => (pts_one (pt_cmp (pc_notN (pv 12))))) (fun _ _ _ _ _ => (pv 12))) pa_nil))) pk_nil)) (pss_cons (ps_setLc (i := 13) (own := [("place", 5), ("one", 12)]) (g := (gTup K 2 (gCons (gName 5) (gCons (gName 12) gNil)))) rfl sc_Deeds_place_seen.nd rfl rfl (sw_true rfl rfl rfl (by decide +kernel)) (pi_zip (by rfl) (T.fre 59) (pa_cons (pv 4) (pa_cons (pv 10) pa_nil))) (blkOk_by (own := [("place", 5), ("one", 12)]) (by kernel_rfl)) (fun _ _ _ _ _ => (pg_tup rfl (pgs_cons (pg_name (i := 5) sc_Deeds_place_seen.nd rfl (Or.inl rfl)) (pgs_cons (pg_name (i := 12) sc_Deeds_place_seen.nd rfl (Or.inl rfl)) pgs_nil)))) (fun _ _ _ _ _ => (pts_one (pt_cmpR op_eq (RX.pe_ms (pv 0) T.clStore (T.mt 135) G_Deeds_state_for (hr.mono (by decide)) B_Deeds_state_for_3 RX.passS0 (pa_cons (pv 1) (pa_cons (pv 12) pa_nil)) pk_nil) pe_str (nomark _)))) (fun _ _ _ _ _ => (pv 5))) (pss_one (ps_ret (pe_ifExp (pt_cmpR (op_neD hr.units) (pv 13) (pe_lst pa_nil) (nomark _)) (pe_ix ix_list (pv 13) pe_int (fun _ _ => rfl)) pe_non)))))))), ?_⟩
    have hl0 := hl
    unfold Lk.there at hl0
    walk_at "go"
    rename_i D hD
    have htl0 : SqL K H tl (vers.zipIdx.map fun t => V.ref t.1.1) := by
      have : vers.zipIdx.map (fun t => V.ref t.1.1) = vers.map fun e => V.ref e.1 := by
        rw [show (fun t : (Addr × Ver) × Nat => V.ref t.1.1) = (fun e : Addr × Ver => V.ref e.1) ∘ Prod.fst from rfl, ← List.map_map, List.zipIdx_map_fst]
      rw [this]; exact SqL.of htl
    have hzs : 1000 ≤ sizeLine := by decide
    have hix : ∀ t ∈ vers.zipIdx, t.2 < vers.length ∧ t.1 ∈ vers ∧ vers[t.2]? = some t.1 := fun t ht => by
      have := List.mem_zipIdx ht
      have h3 := List.mem_zipIdx_iff_getElem?.mp ht
      exact ⟨by omega, List.mem_of_getElem? h3, h3⟩
    refine RX.lm_enum (its := vers.zipIdx) (vf := fun t => V.ref t.1.1) (f := fun t => if pkV fs key t.1.2 = true then [V.int t.2] else []) hD (fun _ => RX.if_len) (by rw [List.length_zipIdx]; omega) htl0 (fun i t Tp acc H3 hi hTp hlen ac => ?_) (fun H3 ac => ?_)
    · have hm := hix t (List.mem_of_getElem? hi)
      have hti : t.2 = i := by
        rw [List.getElem?_zipIdx] at hi
        obtain ⟨x, hx, rfl⟩ := Option.map_eq_some_iff.mp hi
        simp
      obtain ⟨⟨va, ver⟩, ti⟩ := t
      simp only at hti hm hTp
      subst hti
      obtain ⟨hv1, hv2⟩ := hv _ hm.2.1
      simp only at hv1 hv2
      have hv3 := RX.same_sqT ac.same hv1
      obtain ⟨vk, vw, vm, ve⟩ := ver
      unfold Ver.l at hv3
      simp only at hv3
      have hT0 : SqT K H3 Tp [V.int ti, V.ref va] := SqT.of hTp
      have ha3 := ac.same _ _ ha
      walk_at "go"
      refine RX.iteB (fun hc2 => ?_) (fun hc2 => ?_)
      · have hkey : vk = key := by simpa using hc2
        subst hkey
        cases vm with
        | none =>
          have e1 : pkV fs vk ⟨vk, vw, none, ve⟩ = true := by simp [pkV]
          simp only [e1, if_true]
          walk_at "go"
          exact ac.yes hD (Same.refl _) hlen
        | some n =>
          obtain ⟨m, hm1, ⟨⟨e0, m0⟩, hm2, rfl⟩, hm3, hm4⟩ := hv2 n (.inl rfl)
          have hmt := ac.same _ _ (hfs _ hm2)
          have hg3 : DGet H3 sf.aF (oI (some n)) (some (.ref m0.a)) := RX.dget_same ac.same (dget_fk hF hm1)
          have e1 : pkV fs vk ⟨vk, vw, some n, ve⟩ = !decide (m0.f.fin.getD (Str.ofString "open") = Str.ofString "fell") := by simp [pkV, fateG_some hm1]
          simp only [e1]
          walk_at "go"
          refine RX.iteB (fun hc4 => ?_) (fun hc4 => ?_)
          · rw [if_pos (by simpa using hc4)]
            walk_at "go"
            exact ac.yes hD (Same.refl _) hlen
          · rw [if_neg (by simpa using hc4), List.append_nil]
            exact ac.no (Same.refl _)
      · have hkey : ¬ vk = key := by simpa using hc2
        have e1 : pkV fs key ⟨vk, vw, vm, ve⟩ = false := by simp [pkV, hkey]
        simp only [e1, Bool.false_eq_true, if_false, List.append_nil]
        exact ac.no (Same.refl _)
    · have e3 := ac.same
      have at3 : H3 D = some (.lst ((vers.zipIdx.filter fun t => pkV fs key t.1.2).map fun t => V.int t.2)) := by rw [ac.at_, RX.fm_filter]
      have hfl : ∀ t ∈ vers.zipIdx.filter (fun t => pkV fs key t.1.2), t ∈ vers.zipIdx := fun t ht => (List.mem_filter.mp ht).1
      have hfz : (vers.zipIdx.filter fun t => pkV fs key t.1.2).length ≤ 1000 := Nat.le_trans (List.length_filter_le _ _) (by rw [List.length_zipIdx]; exact hz)
      generalize vers.zipIdx.filter (fun t => pkV fs key t.1.2) = fl at at3 hfl hfz
      have ha3 := e3 _ _ ha
      have hT3 := RX.dget_same e3 hT
      have htl3 := e3 _ _ htl
      have hF3 := e3 _ _ hF
      have hl3 := e3 _ _ hl0
      walk_at "go"
      rename_i D2 hD2
      refine RX.lm_lst (its := fl) (vf := fun t => V.int t.2) (f := fun t => [V.ref t.1.1]) hD2 (fun _ => Nat.le_refl _) (by omega) (SqL.of at3) (fun i t acc H4 hi hlen ac4 => ?_) (fun H4 ac4 => ?_)
      · have hm := hix t (hfl t (List.mem_of_getElem? hi))
        have ha4 := ac4.same _ _ ha3
        have hT4 := RX.dget_same ac4.same hT3
        have htl4 := ac4.same _ _ htl3
        walk_at "go"
        refine ⟨atI_nat (by rw [List.getElem?_map, hm.2.2]; rfl), ?_⟩
        exact ac4.yes hD2 (Same.refl _) hlen
      · have e4 := e3.trans ac4.same
        have at4 : H4 D2 = some (.lst (fl.map fun t => V.ref t.1.1)) := by rw [ac4.at_, RX.fm1]
        have at3' := ac4.same _ _ at3
        have ha4 := e4 _ _ ha
        have hF4 := e4 _ _ hF
        have hl4 := e4 _ _ hl0
        walk_at "go"
        rename_i D3 hD3
        refine RX.lo_lst (its := fl) (vf := fun t => V.ref t.1.1) (F := fun t => t.1.2.ns.map V.int) (c := 2) hD3 (fun t _ => by rw [List.length_map]; exact ns_len _) (SqL.of at4) (fun i t acc H5 hi hlen hlt ac5 => ?_) (fun H5 ac5 => ?_)
        · have hm := hix t (hfl t (List.mem_of_getElem? hi))
          obtain ⟨hv1, hv2⟩ := hv _ hm.2.1
          have e5 := e4.trans ac5.same
          have hv5 := RX.same_sqT e5 hv1
          obtain ⟨⟨va, ver⟩, ti⟩ := t
          simp only at hv1 hv2 hv5 hm
          have hv6 : SqT K H5 va [V.str ver.key, ver.worth, oI ver.maker, oI ver.ender] := hv5
          walk_at "go"
          refine ⟨fun z => absurd z.1 (show ¬ HT.sIx 4 0 (some 2) = 0 by decide), fun _ p hp => ?_⟩
          have hp2 : SqT K (upd H5 p (.tup [oI ver.maker, oI ver.ender])) p ([ver.maker, ver.ender].map oI) := SqT.of upd_same
          have hz5 : acc.length + 2 < sizeLine := Nat.lt_of_le_of_lt (show acc.length + 2 ≤ 4000 by omega) (by decide)
          refine ⟨p, rfl, ⟨_, hp2⟩, ?_⟩
          rw [← ver_ns]
          refine RX.li_tpl (its := [ver.maker, ver.ender]) (vf := oI) (f := oV) (l0 := acc) hD3 (fun x => by cases x <;> simp [oV]) hz5 (ac5.no (RX.same_new hp)) hp2 (fun j m l6 H6 hj hl6 ac6 hp6 => ?_) (fun H6 h => h)
          cases m with
          | none =>
            walk_at "go"
            exact ⟨by simpa [oV] using ac6.no (Same.refl _), hp6⟩
          | some n =>
            walk_at "go"
            exact RX.Acc.yesT ac6 hD3 (Same.refl _) hl6 hp6
        · have e5 := e4.trans ac5.same
          have at5 : H5 D3 = some (.lst ((fl.flatMap fun t => t.1.2.ns).map V.int)) := by rw [ac5.at_, List.map_flatMap]
          have at3'' := ac5.same _ _ at3'
          have at4'' := ac5.same _ _ at4
          have ha5 := e5 _ _ ha
          have hl5 := e5 _ _ hl0
          walk_at "go"
          have hnl : (fl.flatMap fun t => t.1.2.ns).length ≤ sizeLine := by
            have : ∀ (l : List ((Addr × Ver) × Nat)), (l.flatMap fun t => t.1.2.ns).length ≤ 2 * l.length := by
              intro l
              induction l with
              | nil => simp
              | cons x r ih => have := ns_len x.1.2; rw [List.flatMap_cons, List.length_append, List.length_cons]; omega
            have := this fl
            exact Nat.le_trans (show _ ≤ 2000 by omega) (by decide)
          refine ⟨hnl, e5 _ _ hF, there_same5 e5 hfs, h0, RX.same_sqT e5 hc, RX.same_sqT e5 hq, fun n hn => ?_, fun H6 e56 => ?_⟩
          · obtain ⟨t, ht, hn⟩ := List.mem_flatMap.mp hn
            exact (hv _ (hix t (hfl t ht)).2.1).2 n (ns_mem hn)
          · have e6 := e5.trans e56
            have at3b := e56 _ _ at3''
            have at4b := e56 _ _ at4''
            walk_at "go"
            rename_i D4 hD4
            refine RX.lr_zipl (R := fun y _ => ∃ i : Nat, i < vers.length ∧ y = .int i) (fun y H H' k h => h) hD4 (by rw [List.length_zip, List.length_map, List.length_map]; omega) (SqL.of at3b) (SqL.of at4b) (fun i q Tp H7 hi hTp hlen ac7 => ?_) (fun H7 ac7 => ?_)
            · obtain ⟨q1, q2⟩ := q
              obtain ⟨z1, z2⟩ := List.getElem?_zip_eq_some.mp hi
              rw [List.getElem?_map] at z1 z2
              obtain ⟨t, ht, rfl⟩ := Option.map_eq_some_iff.mp z1
              rw [ht] at z2
              obtain rfl := (Option.some.inj z2).symm
              have hm := hix t (hfl t (List.mem_of_getElem? ht))
              obtain ⟨hv1, hv2⟩ := hv _ hm.2.1
              have e7 := e6.trans ac7.same
              have hT0 : SqT K H7 Tp [V.int t.2, V.ref t.1.1] := SqT.of hTp
              walk_at "go"
              refine ⟨e7 _ _ hl0, e7 _ _ hF, there_same5 e7 hfs, h0, RX.same_sqT e7 hc, RX.same_sqT e7 hq, RX.same_sqT e7 hv1, fun n hn => ?_, fun H8 z e78 => ?_⟩
              · obtain ⟨m, hm1, hm2, _⟩ := hv2 n hn
                exact ⟨m, hm1, hm2⟩
              · walk_at "go"
                refine RX.iteB (fun hc4 => ?_) (fun hc4 => ?_)
                · walk_at "go"
                  exact ac7.yes (fun y H H' k h => h) hD4 e78 ⟨t.2, hm.1, rfl⟩ hlen
                · exact ac7.no (fun y H H' k h => h) e78
            · obtain ⟨l8, h81, h82, h83⟩ := ac7.at_
              have e8 := e6.trans ac7.same
              obtain ⟨ns, rfl⟩ := RX.ints_of l8 fun y hy => let ⟨i, _, e⟩ := h83 y hy; ⟨i, e⟩
              walk_at "go"
              rename_i D5 hD5
              have e9 := e8.trans (RX.same_new (o := .lst []) hD5)
              have h91 : upd H7 D5 (.lst []) D4 = some (.lst (ns.map V.int)) := RX.up_ne hD5 h81
              refine ⟨(show Dp K _ _ (.list (ns.map PyData.int)) from Dp.lst (SqL.of h91) (RX.dpInts _ ns)), (show Dp K _ _ (.list (([] : List Int).map PyData.int)) from Dp.lst (SqL.of upd_same) .nil), RX.ints_shL ns, RX.ints_shL [], _, rfl, ?_⟩
              rw [RX.ints_eqL]
              cases ns with
              | nil =>
                refine iteF ?_
                exact k1 _ e9
              | cons y r =>
                obtain ⟨i, hi, e⟩ := h83 (.int y) (List.mem_cons_self ..)
                refine iteT ?_
                walk_at "go"
                refine ⟨RX.atI_zero, ?_⟩
                rw [e]
                exact k2 _ i hi e9
end
/-- all that a version names is done -/
def AllDn (fs : List (Int × Lk)) (ver : Ver) : Prop := ∀ n, ver.maker = some n ∨ ver.ender = some n → ∃ m, fkG fs n = some m ∧ (∃ e ∈ fs, e.2 = m) ∧ m.f.fin = some (Str.ofString "done")
theorem dn_fates {fs : List (Int × Lk)} {ver : Ver} (h : AllDn fs ver) : ∃ fb : Fb, RX.dps [] ([ver.maker, ver.ender].flatMap (fkE fs)) = fbK fb ∧ (fb.map (·.1)).Nodup ∧ Dn fb ver := by
  have e1 : ∀ n, ver.maker = some n ∨ ver.ender = some n → fkE fs (some n) = [(.inl n, .str (Str.ofString "done"))] := fun n hn => by
    obtain ⟨m, hm, _, hd⟩ := h n hn
    rw [fkE_some hm, hd]
    rfl
  obtain ⟨key, worth, maker, ender⟩ := ver
  cases maker with
  | none =>
    cases ender with
    | none => exact ⟨[], rfl, by simp, ⟨fun _ z => (nomatch z), fun _ z => (nomatch z)⟩⟩
    | some y =>
      have e2 := e1 y (.inr rfl)
      refine ⟨[(y, Str.ofString "done")], ?_, by simp, ⟨fun _ z => (nomatch z), fun e z => ?_⟩⟩
      · simp only [List.flatMap_cons, List.flatMap_nil, e2]; rfl
      · cases z; simp [fbG]
  | some x =>
    have e2 := e1 x (.inl rfl)
    cases ender with
    | none =>
      refine ⟨[(x, Str.ofString "done")], ?_, by simp, ⟨fun e z => ?_, fun _ z => (nomatch z)⟩⟩
      · simp only [List.flatMap_cons, List.flatMap_nil, e2]; rfl
      · cases z; simp [fbG]
    | some y =>
      have e3 := e1 y (.inr rfl)
      by_cases hxy : x = y
      · subst hxy
        refine ⟨[(x, Str.ofString "done")], ?_, by simp, ⟨fun e z => ?_, fun e z => ?_⟩⟩
        · simp only [List.flatMap_cons, List.flatMap_nil, e2]
          show putK [((.inl x : Key), V.str (Str.ofString "done"))] (.inl x) (.str (Str.ofString "done")) = _
          simp [putK, fbK]
        · cases z; simp [fbG]
        · cases z; simp [fbG]
      · refine ⟨[(x, Str.ofString "done"), (y, Str.ofString "done")], ?_, by simp [hxy], ⟨fun e z => ?_, fun e z => ?_⟩⟩
        · simp only [List.flatMap_cons, List.flatMap_nil, e2, e3]
          show putK [((.inl x : Key), V.str (Str.ofString "done"))] (.inl y) (.str (Str.ofString "done")) = _
          rw [putK_new (by simpa using fun z => hxy z.symm)]; rfl
        · cases z; simp [fbG]
        · cases z; simp [fbG, hxy]
theorem paired_sq {K : PySem.W.Frag} {H : Hp} {ts : List Addr} {kvs : List (Key × V)} (h : Paired (fun (t : Addr) (q : Key × V) => H t = some (.tup [kV q.1, q.2])) ts kvs) : Paired (fun (t : Addr) (q : Key × V) => SqT K H t [kV q.1, q.2]) ts kvs := by
  induction h with
  | nil => exact .nil
  | cons r t ih => exact .cons (SqT.of r) ih
section
variable {P : Program} {w : World} {K : PySem.W.Frag} {mg : Str → Option Value} {base : Heap}
def sp_Freezing_turned (K : PySem.W.Frag) : Sp := fun vs H Q _ => ∃ (a dx v : Addr) (s : SF) (ver : Ver) (upto : Int) (fs : List (Int × Lk)), vs = [.ref a, .ref v, .int upto] ∧ H a = some (.ins (CS K) dx s.l) ∧ H s.aF = some (.dK (fkK fs)) ∧ (∀ e ∈ fs, e.2.there K H) ∧ 0 < s.ring ∧
  SqT K H v ver.l ∧ AllDn fs ver ∧ FrzQ K H s.ring upto ver Q
theorem sc_Freezing_turned : FnScope ["self", "version", "upto", "fates", "number"] ["self", "version", "upto"] (defScope s_Freezing_turned) := ⟨rfl, rfl, rfl, by decide +kernel, rfl, by decide +kernel, by decide +kernel⟩
theorem ok_Freezing_turned {fd : FuncData} (T : Txt K mg) (F : FnD K d_Freezing_turned fd) : FnOk P w K mg base CX0 5 (He.fAd K d_Freezing_turned.at_) fd ["self", "version", "upto"] (sp_Freezing_turned K) := by
  obtain ⟨fd_Deeds_fate_of, F_Deeds_fate_of⟩ := T.fn 54 (d := d_Deeds_fate_of)
  have G_Deeds_fate_of := ok_Deeds_fate_of (P := P) (w := w) (base := base) T F_Deeds_fate_of
  have B_Deeds_fate_of_2 : KBn K fd_Deeds_fate_of ["self", "number"] 2 [] (fun us ws => us ++ ws) (fun us ws => us ++ ws) := RX.kb0 F_Deeds_fate_of 2 [] (fun us ws => us ++ ws) (fun a b => a.append b) (fun _ _ _ _ _ _ us ws h1 h2 => match us, ws, h1, h2 with | [_, _], [], _, _ => rfl)
  obtain ⟨fd_frozen, F_frozen⟩ := T.fn 14 (d := d_frozen)
  have G_frozen := ok_frozen (P := P) (w := w) (base := base) T F_frozen
  have B_frozen_3_ring : KBn K fd_frozen ["version", "upto", "fates", "ring"] 3 ["ring"] (fun us ws => us ++ ws) (fun us ws => us ++ ws) := RX.kb0 F_frozen 3 ["ring"] (fun us ws => us ++ ws) (fun a b => a.append b) (fun _ _ _ _ _ _ us ws h1 h2 => match us, ws, h1, h2 with | [_, _, _], [_], _, _ => rfl)
  refine F.ok sc_Freezing_turned (fun vs H Q E h => ?_) (fun cdv A outer s H vs Q E hr h => ?_)
  · obtain ⟨a, dx, v, s, ver, upto, fs, rfl, _⟩ := h; rfl
  · obtain ⟨a, dx, v, sf, ver, upto, fs, rfl, ha, hF, hfs, h0, hv, hn, k⟩ := h
    refine ⟨_, (PSs.nox (pss_cons (RX.ps_setDc (i := 3) (own := [("number", 4)]) (g := (gName 4)) rfl sc_Freezing_turned.nd rfl rfl (RX.sw_trueD rfl rfl rfl (by decide +kernel)) (pi_tup (pe_slice sl_tupA (pv 1) (po_some pe_int) po_none)) (blkOk_by (own := [("number", 4)]) (by kernel_rfl)) (fun _ _ _ _ _ => (pg_name (i := 4) sc_Freezing_turned.nd rfl (Or.inl rfl))) (fun _ _ _ _ _ => (pts_one (pt_cmp (pc_notN (pv 4))))) (fun _ _ _ _ _ => (pv 4)) (fun _ _ _ _ _ => (RX.pe_ms (pv 0) T.clStore (T.mt 132) G_Deeds_fate_of (hr.mono (by decide)) B_Deeds_fate_of_2 RX.passS0 (pa_cons (pv 4) pa_nil) pk_nil))) (pss_one (ps_ret (RX.pe_cs G_frozen (hr.mono (by decide)) (T.glo 14) F_frozen.kp B_frozen_3_ring RX.passS0 (pa_cons (pv 1) (pa_cons (pv 2) (pa_cons (RX.pe_tupItems rfl (pv 3) (by rfl) (T.fre 46) rfl) pa_nil))) (pk_cons (pe_fld (pv 0) rfl) pk_nil)))))), ?_⟩
    walk_at "go"
    refine ⟨fun z => absurd z.1 (show ¬ HT.sIx 4 0 (some 2) = 0 by decide), fun _ p hp => ?_⟩
    have hv2 : SqT K (upd H p (.tup [oI ver.maker, oI ver.ender])) p ([ver.maker, ver.ender].map oI) := SqT.of upd_same
    refine ⟨p, rfl, ⟨_, hv2⟩, fun D hD => ?_⟩
    refine RX.ld_tpl (its := [ver.maker, ver.ender]) (vf := oI) (f := fkE fs) hD (fun x => by cases x <;> simp [fkE]) (show 2 ≤ sizeLine by decide) hv2 (fun i m kvs H3 hi hz ac => ?_) (fun H3 ac => ?_)
    · cases m with
      | none =>
        walk_at "go"
        exact ac.no (Same.refl _)
      | some n =>
        have hmem : ver.maker = some n ∨ ver.ender = some n := by
          have := List.mem_of_getElem? hi
          simp only [List.mem_cons, List.not_mem_nil, or_false] at this
          rcases this with h | h
          · exact .inl h.symm
          · exact .inr h.symm
        obtain ⟨m, hm, ⟨⟨e0, m0⟩, hm2, rfl⟩, hmd⟩ := hn n hmem
        have hmt := hfs _ hm2
        unfold Lk.there at hmt
        have e3 := (RX.same_new (o := .tup [oI ver.maker, oI ver.ender]) hp).trans ac.same
        have ha3 := e3 _ _ ha
        have hm3 := e3 _ _ hmt
        have hg3 := RX.dget_same e3 (dget_fk hF hm)
        rw [fkE_some hm]
        walk_at "go"
        exact ⟨show oI (some n) = kV (Sum.inl n) from rfl, ac.at_, hz, ⟨fun b o q => by rw [upd_ne (fun z => by rw [z, hD] at q; cases q)]; exact ac.same b o q, upd_same⟩⟩
    · have e4 := (RX.same_new (o := .tup [oI ver.maker, oI ver.ender]) hp).trans ac.same
      have ha4 := e4 _ _ ha
      have hv4 := RX.same_sqT e4 hv
      obtain ⟨fb, hfb, hnd, hdn⟩ := dn_fates hn
      have hat : H3 D = some (.dK (fbK fb)) := by rw [← hfb]; exact ac.at_
      walk_at "go"
      rename_i H5 p5 ts5 e5 h1 h2 h3 h4 h5
      refine ⟨paired_sq h5, hnd, h0, hdn, fun H6 e6 => ?_⟩
      have e7 := e4.trans e5
      obtain ⟨k1, k2⟩ := k H6 (e7.trans e6)
      exact ⟨k1, fun v' hv' p hp' hs => k2 v' hv' p (none_back e7 hp') hs⟩
/-! ### versions as data -/
/-- a version of a number, its key a text that can be written -/
structure Ver.ok2 (v : Ver) : Prop where
  k : PyData.strOk v.key = true
  w : ∃ i : Int, v.worth = .int i
def nD : Option Int → PyData
  | none => .none
  | some n => .int n
def verD (v : Ver) (i : Int) : PyData := .tuple [.str v.key, .int i, nD v.maker, nD v.ender]
theorem dp_n {H : Hp} (m : Option Int) : Dp K H (oI m) (nD m) := by cases m <;> constructor
theorem dp_ver {H : Hp} {p : Addr} {v : Ver} {i : Int} (h : SqT K H p v.l) (hw : v.worth = .int i) : Dp K H (.ref p) (verD v i) := by
  obtain ⟨k, w, m, e⟩ := v
  simp only at hw
  subst hw
  exact .tup h (.cons (.str _) (.cons (.int _) (.cons (dp_n _) (.cons (dp_n _) .nil))))
theorem nD_lay (m : Option Int) : (nD m).canLay0 = true := by cases m <;> simp [nD, PyData.canLay0]
theorem nD_depth (m : Option Int) : (nD m).depth = 0 ∨ (nD m).depth ≤ 1 := by cases m <;> simp [nD, PyData.depth]
theorem ver_sh {v : Ver} {i : Int} (h : PyData.strOk v.key = true) : SeqAt.shaped (verD v i) = true := by
  have h1 := nD_depth v.maker
  have h2 := nD_depth v.ender
  have h3 : PyData.depth (verD v i) ≤ 64 := by
    simp only [verD, PyData.depth, PyData.depthAll]
    omega
  show (PyData.canLay0 (verD v i) && decide (PyData.depth (verD v i) ≤ 64)) = true
  rw [Bool.and_eq_true]
  refine ⟨?_, decide_eq_true h3⟩
  simp [verD, PyData.canLay0, PyData.canLayAll0, nD_lay, h]
theorem nD_eqv (a b : Option Int) : PyData.eqv (nD a) (nD b) = decide (a = b) := by
  cases a <;> cases b <;> simp [nD, PyData.eqv] <;> rfl
theorem ver_eqv (v v' : Ver) (i : Int) (hk : v'.key = v.key) (he : v'.ender = v.ender) : PyData.eqv (verD v' i) (verD v i) = decide (v'.maker = v.maker) := by
  unfold verD
  simp only [PyData.eqv, PyData.eqvAll, nD_eqv, hk, he]
  simp
theorem frz_key {r upto : Int} {v v' : Ver} (h : frzV r upto v = some v') : v'.key = v.key ∧ v'.worth = v.worth ∧ v'.ender = v.ender ∧ (v'.maker = v.maker ∨ v'.maker = none) := by
  unfold frzV at h
  split at h
  · cases h
  · cases h
    refine ⟨rfl, rfl, rfl, ?_⟩
    dsimp only
    split
    · exact .inr rfl
    · exact .inl rfl
theorem frz_again {r upto : Int} {v v' : Ver} (h : frzV r upto v = some v') : frzV r upto v' = some v' := by
  unfold frzV at h
  split at h
  · cases h
  · rename_i hb
    cases h
    obtain ⟨k, w, m, e⟩ := v
    dsimp only at hb ⊢
    unfold frzV
    rw [if_neg hb]
    dsimp only
    by_cases hm : befO r m upto = true
    · rw [if_pos hm]; simp [befO]
    · rw [if_neg hm, if_neg hm]
theorem frz_same {r upto : Int} {v v' : Ver} (h : frzV r upto v = some v') : (v'.maker = v.maker) ↔ v' = v := by
  obtain ⟨h1, h2, h3, h4⟩ := frz_key h
  obtain ⟨k, w, m, e⟩ := v
  obtain ⟨k', w', m', e'⟩ := v'
  simp only at h1 h2 h3 ⊢
  subst h1 h2 h3
  constructor
  · intro q; rw [q]
  · intro q; cases q; rfl
end
theorem dps_fk : ∀ (es : List (Int × Lk)) (d : List (Int × Lk)), ((d ++ es).map (·.1)).Nodup → RX.dps (fkK d) (fkK es) = fkK (d ++ es)
  | [], d, _ => by simp [RX.dps, fkK]
  | e :: es, d, h => by
    have hn : (Sum.inl e.1 : Key) ∉ (fkK d).map (·.1) := by
      intro z
      obtain ⟨q, hq, e1⟩ := List.mem_map.mp z
      unfold fkK at hq
      obtain ⟨x, hx, rfl⟩ := List.mem_map.mp hq
      have : x.1 = e.1 := Sum.inl.inj e1
      rw [List.map_append, List.map_cons, List.nodup_append] at h
      exact h.2.2 x.1 (List.mem_map_of_mem hx) e.1 List.mem_cons_self this
    show RX.dps (putK (fkK d) (.inl e.1) (.ref e.2.a)) (fkK es) = _
    rw [putK_new hn]
    have : fkK d ++ [((.inl e.1 : Key), V.ref e.2.a)] = fkK (d ++ [e]) := by unfold fkK; rw [List.map_append]; rfl
    rw [this, dps_fk es (d ++ [e]) (by rw [List.append_assoc]; exact h), List.append_assoc]
    rfl
def keepF (r nx f n : Int) : Bool := decide (1 ≤ (nx - n) % r) && decide ((nx - n) % r ≤ (nx - f) % r)
section
variable {P : Program} {w : World} {K : PySem.W.Frag} {mg : Str → Option Value} {base : Heap}
def sp_Deeds_forget (K : PySem.W.Frag) : Sp := fun vs H Q _ => ∃ (a dx : Addr) (s : SF) (f : Int) (fs : List (Int × Lk)), vs = [.ref a, .int f] ∧ H a = some (.ins (CS K) dx s.l) ∧ H s.aF = some (.dK (fkK fs)) ∧ (fs.map (·.1)).Nodup ∧ fs.length ≤ 1000 ∧ 0 < s.ring ∧
  ∀ H' D, (∀ b o, b ≠ a → H b = some o → H' b = some o) → H D = none → H' D = some (.dK (fkK (fs.filter fun e => keepF s.ring s.next f e.1))) → H' a = some (.ins (CS K) dx { s with aF := D }.l) → Q .non H'
theorem sc_Deeds_forget : FnScope ["self", "floor", "kept", "number", "looker"] ["self", "floor"] (defScope s_Deeds_forget) := ⟨rfl, rfl, rfl, by decide +kernel, rfl, by decide +kernel, by decide +kernel⟩
theorem ok_Deeds_forget {fd : FuncData} (T : Txt K mg) (F : FnD K d_Deeds_forget fd) : FnOk P w K mg base CX0 3 (He.fAd K d_Deeds_forget.at_) fd ["self", "floor"] (sp_Deeds_forget K) := by
  obtain ⟨fd_Deeds_steps_back, F_Deeds_steps_back⟩ := T.fn 44 (d := d_Deeds_steps_back)
  have G_Deeds_steps_back := ok_Deeds_steps_back (P := P) (w := w) (base := base) T F_Deeds_steps_back
  have B_Deeds_steps_back_2 : KBn K fd_Deeds_steps_back ["self", "number"] 2 [] (fun us ws => us ++ ws) (fun us ws => us ++ ws) := RX.kb0 F_Deeds_steps_back 2 [] (fun us ws => us ++ ws) (fun a b => a.append b) (fun _ _ _ _ _ _ us ws h1 h2 => match us, ws, h1, h2 with | [_, _], [], _, _ => rfl)
  refine F.ok sc_Deeds_forget (fun vs H Q E h => ?_) (fun cdv A outer s H vs Q E hr h => ?_)
  · obtain ⟨a, dx, s, f, fs, rfl, _⟩ := h; rfl
  · obtain ⟨a, dx, sf, f, fs, rfl, ha, hF, nd, hz, h0, k⟩ := h
    refine ⟨_, (PSs.nox (pss_cons (ps_set (i := 2) sc_Deeds_forget.nd rfl (Or.inr rfl) (RX.pe_ms (pv 0) T.clStore (T.mt 122) G_Deeds_steps_back (hr.mono (by decide)) B_Deeds_steps_back_2 RX.passS0 (pa_cons (pv 1) pa_nil) pk_nil)) (pss_one (ps_fld (pv 0) (pe_lock (pe_dc (own := [("number", 3), ("looker", 4)]) (g := (gTup K 2 (gCons (gName 3) (gCons (gName 4) gNil)))) rfl sc_Deeds_forget.nd (pi_items (pe_fld (pv 0) rfl)) (blkOk_by (own := [("number", 3), ("looker", 4)]) (by kernel_rfl)) (fun _ _ _ _ _ => (pg_tup rfl (pgs_cons (pg_name (i := 3) sc_Deeds_forget.nd rfl (Or.inl rfl)) (pgs_cons (pg_name (i := 4) sc_Deeds_forget.nd rfl (Or.inl rfl)) pgs_nil)))) (fun _ _ _ _ _ => (pts_one (pt_chain op_le op_le pe_int (RX.pe_ms (pv 0) T.clStore (T.mt 122) G_Deeds_steps_back (hr.mono (by decide)) B_Deeds_steps_back_2 RX.passS0 (pa_cons (pv 3) pa_nil) pk_nil) (pv 2)))) (fun _ _ _ _ _ => (pv 3)) (fun _ _ _ _ _ => (pv 4)))) rfl)))), ?_⟩
    have hz' : fs.length ≤ sizeLine := Nat.le_trans hz (by decide)
    walk_at "go"
    refine ⟨trivial, fun od => ?_⟩
    have ha2 := lock_ins (od := od) ha hF
    have hF2 : upd H sf.aF (.frz od (.dK (fkK fs))) sf.aF = some (.frz od (.dK (fs.map fun e => (.inl e.1, .ref e.2.a)))) := upd_same
    refine ⟨_, rfl, a, _, dx, sf.l, _, rfl, ha2, T.clStore, T.naS (by decide +kernel), SF.fates_, _, od, _, rfl, hF2, fun D hD => ?_⟩
    refine RX.ld_itms (its := fs) (kf := fun e => (.inl e.1, .ref e.2.a)) (f := fun e => if keepF sf.ring sf.next f e.1 = true then [(.inl e.1, .ref e.2.a)] else []) hD (fun _ => RX.if_len) hz' hF2 (fun i t Tp kvs H3 hi hTp hlen ac => ?_) (fun H3 ac => ?_)
    · have hT' : SqT K H3 Tp [V.int t.1, V.ref t.2.a] := SqT.of hTp
      have ha3 := ac.same _ _ ha2
      walk_at "go"
      unfold keepF
      refine RX.iteB (fun hc => ?_) (fun hc => ?_)
      · walk_at "go"
        refine RX.iteB (fun hc2 => ?_) (fun hc2 => ?_)
        · rw [if_pos (by rw [hc, hc2]; rfl)]
          walk_at "go"
          exact ⟨ac.at_, hlen, ⟨fun b o q => by rw [upd_ne (fun z => by rw [z, hD] at q; cases q)]; exact ac.same b o q, upd_same⟩⟩
        · rw [if_neg (by rw [hc, hc2]; decide)]
          exact ac.no (Same.refl _)
      · walk_at "go"
        rw [if_neg (by rw [hc]; simp)]
        exact ac.no (Same.refl _)
    · have e := ac.at_
      rw [show (fs.flatMap fun e => if keepF sf.ring sf.next f e.1 = true then [((.inl e.1 : Key), V.ref e.2.a)] else []) = fkK (fs.filter fun e => keepF sf.ring sf.next f e.1) from RX.fm_filter fs] at e
      have hdp := dps_fk (fs.filter fun e => keepF sf.ring sf.next f e.1) [] (by simpa using nd.sublist (List.Sublist.map _ List.filter_sublist))
      rw [show fkK [] = [] from rfl, List.nil_append] at hdp
      rw [hdp] at e
      have nD : D ≠ sf.aF := fun z => by rw [z, hF2] at hD; cases hD
      have s4 : Same H (upd H3 sf.aF (.dK (fkK fs))) := RX.same_unlock ac.same hF
      have ha4 := s4 _ _ ha
      have at4 : upd H3 sf.aF (.dK (fkK fs)) D = some (.dK (fkK (fs.filter fun e => keepF sf.ring sf.next f e.1))) := by rw [upd_ne nD]; exact e
      refine ⟨ac.same _ _ hF2, ?_⟩
      walk_at "go"
      rw [SF.put_fates]
      have na : D ≠ a := fun z => by rw [z, ha2] at hD; cases hD
      exact k _ D (fun b o hb q => by rw [upd_ne hb]; exact s4 _ _ q) (by rw [upd_ne nD] at hD; exact hD) (by rw [upd_ne na]; exact at4) upd_same
def sp_Freezing_check_upto (K : PySem.W.Frag) : Sp := fun vs H Q _ => ∃ (a dx : Addr) (s : SF) (n : Str) (first upto : Int) (ls : List Lk) (c : Lk → Int) (h : Int), vs = [.ref a, .str n, .int upto] ∧ H a = some (.ins (CS K) dx s.l) ∧ DGet H s.aE (.str n) (some (.int first)) ∧ H s.aL = some (.dK (lkK ls)) ∧ (∀ l ∈ ls, l.there K H) ∧ ls.length < 900 ∧ LooksAt K H ls c ∧ 0 < s.ring ∧
  HorIs s.ring s.next ls c h ∧ 0 ≤ upto ∧ upto < s.ring ∧ (upto - first) % s.ring ≤ (s.next - first) % s.ring ∧ (s.next - h) % s.ring ≤ (s.next - upto) % s.ring ∧ ∀ H', Same H H' → Q .non H'
theorem sc_Freezing_check_upto : FnScope ["self", "table", "upto", "first", "horizon", "looker"] ["self", "table", "upto"] (defScope s_Freezing_check_upto) := ⟨rfl, rfl, rfl, by decide +kernel, rfl, by decide +kernel, by decide +kernel⟩
theorem ok_Freezing_check_upto {fd : FuncData} (T : Txt K mg) (F : FnD K d_Freezing_check_upto fd) : FnOk P w K mg base CX0 5 (He.fAd K d_Freezing_check_upto.at_) fd ["self", "table", "upto"] (sp_Freezing_check_upto K) := by
  obtain ⟨fd_steps, F_steps⟩ := T.fn 2 (d := d_steps)
  have G_steps := ok_steps (P := P) (w := w) (base := base) T F_steps
  have B_steps_2_ring : KBn K fd_steps ["one", "other", "ring"] 2 ["ring"] (fun us ws => us ++ ws) (fun us ws => us ++ ws) := RX.kb0 F_steps 2 ["ring"] (fun us ws => us ++ ws) (fun a b => a.append b) (fun _ _ _ _ _ _ us ws h1 h2 => match us, ws, h1, h2 with | [_, _], [_], _, _ => rfl)
  obtain ⟨fd_Deeds_steps_back, F_Deeds_steps_back⟩ := T.fn 44 (d := d_Deeds_steps_back)
  have G_Deeds_steps_back := ok_Deeds_steps_back (P := P) (w := w) (base := base) T F_Deeds_steps_back
  have B_Deeds_steps_back_2 : KBn K fd_Deeds_steps_back ["self", "number"] 2 [] (fun us ws => us ++ ws) (fun us ws => us ++ ws) := RX.kb0 F_Deeds_steps_back 2 [] (fun us ws => us ++ ws) (fun a b => a.append b) (fun _ _ _ _ _ _ us ws h1 h2 => match us, ws, h1, h2 with | [_, _], [], _, _ => rfl)
  obtain ⟨fd_is_on, F_is_on⟩ := T.fn 9 (d := d_is_on)
  have G_is_on := ok_is_on (P := P) (w := w) (base := base) T F_is_on
  have B_is_on_2 : KBn K fd_is_on ["thing", "ring"] 2 [] (fun us ws => us ++ ws) (fun us ws => us ++ ws) := RX.kb0 F_is_on 2 [] (fun us ws => us ++ ws) (fun a b => a.append b) (fun _ _ _ _ _ _ us ws h1 h2 => match us, ws, h1, h2 with | [_, _], [], _, _ => rfl)
  obtain ⟨fd_Freezing_horizon, F_Freezing_horizon⟩ := T.fn 70 (d := d_Freezing_horizon)
  have G_Freezing_horizon := ok_Freezing_horizon (P := P) (w := w) (base := base) T F_Freezing_horizon
  have B_Freezing_horizon_1 : KBn K fd_Freezing_horizon ["self"] 1 [] (fun us ws => us ++ ws) (fun us ws => us ++ ws) := RX.kb0 F_Freezing_horizon 1 [] (fun us ws => us ++ ws) (fun a b => a.append b) (fun _ _ _ _ _ _ us ws h1 h2 => match us, ws, h1, h2 with | [_], [], _, _ => rfl)
  refine F.ok sc_Freezing_check_upto (fun vs H Q E h => ?_) (fun cdv A outer s H vs Q E hr h => ?_)
  · obtain ⟨a, dx, s, n, first, upto, ls, c, h, rfl, _⟩ := h; rfl
  · obtain ⟨a, dx, sf, n, first, upto, ls, c, h, rfl, ha, hE, hL, hl, hz, hc, h0, hh, u0, u1, u2, u3, k⟩ := h
    refine ⟨_, (PSs.nox (pss_cons (ps_set (i := 3) sc_Freezing_check_upto.nd rfl (Or.inl rfl) (pe_dget (hu_of hr) (pe_fld (pv 0) rfl) (pv 1) (fun _ _ => rfl))) (pss_cons (ps_if (PW.pt (pw_or (pt_not (pt_val (RX.pe_cs G_is_on (hr.mono (by decide)) (T.glo 9) F_is_on.kp B_is_on_2 RX.passS0 (pa_cons (pv 2) (pa_cons (pe_fld (pv 0) rfl) pa_nil)) pk_nil))) (pw_or1 (pt_cmpR op_gt (RX.pe_cs G_steps (hr.mono (by decide)) (T.glo 2) F_steps.kp B_steps_2_ring RX.passS0 (pa_cons (pv 3) (pa_cons (pv 2) pa_nil)) (pk_cons (pe_fld (pv 0) rfl) pk_nil)) (RX.pe_ms (pv 0) T.clStore (T.mt 122) G_Deeds_steps_back (hr.mono (by decide)) B_Deeds_steps_back_2 RX.passS0 (pa_cons (pv 3) pa_nil) pk_nil) (nomark _))))) (pss_one ps_never) pss_nil) (pss_cons (ps_set (i := 4) sc_Freezing_check_upto.nd rfl (Or.inl rfl) (RX.pe_ms0 (pv 0) T.clStore (T.mt 105) G_Freezing_horizon (hr.mono (by decide)) B_Freezing_horizon_1 RX.passS0)) (pss_one (ps_if (pt_cmpR op_lt (RX.pe_ms (pv 0) T.clStore (T.mt 122) G_Deeds_steps_back (hr.mono (by decide)) B_Deeds_steps_back_2 RX.passS0 (pa_cons (pv 2) pa_nil) pk_nil) (RX.pe_ms (pv 0) T.clStore (T.mt 122) G_Deeds_steps_back (hr.mono (by decide)) B_Deeds_steps_back_2 RX.passS0 (pa_cons (pv 4) pa_nil) pk_nil) (nomark _)) (pss_one ps_never) pss_nil)))))), ?_⟩
    walk_at "go"
    refine RX.iteB (fun hc2 => ?_) (fun hc2 => ?_)
    · simp [u0, u1] at hc2
    · walk_at "go"
      refine RX.iteB (fun hc3 => ?_) (fun hc3 => ?_)
      · have : (sf.next - first) % sf.ring < (upto - first) % sf.ring := by simpa using hc3
        omega
      · walk_at "go"
        refine RX.iteB (fun hc4 => ?_) (fun hc4 => ?_)
        · have : (sf.next - upto) % sf.ring < (sf.next - h) % sf.ring := by simpa using hc4
          omega
        · exact k _ (by assumption)
end
theorem seqN {n j : Nat} (hj : j < n) : seqIndex? (j : Int) n = some j := by
  unfold seqIndex?
  simp; omega
theorem iteT' {c : Bool} {A B : Prop} (h : c = true) (a : A) : if c = true then A else B := by rw [if_pos h]; exact a
theorem iteF' {c : Bool} {A B : Prop} (h : c = false) (a : B) : if c = true then A else B := by rw [if_neg (by rw [h]; decide)]; exact a
section
variable {P : Program} {w : World} {K : PySem.W.Frag} {mg : Str → Option Value} {base : Heap}
def sp_Freezing_turn (K : PySem.W.Frag) : Sp := fun vs H Q _ => ∃ (a dx tl p : Addr) (s : SF) (tb : Str) (i : Nat) (upto : Int) (vl log : List V) (ver : Ver) (fs : List (Int × Lk)), vs = [.ref a, .str tb, .int i, .int upto] ∧ H a = some (.ins (CS K) dx s.l) ∧ H s.aF = some (.dK (fkK fs)) ∧ (∀ e ∈ fs, e.2.there K H) ∧ 0 < s.ring ∧
  DGet H s.aT (.str tb) (some (.ref tl)) ∧ H tl = some (.lst vl) ∧ vl[i]? = some (.ref p) ∧ SqT K H p ver.l ∧ ver.ok2 ∧ AllDn fs ver ∧ tb.length ≤ 100 ∧ H s.aG = some (.lst log) ∧ log.length < sizeLine ∧ s.aG ≠ tl ∧ i < 1000 ∧ 0 ≤ upto ∧ upto < 1000000000 ∧
  (frzV s.ring upto ver = some ver → ∀ H' q, Same H H' → SqT K H' q [] → Q (.ref q) H') ∧
  (frzV s.ring upto ver = none → ∀ H' q q2 z, (∀ b o, b ≠ tl → b ≠ s.aG → H b = some o → H' b = some o) → H' tl = some (.lst (vl.eraseIdx i)) → H' s.aG = some (.lst (log ++ [.str z])) → SqT K H' q [.ref q2] → SqT K H' q2 [.ref p, .non] → Q (.ref q) H') ∧
  (∀ v', frzV s.ring upto ver = some v' → v' ≠ ver → ∀ H' p' q q2 z, (∀ b o, b ≠ tl → b ≠ s.aG → H b = some o → H' b = some o) → H' tl = some (.lst (vl.set i (.ref p'))) → H' s.aG = some (.lst (log ++ [.str z])) → SqT K H' p' v'.l → SqT K H' q [.ref q2] → SqT K H' q2 [.ref p, .ref p'] → Q (.ref q) H')
theorem sc_Freezing_turn : FnScope ["self", "table", "place", "upto", "versions", "version", "now"] ["self", "table", "place", "upto"] (defScope s_Freezing_turn) := ⟨rfl, rfl, rfl, by decide +kernel, rfl, by decide +kernel, by decide +kernel⟩
theorem ok_Freezing_turn {fd : FuncData} (T : Txt K mg) (F : FnD K d_Freezing_turn fd) : FnOk P w K mg base CX0 6 (He.fAd K d_Freezing_turn.at_) fd ["self", "table", "place", "upto"] (sp_Freezing_turn K) := by
  obtain ⟨fd_Freezing_turned, F_Freezing_turned⟩ := T.fn 77 (d := d_Freezing_turned)
  have G_Freezing_turned := ok_Freezing_turned (P := P) (w := w) (base := base) T F_Freezing_turned
  have B_Freezing_turned_3 : KBn K fd_Freezing_turned ["self", "version", "upto"] 3 [] (fun us ws => us ++ ws) (fun us ws => us ++ ws) := RX.kb0 F_Freezing_turned 3 [] (fun us ws => us ++ ws) (fun a b => a.append b) (fun _ _ _ _ _ _ us ws h1 h2 => match us, ws, h1, h2 with | [_, _, _], [], _, _ => rfl)
  obtain ⟨fd_Deeds_note, F_Deeds_note⟩ := T.fn 42 (d := d_Deeds_note)
  have G_Deeds_note := ok_Deeds_note (P := P) (w := w) (base := base) T F_Deeds_note
  have B_Deeds_note_2 : KBn K fd_Deeds_note ["self", "row"] 2 [] (fun us ws => us ++ ws) (fun us ws => us ++ ws) := RX.kb0 F_Deeds_note 2 [] (fun us ws => us ++ ws) (fun a b => a.append b) (fun _ _ _ _ _ _ us ws h1 h2 => match us, ws, h1, h2 with | [_, _], [], _, _ => rfl)
  refine F.ok sc_Freezing_turn (fun vs H Q E h => ?_) (fun cdv A outer s H vs Q E hr h => ?_)
  · obtain ⟨a, dx, tl, p, s, tb, i, upto, vl, log, ver, fs, rfl, _⟩ := h; rfl
  · obtain ⟨a, dx, tl, p, sf, tb, i, upto, vl, log, ver, fs, rfl, ha, hF, hfs, h0, hT, htl, hi, hp, hok, hn, htb, hG, hzG, hGt, hi1, u0, u1, k1, k2, k3⟩ := h
    refine ⟨_, (PSs.nox (pss_cons (ps_set (i := 4) sc_Freezing_turn.nd rfl (Or.inl rfl) (pe_dget (hu_of hr) (pe_fld (pv 0) rfl) (pv 1) (fun _ _ => rfl))) (pss_cons (ps_set (i := 5) sc_Freezing_turn.nd rfl (Or.inl rfl) (pe_ix ix_list (pv 4) (pv 2) (fun _ _ => rfl))) (pss_cons (ps_set (i := 6) sc_Freezing_turn.nd rfl (Or.inl rfl) (RX.pe_ms (pv 0) T.clStore (T.mt 112) G_Freezing_turned (hr.mono (by decide)) B_Freezing_turned_3 RX.passS0 (pa_cons (pv 5) (pa_cons (pv 3) pa_nil)) pk_nil)) (pss_cons (ps_if (pt_cmpR (op_eqD hr.units) (pv 6) (pv 5) (nomark _)) (pss_one (ps_ret (pe_tup pa_nil))) pss_nil) (pss_cons (ps_if (pt_cmp (pc_isN (pv 6))) (pss_one (ps_expr (pe_bm PySem.F.plainAttrs_list PySem.F.slot_list_pop PySem.F.type_list_pop mt_popAt (pv 4) (pa_cons (pv 2) pa_nil)))) (pss_one (ps_asg (pv 6) (pg_sub (pv 4) (pv 2) set_list)))) (pss_cons (ps_expr (RX.pe_ms (pv 0) T.clStore (T.mt 120) G_Deeds_note (hr.mono (by decide)) B_Deeds_note_2 RX.passS0 (pa_cons (pe_joined (PJ.cons pe_str (PJ.cons (pe_fmt (pv 1)) (PJ.cons pe_str (PJ.cons (pe_fmt (pv 2)) (PJ.cons pe_str (PJ.cons (pe_fmt (pv 3)) PJ.nil))))))) pa_nil) pk_nil)) (pss_one (ps_ret (pe_tup (pa_cons (pe_tup (pa_cons (pv 5) (pa_cons (pv 6) pa_nil))) pa_nil))))))))))), ?_⟩
    have hlt : i < vl.length := (List.getElem?_eq_some_iff.mp hi).1
    walk_at "go"
    refine ⟨atI_nat hi, ?_⟩
    walk_at "go"
    rename_i H1 e1
    have ha1 := e1 _ _ ha
    have hp1 : SqT K H1 p ver.l := RX.same_sqT e1 hp
    obtain ⟨wi, hwi⟩ := hok.w
    refine ⟨fun hz => ?_, fun v' hv' p' hp' hs' => ?_⟩
    · have htl1 := e1 _ _ htl
      have hG1 := e1 _ _ hG
      walk_at "go"
      refine ⟨(show Dp K _ _ .none from .non), (show Dp K _ _ (verD ver wi) from dp_ver hp1 hwi), by decide +kernel, ver_sh hok.k, _, rfl, ?_⟩
      rw [show PyData.eqv PyData.none (verD ver wi) = false from by simp [verD, PyData.eqv]]
      refine iteF ?_
      walk_at "go"
      refine ⟨seqN hlt, hi, ?_⟩
      have ha2 : upd H1 tl (.lst (vl.eraseIdx i)) a = some (.ins (CS K) dx sf.l) := by rw [upd_ne (ne_of ha1 htl1 (fun z => nomatch z))]; exact ha1
      have hG2 : upd H1 tl (.lst (vl.eraseIdx i)) sf.aG = some (.lst log) := by rw [upd_ne hGt]; exact hG1
      walk_at "go"
      rename_i q2 hq2 q hq
      exact k2 hz _ q q2 _ (fun b o m1 m2 g => RX.up_ne hq (RX.up_ne hq2 (by rw [upd_ne m2, upd_ne m1]; exact e1 _ _ g))) (RX.up_ne hq (RX.up_ne hq2 (by rw [upd_ne (Ne.symm hGt), upd_same]))) (RX.up_ne hq (RX.up_ne hq2 upd_same)) (SqT.of upd_same) (SqT.of (RX.up_ne hq upd_same))
    · have htl1 := e1 _ _ htl
      have hG1 := e1 _ _ hG
      obtain ⟨f1, f2, f3, f4⟩ := frz_key hv'
      walk_at "go"
      refine ⟨(show Dp K _ _ (verD v' wi) from dp_ver hs' (f2.trans hwi)), (show Dp K _ _ (verD ver wi) from dp_ver hp1 hwi), ver_sh (f1 ▸ hok.k), ver_sh hok.k, _, rfl, ?_⟩
      rw [ver_eqv _ _ _ f1 f3]
      by_cases hvv : v' = ver
      · subst hvv
        refine iteT' (by simp) ?_
        walk_at "go"
        rename_i q hq
        exact k1 hv' _ q (e1.trans (RX.same_new hq)) (SqT.of upd_same)
      · refine iteF' (by simpa using fun z => hvv ((frz_same hv').mp z)) ?_
        walk_at "go"
        refine ⟨ixNat hlt, ?_⟩
        have ha2 : upd H1 tl (.lst (vl.set i (.ref p'))) a = some (.ins (CS K) dx sf.l) := by rw [upd_ne (ne_of ha1 htl1 (fun z => nomatch z))]; exact ha1
        have hG2 : upd H1 tl (.lst (vl.set i (.ref p'))) sf.aG = some (.lst log) := by rw [upd_ne hGt]; exact hG1
        walk_at "go"
        rename_i q2 hq2 q hq
        have sm : Mut (H1 tl) := by rw [htl1]; trivial
        have sm2 : Mut (upd H1 tl (.lst (vl.set i (.ref p'))) sf.aG) := by rw [hG2]; trivial
        exact k3 v' hv' hvv _ p' q q2 _ (fun b o m1 m2 g => RX.up_ne hq (RX.up_ne hq2 (by rw [upd_ne m2, upd_ne m1]; exact e1 _ _ g))) (RX.up_ne hq (RX.up_ne hq2 (by rw [upd_ne (Ne.symm hGt), upd_same]))) (RX.up_ne hq (RX.up_ne hq2 upd_same)) (RX.sqT_fresh hq (RX.sqT_fresh hq2 (RX.sqT_mut sm2 (RX.sqT_mut sm hs')))) (SqT.of upd_same) (SqT.of (RX.up_ne hq upd_same))
end
/-! ### the book: what a store's objects hold -/
/-- a table: its name, its list, its eldest, its versions -/
structure Tb where
  n : Str
  a : Addr
  e : Int
  vs : List (Addr × Ver)
def tbK (ts : List Tb) : List (Key × V) := ts.map fun t => (.inr t.n, .ref t.a)
def tbE (ts : List Tb) : List (Str × Int) := ts.map fun t => (t.n, t.e)
def Tb.l (t : Tb) : List V := t.vs.map fun e => V.ref e.1
structure Bk where
  s : SF
  dx : Addr
  ts : List Tb
  ls : List Lk
  fs : List (Int × Lk)
  log : List V
  cc : Str → Int
def Bk.c (b : Bk) (l : Lk) : Int := b.cc l.n
structure Bk.At (K : PySem.W.Frag) (H : Hp) (a : Addr) (b : Bk) : Prop where
  st : H a = some (.ins (CS K) b.dx b.s.l)
  tb : H b.s.aT = some (.dK (tbK b.ts))
  el : H b.s.aE = some (.dK (elK (tbE b.ts)))
  lk : H b.s.aL = some (.dK (lkK b.ls))
  ft : H b.s.aF = some (.dK (fkK b.fs))
  lg : H b.s.aG = some (.lst b.log)
  vl : ∀ t ∈ b.ts, H t.a = some (.lst t.l)
  vt : ∀ t ∈ b.ts, ∀ e ∈ t.vs, SqT K H e.1 e.2.l
  ll : ∀ l ∈ b.ls, l.there K H
  fl : ∀ e ∈ b.fs, e.2.there K H
  lo : LooksAt K H b.ls b.c
  nd : [b.s.aT, b.s.aE, b.s.aL, b.s.aF].Nodup
  nl : (b.s.aG :: b.ts.map (·.a)).Nodup
structure Bk.Ok (b : Bk) (od : Option Lk) (k m g : Nat) : Prop where
  busy : b.s.busy = false
  r8 : 8 ≤ b.s.ring
  stp : b.s.stop < b.s.ring / 2
  nx0 : 0 ≤ b.s.next
  nx1 : b.s.next < b.s.ring
  tne : b.ts ≠ []
  tl : b.ts.length < 900
  tnd : (b.ts.map (·.n)).Nodup
  tw : ∀ t ∈ b.ts, isW t.n = true ∧ t.n.length ≤ 100
  te : ∀ t ∈ b.ts, 0 ≤ t.e ∧ t.e < b.s.ring ∧ (b.s.next - t.e) % b.s.ring ≤ b.s.stop
  tv : ∀ t ∈ b.ts, ∀ e ∈ t.vs, ∀ n, e.2.maker = some n ∨ e.2.ender = some n → 0 ≤ n ∧ n < b.s.ring ∧ 1 ≤ (b.s.next - n) % b.s.ring ∧ (b.s.next - n) % b.s.ring ≤ (b.s.next - t.e) % b.s.ring ∧ (fkG b.fs n).isSome = true
  wo : ∀ t ∈ b.ts, ∀ e ∈ t.vs, e.2.ok2
  fk : ∀ e ∈ b.fs, 0 ≤ e.1 ∧ e.1 < b.s.ring ∧ 1 ≤ (b.s.next - e.1) % b.s.ring ∧ ∃ t ∈ b.ts, (b.s.next - e.1) % b.s.ring ≤ (b.s.next - t.e) % b.s.ring
  fnd : (b.fs.map (·.1)).Nodup
  ff : ∀ e ∈ b.fs, e.2.f.fin = some (Str.ofString "done") ∨ some e.2 = od
  lnd : (b.ls.map (·.n)).Nodup
  nm : ∀ l ∈ b.ls, l.f.name = l.n
  op : ∀ l ∈ b.ls, l.f.fin = none → some l = od ∨ (l.f.num = none ∧ l.f.sort = Str.ofString "house")
  dd : ∀ d, od = some d → d ∈ b.ls ∧ d.n = Str.ofString "deed" ∧ d.f.name = Str.ofString "deed" ∧ d.f.sort = Str.ofString "deed" ∧ d.f.fin = none
  dn : od = none → ∀ l ∈ b.ls, l.n = Str.ofString "deed" → l.f.fin ≠ none
  kv : ∀ t ∈ b.ts, t.vs.length ≤ k
  kf : b.fs.length ≤ k
  km : b.ls.length ≤ m
  kg : b.log.length ≤ g
/-- what a law sees of it -/
structure Ab where
  ring : Int
  stop : Int
  next : Int
  el : List (Str × Int)
  hs : List (Str × Int)
def Bk.hs (b : Bk) : List (Str × Int) := (b.ls.filter fun l => l.f.fin.isNone && !decide (l.n = Str.ofString "deed")).map fun l => (l.n, b.c l)
def Bk.ab (b : Bk) : Ab := ⟨b.s.ring, b.s.stop, b.s.next, tbE b.ts, b.hs⟩
inductive Ph where
  | rest
  | d0
  | d1
def Ph.ok (b : Bk) (od : Option Lk) : Ph → Prop
  | .rest => od = none
  | .d0 => ∃ d, od = some d ∧ d.f.num = none ∧ b.c d = b.s.next
  | .d1 => ∃ d, od = some d
structure BkIs (K : PySem.W.Frag) (H : Hp) (a : Addr) (A : Ab) (ph : Ph) (k m g : Nat) (b : Bk) (od : Option Lk) : Prop where
  at_ : b.At K H a
  ok : b.Ok od k m g
  ab : b.ab = A
  ph : ph.ok b od
def Book (K : PySem.W.Frag) (H : Hp) (a : Addr) (A : Ab) (ph : Ph) (k m g : Nat) : Prop := ∃ b od, BkIs K H a A ph k m g b od
section
variable {K : PySem.W.Frag} {H H' : Hp} {a : Addr} {b : Bk} {A : Ab} {ph : Ph} {k m g : Nat} {od : Option Lk}
theorem Bk.At.same (h : b.At K H a) (e : Same H H') : b.At K H' a where
  st := e _ _ h.st
  tb := e _ _ h.tb
  el := e _ _ h.el
  lk := e _ _ h.lk
  ft := e _ _ h.ft
  lg := e _ _ h.lg
  vl := fun t ht => e _ _ (h.vl t ht)
  vt := fun t ht x hx => RX.same_sqT e (h.vt t ht x hx)
  ll := fun l hl => e _ _ (h.ll l hl)
  fl := fun l hl => e _ _ (h.fl l hl)
  lo := looks_same e h.lo
  nd := h.nd
  nl := h.nl
theorem Book.same (h : Book K H a A ph k m g) (e : Same H H') : Book K H' a A ph k m g := let ⟨b, od, z⟩ := h; ⟨b, od, ⟨z.at_.same e, z.ok, z.ab, z.ph⟩⟩
theorem Bk.Ok.mono {k' m' g' : Nat} (h : b.Ok od k m g) (hk : k ≤ k') (hm : m ≤ m') (hg : g ≤ g') : b.Ok od k' m' g' :=
  { h with kv := fun t ht => Nat.le_trans (h.kv t ht) hk, kf := Nat.le_trans h.kf hk, km := Nat.le_trans h.km hm, kg := Nat.le_trans h.kg hg }
theorem Book.mono {k' m' g' : Nat} (h : Book K H a A ph k m g) (hk : k ≤ k') (hm : m ≤ m') (hg : g ≤ g') : Book K H a A ph k' m' g' := let ⟨b, od, z⟩ := h; ⟨b, od, ⟨z.at_, z.ok.mono hk hm hg, z.ab, z.ph⟩⟩
/-! ### steps on a ring -/
theorem sb_succ {r nx x : Int} (h0 : 0 < r) (h : (nx - x) % r + 1 < r) : ((nx + 1) % r - x) % r = (nx - x) % r + 1 := by
  have e : ((nx + 1) % r - x) % r = ((nx - x) + 1) % r := by
    rw [Int.emod_sub_emod]
    congr 1
    omega
  rw [e, Int.add_emod]
  have h2 := Int.emod_nonneg (nx - x) (show r ≠ 0 by omega)
  have : (1 : Int) % r = 1 := Int.emod_eq_of_lt (by omega) (by omega)
  rw [this]
  exact Int.emod_eq_of_lt (by omega) h
theorem sb_zero {r nx x : Int} (h0 : 0 < r) (a1 : 0 ≤ nx) (a2 : nx < r) (b1 : 0 ≤ x) (b2 : x < r) (h : (nx - x) % r = 0) : x = nx := by
  have h3 := Int.emod_emod_of_dvd
  by_cases q : 0 ≤ nx - x
  · rw [Int.emod_eq_of_lt q (by omega)] at h; omega
  · have : (nx - x) % r = (nx - x + r) % r := by rw [Int.add_emod_right]
    rw [this, Int.emod_eq_of_lt (by omega) (by omega)] at h
    omega
/-- before, where both lie behind next by less than half a ring -/
theorem bef_sb {r nx x y : Int} (h0 : 0 < r) (hx : (nx - x) % r < r / 2) (hy : (nx - y) % r < r / 2) : bef r x y = decide ((nx - y) % r < (nx - x) % r) := by
  have e : (y - x) % r = ((nx - x) % r - (nx - y) % r) % r := by
    rw [← Int.sub_emod]
    congr 1
    omega
  have p := Int.emod_nonneg (nx - x) (show r ≠ 0 by omega)
  have q := Int.emod_nonneg (nx - y) (show r ≠ 0 by omega)
  unfold bef
  rw [e]
  generalize (nx - x) % r = u at *
  generalize (nx - y) % r = v at *
  by_cases h : v < u
  · rw [Int.emod_eq_of_lt (by omega) (by omega)]
    have h1 : (0 : Int) < u - v := by omega
    have h2 : u - v < r / 2 := by omega
    simp [h, h1, h2]
  · by_cases h2 : u = v
    · subst h2; simp
    · have : (u - v) % r = (u - v + r) % r := by rw [Int.add_emod_right]
      rw [this, Int.emod_eq_of_lt (by omega) (by omega)]
      have h3 : ¬ (u - v + r < r / 2) := by omega
      simp [h, h3]
/-- the eldest of numbers that lie less than half a ring behind -/
theorem eld_sb {r nx : Int} (h0 : 0 < r) : ∀ (ns : List Int) (n : Int), (∀ x ∈ n :: ns, (nx - x) % r < r / 2) → eldF r n ns ∈ n :: ns ∧ ∀ x ∈ n :: ns, (nx - x) % r ≤ (nx - eldF r n ns) % r
  | [], n, h => ⟨List.mem_cons_self .., fun x hx => by
      have : x = n := by simpa using hx
      rw [this]; exact Int.le_refl _⟩
  | y :: ns, n, h => by
    have hn := h n (List.mem_cons_self ..)
    have hy := h y (List.mem_cons_of_mem _ (List.mem_cons_self ..))
    have e := bef_sb (x := y) (y := n) h0 hy hn
    have ef : eldF r n (y :: ns) = eldF r (if bef r y n then y else n) ns := rfl
    rw [ef]
    by_cases hb : bef r y n = true
    · rw [if_pos hb]
      rw [hb] at e
      have e := of_decide_eq_true e.symm
      obtain ⟨i1, i2⟩ := eld_sb h0 ns y fun x hx => h x (List.mem_cons_of_mem _ hx)
      refine ⟨List.mem_cons_of_mem _ i1, fun x hx => ?_⟩
      rcases List.mem_cons.mp hx with rfl | hx
      · have := i2 y (List.mem_cons_self ..); omega
      · exact i2 x hx
    · rw [if_neg hb]
      have e := of_decide_eq_false ((Bool.not_eq_true _ ▸ hb : bef r y n = false) ▸ e).symm
      obtain ⟨i1, i2⟩ := eld_sb h0 ns n fun x hx => h x (by rcases List.mem_cons.mp hx with rfl | hx; exact List.mem_cons_self ..; exact List.mem_cons_of_mem _ (List.mem_cons_of_mem _ hx))
      refine ⟨?_, fun x hx => ?_⟩
      · rcases List.mem_cons.mp i1 with i1 | i1
        · rw [i1]; exact List.mem_cons_self ..
        · exact List.mem_cons_of_mem _ (List.mem_cons_of_mem _ i1)
      · rcases List.mem_cons.mp hx with rfl | hx
        · exact i2 x (List.mem_cons_self ..)
        · rcases List.mem_cons.mp hx with rfl | hx
          · have := i2 n (List.mem_cons_self ..); omega
          · exact i2 x (List.mem_cons_of_mem _ hx)
theorem eld_val {r nx : Int} (h0 : 0 < r) {ns : List Int} {n : Int} (h : ∀ x ∈ n :: ns, (nx - x) % r < r / 2) : eldV r n ns = .int (eldF r n ns) := by
  obtain ⟨i1, i2⟩ := eld_sb h0 ns n h
  unfold eldV
  rw [if_pos]
  refine List.all_eq_true.mpr fun x hx => ?_
  have h1 := i2 x hx
  have h2 := h _ i1
  have e : (x - eldF r n ns) % r = ((nx - eldF r n ns) % r - (nx - x) % r) % r := by
    rw [← Int.sub_emod]
    congr 1
    omega
  have p := Int.emod_nonneg (nx - x) (show r ≠ 0 by omega)
  rw [e, Int.emod_eq_of_lt (by omega) (by omega)]
  exact decide_eq_true (by omega)
/-- the floor: an eldest, of the most steps -/
structure Ab.Floor (A : Ab) (f : Int) : Prop where
  is : FloorIs A.ring A.el f
  mem : f ∈ elI A.el
  top : ∀ x ∈ elI A.el, (A.next - x) % A.ring ≤ (A.next - f) % A.ring
theorem floor_ex {r nx : Int} {el : List (Str × Int)} (h0 : 0 < r) (hne : el ≠ []) (h : ∀ x ∈ elI el, (nx - x) % r < r / 2) : ∃ f, FloorIs r el f ∧ f ∈ elI el ∧ ∀ x ∈ elI el, (nx - x) % r ≤ (nx - f) % r := by
  cases el with
  | nil => exact absurd rfl hne
  | cons e es =>
    obtain ⟨i1, i2⟩ := eld_sb h0 (elI es) e.2 h
    exact ⟨_, ⟨e.2, elI es, rfl, eld_val h0 h⟩, i1, i2⟩
theorem tbE_I (ts : List Tb) : elI (tbE ts) = ts.map (·.e) := by unfold elI tbE; rw [List.map_map]; rfl
theorem tbE_ne {ts : List Tb} (h : ts ≠ []) : tbE ts ≠ [] := by unfold tbE; simpa using h
theorem Bk.Ok.floor (o : b.Ok od k m g) : ∃ f, b.ab.Floor f ∧ (b.s.next - f) % b.s.ring ≤ b.s.stop := by
  have h0 : (0 : Int) < b.s.ring := by have := o.r8; omega
  obtain ⟨f, h1, h2, h3⟩ := floor_ex (nx := b.s.next) h0 (tbE_ne o.tne) (fun x hx => by
    rw [tbE_I] at hx
    obtain ⟨t, ht, rfl⟩ := List.mem_map.mp hx
    have := (o.te t ht).2.2; have := o.stp; omega)
  refine ⟨f, ⟨h1, h2, h3⟩, ?_⟩
  rw [tbE_I] at h2
  obtain ⟨t, ht, rfl⟩ := List.mem_map.mp h2
  exact (o.te t ht).2.2
theorem floor_uniq {A : Ab} {f f' : Int} (h : A.Floor f) (h' : FloorIs A.ring A.el f') : f' = f := by
  obtain ⟨e, es, h1, h2⟩ := h.is
  obtain ⟨e', es', h3, h4⟩ := h'
  rw [h1] at h3
  cases h3
  rw [h2] at h4
  exact (V.int.inj h4).symm
/-! ### changes of a book: objects but few stay -/
theorem sqT_chg {X : Addr → Prop} {p : Addr} {xs : List V} (e : ∀ x o, ¬ X x → H x = some o → H' x = some o) (hx : ∀ x, X x → Mut (H x)) (t : SqT K H p xs) : SqT K H' p xs := by
  rcases t with (t | ⟨u, t⟩) | t
  · exact .inl (.inl (e _ _ (fun z => by have := hx _ z; rw [t] at this; exact this) t))
  · exact .inl (.inr ⟨u, e _ _ (fun z => by have := hx _ z; rw [t] at this; exact this) t⟩)
  · exact .inr t
theorem mut_of {x : Addr} {o : HO} (h : H x = some o) (hm : Mut (some o)) : Mut (H x) := by rw [h]; exact hm
theorem looks_chg {X : Addr → Prop} {ls : List Lk} {c : Lk → Int} (e : ∀ x o, ¬ X x → H x = some o → H' x = some o) (hx : ∀ x, X x → Mut (H x)) (h : LooksAt K H ls c) : LooksAt K H' ls c := fun l hl =>
  let ⟨q, h1, h2⟩ := h l hl; ⟨q, sqT_chg e hx h1, sqT_chg e hx h2⟩
end
/-- t's eldest raised -/
def setE (el : List (Str × Int)) (n : Str) (u : Int) : List (Str × Int) := el.map fun p => if p.1 = n then (p.1, u) else p
def rsT (ts : List Tb) (n : Str) (u : Int) : List Tb := ts.map fun t => if t.n = n then { t with e := u } else t
theorem rsT_E (ts : List Tb) (n : Str) (u : Int) : tbE (rsT ts n u) = setE (tbE ts) n u := by
  unfold tbE rsT setE
  rw [List.map_map, List.map_map]
  apply List.map_congr_left
  intro t _
  by_cases h : t.n = n <;> simp [h]
theorem rsT_K (ts : List Tb) (n : Str) (u : Int) : tbK (rsT ts n u) = tbK ts := by
  unfold tbK rsT
  rw [List.map_map]
  apply List.map_congr_left
  intro t _
  by_cases h : t.n = n <;> simp [h]
theorem rsT_a (ts : List Tb) (n : Str) (u : Int) : (rsT ts n u).map (·.a) = ts.map (·.a) := by
  unfold rsT
  rw [List.map_map]
  apply List.map_congr_left
  intro t _
  by_cases h : t.n = n <;> simp [h]
theorem rsT_n (ts : List Tb) (n : Str) (u : Int) : (rsT ts n u).map (·.n) = ts.map (·.n) := by
  unfold rsT
  rw [List.map_map]
  apply List.map_congr_left
  intro t _
  by_cases h : t.n = n <;> simp [h]
theorem rsT_mem {ts : List Tb} {n : Str} {u : Int} {x : Tb} (h : x ∈ rsT ts n u) : ∃ t ∈ ts, x = if t.n = n then { t with e := u } else t := by
  unfold rsT at h
  obtain ⟨t, ht, rfl⟩ := List.mem_map.mp h
  exact ⟨t, ht, rfl⟩
theorem elK_put (el : List (Str × Int)) (n : Str) (u : Int) (h : n ∈ el.map (·.1)) : putK (elK el) (.inr n) (.int u) = elK (setE el n u) := by
  unfold putK
  rw [if_pos]
  · unfold elK setE
    rw [List.map_map, List.map_map]
    apply List.map_congr_left
    intro p _
    by_cases q : p.1 = n <;> simp [q]
  · obtain ⟨p, hp, rfl⟩ := List.mem_map.mp h
    unfold elK
    rw [List.any_map]
    exact List.any_eq_true.mpr ⟨p, hp, by simp⟩
theorem key_inj {α : Type} {l : List α} {f : α → Str} (nd : (l.map f).Nodup) {x y : α} (hx : x ∈ l) (hy : y ∈ l) (h : f x = f y) : x = y := by
  induction l with
  | nil => cases hx
  | cons z r ih =>
    rw [List.map_cons, List.nodup_cons] at nd
    rcases List.mem_cons.mp hx with ex | hx' <;> rcases List.mem_cons.mp hy with ey | hy'
    · rw [ex, ey]
    · exact absurd (show f z ∈ r.map f by rw [← ex, h]; exact List.mem_map_of_mem hy') nd.1
    · exact absurd (show f z ∈ r.map f by rw [← ey, ← h]; exact List.mem_map_of_mem hx') nd.1
    · exact ih nd.2 hx' hy'
theorem val_key {α : Type} {l : List α} {f : α → Str} {g : α → V} (nd : (l.map f).Nodup) {x : α} (hx : x ∈ l) : valV (l.map fun t => ((.inr (f t) : Key), g t)) (.inr (f x)) = some (g x) := by
  unfold valV
  induction l with
  | nil => cases hx
  | cons z r ih =>
    rw [List.map_cons, List.nodup_cons] at nd
    rw [List.map_cons, List.find?_cons]
    by_cases e : f z = f x
    · have : (decide (((.inr (f z) : Key), g z).1 = .inr (f x))) = true := by simp [e]
      rw [this]
      have : z = x := key_inj (l := z :: r) (f := f) (by rw [List.map_cons, List.nodup_cons]; exact nd) List.mem_cons_self hx e
      rw [this]; rfl
    · have : (decide (((.inr (f z) : Key), g z).1 = .inr (f x))) = false := by simp [e]
      rw [this]
      rcases List.mem_cons.mp hx with rfl | hx
      · exact absurd rfl e
      · exact ih nd.2 hx
section
variable {K : PySem.W.Frag} {H H' : Hp} {a : Addr} {b : Bk} {A : Ab} {ph : Ph} {k m g : Nat} {od : Option Lk} {t : Tb}
theorem Bk.dget_tb (h : b.At K H a) (o : b.Ok od k m g) (ht : t ∈ b.ts) : DGet H b.s.aT (.str t.n) (some (.ref t.a)) :=
  .inl ⟨_, .inr t.n, .inl h.tb, rfl, (val_key (f := Tb.n) (g := fun t : Tb => V.ref t.a) o.tnd ht).symm⟩
theorem Bk.dget_el (h : b.At K H a) (o : b.Ok od k m g) (ht : t ∈ b.ts) : DGet H b.s.aE (.str t.n) (some (.int t.e)) := by
  have e : elK (tbE b.ts) = b.ts.map fun t => ((.inr t.n : Key), V.int t.e) := by unfold elK tbE; rw [List.map_map]; rfl
  exact .inl ⟨_, .inr t.n, .inl h.el, rfl, by rw [e]; exact (val_key (f := Tb.n) (g := fun t : Tb => V.int t.e) o.tnd ht).symm⟩
theorem fkG_mem {fs : List (Int × Lk)} {n : Int} {m : Lk} (h : fkG fs n = some m) : (n, m) ∈ fs := by
  unfold fkG at h
  obtain ⟨e, he, rfl⟩ := Option.map_eq_some_iff.mp h
  have h2 : e.1 = n := by simpa using List.find?_some he
  rw [← h2]; exact List.mem_of_find?_eq_some he
theorem Bk.Ok.allDn (o : b.Ok none k m g) (ht : t ∈ b.ts) {e : Addr × Ver} (he : e ∈ t.vs) : AllDn b.fs e.2 := fun n hn => by
  obtain ⟨_, _, _, _, h⟩ := o.tv t ht e he n hn
  obtain ⟨m, hm⟩ := Option.isSome_iff_exists.mp h
  have hm2 := fkG_mem hm
  refine ⟨m, hm, ⟨_, hm2, rfl⟩, ?_⟩
  rcases o.ff _ hm2 with h | h
  · exact h
  · cases h
/-- upto lies behind the table's eldest -/
theorem sb_upto {r nx x u : Int} (h0 : 0 < r) (h : (u - x) % r ≤ (nx - x) % r) : (nx - u) % r = (nx - x) % r - (u - x) % r := by
  have e : (nx - u) % r = ((nx - x) % r - (u - x) % r) % r := by
    rw [← Int.sub_emod]
    congr 1
    omega
  have p := Int.emod_nonneg (nx - x) (show r ≠ 0 by omega)
  have q := Int.emod_nonneg (u - x) (show r ≠ 0 by omega)
  have p2 := Int.emod_lt_of_pos (nx - x) h0
  rw [e, Int.emod_eq_of_lt (by omega) (by omega)]
def Bk.raised (b : Bk) (n : Str) (u : Int) (D : Addr) (f : Int) (log : List V) : Bk := { b with s := { b.s with aF := D }, ts := rsT b.ts n u, fs := b.fs.filter fun e => keepF b.s.ring b.s.next f e.1, log := log }
theorem fkG_filter {fs : List (Int × Lk)} {p : Int → Bool} {n : Int} (hp : p n = true) : fkG (fs.filter fun e => p e.1) n = fkG fs n := by
  unfold fkG
  congr 1
  induction fs with
  | nil => rfl
  | cons e r ih =>
    by_cases h : p e.1 = true
    · rw [List.filter_cons_of_pos (by simpa using h), List.find?_cons, List.find?_cons, ih]
    · rw [List.filter_cons_of_neg (by simpa using h), List.find?_cons, ih]
      have : ¬ e.1 = n := fun z => h (z ▸ hp)
      simp [this]
theorem Bk.Ok.raise (o : b.Ok none k m g) (ht : t ∈ b.ts) {u f : Int} {D : Addr} {log : List V} (u0 : 0 ≤ u) (u1 : u < b.s.ring) (hu : (u - t.e) % b.s.ring ≤ (b.s.next - t.e) % b.s.ring)
    (hfz : ∀ e ∈ t.vs, frzV b.s.ring u e.2 = some e.2) (hf : FloorIs b.s.ring (tbE (rsT b.ts t.n u)) f) (hl : log.length ≤ g) : (b.raised t.n u D f log).Ok none k m g := by
  have h0 : (0 : Int) < b.s.ring := by have := o.r8; omega
  have hsu := sb_upto (nx := b.s.next) h0 hu
  have hq := Int.emod_nonneg (u - t.e) (show b.s.ring ≠ 0 by omega)
  have hte : ∀ x ∈ rsT b.ts t.n u, 0 ≤ x.e ∧ x.e < b.s.ring ∧ (b.s.next - x.e) % b.s.ring ≤ b.s.stop := fun x hx => by
    obtain ⟨y, hy, rfl⟩ := rsT_mem hx
    have h1 := o.te y hy
    split
    · have := (o.te t ht).2.2
      exact ⟨u0, u1, by show (b.s.next - u) % b.s.ring ≤ _; omega⟩
    · exact h1
  -- the floor
  have hfl0 : (∃ x ∈ rsT b.ts t.n u, x.e = f) ∧ ∀ x ∈ rsT b.ts t.n u, (b.s.next - x.e) % b.s.ring ≤ (b.s.next - f) % b.s.ring := by
    obtain ⟨f', h1, h2, h3⟩ := floor_ex (nx := b.s.next) (el := tbE (rsT b.ts t.n u)) h0 (tbE_ne (by unfold rsT; simpa using o.tne)) (fun x hx => by
      rw [tbE_I] at hx
      obtain ⟨y, hy, rfl⟩ := List.mem_map.mp hx
      have := (hte y hy).2.2; have := o.stp; omega)
    have : f = f' := by
      obtain ⟨e, es, q1, q2⟩ := hf
      obtain ⟨e', es', q3, q4⟩ := h1
      rw [q1] at q3; cases q3; rw [q2] at q4; exact V.int.inj q4
    subst this
    refine ⟨?_, fun x hx => h3 _ (by rw [tbE_I]; exact List.mem_map_of_mem hx)⟩
    rw [tbE_I] at h2
    obtain ⟨x, hx, e⟩ := List.mem_map.mp h2
    exact ⟨x, hx, e⟩
  obtain ⟨⟨xf, hxf, exf⟩, hfl⟩ := hfl0
  have htv : ∀ x ∈ rsT b.ts t.n u, ∀ e ∈ x.vs, ∀ n, e.2.maker = some n ∨ e.2.ender = some n → 0 ≤ n ∧ n < b.s.ring ∧ 1 ≤ (b.s.next - n) % b.s.ring ∧ (b.s.next - n) % b.s.ring ≤ (b.s.next - x.e) % b.s.ring ∧ (fkG b.fs n).isSome = true := fun x hx e he n hn => by
    obtain ⟨y, hy, rfl⟩ := rsT_mem hx
    by_cases hyn : y.n = t.n
    · have : y = t := key_inj o.tnd hy ht hyn
      subst this
      rw [if_pos rfl] at he
      rw [if_pos rfl]
      obtain ⟨h1, h2, h3, h4, h5⟩ := o.tv y hy e he n hn
      refine ⟨h1, h2, h3, ?_, h5⟩
      show (b.s.next - n) % b.s.ring ≤ (b.s.next - u) % b.s.ring
      have hz := hfz e he
      have hst := (o.te y hy).2.2
      have hhalf := o.stp
      have hb := bef_sb (x := n) (y := u) h0 (by omega) (show (b.s.next - u) % b.s.ring < b.s.ring / 2 by omega)
      have hnb : bef b.s.ring n u = false := by
        unfold frzV at hz
        split at hz
        · cases hz
        · rename_i hne
          rcases hn with hn | hn
          · have := congrArg (fun o : Option Ver => o.bind (·.maker)) hz
            simp only [Option.bind_some, hn] at this
            by_cases hbm : bef b.s.ring n u = true
            · rw [if_pos (show befO b.s.ring (some n) u = true from hbm)] at this; cases this
            · simpa using hbm
          · rw [hn] at hne
            simpa [befO] using hne
      rw [hnb] at hb
      have := of_decide_eq_false hb.symm
      omega
    · rw [if_neg hyn] at he ⊢
      exact o.tv y hy e he n hn
  refine { busy := o.busy, r8 := o.r8, stp := o.stp, nx0 := o.nx0, nx1 := o.nx1, tne := by show rsT b.ts t.n u ≠ []; unfold rsT; simpa using o.tne, tl := by show (rsT b.ts t.n u).length < 900; unfold rsT; rw [List.length_map]; exact o.tl, tnd := by show ((rsT b.ts t.n u).map (·.n)).Nodup; rw [rsT_n]; exact o.tnd, tw := fun x hx => ?_, te := hte, tv := fun x hx e he n hn => ?_, wo := fun x hx e he => ?_, fk := fun e he => ⟨(o.fk e (List.mem_filter.mp he).1).1, (o.fk e (List.mem_filter.mp he).1).2.1, (o.fk e (List.mem_filter.mp he).1).2.2.1, xf, hxf, by
    have hk := (List.mem_filter.mp he).2
    unfold keepF at hk
    simp only [Bool.and_eq_true, decide_eq_true_eq] at hk
    rw [exf]; exact hk.2⟩, fnd := o.fnd.sublist (List.Sublist.map _ List.filter_sublist), ff := fun e he => o.ff e (List.mem_filter.mp he).1, lnd := o.lnd, nm := o.nm, op := o.op, dd := o.dd, dn := o.dn, kv := fun x hx => ?_, kf := Nat.le_trans (List.length_filter_le _ _) o.kf, km := o.km, kg := hl }
  · obtain ⟨y, hy, rfl⟩ := rsT_mem hx
    have := o.tw y hy
    split <;> exact this
  · obtain ⟨h1, h2, h3, h4, h5⟩ := htv x hx e he n hn
    refine ⟨h1, h2, h3, h4, ?_⟩
    show (fkG (b.fs.filter fun e => keepF b.s.ring b.s.next f e.1) n).isSome = true
    rw [fkG_filter (p := fun n => keepF b.s.ring b.s.next f n)]
    · exact h5
    · have := hfl x hx
      unfold keepF
      simp only [Bool.and_eq_true, decide_eq_true_eq]
      omega
  · obtain ⟨y, hy, rfl⟩ := rsT_mem hx
    have := o.wo y hy
    split at he <;> exact this e he
  · obtain ⟨y, hy, rfl⟩ := rsT_mem hx
    have := o.kv y hy
    split <;> exact this
end
/-- numbers that a freezing of a table may go up to -/
structure Upt (b : Bk) (t : Tb) (u h : Int) : Prop where
  hor : HorIs b.s.ring b.s.next b.ls b.c h
  u0 : 0 ≤ u
  u1 : u < b.s.ring
  ue : (u - t.e) % b.s.ring ≤ (b.s.next - t.e) % b.s.ring
  uh : (b.s.next - h) % b.s.ring ≤ (b.s.next - u) % b.s.ring
theorem raise_floor {b : Bk} {k m g : Nat} {t : Tb} {u : Int} (o : b.Ok none k m g) (ht : t ∈ b.ts) (u0 : 0 ≤ u) (u1 : u < b.s.ring) (hu : (u - t.e) % b.s.ring ≤ (b.s.next - t.e) % b.s.ring) : ∃ f, FloorIs b.s.ring (setE (tbE b.ts) t.n u) f := by
  have h0 : (0 : Int) < b.s.ring := by have := o.r8; omega
  have hsu := sb_upto (nx := b.s.next) h0 hu
  have hq := Int.emod_nonneg (u - t.e) (show b.s.ring ≠ 0 by omega)
  obtain ⟨f, h, _⟩ := floor_ex (nx := b.s.next) (el := tbE (rsT b.ts t.n u)) h0 (tbE_ne (by unfold rsT; simpa using o.tne)) (fun x hx => by
      rw [tbE_I] at hx
      obtain ⟨y, hy, rfl⟩ := List.mem_map.mp hx
      obtain ⟨z, hz, rfl⟩ := rsT_mem hy
      have h2 := o.stp
      have h3 := (o.te z hz).2.2
      have h4 := (o.te t ht).2.2
      split
      · show (b.s.next - u) % b.s.ring < _; omega
      · omega)
  rw [rsT_E] at h
  exact ⟨f, h⟩
section
variable {P : Program} {w : World} {K : PySem.W.Frag} {mg : Str → Option Value} {base : Heap}
def sp_Freezing_raise_eldest (K : PySem.W.Frag) : Sp := fun vs H Q _ => ∃ (a : Addr) (b : Bk) (k m g : Nat) (n : Str) (t : Tb) (u h : Int), vs = [.ref a, .str n, .int u] ∧ b.At K H a ∧ b.Ok none k m g ∧ k < 900 ∧ m < 900 ∧ g < 10000000 ∧ b.s.ring ≤ 1000000 ∧ t ∈ b.ts ∧ t.n = n ∧ Upt b t u h ∧ (∀ e ∈ t.vs, frzV b.s.ring u e.2 = some e.2) ∧
  ∀ H' D f log, (∀ x o, x ≠ b.s.aE → x ≠ b.s.aG → x ≠ a → H x = some o → H' x = some o) → (b.raised t.n u D f log).At K H' a → (b.raised t.n u D f log).Ok none k m (g + 1) → Q (.bl true) H'
theorem sc_Freezing_raise_eldest : FnScope ["self", "table", "upto", "version"] ["self", "table", "upto"] (defScope s_Freezing_raise_eldest) := ⟨rfl, rfl, rfl, by decide +kernel, rfl, by decide +kernel, by decide +kernel⟩
theorem ok_Freezing_raise_eldest {fd : FuncData} (T : Txt K mg) (F : FnD K d_Freezing_raise_eldest fd) : FnOk P w K mg base CX0 6 (He.fAd K d_Freezing_raise_eldest.at_) fd ["self", "table", "upto"] (sp_Freezing_raise_eldest K) := by
  obtain ⟨fd_Deeds_check_table, F_Deeds_check_table⟩ := T.fn 49 (d := d_Deeds_check_table)
  have G_Deeds_check_table := ok_Deeds_check_table (P := P) (w := w) (base := base) T F_Deeds_check_table
  have B_Deeds_check_table_2 : KBn K fd_Deeds_check_table ["self", "table"] 2 [] (fun us ws => us ++ ws) (fun us ws => us ++ ws) := RX.kb0 F_Deeds_check_table 2 [] (fun us ws => us ++ ws) (fun a b => a.append b) (fun _ _ _ _ _ _ us ws h1 h2 => match us, ws, h1, h2 with | [_, _], [], _, _ => rfl)
  obtain ⟨fd_Freezing_check_upto, F_Freezing_check_upto⟩ := T.fn 76 (d := d_Freezing_check_upto)
  have G_Freezing_check_upto := ok_Freezing_check_upto (P := P) (w := w) (base := base) T F_Freezing_check_upto
  have B_Freezing_check_upto_3 : KBn K fd_Freezing_check_upto ["self", "table", "upto"] 3 [] (fun us ws => us ++ ws) (fun us ws => us ++ ws) := RX.kb0 F_Freezing_check_upto 3 [] (fun us ws => us ++ ws) (fun a b => a.append b) (fun _ _ _ _ _ _ us ws h1 h2 => match us, ws, h1, h2 with | [_, _, _], [], _, _ => rfl)
  obtain ⟨fd_Freezing_turned, F_Freezing_turned⟩ := T.fn 77 (d := d_Freezing_turned)
  have G_Freezing_turned := ok_Freezing_turned (P := P) (w := w) (base := base) T F_Freezing_turned
  have B_Freezing_turned_3 : KBn K fd_Freezing_turned ["self", "version", "upto"] 3 [] (fun us ws => us ++ ws) (fun us ws => us ++ ws) := RX.kb0 F_Freezing_turned 3 [] (fun us ws => us ++ ws) (fun a b => a.append b) (fun _ _ _ _ _ _ us ws h1 h2 => match us, ws, h1, h2 with | [_, _, _], [], _, _ => rfl)
  obtain ⟨fd_Deeds_note, F_Deeds_note⟩ := T.fn 42 (d := d_Deeds_note)
  have G_Deeds_note := ok_Deeds_note (P := P) (w := w) (base := base) T F_Deeds_note
  have B_Deeds_note_2 : KBn K fd_Deeds_note ["self", "row"] 2 [] (fun us ws => us ++ ws) (fun us ws => us ++ ws) := RX.kb0 F_Deeds_note 2 [] (fun us ws => us ++ ws) (fun a b => a.append b) (fun _ _ _ _ _ _ us ws h1 h2 => match us, ws, h1, h2 with | [_, _], [], _, _ => rfl)
  obtain ⟨fd_Deeds_forget, F_Deeds_forget⟩ := T.fn 56 (d := d_Deeds_forget)
  have G_Deeds_forget := ok_Deeds_forget (P := P) (w := w) (base := base) T F_Deeds_forget
  have B_Deeds_forget_2 : KBn K fd_Deeds_forget ["self", "floor"] 2 [] (fun us ws => us ++ ws) (fun us ws => us ++ ws) := RX.kb0 F_Deeds_forget 2 [] (fun us ws => us ++ ws) (fun a b => a.append b) (fun _ _ _ _ _ _ us ws h1 h2 => match us, ws, h1, h2 with | [_, _], [], _, _ => rfl)
  obtain ⟨fd_Freezing_floor, F_Freezing_floor⟩ := T.fn 72 (d := d_Freezing_floor)
  have G_Freezing_floor := ok_Freezing_floor (P := P) (w := w) (base := base) T F_Freezing_floor
  have B_Freezing_floor_1 : KBn K fd_Freezing_floor ["self"] 1 [] (fun us ws => us ++ ws) (fun us ws => us ++ ws) := RX.kb0 F_Freezing_floor 1 [] (fun us ws => us ++ ws) (fun a b => a.append b) (fun _ _ _ _ _ _ us ws h1 h2 => match us, ws, h1, h2 with | [_], [], _, _ => rfl)
  refine F.ok sc_Freezing_raise_eldest (fun vs H Q E h => ?_) (fun cdv A outer s H vs Q E hr h => ?_)
  · obtain ⟨a, b, k, m, g, n, t, u, h, rfl, _⟩ := h; rfl
  · obtain ⟨a, b, kk, m, g, n, t, u, hor, rfl, hb, ho, hk, hm, hg, hrg, ht, rfl, hu, hfz, k⟩ := h
    refine ⟨_, (PSs.nox (pss_cons (ps_expr (RX.pe_ms (pv 0) T.clStore (T.mt 127) G_Deeds_check_table (hr.mono (by decide)) B_Deeds_check_table_2 RX.passS0 (pa_cons (pv 1) pa_nil) pk_nil)) (pss_cons (ps_expr (RX.pe_ms (pv 0) T.clStore (T.mt 111) G_Freezing_check_upto (hr.mono (by decide)) B_Freezing_check_upto_3 RX.passS0 (pa_cons (pv 1) (pa_cons (pv 2) pa_nil)) pk_nil)) (pss_cons (ps_if (pt_val (pe_callB (cr_any rfl) (by rfl) (T.fre 52) (by decide +kernel) (pa_cons (pe_lc (own := [("version", 3)]) (g := (gName 3)) (tt := tYes) rfl sc_Freezing_raise_eldest.nd (pi_list (pe_dget (hu_of hr) (pe_fld (pv 0) rfl) (pv 1) (fun _ _ => rfl))) (blkOk_by (own := [("version", 3)]) (by kernel_rfl)) (fun _ _ _ _ _ => (pg_name (i := 3) sc_Freezing_raise_eldest.nd rfl (Or.inl rfl))) (fun _ _ _ _ _ => pts_nil) (fun _ _ _ _ _ => (pe_cmpR ((op_neD hr.units) : OpR _ _ (rNeD K)) (RX.pe_ms (pv 0) T.clStore (T.mt 112) G_Freezing_turned (hr.mono (by decide)) B_Freezing_turned_3 RX.passS0 (pa_cons (pv 3) (pa_cons (pv 2) pa_nil)) pk_nil) (pv 3) (nomark _)))) pa_nil))) (pss_one (ps_ret pe_bl)) pss_nil) (pss_cons (ps_dput (hu_of hr) (pe_fld (pv 0) rfl) (pv 1) (pv 2) rfl) (pss_cons (ps_expr (RX.pe_ms (pv 0) T.clStore (T.mt 120) G_Deeds_note (hr.mono (by decide)) B_Deeds_note_2 RX.passS0 (pa_cons (pe_joined (PJ.cons pe_str (PJ.cons (pe_fmt (pv 1)) (PJ.cons pe_str (PJ.cons (pe_fmt (pv 2)) PJ.nil))))) pa_nil) pk_nil)) (pss_cons (ps_expr (RX.pe_ms (pv 0) T.clStore (T.mt 134) G_Deeds_forget (hr.mono (by decide)) B_Deeds_forget_2 RX.passS0 (pa_cons (RX.pe_ms0 (pv 0) T.clStore (T.mt 107) G_Freezing_floor (hr.mono (by decide)) B_Freezing_floor_1 RX.passS0) pa_nil) pk_nil)) (pss_one (ps_ret pe_bl))))))))), ?_⟩
    have ha := hb.st
    have h0 : (0 : Int) < b.s.ring := by have := ho.r8; omega
    have hdT := Bk.dget_tb hb ho ht
    have hdE := Bk.dget_el hb ho ht
    obtain ⟨hw, hn100⟩ := ho.tw t ht
    have hL := hb.lk
    have hll := hb.ll
    have hls : b.ls.length < 900 := Nat.lt_of_le_of_lt ho.km hm
    obtain ⟨hu1, hu2, hu3, hu4, hu5⟩ := hu
    walk_at "go"
    refine ⟨looks_same (by assumption) hb.lo, h0, hu1, hu2, hu3, hu4, hu5, fun H2 e2 => ?_⟩
    rename_i H1 e1
    have e3 : Same H H2 := e1.trans e2
    have hb2 := hb.same e3
    have ha2 := hb2.st
    have hdT2 := Bk.dget_tb hb2 ho ht
    have hvl2 := hb2.vl t ht
    walk_at "go"
    rename_i D hD
    refine RX.lm_lst (its := t.vs) (vf := fun e => V.ref e.1) (f := fun _ => [V.bl false]) hD (fun _ => Nat.le_refl _) (Nat.le_trans (ho.kv t ht) (Nat.le_trans (show kk ≤ 1000 by omega) (by decide))) (SqL.of hvl2) (fun i e acc H3 hi hlen ac => ?_) (fun H3 ac => ?_)
    · have he := List.mem_of_getElem? hi
      have hb3 := hb2.same ac.same
      have ha3 := hb3.st
      have hF3 := hb3.ft
      have hv3 := hb3.vt t ht e he
      obtain ⟨wi, hwi⟩ := (ho.wo t ht e he).w
      have hv3' := RX.same_sqT (Same.refl H3) hv3
      walk_at "go"
      refine ⟨hb3.fl, h0, hv3, ho.allDn ht he, fun H4 e4 => ⟨fun hz => ?_, fun v' hv' p hp hs => ?_⟩⟩
      · rw [hfz e he] at hz; cases hz
      · rw [hfz e he] at hv'
        cases hv'
        have hv4 := RX.same_sqT e4 hv3
        walk_at "go"
        refine ⟨(show Dp K _ _ (verD e.2 wi) from dp_ver hs hwi), (show Dp K _ _ (verD e.2 wi) from dp_ver hv4 hwi), ver_sh (ho.wo t ht e he).k, ver_sh (ho.wo t ht e he).k, ?_⟩
        rw [ver_eqv _ _ _ rfl rfl]
        rw [show (!decide (e.2.maker = e.2.maker)) = false from by simp]
        exact ac.yes hD e4 hlen
    · have e4 := ac.same
      have hb4 := hb2.same e4
      have at4 : SqL K H3 D ((t.vs.map fun _ => false).map V.bl) := SqL.of (by rw [ac.at_, RX.fm1, List.map_map]; rfl)
      refine ⟨_, _, rfl, at4, ?_⟩
      rw [show (t.vs.map fun _ => false).any id = false from by rw [List.any_eq_false]; intro x hx; obtain ⟨_, _, rfl⟩ := List.mem_map.mp hx; decide]
      have ha4 := hb4.st
      have hel4 := hb4.el
      have hlg4 := hb4.lg
      have hez : (elK (tbE b.ts)).length < sizeLine := by unfold elK tbE; rw [List.length_map, List.length_map]; exact Nat.lt_of_lt_of_le ho.tl (by decide)
      have hin : t.n ∈ (tbE b.ts).map (·.1) := by unfold tbE; rw [List.map_map]; exact List.mem_map.mpr ⟨t, ht, rfl⟩
      have hput := elK_put (tbE b.ts) t.n u hin
      have nEa : a ≠ b.s.aE := ne_of ha4 hel4 (fun z => nomatch z)
      have nEG : b.s.aG ≠ b.s.aE := ne_of hlg4 hel4 (fun z => nomatch z)
      have nGa : a ≠ b.s.aG := ne_of ha4 hlg4 (fun z => nomatch z)
      have nd4 := hb4.nd
      simp only [List.nodup_cons, List.mem_cons, List.not_mem_nil, or_false, not_or] at nd4
      obtain ⟨⟨nTE, nTL, nTF⟩, ⟨nEL, nEF⟩, nLF, _⟩ := nd4
      obtain ⟨f, hf⟩ := raise_floor ho ht hu2 hu3 hu4
      have hfsz : (setE (tbE b.ts) t.n u).length < 1000 := by unfold setE tbE; rw [List.length_map, List.length_map]; have := ho.tl; omega
      walk_at "go"
      refine ⟨RX.dput_K (k := .inr t.n) hel4 hez, ?_⟩
      rw [hput]
      have ha5 : upd H3 b.s.aE (.dK (elK (setE (tbE b.ts) t.n u))) a = some (.ins (CS K) b.dx b.s.l) := by rw [upd_ne nEa]; exact ha4
      have hG5 : upd H3 b.s.aE (.dK (elK (setE (tbE b.ts) t.n u))) b.s.aG = some (.lst b.log) := by rw [upd_ne nEG]; exact hlg4
      have hgz : b.log.length < sizeLine := Nat.lt_of_le_of_lt ho.kg (Nat.lt_of_lt_of_le hg (by decide))
      walk_at "go"
      generalize V.str (Str.empty ++ Str.ofString "eldest " ++ t.n ++ Str.ofString " " ++ Str.ofString (toString u)) = z6
      have ha6 : upd (upd H3 b.s.aE (.dK (elK (setE (tbE b.ts) t.n u)))) b.s.aG (.lst (b.log ++ [z6])) a = some (.ins (CS K) b.dx b.s.l) := by rw [upd_ne nGa]; exact ha5
      have hE6 : upd (upd H3 b.s.aE (.dK (elK (setE (tbE b.ts) t.n u)))) b.s.aG (.lst (b.log ++ [z6])) b.s.aE = some (.dK (elK (setE (tbE b.ts) t.n u))) := by rw [upd_ne (Ne.symm nEG), upd_same]
      have hG6 : upd (upd H3 b.s.aE (.dK (elK (setE (tbE b.ts) t.n u)))) b.s.aG (.lst (b.log ++ [z6])) b.s.aG = some (.lst (b.log ++ [z6])) := upd_same
      have fr6 : ∀ x o, x ≠ b.s.aE → x ≠ b.s.aG → H3 x = some o → upd (upd H3 b.s.aE (.dK (elK (setE (tbE b.ts) t.n u)))) b.s.aG (.lst (b.log ++ [z6])) x = some o := fun x o n1 n2 q => by rw [upd_ne n2, upd_ne n1]; exact q
      generalize upd (upd H3 b.s.aE (.dK (elK (setE (tbE b.ts) t.n u)))) b.s.aG (.lst (b.log ++ [z6])) = H6 at *
      have hF6 : H6 b.s.aF = some (.dK (fkK b.fs)) := fr6 _ _ (Ne.symm nEF) (ne_of hb4.ft hlg4 (fun z => nomatch z)) hb4.ft
      have hfk : b.fs.length ≤ 1000 := Nat.le_trans ho.kf (by omega)
      have hfnd := ho.fnd
      walk_at "go"
      rename_i H7 e7 H8 D8 c1 c2 c3 c4
      have fr : ∀ x o, x ≠ b.s.aE → x ≠ b.s.aG → x ≠ a → H3 x = some o → H8 x = some o := fun x o n1 n2 n3 q => c1 x o n3 (e7 _ _ (fr6 x o n1 n2 q))
      have kd : ∀ {x : Addr} {kvs : List (Key × V)}, H3 x = some (.dK kvs) → x ≠ b.s.aE → H8 x = some (.dK kvs) := fun {x kvs} q n => fr _ _ n (ne_of q hlg4 (fun z => nomatch z)) (ne_of q ha4 (fun z => nomatch z)) q
      have nlk : ∀ {l : Lk}, l.there K H3 → l.there K H8 := fun {l} q => by
        unfold Lk.there at q ⊢
        refine fr _ _ (ne_of q hel4 (fun z => nomatch z)) (ne_of q hlg4 (fun z => nomatch z)) (fun z => ?_) q
        rw [z, ha4] at q
        have z2 := congrArg (fun o : Option HO => match o with | some (.ins _ _ fs) => fs.length | _ => 0) q
        exact absurd z2 (by show (11 : Nat) ≠ 5; decide)
      have hX : ∀ x, (x = b.s.aE ∨ x = b.s.aG ∨ x = a) → Mut (H3 x) := fun x hx => by
        rcases hx with rfl | rfl | rfl
        · rw [hel4]; trivial
        · rw [hlg4]; trivial
        · rw [ha4]; trivial
      have frX : ∀ x o, ¬ (x = b.s.aE ∨ x = b.s.aG ∨ x = a) → H3 x = some o → H8 x = some o := fun x o n q => fr x o (fun z => n (.inl z)) (fun z => n (.inr (.inl z))) (fun z => n (.inr (.inr z))) q
      have hnl := hb4.nl
      refine k H8 D8 f (b.log ++ [z6]) (fun x o n1 n2 n3 q => fr x o n1 n2 n3 (e4 _ _ (e3 _ _ q))) ?_ ?_
      · have nD : ∀ {x : Addr} {o : HO}, H3 x = some o → x ≠ D8 := fun {x o} q z => by
          have : H7 D8 = none := c2
          by_cases n1 : x = b.s.aE
          · rw [← z, n1] at this; rw [e7 _ _ hE6] at this; cases this
          · by_cases n2 : x = b.s.aG
            · rw [← z, n2] at this; rw [e7 _ _ hG6] at this; cases this
            · rw [← z] at this; rw [e7 _ _ (fr6 _ _ n1 n2 q)] at this; cases this
        refine { st := c4, tb := ?_, el := ?_, lk := kd hb4.lk (Ne.symm nEL), ft := c3, lg := ?_, vl := fun x hx => ?_, vt := fun x hx e he => ?_, ll := fun l hl => nlk (hb4.ll l hl), fl := fun l hl => nlk (hb4.fl l (List.mem_filter.mp hl).1), lo := looks_chg frX hX hb4.lo, nd := ?_, nl := ?_ }
        · show H8 b.s.aT = some (.dK (tbK (rsT b.ts t.n u)))
          rw [rsT_K]
          exact kd hb4.tb nTE
        · show H8 b.s.aE = some (.dK (elK (tbE (rsT b.ts t.n u))))
          rw [rsT_E]
          exact c1 _ _ (Ne.symm nEa) (e7 _ _ hE6)
        · exact c1 _ _ (Ne.symm nGa) (e7 _ _ hG6)
        · obtain ⟨y, hy, rfl⟩ := rsT_mem hx
          have hyl := hb4.vl y hy
          have nyG : y.a ≠ b.s.aG := fun z => by
            rw [List.nodup_cons] at hnl
            exact hnl.1 (z ▸ List.mem_map_of_mem hy)
          have := fr _ _ (ne_of hyl hel4 (fun z => nomatch z)) nyG (ne_of hyl ha4 (fun z => nomatch z)) hyl
          split <;> exact this
        · obtain ⟨y, hy, rfl⟩ := rsT_mem hx
          refine sqT_chg frX hX ?_
          split at he <;> exact hb4.vt y hy e he
        · show [b.s.aT, b.s.aE, b.s.aL, D8].Nodup
          simp only [List.nodup_cons, List.mem_cons, List.not_mem_nil, or_false, not_or]
          exact ⟨⟨nTE, nTL, nD hb4.tb⟩, ⟨nEL, nD hel4⟩, nD hb4.lk, ⟨fun z => z, List.nodup_nil⟩⟩
        · show (b.s.aG :: (rsT b.ts t.n u).map (·.a)).Nodup
          rw [rsT_a]; exact hnl
      · exact (ho.mono (Nat.le_refl _) (Nat.le_refl _) (Nat.le_succ g)).raise ht hu2 hu3 hu4 hfz (rsT_E _ _ _ ▸ hf) (by rw [List.length_append]; have := ho.kg; simp; omega)
end
/-- t's versions otherwise -/
def tbV (ts : List Tb) (n : Str) (vs : List (Addr × Ver)) : List Tb := ts.map fun t => if t.n = n then { t with vs := vs } else t
theorem tbV_E (ts : List Tb) (n : Str) (u : List (Addr × Ver)) : tbE (tbV ts n u) = tbE ts := by
  unfold tbE tbV
  rw [List.map_map]
  apply List.map_congr_left
  intro t _
  by_cases h : t.n = n <;> simp [h]
theorem tbV_K (ts : List Tb) (n : Str) (u : List (Addr × Ver)) : tbK (tbV ts n u) = tbK ts := by
  unfold tbK tbV
  rw [List.map_map]
  apply List.map_congr_left
  intro t _
  by_cases h : t.n = n <;> simp [h]
theorem tbV_a (ts : List Tb) (n : Str) (u : List (Addr × Ver)) : (tbV ts n u).map (·.a) = ts.map (·.a) := by
  unfold tbV
  rw [List.map_map]
  apply List.map_congr_left
  intro t _
  by_cases h : t.n = n <;> simp [h]
theorem tbV_n (ts : List Tb) (n : Str) (u : List (Addr × Ver)) : (tbV ts n u).map (·.n) = ts.map (·.n) := by
  unfold tbV
  rw [List.map_map]
  apply List.map_congr_left
  intro t _
  by_cases h : t.n = n <;> simp [h]
theorem tbV_mem {ts : List Tb} {n : Str} {u : List (Addr × Ver)} {x : Tb} (h : x ∈ tbV ts n u) : ∃ t ∈ ts, x = if t.n = n then { t with vs := u } else t := by
  unfold tbV at h
  obtain ⟨t, ht, rfl⟩ := List.mem_map.mp h
  exact ⟨t, ht, rfl⟩
theorem tbV_in {ts : List Tb} {t : Tb} (ht : t ∈ ts) (u : List (Addr × Ver)) : { t with vs := u } ∈ tbV ts t.n u := by
  unfold tbV
  exact List.mem_map.mpr ⟨t, ht, by rw [if_pos rfl]⟩
theorem tbV_e (x : Tb) (n : Str) (u : List (Addr × Ver)) : (if x.n = n then { x with vs := u } else x).e = x.e := by split <;> rfl
theorem tbV_in' {ts : List Tb} {x : Tb} (hx : x ∈ ts) (n : Str) (u : List (Addr × Ver)) : (if x.n = n then { x with vs := u } else x) ∈ tbV ts n u := by
  unfold tbV
  exact List.mem_map.mpr ⟨x, hx, rfl⟩
theorem tbV_tbV (ts : List Tb) (n : Str) (u v : List (Addr × Ver)) : tbV (tbV ts n u) n v = tbV ts n v := by
  unfold tbV
  rw [List.map_map]
  apply List.map_congr_left
  intro t _
  by_cases h : t.n = n <;> simp [h]
theorem tbV_same {ts : List Tb} (nd : (ts.map (·.n)).Nodup) {t : Tb} (ht : t ∈ ts) : tbV ts t.n t.vs = ts := by
  unfold tbV
  conv => rhs; rw [← List.map_id ts]
  apply List.map_congr_left
  intro x hx
  by_cases h : x.n = t.n
  · have : x = t := key_inj nd hx ht h
    subst this; simp
  · simp [h]
def Bk.tab (b : Bk) (n : Str) (vs : List (Addr × Ver)) (log : List V) : Bk := { b with ts := tbV b.ts n vs, log := log }
def Ver.sub (v v0 : Ver) : Prop := ∀ n, v.maker = some n ∨ v.ender = some n → v0.maker = some n ∨ v0.ender = some n
theorem Ver.sub.refl (v : Ver) : v.sub v := fun _ h => h
theorem Ver.sub.trans {a b c : Ver} (h : a.sub b) (h2 : b.sub c) : a.sub c := fun n q => h2 n (h n q)
theorem frz_sub {r u : Int} {v v' : Ver} (h : frzV r u v = some v') : v'.sub v := by
  obtain ⟨_, _, h3, h4⟩ := frz_key h
  intro n hn
  rcases hn with hn | hn
  · rcases h4 with h4 | h4
    · exact .inl (h4 ▸ hn)
    · rw [h4] at hn; cases hn
  · exact .inr (h3 ▸ hn)
section
variable {K : PySem.W.Frag} {H H' : Hp} {a : Addr} {b : Bk} {k m g g' : Nat} {od : Option Lk} {t : Tb} {vs : List (Addr × Ver)} {log : List V}
theorem Bk.At.tab (h : b.At K H a) (nd : (b.ts.map (·.n)).Nodup) (ht : t ∈ b.ts) (fr : ∀ x o, x ≠ t.a → x ≠ b.s.aG → H x = some o → H' x = some o) (hv : H' t.a = some (.lst (vs.map fun e => V.ref e.1))) (hl : H' b.s.aG = some (.lst log)) (hq : ∀ e ∈ vs, SqT K H' e.1 e.2.l) :
    (b.tab t.n vs log).At K H' a := by
  have ta := h.vl t ht
  have kd : ∀ {x : Addr} {kvs : List (Key × V)}, H x = some (.dK kvs) → H' x = some (.dK kvs) := fun {x kvs} q => fr _ _ (ne_of q ta (fun z => nomatch z)) (ne_of q h.lg (fun z => nomatch z)) q
  have ki : ∀ {x C dx : Addr} {fs : List (Str × V)}, H x = some (.ins C dx fs) → H' x = some (.ins C dx fs) := fun {x C dx fs} q => fr _ _ (ne_of q ta (fun z => nomatch z)) (ne_of q h.lg (fun z => nomatch z)) q
  have hX : ∀ x, (x = t.a ∨ x = b.s.aG) → Mut (H x) := fun x hx => by
    rcases hx with rfl | rfl
    · rw [ta]; trivial
    · rw [h.lg]; trivial
  have frX : ∀ x o, ¬ (x = t.a ∨ x = b.s.aG) → H x = some o → H' x = some o := fun x o n q => fr x o (fun z => n (.inl z)) (fun z => n (.inr z)) q
  have hnl := h.nl
  rw [List.nodup_cons] at hnl
  refine { st := ki h.st, tb := ?_, el := ?_, lk := kd h.lk, ft := kd h.ft, lg := hl, vl := fun x hx => ?_, vt := fun x hx e he => ?_, ll := fun l hl => ki (h.ll l hl), fl := fun e he => ki (h.fl e he), lo := looks_chg frX hX h.lo, nd := h.nd, nl := ?_ }
  · show H' b.s.aT = some (.dK (tbK (tbV b.ts t.n vs)))
    rw [tbV_K]; exact kd h.tb
  · show H' b.s.aE = some (.dK (elK (tbE (tbV b.ts t.n vs))))
    rw [tbV_E]; exact kd h.el
  · obtain ⟨y, hy, rfl⟩ := tbV_mem hx
    by_cases e : y.n = t.n
    · have : y = t := key_inj nd hy ht e
      subst this
      rw [if_pos rfl]; exact hv
    · rw [if_neg e]
      refine fr _ _ (fun z => e ?_) (fun z => hnl.1 (z ▸ List.mem_map_of_mem hy)) (h.vl y hy)
      have hz := h.nl
      rw [List.nodup_cons] at hz
      have inj : ∀ (l : List Tb), (l.map (·.a)).Nodup → ∀ x ∈ l, ∀ y ∈ l, x.a = y.a → x = y := by
        intro l
        induction l with
        | nil => intro _ x hx; cases hx
        | cons u r ih =>
          intro n x hx y hy e
          rw [List.map_cons, List.nodup_cons] at n
          rcases List.mem_cons.mp hx with ex | hx' <;> rcases List.mem_cons.mp hy with ey | hy'
          · rw [ex, ey]
          · exact absurd (show u.a ∈ r.map (·.a) by rw [← ex, e]; exact List.mem_map_of_mem hy') n.1
          · exact absurd (show u.a ∈ r.map (·.a) by rw [← ey, ← e]; exact List.mem_map_of_mem hx') n.1
          · exact ih n.2 x hx' y hy' e
      rw [inj _ hz.2 y hy t ht z]
  · obtain ⟨y, hy, rfl⟩ := tbV_mem hx
    by_cases e' : y.n = t.n
    · rw [if_pos e'] at he; exact hq e he
    · rw [if_neg e'] at he; exact sqT_chg frX hX (h.vt y hy e he)
  · show (b.s.aG :: (tbV b.ts t.n vs).map (·.a)).Nodup
    rw [tbV_a]; exact h.nl
theorem Bk.Ok.tab (o : b.Ok od k m g) (ht : t ∈ b.ts) (hs : ∀ e ∈ vs, e.2.ok2 ∧ ∃ e0 ∈ t.vs, e.2.sub e0.2) (hl : vs.length ≤ k) (hg : log.length ≤ g') : (b.tab t.n vs log).Ok od k m g' := by
  refine { busy := o.busy, r8 := o.r8, stp := o.stp, nx0 := o.nx0, nx1 := o.nx1, tne := by show tbV b.ts t.n vs ≠ []; unfold tbV; simpa using o.tne, tl := by show (tbV b.ts t.n vs).length < 900; unfold tbV; rw [List.length_map]; exact o.tl, tnd := by show ((tbV b.ts t.n vs).map (·.n)).Nodup; rw [tbV_n]; exact o.tnd, tw := fun x hx => ?_, te := fun x hx => ?_, tv := fun x hx e he n hn => ?_, wo := fun x hx e he => ?_, fk := fun e he => let ⟨q1, q2, q3, x, hx, q4⟩ := o.fk e he; ⟨q1, q2, q3, _, tbV_in' hx t.n vs, by rw [tbV_e]; exact q4⟩, fnd := o.fnd, ff := o.ff, lnd := o.lnd, nm := o.nm, op := o.op, dd := o.dd, dn := o.dn, kv := fun x hx => ?_, kf := o.kf, km := o.km, kg := hg } <;> obtain ⟨y, hy, rfl⟩ := tbV_mem hx
  · have := o.tw y hy
    split <;> exact this
  · have := o.te y hy
    split <;> exact this
  · by_cases e' : y.n = t.n
    · have : y = t := key_inj o.tnd hy ht e'
      subst this
      rw [if_pos rfl] at he ⊢
      obtain ⟨_, e0, he0, hs0⟩ := hs e he
      exact o.tv y hy e0 he0 n (hs0 n hn)
    · rw [if_neg e'] at he ⊢
      exact o.tv y hy e he n hn
  · by_cases e' : y.n = t.n
    · rw [if_pos e'] at he; exact (hs e he).1
    · rw [if_neg e'] at he; exact o.wo y hy e he
  · by_cases e' : y.n = t.n
    · rw [if_pos e']; exact hl
    · rw [if_neg e']; exact o.kv y hy
/-- another list changes -/
theorem Bk.At.other {C : Addr} {cl : List V} (h : b.At K H a) (hC : H C = some (.lst cl)) (nG : C ≠ b.s.aG) (nT : C ∉ b.ts.map (·.a)) (fr : ∀ x o, x ≠ C → H x = some o → H' x = some o) : b.At K H' a := by
  have kd : ∀ {x : Addr} {kvs : List (Key × V)}, H x = some (.dK kvs) → H' x = some (.dK kvs) := fun {x kvs} q => fr _ _ (ne_of q hC (fun z => nomatch z)) q
  have ki : ∀ {x C dx : Addr} {fs : List (Str × V)}, H x = some (.ins C dx fs) → H' x = some (.ins C dx fs) := fun {x C dx fs} q => fr _ _ (ne_of q hC (fun z => nomatch z)) q
  have hX : ∀ x, (x = C) → Mut (H x) := fun x hx => by rw [hx, hC]; trivial
  exact { st := ki h.st, tb := kd h.tb, el := kd h.el, lk := kd h.lk, ft := kd h.ft, lg := fr _ _ (Ne.symm nG) h.lg, vl := fun x hx => fr _ _ (fun z => nT (z ▸ List.mem_map_of_mem hx)) (h.vl x hx), vt := fun x hx e he => sqT_chg fr hX (h.vt x hx e he), ll := fun l hl => ki (h.ll l hl), fl := fun e he => ki (h.fl e he), lo := looks_chg fr hX h.lo, nd := h.nd, nl := h.nl }
end
/-- x is no list of the book's own -/
def Fgn (b : Bk) (x : Addr) (o : HO) : Prop := ¬ Mut (some o) ∨ ((∃ xs, o = .lst xs) ∧ x ≠ b.s.aG ∧ x ∉ b.ts.map (·.a))
/-- what is not the book's stands as it stood -/
def Far (b : Bk) (H H' : Hp) : Prop := ∀ x o, Fgn b x o → H x = some o → H' x = some o
structure Kin (b b' : Bk) : Prop where
  g : b'.s.aG = b.s.aG
  t : b'.ts.map (·.a) = b.ts.map (·.a)
theorem Kin.refl (b : Bk) : Kin b b := ⟨rfl, rfl⟩
theorem Kin.trans {b b1 b2 : Bk} (h : Kin b b1) (k : Kin b1 b2) : Kin b b2 := ⟨k.g.trans h.g, k.t.trans h.t⟩
theorem Far.of {b : Bk} {H H' : Hp} (e : Same H H') : Far b H H' := fun x o _ q => e x o q
theorem Far.trans {b : Bk} {H H1 H2 : Hp} (h : Far b H H1) (k : Far b H1 H2) : Far b H H2 := fun x o f q => k x o f (h x o f q)
theorem Far.kin {b b' : Bk} {H H' : Hp} (k : Kin b b') (h : Far b' H H') : Far b H H' := fun x o f q => h x o (f.elim .inl fun ⟨h1, h2, h3⟩ => .inr ⟨h1, k.g ▸ h2, k.t ▸ h3⟩) q
theorem Fgn.kin {b b' : Bk} {x : Addr} {o : HO} (k : Kin b b') (f : Fgn b x o) : Fgn b' x o := f.elim .inl fun ⟨h1, h2, h3⟩ => .inr ⟨h1, k.g ▸ h2, k.t ▸ h3⟩
section
variable {K : PySem.W.Frag} {H : Hp} {a x : Addr} {o : HO} {b : Bk}
theorem Fgn.nG (f : Fgn b x o) (hb : b.At K H a) (q : H x = some o) : x ≠ b.s.aG := by
  rcases f with f | ⟨_, h, _⟩
  · exact ne_of q hb.lg (fun z => f (by rw [z]; trivial))
  · exact h
theorem Fgn.nt (f : Fgn b x o) (hb : b.At K H a) (q : H x = some o) {t : Tb} (ht : t ∈ b.ts) : x ≠ t.a := by
  rcases f with f | ⟨_, _, h⟩
  · exact ne_of q (hb.vl t ht) (fun z => f (by rw [z]; trivial))
  · exact fun z => h (z ▸ List.mem_map_of_mem ht)
theorem Fgn.ni {y C dx : Addr} {fs : List (Str × V)} (f : Fgn b x o) (q : H x = some o) (h : H y = some (.ins C dx fs)) : x ≠ y := by
  rcases f with f | ⟨⟨xs, rfl⟩, _, _⟩
  · exact ne_of q h (fun z => f (by rw [z]; trivial))
  · exact ne_of q h (fun z => nomatch z)
theorem Fgn.nd {y : Addr} {kvs : List (Key × V)} (f : Fgn b x o) (q : H x = some o) (h : H y = some (.dK kvs)) : x ≠ y := by
  rcases f with f | ⟨⟨xs, rfl⟩, _, _⟩
  · exact ne_of q h (fun z => f (by rw [z]; trivial))
  · exact ne_of q h (fun z => nomatch z)
end
/-- all but objects and dicts stands as it stood -/
def Keep (H H' : Hp) : Prop := ∀ x o, (¬ Mut (some o) ∨ ∃ xs, o = .lst xs) → H x = some o → H' x = some o
theorem Keep.of {H H' : Hp} (e : Same H H') : Keep H H' := fun x o _ q => e x o q
theorem Keep.trans {H H1 H2 : Hp} (h : Keep H H1) (k : Keep H1 H2) : Keep H H2 := fun x o f q => k x o f (h x o f q)
theorem Keep.lst {H H' : Hp} (h : Keep H H') {x : Addr} {xs : List V} (q : H x = some (.lst xs)) : H' x = some (.lst xs) := h x _ (.inr ⟨_, rfl⟩) q
theorem Keep.sqT {K : PySem.W.Frag} {H H' : Hp} (h : Keep H H') {p : Addr} {xs : List V} (t : SqT K H p xs) : SqT K H' p xs := by
  rcases t with (t | ⟨u, t⟩) | t
  · exact .inl (.inl (h _ _ (.inl (fun z => z)) t))
  · exact .inl (.inr ⟨u, h _ _ (.inl (fun z => z)) t⟩)
  · exact .inr t
theorem Far.sqT {K : PySem.W.Frag} {b : Bk} {H H' : Hp} (h : Far b H H') {p : Addr} {xs : List V} (t : SqT K H p xs) : SqT K H' p xs := by
  rcases t with (t | ⟨u, t⟩) | t
  · exact .inl (.inl (h _ _ (.inl (fun z => z)) t))
  · exact .inl (.inr ⟨u, h _ _ (.inl (fun z => z)) t⟩)
  · exact .inr t
/-- amid a freezing: pre is frozen, n versions are left -/
structure FSt (K : PySem.W.Frag) (H0 : Hp) (a : Addr) (b : Bk) (t : Tb) (u : Int) (g : Nat) (C : Addr) (i n : Nat) (pre post : List (Addr × Ver)) (log cl : List V) (H : Hp) : Prop where
  at_ : (b.tab t.n (pre ++ post) log).At K H a
  il : pre.length = i
  nl : post.length = n
  fz : ∀ e ∈ pre, frzV b.s.ring u e.2 = some e.2
  sb : ∀ e ∈ pre ++ post, e.2.ok2 ∧ ∃ e0 ∈ t.vs, e.2.sub e0.2
  ln : i + n ≤ t.vs.length
  lg : log.length + n ≤ g + t.vs.length
  cC : H C = some (.lst cl)
  cl : cl.length + n ≤ t.vs.length
  fa : Far b H0 H
theorem ife_join {c : Bool} {A : TE} {i : Nat} {σ : L2.St} {H1 : Hp} {Kk : VK} {v : V} (key : ∀ H2, Same H1 H2 → Kk v H2) (h1 : c = true → ∀ Kk' : VK, (∀ H2, Same H1 H2 → Kk' v H2) → A σ H1 Kk') (h2 : c = false → ∀ Kk' : VK, (∀ H2, Same H1 H2 → Kk' v H2) → tVar i σ H1 Kk') : if c = true then A σ H1 Kk else tVar i σ H1 Kk := by
  cases c
  · exact h2 rfl _ key
  · exact h1 rfl _ key
theorem ver_lay {v : Ver} {i : Int} (h : PyData.strOk v.key = true) : (verD v i).canLay0 = true := by simp [verD, PyData.canLay0, PyData.canLayAll0, nD_lay, h]
theorem ver_dep {v : Ver} {i : Int} : (verD v i).depth ≤ 2 := by
  have h1 := nD_depth v.maker
  have h2 := nD_depth v.ender
  simp only [verD, PyData.depth, PyData.depthAll]
  omega
theorem ch_sh {d e : PyData} (h1 : d.canLay0 = true) (h2 : e.canLay0 = true) (h3 : d.depth ≤ 2) (h4 : e.depth ≤ 2) : SeqAt.shaped (.tuple [.tuple [d, e]]) = true := by
  have h5 : PyData.depth (.tuple [.tuple [d, e]]) ≤ 64 := by
    simp only [PyData.depth, PyData.depthAll]
    omega
  show (PyData.canLay0 _ && decide (PyData.depth _ ≤ 64)) = true
  rw [Bool.and_eq_true]
  exact ⟨by simp [PyData.canLay0, PyData.canLayAll0, h1, h2], decide_eq_true h5⟩
section
variable {P : Program} {w : World} {K : PySem.W.Frag} {mg : Str → Option Value} {base : Heap}
def sp_Freezing_freeze (K : PySem.W.Frag) : Sp := fun vs H Q _ => ∃ (a : Addr) (b : Bk) (k m g : Nat) (t : Tb) (uv : V) (u h : Int), vs = [.ref a, .str t.n, uv, .non, .non] ∧ b.At K H a ∧ b.Ok none k m g ∧ k < 900 ∧ m < 900 ∧ g < 1000000 ∧ b.s.ring ≤ 1000000 ∧ t ∈ b.ts ∧ Upt b t u h ∧ (uv = .int u ∨ (uv = .non ∧ u = h)) ∧
  ∀ (H' : Hp) (v : V) (b' : Bk), b'.At K H' a → b'.Ok none k m (g + k + 1) → b'.ab = { b.ab with el := setE b.ab.el t.n u } → Far b H H' → Kin b b' → Q v H'
theorem sc_Freezing_freeze : FnScope ["self", "table", "upto", "most", "each", "goal", "changes", "place", "made", "change"] ["self", "table", "upto", "most", "each"] (defScope s_Freezing_freeze) := ⟨rfl, rfl, rfl, by decide +kernel, rfl, by decide +kernel, by decide +kernel⟩
theorem ok_Freezing_freeze {fd : FuncData} (T : Txt K mg) (F : FnD K d_Freezing_freeze fd) : FnOk P w K mg base CX0 7 (He.fAd K d_Freezing_freeze.at_) fd ["self", "table", "upto", "most", "each"] (sp_Freezing_freeze K) := by
  obtain ⟨fd_Deeds_look_free, F_Deeds_look_free⟩ := T.fn 40 (d := d_Deeds_look_free)
  have G_Deeds_look_free := ok_Deeds_look_free (P := P) (w := w) (base := base) T F_Deeds_look_free
  have B_Deeds_look_free_1 : KBn K fd_Deeds_look_free ["self"] 1 [] (fun us ws => us ++ ws) (fun us ws => us ++ ws) := RX.kb0 F_Deeds_look_free 1 [] (fun us ws => us ++ ws) (fun a b => a.append b) (fun _ _ _ _ _ _ us ws h1 h2 => match us, ws, h1, h2 with | [_], [], _, _ => rfl)
  obtain ⟨fd_Deeds_check_table, F_Deeds_check_table⟩ := T.fn 49 (d := d_Deeds_check_table)
  have G_Deeds_check_table := ok_Deeds_check_table (P := P) (w := w) (base := base) T F_Deeds_check_table
  have B_Deeds_check_table_2 : KBn K fd_Deeds_check_table ["self", "table"] 2 [] (fun us ws => us ++ ws) (fun us ws => us ++ ws) := RX.kb0 F_Deeds_check_table 2 [] (fun us ws => us ++ ws) (fun a b => a.append b) (fun _ _ _ _ _ _ us ws h1 h2 => match us, ws, h1, h2 with | [_, _], [], _, _ => rfl)
  obtain ⟨fd_Freezing_horizon, F_Freezing_horizon⟩ := T.fn 70 (d := d_Freezing_horizon)
  have G_Freezing_horizon := ok_Freezing_horizon (P := P) (w := w) (base := base) T F_Freezing_horizon
  have B_Freezing_horizon_1 : KBn K fd_Freezing_horizon ["self"] 1 [] (fun us ws => us ++ ws) (fun us ws => us ++ ws) := RX.kb0 F_Freezing_horizon 1 [] (fun us ws => us ++ ws) (fun a b => a.append b) (fun _ _ _ _ _ _ us ws h1 h2 => match us, ws, h1, h2 with | [_], [], _, _ => rfl)
  obtain ⟨fd_Freezing_check_upto, F_Freezing_check_upto⟩ := T.fn 76 (d := d_Freezing_check_upto)
  have G_Freezing_check_upto := ok_Freezing_check_upto (P := P) (w := w) (base := base) T F_Freezing_check_upto
  have B_Freezing_check_upto_3 : KBn K fd_Freezing_check_upto ["self", "table", "upto"] 3 [] (fun us ws => us ++ ws) (fun us ws => us ++ ws) := RX.kb0 F_Freezing_check_upto 3 [] (fun us ws => us ++ ws) (fun a b => a.append b) (fun _ _ _ _ _ _ us ws h1 h2 => match us, ws, h1, h2 with | [_, _, _], [], _, _ => rfl)
  obtain ⟨fd_is_whole, F_is_whole⟩ := T.fn 6 (d := d_is_whole)
  have G_is_whole := ok_is_whole (P := P) (w := w) (base := base) T F_is_whole
  have B_is_whole_1 : KBn K fd_is_whole ["thing"] 1 [] (fun us ws => us ++ ws) (fun us ws => us ++ ws) := RX.kb0 F_is_whole 1 [] (fun us ws => us ++ ws) (fun a b => a.append b) (fun _ _ _ _ _ _ us ws h1 h2 => match us, ws, h1, h2 with | [_], [], _, _ => rfl)
  obtain ⟨fd_Freezing_turn, F_Freezing_turn⟩ := T.fn 78 (d := d_Freezing_turn)
  have G_Freezing_turn := ok_Freezing_turn (P := P) (w := w) (base := base) T F_Freezing_turn
  have B_Freezing_turn_4 : KBn K fd_Freezing_turn ["self", "table", "place", "upto"] 4 [] (fun us ws => us ++ ws) (fun us ws => us ++ ws) := RX.kb0 F_Freezing_turn 4 [] (fun us ws => us ++ ws) (fun a b => a.append b) (fun _ _ _ _ _ _ us ws h1 h2 => match us, ws, h1, h2 with | [_, _, _, _], [], _, _ => rfl)
  obtain ⟨fd_Freezing_raise_eldest, F_Freezing_raise_eldest⟩ := T.fn 79 (d := d_Freezing_raise_eldest)
  have G_Freezing_raise_eldest := ok_Freezing_raise_eldest (P := P) (w := w) (base := base) T F_Freezing_raise_eldest
  have B_Freezing_raise_eldest_3 : KBn K fd_Freezing_raise_eldest ["self", "table", "upto"] 3 [] (fun us ws => us ++ ws) (fun us ws => us ++ ws) := RX.kb0 F_Freezing_raise_eldest 3 [] (fun us ws => us ++ ws) (fun a b => a.append b) (fun _ _ _ _ _ _ us ws h1 h2 => match us, ws, h1, h2 with | [_, _, _], [], _, _ => rfl)
  refine F.ok sc_Freezing_freeze (fun vs H Q E h => ?_) (fun cdv A outer s H vs Q E hr h => ?_)
  · obtain ⟨a, b, k, m, g, t, uv, u, h, rfl, _⟩ := h; rfl
  · obtain ⟨a, b, kk, m, g, t, uv, u, hor, rfl, hb, ho, hk, hm, hg, hrg, ht, hu, huv, k⟩ := h
    refine ⟨_, (PSs.nox (pss_cons (ps_expr (RX.pe_ms0 (pv 0) T.clStore (T.mt 119) G_Deeds_look_free (hr.mono (by decide)) B_Deeds_look_free_1 RX.passS0)) (pss_cons (ps_expr (RX.pe_ms (pv 0) T.clStore (T.mt 127) G_Deeds_check_table (hr.mono (by decide)) B_Deeds_check_table_2 RX.passS0 (pa_cons (pv 1) pa_nil) pk_nil)) (pss_cons (ps_set (i := 5) sc_Freezing_freeze.nd rfl (Or.inl rfl) (pe_ifExp (pt_cmp (pc_isN (pv 2))) (RX.pe_ms0 (pv 0) T.clStore (T.mt 105) G_Freezing_horizon (hr.mono (by decide)) B_Freezing_horizon_1 RX.passS0) (pv 2))) (pss_cons (ps_expr (RX.pe_ms (pv 0) T.clStore (T.mt 111) G_Freezing_check_upto (hr.mono (by decide)) B_Freezing_check_upto_3 RX.passS0 (pa_cons (pv 1) (pa_cons (pv 5) pa_nil)) pk_nil)) (pss_cons (ps_if (PW.pt (pw_and (pt_cmp (pc_notN (pv 3))) (pw_and1 (pt_not (PW.pt (pw_and (pt_val (RX.pe_cs G_is_whole (hr.mono (by decide)) (T.glo 6) F_is_whole.kp B_is_whole_1 RX.passS0 (pa_cons (pv 3) pa_nil) pk_nil)) (pw_and1 (pt_cmpR op_gt (pv 3) pe_int (nomark _))))))))) (pss_one ps_never) pss_nil) (pss_cons (ps_set (i := 6) sc_Freezing_freeze.nd rfl (Or.inl rfl) (pe_lst pa_nil)) (pss_cons (ps_set (i := 7) sc_Freezing_freeze.nd rfl (Or.inl rfl) pe_int) (pss_cons (ps_while PassesOwn.never (PW.pt (pw_and (pt_cmpR op_lt (pv 7) (pe_callB call_len_seq (by rfl) (T.fre 44) (by decide +kernel) (pa_cons (pe_dget (hu_of hr) (pe_fld (pv 0) rfl) (pv 1) (fun _ _ => rfl)) pa_nil)) (nomark _)) (pw_and1 (PW.pt (pw_or (pt_cmp (pc_isN (pv 3))) (pw_or1 (pt_cmpR op_lt (pe_callB call_len_seq (by rfl) (T.fre 44) (by decide +kernel) (pa_cons (pv 6) pa_nil)) (pv 3) (nomark _)))))))) (pss_cons (ps_set (i := 8) sc_Freezing_freeze.nd rfl (Or.inl rfl) (RX.pe_ms (pv 0) T.clStore (T.mt 113) G_Freezing_turn (hr.mono (by decide)) B_Freezing_turn_4 RX.passS0 (pa_cons (pv 1) (pa_cons (pv 7) (pa_cons (pv 5) pa_nil))) pk_nil)) (pss_cons (ps_expr (pe_bm PySem.F.plainAttrs_list PySem.F.slot_list_extend PySem.F.type_list_extend RX.mt_extendT (pv 6) (pa_cons (pv 8) pa_nil))) (pss_cons (ps_for PassesOwn.never rfl (pi_tup (pv 8)) (pg_name (i := 9) sc_Freezing_freeze.nd rfl (Or.inl rfl)) (pss_one (ps_if (pt_cmp (pc_notN (pv 4))) (pss_one ps_never) pss_nil))) (pss_one (ps_if (PW.pt (pw_or (pt_cmpR (op_eqD hr.units) (pv 8) (pe_tup pa_nil) (nomark _)) (pw_or1 (pt_cmp (pc_notN (pe_ix ix_tup (pe_ix ix_tup (pv 8) pe_int (fun _ _ => rfl)) pe_int (fun _ _ => rfl))))))) (pss_one (ps_aug (i := 7) sc_Freezing_freeze.nd rfl (Or.inl rfl) pe_int ip_add)) pss_nil)))))) (pss_cons (ps_expr (RX.pe_ms (pv 0) T.clStore (T.mt 114) G_Freezing_raise_eldest (hr.mono (by decide)) B_Freezing_raise_eldest_3 RX.passS0 (pa_cons (pv 1) (pa_cons (pv 5) pa_nil)) pk_nil)) (pss_one (ps_ret (pe_callTy call_tuple_of (by rfl) (T.fre 46) (by decide +kernel) (pa_cons (pv 6) pa_nil)))))))))))))), ?_⟩
    have ha := hb.st
    have hbusy := ho.busy
    have h0 : (0 : Int) < b.s.ring := by have := ho.r8; omega
    have hdT := Bk.dget_tb hb ho ht
    have hdE := Bk.dget_el hb ho ht
    obtain ⟨hw, hn100⟩ := ho.tw t ht
    have hL := hb.lk
    have hll := hb.ll
    have hls : b.ls.length < 900 := Nat.lt_of_le_of_lt ho.km hm
    have hlo := hb.lo
    have hkt := ho.kv t ht
    have hhor := hu.hor
    walk_at "go"
    rename_i H1 e1
    refine ife_join (v := .int u) (fun H2 e2 => ?_) (fun hc Kk hK => ?_) (fun hc Kk hK => ?_)
    · replace e2 := e1.trans e2
      walk_at "go"
      refine ⟨looks_same e2 hlo, h0, hhor, hu.u0, hu.u1, hu.ue, hu.uh, fun H3 e3 => ?_⟩
      replace e3 := e2.trans e3
      clear e1 e2
      walk_at "go"
      case' r.w C hC => exact fun n σ H' => RX.Box (∃ (i : Nat) (pre post : List (Addr × Ver)) (log cl : List V) (o8 o9 : Option V), σ = [some (.ref a), some (.str t.n), some uv, some .non, some .non, some (.int u), some (.ref C), some (.int i), o8, o9] ∧ FSt K H a b t u g C i n pre post log cl H')
      rename_i C hC
      have hCn : ∀ x o, H x = some o → x ≠ C := fun x o q z => by have := e3 _ _ q; rw [z, hC] at this; cases this
      have hb3 := hb.same e3
      have hb4 : b.At K (upd H3 C (.lst [])) a := hb3.same (RX.same_new hC)
      have nG : C ≠ b.s.aG := fun z => by rw [z, hb3.lg] at hC; cases hC
      have nT : C ∉ b.ts.map (·.a) := fun z => by
        obtain ⟨x, hx, e⟩ := List.mem_map.mp z
        rw [← e, hb3.vl x hx] at hC; cases hC
      refine ⟨⟨t.vs.length, ⟨⟨0, [], t.vs, b.log, [], none, none, rfl, ⟨?_, rfl, rfl, fun _ h => (nomatch h), fun e he => ⟨ho.wo t ht e he, e, he, Ver.sub.refl _⟩, by omega, by have := ho.kg; omega, upd_same, by simp, Far.of (e3.trans (RX.same_new hC))⟩⟩⟩⟩, fun n σ H' ⟨⟨i, pre, post, log, cl, o8, o9, hσ, S⟩⟩ => ?_⟩
      · have : b.tab t.n ([] ++ t.vs) b.log = b := by unfold Bk.tab; rw [List.nil_append, tbV_same ho.tnd ht]
        rw [this]; exact hb4
      · subst hσ
        obtain ⟨hat, hil, hnl, hfz, hsb, hln, hlg, hcC, hcl, hfa⟩ := S
        have hat0 := hat
        have hot := ho.tab (vs := pre ++ post) (log := log) (g' := g + kk) ht hsb (by rw [List.length_append]; omega) (by omega)
        have ht2 : { t with vs := pre ++ post } ∈ (b.tab t.n (pre ++ post) log).ts := tbV_in ht _
        have ha5 := hat.st
        have hdT5 := Bk.dget_tb hat hot ht2
        have hvl5 := hat.vl _ ht2
        have hF5 := hat.ft
        have hG5 := hat.lg
        have hfl5 := hat.fl
        simp only [Bk.tab, Tb.l] at ha5 hdT5 hvl5 hF5 hG5 hfl5
        walk_at "go"
        refine RX.iteB (fun hc2 => ?_) (fun hc2 => ?_)
        · have hlt : i < (pre ++ post).length := by have h := of_decide_eq_true hc2; simp only [List.length_map] at h; omega
          cases post with
          | nil => rw [List.append_nil] at hlt; omega
          | cons e post =>
            have hmemE : e ∈ pre ++ e :: post := List.mem_append_right _ (List.mem_cons_self ..)
            have hv5 := hat.vt _ ht2 e hmemE
            have hok5 := (hsb e hmemE).1
            have hdn5 : AllDn b.fs e.2 := hot.allDn ht2 hmemE
            have hi5 : ((pre ++ e :: post).map fun e => V.ref e.1)[i]? = some (.ref e.1) := by
              rw [List.getElem?_map, List.getElem?_append_right (by omega), hil, Nat.sub_self]; rfl
            have hlz : log.length < sizeLine := Nat.lt_of_le_of_lt (show log.length ≤ 2000000 by omega) (by decide)
            have hGt : b.s.aG ≠ t.a := fun z => by
              have := hb.nl
              rw [List.nodup_cons] at this
              exact this.1 (z ▸ List.mem_map_of_mem ht)
            have hi1000 : i < 1000 := by omega
            have hu0 := hu.u0
            have hu9 : u < 1000000000 := by have := hu.u1; omega
            have hnl' : post.length + 1 = n := by simpa using hnl
            walk_at "go"
            case' r.w => exact fun σ' H' => ∃ m', m' < n ∧ RX.Box (∃ (i : Nat) (pre post : List (Addr × Ver)) (log cl : List V) (o8 o9 : Option V), σ' = [some (.ref a), some (.str t.n), some uv, some .non, some .non, some (.int u), some (.ref C), some (.int i), o8, o9] ∧ FSt K H a b t u g C i m' pre post log cl H')
            refine ⟨fun _ _ h => h, ?_⟩
            walk_at "go"
            have nT' : ∀ vs lg, C ∉ (b.tab t.n vs lg).ts.map (·.a) := fun vs lg => by show C ∉ (tbV b.ts t.n vs).map (·.a); rw [tbV_a]; exact nT
            refine ⟨fun hf H2 q e2 hq => ?_, fun hf H2 q q2 z fr htl hG hq hq2 => ?_, fun v' hf hne H2 p' q q2 z fr htl hG hp' hq hq2 => ?_⟩
            · have hC2 := e2 _ _ hcC
              have hat2 := hat.same e2
              have hatS := hat2.other hC2 nG (nT' _ _) (H' := upd H2 C (.lst (cl ++ []))) (fun x o n q => by rw [upd_ne n]; exact q)
              have hqS : SqT K (upd H2 C (.lst (cl ++ []))) q [] := RX.sqT_mut (by rw [hC2]; trivial) hq
              have hzz : cl.length + 0 ≤ sizeLine := Nat.le_trans (show cl.length + 0 ≤ 1000 by omega) (by decide)
              walk_at "go"
              refine for_tup (K := K) (xs := []) (fun j σ' H' => RX.Box (H' = upd H2 C (.lst (cl ++ [])) ∧ ∃ o9, σ' = [some (.ref a), some (.str t.n), some uv, some .non, some .non, some (.int u), some (.ref C), some (.int i), some (.ref q), o9])) ⟨⟨rfl, _, rfl⟩⟩ (fun j σ' H' _ ⟨⟨e, _⟩⟩ => e ▸ hqS) (fun j x σ' H' hj _ => by simp at hj) (fun σ' H' ⟨⟨e, o9', hσ⟩⟩ => ?_)
              subst e hσ
              walk_at "go"
              rename_i p0 hp0
              refine ⟨(show Dp K _ _ (.tuple []) from .tup (RX.sqT_fresh hp0 hqS) .nil), (show Dp K _ _ (.tuple []) from .tup (SqT.of upd_same) .nil), by decide +kernel, by decide +kernel, _, rfl, ?_⟩
              refine iteT' (by simp [PyData.eqv, PyData.eqvAll]) ?_
              walk_at "go"
              case' r.w => exact post.length
              refine ⟨by omega, ⟨⟨i + 1, pre ++ [e], post, log, cl ++ [], _, _, rfl, ⟨?_, by simp; omega, rfl, fun x hx => ?_, fun x hx => hsb x (by simpa using hx), by omega, by omega, RX.up_ne hp0 upd_same, by (simp; omega), fun x o f q => RX.up_ne hp0 (by rw [upd_ne (hCn x o q)]; exact e2 _ _ (hfa x o f q))⟩⟩⟩⟩
              · rw [List.append_assoc]; exact hatS.same (RX.same_new hp0)
              · rcases List.mem_append.mp hx with hx | hx
                · exact hfz x hx
                · rw [List.mem_singleton.mp hx]; exact hf
            · have nCt : C ≠ t.a := fun z => nT (z ▸ List.mem_map_of_mem ht)
              have hC2 := fr _ _ nCt nG hcC
              have hsub : ∀ x ∈ pre ++ post, x ∈ pre ++ e :: post := fun x hx => by
                rcases List.mem_append.mp hx with h | h
                · exact List.mem_append_left _ h
                · exact List.mem_append_right _ (List.mem_cons_of_mem _ h)
              have hX : ∀ x, (x = t.a ∨ x = b.s.aG) → Mut (H' x) := fun x hx => by
                rcases hx with rfl | rfl
                · rw [hvl5]; trivial
                · rw [hG5]; trivial
              have frX : ∀ x o, ¬ (x = t.a ∨ x = b.s.aG) → H' x = some o → H2 x = some o := fun x o n q => fr x o (fun z => n (.inl z)) (fun z => n (.inr z)) q
              have hver : ((pre ++ e :: post).map fun e => V.ref e.1).eraseIdx i = (pre ++ post).map fun e => V.ref e.1 := by
                rw [← hil]; simp [List.eraseIdx_append_of_length_le, List.eraseIdx_append]
              rw [hver] at htl
              have hat2 : (b.tab t.n (pre ++ post) (log ++ [.str z])).At K H2 a := by
                have := Bk.At.tab hat hot.tnd ht2 (vs := pre ++ post) (log := log ++ [V.str z]) fr htl hG (fun x hx => sqT_chg frX hX (hat.vt _ ht2 x (hsub x hx)))
                unfold Bk.tab at this ⊢
                simpa [tbV_tbV] using this
              have hatS := hat2.other hC2 nG (nT' _ _) (H' := upd H2 C (.lst (cl ++ [.ref q2]))) (fun x o n q => by rw [upd_ne n]; exact q)
              have mC : Mut (H2 C) := by rw [hC2]; trivial
              have hqS : SqT K (upd H2 C (.lst (cl ++ [.ref q2]))) q [.ref q2] := RX.sqT_mut mC hq
              have hqS2 : SqT K (upd H2 C (.lst (cl ++ [.ref q2]))) q2 [.ref e.1, .non] := RX.sqT_mut mC hq2
              have hvS : SqT K (upd H2 C (.lst (cl ++ [.ref q2]))) e.1 e.2.l := RX.sqT_mut mC (sqT_chg frX hX hv5)
              have hzz : cl.length + 1 ≤ sizeLine := Nat.le_trans (show cl.length + 1 ≤ 1000 by omega) (by decide)
              obtain ⟨wi, hwi⟩ := hok5.w
              walk_at "go"
              refine for_tup (K := K) (xs := [.ref q2]) (fun j σ' H' => RX.Box (H' = upd H2 C (.lst (cl ++ [.ref q2])) ∧ ∃ o9, σ' = [some (.ref a), some (.str t.n), some uv, some .non, some .non, some (.int u), some (.ref C), some (.int i), some (.ref q), o9])) ⟨⟨rfl, _, rfl⟩⟩ (fun j σ' H' _ ⟨⟨e, _⟩⟩ => e ▸ hqS) (fun j x σ' H' hj ⟨⟨e, o9', hσ⟩⟩ => ?_) (fun σ' H' ⟨⟨e, o9', hσ⟩⟩ => ?_)
              · subst e hσ
                walk_at "go"
                exact ⟨⟨rfl, _, rfl⟩⟩
              · subst e hσ
                walk_at "go"
                rename_i p0 hp0
                refine ⟨(show Dp K _ _ (.tuple [.tuple [verD e.2 wi, .none]]) from .tup (RX.sqT_fresh hp0 hqS) (.cons (.tup (RX.sqT_fresh hp0 hqS2) (.cons (dp_ver (RX.sqT_fresh hp0 hvS) hwi) (.cons .non .nil))) .nil)), (show Dp K _ _ (.tuple []) from .tup (SqT.of upd_same) .nil), ch_sh (ver_lay hok5.k) (by simp [PyData.canLay0]) ver_dep (by simp [PyData.depth]), by decide +kernel, _, rfl, ?_⟩
                refine iteF' (by simp [PyData.eqv, PyData.eqvAll]) ?_
                have hqS' := RX.sqT_fresh (o := .tup []) hp0 hqS
                have hqS2' := RX.sqT_fresh (o := .tup []) hp0 hqS2
                walk_at "go"
                case' r.w => exact post.length
                refine ⟨by omega, ⟨⟨i, pre, post, log ++ [.str z], cl ++ [.ref q2], _, _, rfl, ⟨hatS.same (RX.same_new hp0), hil, rfl, hfz, fun x hx => hsb x (hsub x hx), by omega, by rw [List.length_append]; simp; omega, RX.up_ne hp0 upd_same, by (simp; omega), fun x o f q => RX.up_ne hp0 (by rw [upd_ne (hCn x o q)]; exact fr x o (f.nt hb q ht) (f.nG hb q) (hfa x o f q))⟩⟩⟩⟩
            · have nCt : C ≠ t.a := fun z => nT (z ▸ List.mem_map_of_mem ht)
              have hC2 := fr _ _ nCt nG hcC
              have hsub : ∀ x ∈ pre ++ (p', v') :: post, x = (p', v') ∨ x ∈ pre ++ e :: post := fun x hx => by
                rcases List.mem_append.mp hx with h | h
                · exact .inr (List.mem_append_left _ h)
                · rcases List.mem_cons.mp h with h | h
                  · exact .inl h
                  · exact .inr (List.mem_append_right _ (List.mem_cons_of_mem _ h))
              obtain ⟨f1, f2, f3, f4⟩ := frz_key hf
              have hX : ∀ x, (x = t.a ∨ x = b.s.aG) → Mut (H' x) := fun x hx => by
                rcases hx with rfl | rfl
                · rw [hvl5]; trivial
                · rw [hG5]; trivial
              have frX : ∀ x o, ¬ (x = t.a ∨ x = b.s.aG) → H' x = some o → H2 x = some o := fun x o n q => fr x o (fun z => n (.inl z)) (fun z => n (.inr z)) q
              have hver : ((pre ++ e :: post).map fun e => V.ref e.1).set i (.ref p') = (pre ++ (p', v') :: post).map fun e => V.ref e.1 := by
                rw [← hil]; simp
              rw [hver] at htl
              have hat2 : (b.tab t.n (pre ++ (p', v') :: post) (log ++ [.str z])).At K H2 a := by
                have := Bk.At.tab hat hot.tnd ht2 (vs := pre ++ (p', v') :: post) (log := log ++ [V.str z]) fr htl hG (fun x hx => by
                    rcases hsub x hx with rfl | h
                    · exact hp'
                    · exact sqT_chg frX hX (hat.vt _ ht2 x h))
                unfold Bk.tab at this ⊢
                simpa [tbV_tbV] using this
              have hatS := hat2.other hC2 nG (nT' _ _) (H' := upd H2 C (.lst (cl ++ [.ref q2]))) (fun x o n q => by rw [upd_ne n]; exact q)
              have mC : Mut (H2 C) := by rw [hC2]; trivial
              have hqS : SqT K (upd H2 C (.lst (cl ++ [.ref q2]))) q [.ref q2] := RX.sqT_mut mC hq
              have hqS2 : SqT K (upd H2 C (.lst (cl ++ [.ref q2]))) q2 [.ref e.1, .ref p'] := RX.sqT_mut mC hq2
              have hvS : SqT K (upd H2 C (.lst (cl ++ [.ref q2]))) e.1 e.2.l := RX.sqT_mut mC (sqT_chg frX hX hv5)
              have hpS : SqT K (upd H2 C (.lst (cl ++ [.ref q2]))) p' v'.l := RX.sqT_mut mC hp'
              have hzz : cl.length + 1 ≤ sizeLine := Nat.le_trans (show cl.length + 1 ≤ 1000 by omega) (by decide)
              obtain ⟨wi, hwi⟩ := hok5.w
              walk_at "go"
              refine for_tup (K := K) (xs := [.ref q2]) (fun j σ' H' => RX.Box (H' = upd H2 C (.lst (cl ++ [.ref q2])) ∧ ∃ o9, σ' = [some (.ref a), some (.str t.n), some uv, some .non, some .non, some (.int u), some (.ref C), some (.int i), some (.ref q), o9])) ⟨⟨rfl, _, rfl⟩⟩ (fun j σ' H' _ ⟨⟨e, _⟩⟩ => e ▸ hqS) (fun j x σ' H' hj ⟨⟨e, o9', hσ⟩⟩ => ?_) (fun σ' H' ⟨⟨e, o9', hσ⟩⟩ => ?_)
              · subst e hσ
                walk_at "go"
                exact ⟨⟨rfl, _, rfl⟩⟩
              · subst e hσ
                walk_at "go"
                rename_i p0 hp0
                refine ⟨(show Dp K _ _ (.tuple [.tuple [verD e.2 wi, verD v' wi]]) from .tup (RX.sqT_fresh hp0 hqS) (.cons (.tup (RX.sqT_fresh hp0 hqS2) (.cons (dp_ver (RX.sqT_fresh hp0 hvS) hwi) (.cons (dp_ver (RX.sqT_fresh hp0 hpS) (f2.trans hwi)) .nil))) .nil)), (show Dp K _ _ (.tuple []) from .tup (SqT.of upd_same) .nil), ch_sh (ver_lay hok5.k) (ver_lay (f1 ▸ hok5.k)) ver_dep ver_dep, by decide +kernel, _, rfl, ?_⟩
                refine iteF' (by simp [PyData.eqv, PyData.eqvAll]) ?_
                have hqS' := RX.sqT_fresh (o := .tup []) hp0 hqS
                have hqS2' := RX.sqT_fresh (o := .tup []) hp0 hqS2
                walk_at "go"
                case' r.w => exact post.length
                refine ⟨by omega, ⟨⟨i + 1, pre ++ [(p', v')], post, log ++ [.str z], cl ++ [.ref q2], _, _, rfl, ⟨?_, by simp; omega, rfl, fun x hx => ?_, fun x hx => ?_, by omega, by rw [List.length_append]; simp; omega, RX.up_ne hp0 upd_same, by (simp; omega), fun x o f q => RX.up_ne hp0 (by rw [upd_ne (hCn x o q)]; exact fr x o (f.nt hb q ht) (f.nG hb q) (hfa x o f q))⟩⟩⟩⟩
                · rw [List.append_assoc]; exact hatS.same (RX.same_new hp0)
                · rcases List.mem_append.mp hx with hx | hx
                  · exact hfz x hx
                  · rw [List.mem_singleton.mp hx]; exact frz_again hf
                · rcases hsub x (by simpa using hx) with rfl | h
                  · obtain ⟨o1, e0, he0, hs0⟩ := hsb e hmemE
                    exact ⟨⟨f1 ▸ o1.k, wi, f2.trans hwi⟩, e0, he0, (frz_sub hf).trans hs0⟩
                  · exact hsb x h
        · have hge : ¬ i < (pre ++ post).length := by have h := of_decide_eq_false hc2; simp only [List.length_map] at h; omega
          have hpost : post = [] := by
            cases post with
            | nil => rfl
            | cons e r => rw [List.length_append, List.length_cons] at hge; omega
          subst hpost
          clear hat0
          have hgz : g + kk < 10000000 := by omega
          have hrg2 : (b.tab t.n (pre ++ []) log).s.ring ≤ 1000000 := hrg
          have hut : Upt (b.tab t.n (pre ++ []) log) { t with vs := pre ++ [] } u hor := ⟨hu.hor, hu.u0, hu.u1, hu.ue, hu.uh⟩
          walk_at "go"
          refine ⟨fun x hx => hfz x (by simpa using hx), fun H5 D f lg fr hA hO => ?_⟩
          have nCE : C ≠ b.s.aE := ne_of hcC hat.el (fun z => nomatch z)
          have nCa : C ≠ a := ne_of hcC hat.st (fun z => nomatch z)
          have hC5 := fr C _ nCE nG nCa hcC
          have fin : ∀ p, H5 p = none → Q (.ref p) (upd H5 p (.tup cl)) := fun p hp => by
            refine k _ _ _ (hA.same (RX.same_new hp)) (hO.mono (Nat.le_refl _) (Nat.le_refl _) (Nat.le_refl _)) ?_ (fun x o f q => RX.up_ne hp (fr x o (f.nd q hb.el) (f.nG hb q) (f.ni q hb.st) (hfa x o f q))) ⟨rfl, by show (rsT (tbV b.ts t.n (pre ++ [])) t.n u).map (·.a) = _; rw [rsT_a, tbV_a]⟩
            show (⟨_, _, _, tbE (rsT (tbV b.ts t.n (pre ++ [])) t.n u), _⟩ : Ab) = ⟨_, _, _, setE (tbE b.ts) t.n u, _⟩
            rw [rsT_E, tbV_E]
            rfl
          walk_at "go"
          exact .inl ⟨SqL.of hC5, fin⟩
    · rcases huv with huv | ⟨huv, rfl⟩
      · rw [huv] at hc; simp at hc
      · walk_at "go"
        refine ⟨looks_same e1 hlo, h0, hhor, fun H2 e2 => hK _ e2⟩
    · rcases huv with huv | ⟨huv, rfl⟩
      · rw [huv]
        walk_at "go"
        exact hK _ (Same.refl _)
      · rw [huv] at hc; simp at hc
end
theorem oI_inj {a b : Option Int} (h : oI a = oI b) : a = b := by
  cases a <;> cases b <;> simp [oI] at h
  · rfl
  · rw [h]
theorem oS_inj {a b : Option Str} (h : oS a = oS b) : a = b := by
  cases a <;> cases b <;> simp [oS] at h
  · rfl
  · rw [h]
theorem LF_inj {f g : LF} (h : f.l = g.l) : f = g := by
  obtain ⟨a1, a2, a3, a4, a5⟩ := f
  obtain ⟨b1, b2, b3, b4, b5⟩ := g
  unfold LF.l at h
  simp only [List.cons.injEq, Prod.mk.injEq, V.str.injEq, V.ref.injEq, true_and, and_true] at h
  obtain ⟨rfl, rfl, rfl, h4, h5⟩ := h
  rw [oI_inj h4, oS_inj h5]
theorem there_inj {K : PySem.W.Frag} {H : Hp} {l d : Lk} (h : l.there K H) (h2 : d.there K H) (e : l.a = d.a) : l.dx = d.dx ∧ l.f = d.f := by
  unfold Lk.there at h h2
  rw [e, h2] at h
  have := Option.some.inj h
  injection this with e1 e2 e3
  exact ⟨e2.symm, LF_inj e3.symm⟩
/-- d's fields otherwise -/
def repF (d : Lk) (F : LF) (l : Lk) : Lk := if l.a = d.a then { l with f := F } else l
theorem repF_n (d : Lk) (F : LF) (l : Lk) : (repF d F l).n = l.n := by unfold repF; split <;> rfl
theorem repF_a (d : Lk) (F : LF) (l : Lk) : (repF d F l).a = l.a := by unfold repF; split <;> rfl
theorem repF_d (d : Lk) (F : LF) : repF d F d = { d with f := F } := by unfold repF; rw [if_pos rfl]
theorem lkK_rep (d : Lk) (F : LF) (ls : List Lk) : lkK (ls.map (repF d F)) = lkK ls := by
  unfold lkK
  rw [List.map_map]
  apply List.map_congr_left
  intro l _
  simp [repF_n, repF_a]
theorem fkK_rep (d : Lk) (F : LF) (fs : List (Int × Lk)) : fkK (fs.map fun e => (e.1, repF d F e.2)) = fkK fs := by
  unfold fkK
  rw [List.map_map]
  apply List.map_congr_left
  intro l _
  simp [repF_a]
theorem rep_there {K : PySem.W.Frag} {H H' : Hp} {d l : Lk} {F : LF} (h : l.there K H) (hd : d.there K H) (fr : l.a ≠ d.a → H' l.a = H l.a) (hd' : H' d.a = some (.ins (CL K) d.dx F.l)) : (repF d F l).there K H' := by
  unfold repF
  split
  · rename_i e
    unfold Lk.there
    show H' l.a = some (.ins (CL K) l.dx F.l)
    rw [(there_inj h hd e).1, e]
    exact hd'
  · rename_i e
    unfold Lk.there
    rw [fr e]
    exact h
theorem fkG_rep {fs : List (Int × Lk)} {d : Lk} {F : LF} {n : Int} : fkG (fs.map fun e => (e.1, repF d F e.2)) n = (fkG fs n).map (repF d F) := by
  unfold fkG
  induction fs with
  | nil => rfl
  | cons e r ih =>
    rw [List.map_cons, List.find?_cons, List.find?_cons]
    by_cases h : e.1 = n
    · simp [h]
    · simpa [h] using ih
theorem fkG_app {fs : List (Int × Lk)} {n : Int} {e : Int × Lk} (h : (fkG fs n).isSome = true) : (fkG (fs ++ [e]) n).isSome = true := by
  unfold fkG at h ⊢
  rw [List.find?_append]
  cases q : fs.find? (fun e => decide (e.1 = n)) with
  | none => rw [q] at h; cases h
  | some x => rfl
theorem lkG_key {ls : List Lk} {d : Lk} (nd : (ls.map (·.n)).Nodup) (hd : d ∈ ls) : lkG ls d.n = some d := by
  unfold lkG
  induction ls with
  | nil => cases hd
  | cons z r ih =>
    rw [List.map_cons, List.nodup_cons] at nd
    rw [List.find?_cons]
    by_cases e : z.n = d.n
    · have : z = d := key_inj (l := z :: r) (f := Lk.n) (by rw [List.map_cons, List.nodup_cons]; exact nd) List.mem_cons_self hd e
      simp [this]
    · rcases List.mem_cons.mp hd with rfl | hd
      · exact absurd rfl e
      · simpa [e] using ih nd.2 hd
theorem cs_ne_cl {K : PySem.W.Frag} {H : Hp} {a dx : Addr} {s : SF} {l : Lk} (h : H a = some (.ins (CS K) dx s.l)) (hl : l.there K H) : l.a ≠ a := fun z => by
  unfold Lk.there at hl
  rw [z, h] at hl
  have z2 := congrArg (fun o : Option HO => match o with | some (.ins _ _ fs) => fs.length | _ => 0) hl
  exact absurd z2 (by show (11 : Nat) ≠ 5; decide)
/-- a deed has its number -/
def Bk.numd (b : Bk) (d : Lk) : Bk := { b with s := { b.s with next := (b.s.next + 1) % b.s.ring }, ls := b.ls.map (repF d { d.f with num := some b.s.next }), fs := (b.fs.map fun e => (e.1, repF d { d.f with num := some b.s.next } e.2)) ++ [(b.s.next, { d with f := { d.f with num := some b.s.next } })] }
section
variable {K : PySem.W.Frag} {H H' : Hp} {a : Addr} {b : Bk} {k m g : Nat} {d : Lk}
theorem Bk.Ok.next_new (o : b.Ok (some d) k m g) : b.s.next ∉ b.fs.map (·.1) := fun z => by
  obtain ⟨e, he, h⟩ := List.mem_map.mp z
  have := (o.fk e he).2.2.1
  rw [h, Int.sub_self, Int.zero_emod] at this
  omega
theorem Bk.At.numd (h : b.At K H a) (o : b.Ok (some d) k m g) (hd : d ∈ b.ls) (fr : ∀ x q, x ≠ a → x ≠ d.a → x ≠ b.s.aF → H x = some q → H' x = some q) (ha : H' a = some (.ins (CS K) b.dx { b.s with next := (b.s.next + 1) % b.s.ring }.l))
    (hda : H' d.a = some (.ins (CL K) d.dx { d.f with num := some b.s.next }.l)) (hF : H' b.s.aF = some (.dK (putK (fkK b.fs) (.inl b.s.next) (.ref d.a)))) : (b.numd d).At K H' a := by
  have hdt := h.ll d hd
  have hdt0 := hdt
  unfold Lk.there at hdt0
  have nds := h.nd
  simp only [List.nodup_cons, List.mem_cons, List.not_mem_nil, or_false, not_or] at nds
  obtain ⟨⟨nTE, nTL, nTF⟩, ⟨nEL, nEF⟩, nLF, _⟩ := nds
  have kd : ∀ {x : Addr} {kvs : List (Key × V)}, H x = some (.dK kvs) → x ≠ b.s.aF → H' x = some (.dK kvs) := fun {x kvs} q n => fr _ _ (ne_of q h.st (fun z => nomatch z)) (ne_of q hdt0 (fun z => nomatch z)) n q
  have kl : ∀ {x : Addr} {xs : List V}, H x = some (.lst xs) → H' x = some (.lst xs) := fun {x xs} q => fr _ _ (ne_of q h.st (fun z => nomatch z)) (ne_of q hdt0 (fun z => nomatch z)) (ne_of q h.ft (fun z => nomatch z)) q
  have hX : ∀ x, (x = a ∨ x = d.a ∨ x = b.s.aF) → Mut (H x) := fun x hx => by
    rcases hx with rfl | rfl | rfl
    · rw [h.st]; trivial
    · rw [hdt0]; trivial
    · rw [h.ft]; trivial
  have frX : ∀ x q, ¬ (x = a ∨ x = d.a ∨ x = b.s.aF) → H x = some q → H' x = some q := fun x q n => fr x q (fun z => n (.inl z)) (fun z => n (.inr (.inl z))) (fun z => n (.inr (.inr z)))
  have ht : ∀ l : Lk, l.there K H → (repF d { d.f with num := some b.s.next } l).there K H' := fun l hl => rep_there hl hdt (fun n => by
    have hl0 := hl
    unfold Lk.there at hl0
    rw [fr _ _ (cs_ne_cl h.st hl) n (ne_of hl0 h.ft (fun z => nomatch z)) hl0, hl0]) hda
  refine { st := ha, tb := kd h.tb nTF, el := kd h.el nEF, lk := ?_, ft := ?_, lg := kl h.lg, vl := fun x hx => kl (h.vl x hx), vt := fun x hx e he => sqT_chg frX hX (h.vt x hx e he), ll := fun l hl => ?_, fl := fun e he => ?_, lo := fun l hl => ?_, nd := h.nd, nl := h.nl }
  · show H' b.s.aL = some (.dK (lkK (b.ls.map _)))
    rw [lkK_rep]; exact kd h.lk nLF
  · show H' b.s.aF = some (.dK (fkK (_ ++ [_])))
    have : fkK ((b.fs.map fun e => (e.1, repF d { d.f with num := some b.s.next } e.2)) ++ [(b.s.next, { d with f := { d.f with num := some b.s.next } })]) = fkK b.fs ++ [(.inl b.s.next, .ref d.a)] := by
      have e := fkK_rep d { d.f with num := some b.s.next } b.fs
      unfold fkK at e ⊢
      rw [List.map_append, e]
      rfl
    rw [this, ← putK_new]
    · exact hF
    · intro z
      obtain ⟨q, hq, e⟩ := List.mem_map.mp z
      unfold fkK at hq
      obtain ⟨x, hx, rfl⟩ := List.mem_map.mp hq
      exact o.next_new (by rw [← Sum.inl.inj e]; exact List.mem_map_of_mem hx)
  · obtain ⟨x, hx, rfl⟩ := List.mem_map.mp hl
    exact ht x (h.ll x hx)
  · rcases List.mem_append.mp he with he | he
    · obtain ⟨x, hx, rfl⟩ := List.mem_map.mp he
      exact ht x.2 (h.fl x hx)
    · rw [List.mem_singleton.mp he]
      exact hda
  · obtain ⟨x, hx, rfl⟩ := List.mem_map.mp hl
    obtain ⟨q, h1, h2⟩ := h.lo x hx
    refine ⟨q, ?_, sqT_chg frX hX h2⟩
    have e : (repF d { d.f with num := some b.s.next } x).f.look = x.f.look := by
      unfold repF
      split
      · rename_i e
        show d.f.look = x.f.look
        rw [(there_inj (h.ll x hx) hdt e).2]
      · rfl
    rw [e]
    show SqT K H' x.f.look [.int (b.cc (repF d _ x).n), _]
    rw [repF_n]
    exact sqT_chg frX hX h1
theorem rep_nm {K : PySem.W.Frag} {H : Hp} {ls : List Lk} {d : Lk} {F : LF} (hl : ∀ l ∈ ls, l.there K H) (hd : d.there K H) (hF : F.name = d.f.name) (o : ∀ l ∈ ls, l.f.name = l.n) : ∀ l ∈ ls.map (repF d F), l.f.name = l.n := fun l h => by
  obtain ⟨x, hx, rfl⟩ := List.mem_map.mp h
  rw [repF_n, ← o x hx]
  unfold repF
  split
  · rename_i e
    show F.name = x.f.name
    rw [hF, (there_inj (hl x hx) hd e).2]
  · rfl
theorem Bk.Ok.numd (h : b.At K H a) (o : b.Ok (some d) k m g) {f : Int} (hf : b.ab.Floor f) (hroom : b.s.stop - (b.s.next - f) % b.s.ring ≠ 0) : (b.numd d).Ok (some { d with f := { d.f with num := some b.s.next } }) (k + 1) m g := by
  have h0 : (0 : Int) < b.s.ring := by have := o.r8; omega
  obtain ⟨hd, hdn, hdf, hds, hdfin⟩ := o.dd d rfl
  have hdt := h.ll d hd
  have hfs : (b.s.next - f) % b.s.ring ≤ b.s.stop := by
    obtain ⟨f', h1, h2⟩ := o.floor
    have := floor_uniq h1 hf.is
    rw [this]; exact h2
  have r8 := o.r8
  have hst := o.stp
  have hsuc : ∀ x, (b.s.next - x) % b.s.ring ≤ b.s.stop → ((b.s.next + 1) % b.s.ring - x) % b.s.ring = (b.s.next - x) % b.s.ring + 1 := fun x hx => sb_succ h0 (by omega)
  have hte : ∀ t ∈ b.ts, (b.s.next - t.e) % b.s.ring + 1 ≤ b.s.stop := fun t ht => by
    have := hf.top t.e (by show t.e ∈ elI (tbE b.ts); rw [tbE_I]; exact List.mem_map_of_mem ht)
    have : (b.s.next - t.e) % b.s.ring ≤ (b.s.next - f) % b.s.ring := this
    omega
  refine { busy := o.busy, r8 := o.r8, stp := o.stp, nx0 := Int.emod_nonneg _ (by show b.s.ring ≠ 0; omega), nx1 := Int.emod_lt_of_pos _ h0, tne := o.tne, tl := o.tl, tnd := o.tnd, tw := o.tw, te := fun t ht => ?_, tv := fun t ht e he n hn => ?_, wo := o.wo, fk := fun e he => ?_, fnd := ?_, ff := fun e he => ?_, lnd := ?_, nm := rep_nm h.ll hdt rfl o.nm, op := fun l hl hfin => ?_, dd := fun d' hd' => ?_, dn := fun z => (nomatch z), kv := fun t ht => Nat.le_succ_of_le (o.kv t ht), kf := ?_, km := ?_, kg := o.kg }
  · obtain ⟨h1, h2, h3⟩ := o.te t ht
    refine ⟨h1, h2, ?_⟩
    show ((b.s.next + 1) % b.s.ring - t.e) % b.s.ring ≤ b.s.stop
    rw [hsuc _ h3]; exact hte t ht
  · obtain ⟨h1, h2, h3, h4, h5⟩ := o.tv t ht e he n hn
    have h6 := (o.te t ht).2.2
    refine ⟨h1, h2, ?_, ?_, ?_⟩
    · show 1 ≤ ((b.s.next + 1) % b.s.ring - n) % b.s.ring
      rw [hsuc _ (by omega)]; omega
    · show ((b.s.next + 1) % b.s.ring - n) % b.s.ring ≤ ((b.s.next + 1) % b.s.ring - t.e) % b.s.ring
      rw [hsuc _ (by omega), hsuc _ h6]; omega
    · refine fkG_app ?_
      rw [fkG_rep]
      cases q : fkG b.fs n with
      | none => rw [q] at h5; cases h5
      | some x => rfl
  · rcases List.mem_append.mp he with he | he
    · obtain ⟨x, hx, rfl⟩ := List.mem_map.mp he
      obtain ⟨h1, h2, h3, t, ht, h4⟩ := o.fk x hx
      have h6 := (o.te t ht).2.2
      refine ⟨h1, h2, ?_, t, ht, ?_⟩
      · show 1 ≤ ((b.s.next + 1) % b.s.ring - x.1) % b.s.ring
        rw [hsuc _ (by omega)]; omega
      · show ((b.s.next + 1) % b.s.ring - x.1) % b.s.ring ≤ ((b.s.next + 1) % b.s.ring - t.e) % b.s.ring
        rw [hsuc _ (by omega), hsuc _ h6]; omega
    · rw [List.mem_singleton.mp he]
      obtain ⟨t, ht⟩ := List.exists_mem_of_ne_nil _ o.tne
      have h6 := (o.te t ht).2.2
      have h7 := Int.emod_nonneg (b.s.next - t.e) (show b.s.ring ≠ 0 by omega)
      have h8 : ((b.s.next + 1) % b.s.ring - b.s.next) % b.s.ring = 1 := by rw [sb_succ h0 (by rw [Int.sub_self, Int.zero_emod]; omega), Int.sub_self, Int.zero_emod]; omega
      refine ⟨o.nx0, o.nx1, ?_, t, ht, ?_⟩
      · show 1 ≤ ((b.s.next + 1) % b.s.ring - b.s.next) % b.s.ring
        omega
      · show ((b.s.next + 1) % b.s.ring - b.s.next) % b.s.ring ≤ ((b.s.next + 1) % b.s.ring - t.e) % b.s.ring
        rw [h8, hsuc _ h6]; omega
  · show (((b.fs.map fun e : Int × Lk => (e.1, repF d { d.f with num := some b.s.next } e.2)) ++ [(b.s.next, { d with f := { d.f with num := some b.s.next } })]).map (fun x : Int × Lk => x.1)).Nodup
    rw [List.map_append, List.map_map]
    have : (b.fs.map ((fun x : Int × Lk => x.1) ∘ fun e : Int × Lk => (e.1, repF d { d.f with num := some b.s.next } e.2))) = b.fs.map (·.1) := List.map_congr_left fun _ _ => rfl
    rw [this]
    refine List.nodup_append.mpr ⟨o.fnd, by simp, fun x hx y hy e => ?_⟩
    have : y = b.s.next := by simpa using hy
    rw [e, this] at hx
    exact o.next_new hx
  · rcases List.mem_append.mp he with he | he
    · obtain ⟨x, hx, rfl⟩ := List.mem_map.mp he
      by_cases q : x.2.a = d.a
      · have e := there_inj (h.fl x hx) hdt q
        rcases o.ff x hx with h1 | h1
        · rw [e.2, hdfin] at h1; cases h1
        · have : x.2 = d := Option.some.inj h1
          right
          show some (repF d _ x.2) = _
          rw [this, repF_d]
      · rcases o.ff x hx with h1 | h1
        · left
          show (repF d _ x.2).f.fin = _
          unfold repF; rw [if_neg q]; exact h1
        · exact absurd (by rw [Option.some.inj h1]) q
    · rw [List.mem_singleton.mp he]; exact .inr rfl
  · show ((b.ls.map (repF d _)).map (·.n)).Nodup
    rw [List.map_map]
    have : (b.ls.map ((fun x : Lk => x.n) ∘ repF d { d.f with num := some b.s.next })) = b.ls.map (·.n) := List.map_congr_left fun l _ => repF_n _ _ l
    rw [this]; exact o.lnd
  · obtain ⟨x, hx, rfl⟩ := List.mem_map.mp hl
    by_cases q : x.a = d.a
    · have e := there_inj (h.ll x hx) hdt q
      have hfx : x.f.fin = none := by rw [e.2]; exact hdfin
      left
      rcases o.op x hx hfx with h1 | ⟨_, h2⟩
      · rw [Option.some.inj h1, repF_d]
      · rw [e.2, hds] at h2
        exact absurd h2 (by decide +kernel)
    · have e : repF d { d.f with num := some b.s.next } x = x := by unfold repF; rw [if_neg q]
      rw [e] at hfin ⊢
      rcases o.op x hx hfin with h1 | h1
      · exact absurd (by rw [Option.some.inj h1]) q
      · exact .inr h1
  · cases hd'
    refine ⟨List.mem_map.mpr ⟨d, hd, repF_d _ _⟩, hdn, hdf, hds, hdfin⟩
  · show ((b.fs.map _) ++ [_]).length ≤ k + 1
    rw [List.length_append, List.length_map]; have := o.kf; simp; exact this
  · show (b.ls.map _).length ≤ m
    rw [List.length_map]; exact o.km
def NumOk (b : Bk) (t : Tb) (n : Int) : Prop := 0 ≤ n ∧ n < b.s.ring ∧ 1 ≤ (b.s.next - n) % b.s.ring ∧ (b.s.next - n) % b.s.ring ≤ (b.s.next - t.e) % b.s.ring ∧ (fkG b.fs n).isSome = true
theorem Bk.Ok.tabN {t : Tb} {vs : List (Addr × Ver)} {log : List V} {od : Option Lk} {g' : Nat} (o : b.Ok od k m g) (ht : t ∈ b.ts) (hs : ∀ e ∈ vs, e.2.ok2 ∧ ∀ n, e.2.maker = some n ∨ e.2.ender = some n → NumOk b t n) (hl : vs.length ≤ k) (hg : log.length ≤ g') : (b.tab t.n vs log).Ok od k m g' := by
  refine { busy := o.busy, r8 := o.r8, stp := o.stp, nx0 := o.nx0, nx1 := o.nx1, tne := by show tbV b.ts t.n vs ≠ []; unfold tbV; simpa using o.tne, tl := by show (tbV b.ts t.n vs).length < 900; unfold tbV; rw [List.length_map]; exact o.tl, tnd := by show ((tbV b.ts t.n vs).map (·.n)).Nodup; rw [tbV_n]; exact o.tnd, tw := fun x hx => ?_, te := fun x hx => ?_, tv := fun x hx e he n hn => ?_, wo := fun x hx e he => ?_, fk := fun e he => let ⟨q1, q2, q3, x, hx, q4⟩ := o.fk e he; ⟨q1, q2, q3, _, tbV_in' hx t.n vs, by rw [tbV_e]; exact q4⟩, fnd := o.fnd, ff := o.ff, lnd := o.lnd, nm := o.nm, op := o.op, dd := o.dd, dn := o.dn, kv := fun x hx => ?_, kf := o.kf, km := o.km, kg := hg } <;> obtain ⟨y, hy, rfl⟩ := tbV_mem hx
  · have := o.tw y hy
    split <;> exact this
  · have := o.te y hy
    split <;> exact this
  · by_cases e' : y.n = t.n
    · have : y = t := key_inj o.tnd hy ht e'
      subst this
      rw [if_pos rfl] at he ⊢
      exact (hs e he).2 n hn
    · rw [if_neg e'] at he ⊢
      exact o.tv y hy e he n hn
  · by_cases e' : y.n = t.n
    · rw [if_pos e'] at he; exact (hs e he).1
    · rw [if_neg e'] at he; exact o.wo y hy e he
  · by_cases e' : y.n = t.n
    · rw [if_pos e']; exact hl
    · rw [if_neg e']; exact o.kv y hy
theorem numd_next {t : Tb} (o : b.Ok (some d) k m g) (ht : t ∈ b.ts) (hroom : (b.s.next - t.e) % b.s.ring + 1 < b.s.ring) : NumOk (b.numd d) t b.s.next := by
  have h0 : (0 : Int) < b.s.ring := by have := o.r8; omega
  have r8 := o.r8
  have h7 := Int.emod_nonneg (b.s.next - t.e) (show b.s.ring ≠ 0 by omega)
  have h8 : ((b.s.next + 1) % b.s.ring - b.s.next) % b.s.ring = 1 := by rw [sb_succ h0 (by rw [Int.sub_self, Int.zero_emod]; omega), Int.sub_self, Int.zero_emod]; omega
  refine ⟨o.nx0, o.nx1, ?_, ?_, ?_⟩
  · show 1 ≤ ((b.s.next + 1) % b.s.ring - b.s.next) % b.s.ring
    omega
  · show ((b.s.next + 1) % b.s.ring - b.s.next) % b.s.ring ≤ ((b.s.next + 1) % b.s.ring - t.e) % b.s.ring
    rw [h8, sb_succ h0 hroom]; omega
  · show (fkG (_ ++ [_]) b.s.next).isSome = true
    unfold fkG
    rw [List.find?_append]
    cases List.find? (fun e => decide (e.1 = b.s.next)) (b.fs.map fun e => (e.1, repF d { d.f with num := some b.s.next } e.2)) <;> simp
end
section
variable {P : Program} {w : World} {K : PySem.W.Frag} {mg : Str → Option Value} {base : Heap}
theorem Bk.Ok.vok {b : Bk} {d : Lk} {k m g : Nat} {t : Tb} (o : b.Ok (some d) k m g) (ht : t ∈ b.ts) {e : Addr × Ver} (he : e ∈ t.vs) : VOk b.s.ring b.s.next d b.fs e.2 := fun n hn => by
  obtain ⟨_, _, h3, h4, h⟩ := o.tv t ht e he n hn
  obtain ⟨mm, hm⟩ := Option.isSome_iff_exists.mp h
  have hm2 := fkG_mem hm
  refine ⟨mm, hm, ⟨_, hm2, rfl⟩, fun hf => ?_, fun hf => ?_⟩
  · rcases o.ff _ hm2 with h1 | h1
    · rw [hf] at h1; cases h1
    · have e1 : mm = d := Option.some.inj h1
      rw [e1]
  · have h6 := (o.te t ht).2.2
    have := o.stp
    unfold bef
    simp only [Bool.and_eq_true, decide_eq_true_eq]
    omega
def sp_Deeds_put (K : PySem.W.Frag) : Sp := fun vs H Q E => ∃ (a : Addr) (b : Bk) (d : Lk) (k m g : Nat) (n key : Str) (t : Tb) (wv f : Int), vs = [.ref a, .str (Str.ofString "deed"), .str n, .str key, .int wv] ∧ b.At K H a ∧ b.Ok (some d) k m g ∧ k < 800 ∧ m < 800 ∧ g < 10000000 ∧ t ∈ b.ts ∧ t.n = n ∧ b.ab.Floor f ∧
  d.f.num = none ∧ b.c d = b.s.next ∧ isW key = true ∧ key.length ≤ 100 ∧ PyData.strOk key = true ∧ 0 ≤ wv ∧ wv < 1000000000 ∧
  (b.s.stop - (b.s.next - f) % b.s.ring = 0 → ∀ H' x, Same H H' → E (.ref (ga K "Stopped")) x H') ∧
  (b.s.stop - (b.s.next - f) % b.s.ring ≠ 0 → ∀ H' vs' log', ((b.numd d).tab n vs' log').At K H' a → ((b.numd d).tab n vs' log').Ok (some { d with f := { d.f with num := some b.s.next } }) (k + 1) m (g + 1) → Far b H H' → Q (.int b.s.next) H')
theorem sc_Deeds_put : FnScope ["self", "name", "table", "key", "worth", "looker", "place", "number"] ["self", "name", "table", "key", "worth"] (defScope s_Deeds_put) := ⟨rfl, rfl, rfl, by decide +kernel, rfl, by decide +kernel, by decide +kernel⟩
theorem ok_Deeds_put {fd : FuncData} (T : Txt K mg) (F : FnD K d_Deeds_put fd) : FnOk P w K mg base (L2N.CX P w) 8 (He.fAd K d_Deeds_put.at_) fd ["self", "name", "table", "key", "worth"] (sp_Deeds_put K) := by
  obtain ⟨fd_Deeds_look_free, F_Deeds_look_free⟩ := T.fn 40 (d := d_Deeds_look_free)
  have G_Deeds_look_free := ok_Deeds_look_free (P := P) (w := w) (base := base) T F_Deeds_look_free
  have B_Deeds_look_free_1 : KBn K fd_Deeds_look_free ["self"] 1 [] (fun us ws => us ++ ws) (fun us ws => us ++ ws) := RX.kb0 F_Deeds_look_free 1 [] (fun us ws => us ++ ws) (fun a b => a.append b) (fun _ _ _ _ _ _ us ws h1 h2 => match us, ws, h1, h2 with | [_], [], _, _ => rfl)
  obtain ⟨fd_Deeds_deed_of, F_Deeds_deed_of⟩ := T.fn 51 (d := d_Deeds_deed_of)
  have G_Deeds_deed_of := ok_Deeds_deed_of (P := P) (w := w) (base := base) T F_Deeds_deed_of
  have B_Deeds_deed_of_2 : KBn K fd_Deeds_deed_of ["self", "name"] 2 [] (fun us ws => us ++ ws) (fun us ws => us ++ ws) := RX.kb0 F_Deeds_deed_of 2 [] (fun us ws => us ++ ws) (fun a b => a.append b) (fun _ _ _ _ _ _ us ws h1 h2 => match us, ws, h1, h2 with | [_, _], [], _, _ => rfl)
  obtain ⟨fd_Deeds_check_table, F_Deeds_check_table⟩ := T.fn 49 (d := d_Deeds_check_table)
  have G_Deeds_check_table := ok_Deeds_check_table (P := P) (w := w) (base := base) T F_Deeds_check_table
  have B_Deeds_check_table_2 : KBn K fd_Deeds_check_table ["self", "table"] 2 [] (fun us ws => us ++ ws) (fun us ws => us ++ ws) := RX.kb0 F_Deeds_check_table 2 [] (fun us ws => us ++ ws) (fun a b => a.append b) (fun _ _ _ _ _ _ us ws h1 h2 => match us, ws, h1, h2 with | [_, _], [], _, _ => rfl)
  obtain ⟨fd_is_worth, F_is_worth⟩ := T.fn 7 (d := d_is_worth)
  have G_is_worth := ok_is_worth (P := P) (w := w) (base := base) T F_is_worth
  have B_is_worth_1 : KBn K fd_is_worth ["thing"] 1 [] (fun us ws => us ++ ws) (fun us ws => us ++ ws) := RX.kb0 F_is_worth 1 [] (fun us ws => us ++ ws) (fun a b => a.append b) (fun _ _ _ _ _ _ us ws h1 h2 => match us, ws, h1, h2 with | [_], [], _, _ => rfl)
  obtain ⟨fd_is_word, F_is_word⟩ := T.fn 5 (d := d_is_word)
  have G_is_word := ok_is_word (P := P) (w := w) (base := base) T F_is_word
  have B_is_word_1 : KBn K fd_is_word ["thing"] 1 [] (fun us ws => us ++ ws) (fun us ws => us ++ ws) := RX.kb0 F_is_word 1 [] (fun us ws => us ++ ws) (fun a b => a.append b) (fun _ _ _ _ _ _ us ws h1 h2 => match us, ws, h1, h2 with | [_], [], _, _ => rfl)
  obtain ⟨fd_Deeds_place_seen, F_Deeds_place_seen⟩ := T.fn 59 (d := d_Deeds_place_seen)
  have G_Deeds_place_seen := ok_Deeds_place_seen (P := P) (w := w) (base := base) T F_Deeds_place_seen
  have B_Deeds_place_seen_4 : KBn K fd_Deeds_place_seen ["self", "looker", "table", "key"] 4 [] (fun us ws => us ++ ws) (fun us ws => us ++ ws) := RX.kb0 F_Deeds_place_seen 4 [] (fun us ws => us ++ ws) (fun a b => a.append b) (fun _ _ _ _ _ _ us ws h1 h2 => match us, ws, h1, h2 with | [_, _, _, _], [], _, _ => rfl)
  obtain ⟨fd_Deeds_number_of, F_Deeds_number_of⟩ := T.fn 60 (d := d_Deeds_number_of)
  have G_Deeds_number_of := ok_Deeds_number_of (P := P) (w := w) (base := base) T F_Deeds_number_of
  have B_Deeds_number_of_2 : KBn K fd_Deeds_number_of ["self", "looker"] 2 [] (fun us ws => us ++ ws) (fun us ws => us ++ ws) := RX.kb0 F_Deeds_number_of 2 [] (fun us ws => us ++ ws) (fun a b => a.append b) (fun _ _ _ _ _ _ us ws h1 h2 => match us, ws, h1, h2 with | [_, _], [], _, _ => rfl)
  obtain ⟨fd_Deeds_end_version, F_Deeds_end_version⟩ := T.fn 61 (d := d_Deeds_end_version)
  have G_Deeds_end_version := ok_Deeds_end_version (P := P) (w := w) (base := base) T F_Deeds_end_version
  have B_Deeds_end_version_4 : KBn K fd_Deeds_end_version ["self", "table", "place", "number"] 4 [] (fun us ws => us ++ ws) (fun us ws => us ++ ws) := RX.kb0 F_Deeds_end_version 4 [] (fun us ws => us ++ ws) (fun a b => a.append b) (fun _ _ _ _ _ _ us ws h1 h2 => match us, ws, h1, h2 with | [_, _, _, _], [], _, _ => rfl)
  obtain ⟨fd_Deeds_note, F_Deeds_note⟩ := T.fn 42 (d := d_Deeds_note)
  have G_Deeds_note := ok_Deeds_note (P := P) (w := w) (base := base) T F_Deeds_note
  have B_Deeds_note_2 : KBn K fd_Deeds_note ["self", "row"] 2 [] (fun us ws => us ++ ws) (fun us ws => us ++ ws) := RX.kb0 F_Deeds_note 2 [] (fun us ws => us ++ ws) (fun a b => a.append b) (fun _ _ _ _ _ _ us ws h1 h2 => match us, ws, h1, h2 with | [_, _], [], _, _ => rfl)
  refine F.ok sc_Deeds_put (fun vs H Q E h => ?_) (fun cdv A outer s H vs Q E hr h => ?_)
  · obtain ⟨a, b, d, k, m, g, n, key, t, wv, f, rfl, _⟩ := h; rfl
  · obtain ⟨a, b, d, kk, m, g, n, key, t, wv, f, rfl, hb, ho, hk, hm, hg, ht, rfl, hf, hnum, hcd, hkw, hkl, hks, hw0, hw1, k1, k2⟩ := h
    refine ⟨_, ((pss_cons (ps_expr (RX.pe_ms0 (pv 0) T.clStore (T.mt 119) G_Deeds_look_free (hr.mono (by decide)) B_Deeds_look_free_1 RX.passS0)) (pss_cons (ps_set (i := 5) sc_Deeds_put.nd rfl (Or.inl rfl) (RX.pe_ms (pv 0) T.clStore (T.mt 129) G_Deeds_deed_of (hr.mono (by decide)) B_Deeds_deed_of_2 RX.passS0 (pa_cons (pv 1) pa_nil) pk_nil)) (pss_cons (ps_expr (RX.pe_ms (pv 0) T.clStore (T.mt 127) G_Deeds_check_table (hr.mono (by decide)) B_Deeds_check_table_2 RX.passS0 (pa_cons (pv 2) pa_nil) pk_nil)) (pss_cons (ps_if (PW.pt (pw_or (pt_not (pt_val (RX.pe_cs G_is_word (hr.mono (by decide)) (T.glo 5) F_is_word.kp B_is_word_1 RX.passS0 (pa_cons (pv 3) pa_nil) pk_nil))) (pw_or1 (pt_not (pt_val (RX.pe_cs G_is_worth (hr.mono (by decide)) (T.glo 7) F_is_worth.kp B_is_worth_1 RX.passS0 (pa_cons (pv 4) pa_nil) pk_nil)))))) (pss_one ps_never) pss_nil) (pss_cons (ps_set (i := 6) sc_Deeds_put.nd rfl (Or.inl rfl) (RX.pe_ms (pv 0) T.clStore (T.mt 137) G_Deeds_place_seen (hr.mono (by decide)) B_Deeds_place_seen_4 RX.passS0 (pa_cons (pv 5) (pa_cons (pv 2) (pa_cons (pv 3) pa_nil))) pk_nil)) (pss_cons (ps_set (i := 7) sc_Deeds_put.nd rfl (Or.inl rfl) (RX.pe_ms (pv 0) T.clStore (T.mt 138) G_Deeds_number_of (hr.mono (by decide)) B_Deeds_number_of_2 (RXe.passNx (L2N.takes_of rfl rfl rfl rfl)) (pa_cons (pv 5) pa_nil) pk_nil)) (pss_cons (ps_if (pt_cmp (pc_notN (pv 6))) (pss_one (ps_expr (RX.pe_ms (pv 0) T.clStore (T.mt 139) G_Deeds_end_version (hr.mono (by decide)) B_Deeds_end_version_4 RX.passS0 (pa_cons (pv 2) (pa_cons (pv 6) (pa_cons (pv 7) pa_nil))) pk_nil))) pss_nil) (pss_cons (ps_expr (pe_bm PySem.F.plainAttrs_list PySem.F.slot_list_append PySem.F.type_list_append mt_append (pe_dget (hu_of hr) (pe_fld (pv 0) rfl) (pv 2) (fun _ _ => rfl)) (pa_cons (pe_tup (pa_cons (pv 3) (pa_cons (pv 4) (pa_cons (pv 7) (pa_cons pe_non pa_nil))))) pa_nil))) (pss_cons (ps_expr (RX.pe_ms (pv 0) T.clStore (T.mt 120) G_Deeds_note (hr.mono (by decide)) B_Deeds_note_2 RX.passS0 (pa_cons (pe_joined (PJ.cons pe_str (PJ.cons (pe_fmt (pv 1)) (PJ.cons pe_str (PJ.cons (pe_fmt (pv 2)) (PJ.cons pe_str (PJ.cons (pe_fmt (pv 3)) (PJ.cons pe_str (PJ.cons (pe_fmt (pv 4)) PJ.nil))))))))) pa_nil) pk_nil)) (pss_one (ps_ret (pv 7))))))))))))), ?_⟩
    have ha := hb.st
    have hbusy := ho.busy
    have h0 : (0 : Int) < b.s.ring := by have := ho.r8; omega
    obtain ⟨hdm, hdn, hdf, hds, hdfin⟩ := ho.dd d rfl
    have hlkG : lkG b.ls (Str.ofString "deed") = some d := by rw [← hdn]; exact lkG_key ho.lnd hdm
    have hwd : isW (Str.ofString "deed") = true := by decide +kernel
    have hld : (Str.ofString "deed").length ≤ 100 := by decide +kernel
    have hL := hb.lk
    have hll := hb.ll
    have hdT := Bk.dget_tb hb ho ht
    obtain ⟨hw, hn100⟩ := ho.tw t ht
    walk_at "go"
    rename_i H1 e1 H2 e2 H3 e3
    rw [hkw]
    have e4 := (e1.trans e2).trans e3
    have hb1 := hb.same e4
    have ha1 := hb1.st
    have hdT1 := Bk.dget_tb hb1 ho ht
    have hvl1 := hb1.vl t ht
    have hF1 := hb1.ft
    have hfl1 := hb1.fl
    have hd1 := hb1.ll d hdm
    obtain ⟨q, hq1, hq2⟩ := hb1.lo d hdm
    have hkt := ho.kv t ht
    walk_at "go"
    have hel9 : (tbE b.ts).length < 900 := by unfold tbE; rw [List.length_map]; exact ho.tl
    have hfi : FloorIs b.s.ring (tbE b.ts) f := hf.is
    have hls9 : b.ls.length < 900 := by have := ho.km; omega
    have hkF : (fkK b.fs).length < 1000 := by unfold fkK; rw [List.length_map]; have := ho.kf; omega
    have hlz : b.log.length < sizeLine := Nat.lt_of_le_of_lt ho.kg (Nat.lt_of_lt_of_le hg (by decide))
    have htz : t.vs.length + 2 ≤ sizeLine := Nat.le_trans (show t.vs.length + 2 ≤ 1000 by omega) (by decide)
    have htzV : (t.vs.map fun e => V.ref e.1).length < sizeLine := by rw [List.length_map]; omega
    have hsbt : (b.s.next - t.e) % b.s.ring + 1 < b.s.ring := by
      have h6 := (ho.te t ht).2.2
      have := ho.stp
      have := ho.r8
      omega
    refine ⟨fun e he => ⟨hb1.vt t ht e he, by rw [hcd]; exact ho.vok ht he⟩, fun H4 e5 => ?_, fun H4 i hi e5 => ?_⟩
    · have hb4 := hb1.same e5
      have ha4 := hb4.st
      have hE4 := hb4.el
      have hL4 := hb4.lk
      have hll4 := hb4.ll
      have hF4 := hb4.ft
      have hlo4 := hb4.lo
      walk_at "go"
      refine ⟨fun n hn => (by rw [hnum] at hn; cases hn), fun _ hr H5 x e6 => k1 hr H5 x ((e4.trans e5).trans e6), fun _ hr H5 fr ha5 hd5 hF5 => ?_⟩
      have hbn := hb4.numd ho hdm fr ha5 hd5 hF5
      have hon := ho.numd hb hf hr
      have htn : t ∈ (b.numd d).ts := ht
      have hTn := Bk.dget_tb hbn hon htn
      have hvln := hbn.vl t htn
      have hGn := hbn.lg
      have hnGt : b.s.aG ≠ t.a := fun z => by
        have := hb.nl
        rw [List.nodup_cons] at this
        exact this.1 (z ▸ List.mem_map_of_mem ht)
      have hTn' : DGet H5 b.s.aT (.str t.n) (some (.ref t.a)) := hTn
      have hGn' : H5 b.s.aG = some (.lst b.log) := hGn
      have hvln' : H5 t.a = some (.lst (t.vs.map fun e => V.ref e.1)) := hvln
      walk_at "go"
      rename_i p hp
      have nap : a ≠ p := fun z => by rw [← z, hbn.st] at hp; cases hp
      have nGp : b.s.aG ≠ p := fun z => by rw [← z, hGn'] at hp; cases hp
      have ntp : t.a ≠ p := fun z => by rw [← z, hvln'] at hp; cases hp
      have nat : a ≠ t.a := ne_of hbn.st hvln' (fun z => nomatch z)
      have ha6 : upd (upd H5 p (.tup [.str key, .int wv, .int b.s.next, .non])) t.a (.lst ((t.vs.map fun e => V.ref e.1) ++ [.ref p])) a = some (.ins (CS K) b.dx { b.s with next := (b.s.next + 1) % b.s.ring }.l) := by rw [upd_ne nat, upd_ne nap]; exact hbn.st
      have hG6 : upd (upd H5 p (.tup [.str key, .int wv, .int b.s.next, .non])) t.a (.lst ((t.vs.map fun e => V.ref e.1) ++ [.ref p])) b.s.aG = some (.lst b.log) := by rw [upd_ne hnGt, upd_ne nGp]; exact hGn'
      walk_at "go"
      generalize V.str (Str.empty ++ Str.ofString "put " ++ Str.ofString "deed" ++ Str.ofString " " ++ t.n ++ Str.ofString " " ++ key ++ Str.ofString " " ++ Str.ofString (toString wv)) = z6
      have frT : ∀ x o, x ≠ t.a → x ≠ b.s.aG → H5 x = some o → upd (upd (upd H5 p (.tup [.str key, .int wv, .int b.s.next, .non])) t.a (.lst ((t.vs.map fun e => V.ref e.1) ++ [.ref p]))) b.s.aG (.lst (b.log ++ [z6])) x = some o := fun x o n1 n2 q => by rw [upd_ne n2, upd_ne n1]; exact RX.up_ne hp q
      have hX : ∀ x, (x = t.a ∨ x = b.s.aG) → Mut (H5 x) := fun x hx => by
        rcases hx with rfl | rfl
        · rw [hvln']; trivial
        · rw [hGn']; trivial
      have frX : ∀ x o, ¬ (x = t.a ∨ x = b.s.aG) → H5 x = some o → upd (upd (upd H5 p (.tup [.str key, .int wv, .int b.s.next, .non])) t.a (.lst ((t.vs.map fun e => V.ref e.1) ++ [.ref p]))) b.s.aG (.lst (b.log ++ [z6])) x = some o := fun x o n q => frT x o (fun z => n (.inl z)) (fun z => n (.inr z)) q
      refine k2 hr _ (t.vs ++ [(p, ⟨key, .int wv, some b.s.next, none⟩)]) (b.log ++ [z6]) (hbn.tab hon.tnd htn frT ?_ upd_same (fun x hx => ?_)) (hon.tabN htn (fun x hx => ?_) (by rw [List.length_append]; simp; omega) (by rw [List.length_append]; have := ho.kg; simp; omega)) (fun x o f q => frT x o (f.nt hb q ht) (f.nG hb q) (fr x o (f.ni q hb.st) (f.ni q (hb.ll d hdm)) (f.nd q hb.ft) ((e4.trans e5) x o q)))
      · rw [upd_ne (Ne.symm hnGt), upd_same, List.map_append]; rfl
      · rcases List.mem_append.mp hx with hx | hx
        · exact sqT_chg frX hX (hbn.vt t htn x hx)
        · rw [List.mem_singleton.mp hx]
          exact SqT.of (by rw [upd_ne (Ne.symm nGp), upd_ne (Ne.symm ntp), upd_same]; rfl)
      · rcases List.mem_append.mp hx with hx | hx
        · exact ⟨hon.wo t htn x hx, fun n hn => hon.tv t htn x hx n hn⟩
        · rw [List.mem_singleton.mp hx]
          refine ⟨⟨hks, wv, rfl⟩, fun n hn => ?_⟩
          rcases hn with hn | hn
          · cases hn; exact numd_next ho ht hsbt
          · cases hn
    · have hb4 := hb1.same e5
      have ha4 := hb4.st
      have hE4 := hb4.el
      have hL4 := hb4.lk
      have hll4 := hb4.ll
      have hF4 := hb4.ft
      have hlo4 := hb4.lo
      walk_at "go"
      refine ⟨fun n hn => (by rw [hnum] at hn; cases hn), fun _ hr H5 x e6 => k1 hr H5 x ((e4.trans e5).trans e6), fun _ hr H5 fr ha5 hd5 hF5 => ?_⟩
      have hbn := hb4.numd ho hdm fr ha5 hd5 hF5
      have hon := ho.numd hb hf hr
      have htn : t ∈ (b.numd d).ts := ht
      have hTn := Bk.dget_tb hbn hon htn
      have hvln := hbn.vl t htn
      have hGn := hbn.lg
      have hnGt : b.s.aG ≠ t.a := fun z => by
        have := hb.nl
        rw [List.nodup_cons] at this
        exact this.1 (z ▸ List.mem_map_of_mem ht)
      have hTn' : DGet H5 b.s.aT (.str t.n) (some (.ref t.a)) := hTn
      have hGn' : H5 b.s.aG = some (.lst b.log) := hGn
      have hvln' : H5 t.a = some (.lst (t.vs.map fun e => V.ref e.1)) := hvln
      obtain ⟨e0, he0⟩ : ∃ e0, t.vs[i]? = some e0 := ⟨_, List.getElem?_eq_getElem hi⟩
      have he0m := List.mem_of_getElem? he0
      have hi5 : (t.vs.map fun e => V.ref e.1)[i]? = some (.ref e0.1) := by rw [List.getElem?_map, he0]; rfl
      have hv5 := hbn.vt t htn e0 he0m
      have han : H5 a = some (.ins (CS K) b.dx { b.s with next := (b.s.next + 1) % b.s.ring }.l) := hbn.st
      walk_at "go"
      rename_i p1 hp1
      have nap1 : a ≠ p1 := fun z => by rw [← z, han] at hp1; cases hp1
      have fr6 : ∀ x o, x ≠ t.a → H5 x = some o → upd (upd H5 p1 (.tup { e0.2 with ender := some b.s.next }.l)) t.a (.lst ((t.vs.map fun e => V.ref e.1).set i (.ref p1))) x = some o := fun x o n1 q => by rw [upd_ne n1]; exact RX.up_ne hp1 q
      have h6v : upd (upd H5 p1 (.tup { e0.2 with ender := some b.s.next }.l)) t.a (.lst ((t.vs.map fun e => V.ref e.1).set i (.ref p1))) t.a = some (.lst ((t.vs.set i (p1, { e0.2 with ender := some b.s.next })).map fun e => V.ref e.1)) := by rw [upd_same, List.map_set]
      have ntp1 : t.a ≠ p1 := fun z => by rw [← z, hvln'] at hp1; cases hp1
      have h6p : SqT K (upd (upd H5 p1 (.tup { e0.2 with ender := some b.s.next }.l)) t.a (.lst ((t.vs.map fun e => V.ref e.1).set i (.ref p1)))) p1 { e0.2 with ender := some b.s.next }.l := SqT.of (by rw [upd_ne (Ne.symm ntp1), upd_same])
      generalize upd (upd H5 p1 (.tup { e0.2 with ender := some b.s.next }.l)) t.a (.lst ((t.vs.map fun e => V.ref e.1).set i (.ref p1))) = H6 at *
      have hX1 : ∀ x, (x = t.a) → Mut (H5 x) := fun x hx => by rw [hx, hvln']; trivial
      have hmem : ∀ x ∈ t.vs.set i (p1, { e0.2 with ender := some b.s.next }), x = (p1, { e0.2 with ender := some b.s.next }) ∨ x ∈ t.vs := fun x hx => (List.mem_or_eq_of_mem_set hx).symm
      have hb6 : ((b.numd d).tab t.n (t.vs.set i (p1, { e0.2 with ender := some b.s.next })) b.log).At K H6 a := hbn.tab hon.tnd htn (fun x o n1 _ q => fr6 x o n1 q) h6v (fr6 _ _ hnGt hGn') (fun x hx => by
        rcases hmem x hx with rfl | hx
        · exact h6p
        · exact sqT_chg fr6 hX1 (hbn.vt t htn x hx))
      have hs6 : ∀ x ∈ t.vs.set i (p1, { e0.2 with ender := some b.s.next }), x.2.ok2 ∧ ∀ n, x.2.maker = some n ∨ x.2.ender = some n → NumOk (b.numd d) t n := fun x hx => by
        rcases hmem x hx with rfl | hx
        · refine ⟨⟨(hon.wo t htn e0 he0m).k, (hon.wo t htn e0 he0m).w⟩, fun n hn => ?_⟩
          rcases hn with hn | hn
          · exact hon.tv t htn e0 he0m n (.inl hn)
          · cases hn; exact numd_next ho ht hsbt
        · exact ⟨hon.wo t htn x hx, fun n hn => hon.tv t htn x hx n hn⟩
      have ho6 := hon.tabN (log := b.log) (g' := g) htn hs6 (by rw [List.length_set]; omega) ho.kg
      have ht6 : { t with vs := t.vs.set i (p1, { e0.2 with ender := some b.s.next }) } ∈ ((b.numd d).tab t.n (t.vs.set i (p1, { e0.2 with ender := some b.s.next })) b.log).ts := tbV_in htn _
      have ha6 : H6 a = some (.ins (CS K) b.dx { b.s with next := (b.s.next + 1) % b.s.ring }.l) := hb6.st
      have hT6' := Bk.dget_tb hb6 ho6 ht6
      have hT6 : DGet H6 b.s.aT (.str t.n) (some (.ref t.a)) := hT6'
      clear hT6'
      have hG6 : H6 b.s.aG = some (.lst b.log) := hb6.lg
      have hv6 : H6 t.a = some (.lst ((t.vs.set i (p1, { e0.2 with ender := some b.s.next })).map fun e => V.ref e.1)) := h6v
      have htz6 : ((t.vs.set i (p1, { e0.2 with ender := some b.s.next })).map fun e => V.ref e.1).length < sizeLine := by rw [List.length_map, List.length_set]; omega
      walk_at "go"
      rename_i p hp
      have nap : a ≠ p := fun z => by rw [← z, ha6] at hp; cases hp
      have nGp : b.s.aG ≠ p := fun z => by rw [← z, hG6] at hp; cases hp
      have ntp : t.a ≠ p := fun z => by rw [← z, hv6] at hp; cases hp
      have nat : a ≠ t.a := ne_of ha6 hv6 (fun z => nomatch z)
      have ha7 : upd (upd H6 p (.tup [.str key, .int wv, .int b.s.next, .non])) t.a (.lst (((t.vs.set i (p1, { e0.2 with ender := some b.s.next })).map fun e => V.ref e.1) ++ [.ref p])) a = some (.ins (CS K) b.dx { b.s with next := (b.s.next + 1) % b.s.ring }.l) := by rw [upd_ne nat, upd_ne nap]; exact ha6
      have hG7 : upd (upd H6 p (.tup [.str key, .int wv, .int b.s.next, .non])) t.a (.lst (((t.vs.set i (p1, { e0.2 with ender := some b.s.next })).map fun e => V.ref e.1) ++ [.ref p])) b.s.aG = some (.lst b.log) := by rw [upd_ne hnGt, upd_ne nGp]; exact hG6
      walk_at "go"
      generalize V.str (Str.empty ++ Str.ofString "put " ++ Str.ofString "deed" ++ Str.ofString " " ++ t.n ++ Str.ofString " " ++ key ++ Str.ofString " " ++ Str.ofString (toString wv)) = z6
      have frT : ∀ x o, x ≠ t.a → x ≠ b.s.aG → H6 x = some o → upd (upd (upd H6 p (.tup [.str key, .int wv, .int b.s.next, .non])) t.a (.lst (((t.vs.set i (p1, { e0.2 with ender := some b.s.next })).map fun e => V.ref e.1) ++ [.ref p]))) b.s.aG (.lst (b.log ++ [z6])) x = some o := fun x o n1 n2 q => by rw [upd_ne n2, upd_ne n1]; exact RX.up_ne hp q
      have hX : ∀ x, (x = t.a ∨ x = b.s.aG) → Mut (H6 x) := fun x hx => by
        rcases hx with rfl | rfl
        · rw [hv6]; trivial
        · rw [hG6]; trivial
      have frX : ∀ x o, ¬ (x = t.a ∨ x = b.s.aG) → H6 x = some o → upd (upd (upd H6 p (.tup [.str key, .int wv, .int b.s.next, .non])) t.a (.lst (((t.vs.set i (p1, { e0.2 with ender := some b.s.next })).map fun e => V.ref e.1) ++ [.ref p]))) b.s.aG (.lst (b.log ++ [z6])) x = some o := fun x o n q => frT x o (fun z => n (.inl z)) (fun z => n (.inr z)) q
      have hAt := hb6.tab ho6.tnd ht6 (vs := t.vs.set i (p1, { e0.2 with ender := some b.s.next }) ++ [(p, ⟨key, .int wv, some b.s.next, none⟩)]) (log := b.log ++ [z6]) frT (by rw [upd_ne (Ne.symm hnGt), upd_same, List.map_append]; rfl) upd_same (fun x hx => by
        rcases List.mem_append.mp hx with hx | hx
        · exact sqT_chg frX hX (hb6.vt _ ht6 x hx)
        · rw [List.mem_singleton.mp hx]
          exact SqT.of (by rw [upd_ne (Ne.symm nGp), upd_ne (Ne.symm ntp), upd_same]; rfl))
      refine k2 hr _ (t.vs.set i (p1, { e0.2 with ender := some b.s.next }) ++ [(p, ⟨key, .int wv, some b.s.next, none⟩)]) (b.log ++ [z6]) (by unfold Bk.tab at hAt ⊢; simpa [tbV_tbV] using hAt) (hon.tabN htn (fun x hx => ?_) (by rw [List.length_append, List.length_set]; simp; omega) (by rw [List.length_append]; have := ho.kg; simp; omega)) (fun x o f q => frT x o (f.nt hb q ht) (f.nG hb q) (fr6 x o (f.nt hb q ht) (fr x o (f.ni q hb.st) (f.ni q (hb.ll d hdm)) (f.nd q hb.ft) ((e4.trans e5) x o q))))
      rcases List.mem_append.mp hx with hx | hx
      · exact hs6 x hx
      · rw [List.mem_singleton.mp hx]
        refine ⟨⟨hks, wv, rfl⟩, fun n hn => ?_⟩
        rcases hn with hn | hn
        · cases hn; exact numd_next ho ht hsbt
        · cases hn
end
abbrev dN : Str := Str.ofString "deed"
def Bk.begun (b : Bk) (d : Lk) (log : List V) : Bk := { b with ls := b.ls.filter (fun l => !decide (l.n = dN)) ++ [d], cc := fun y => if y = dN then b.s.next else b.cc y, log := log }
def Bk.ended (b : Bk) (d : Lk) (z : Str) (log : List V) : Bk := { b with ls := b.ls.map (repF d { d.f with fin := some z }), fs := b.fs.map (fun e => (e.1, repF d { d.f with fin := some z } e.2)), log := log }
theorem dropK_lk (ls : List Lk) (n : Str) : dropK (lkK ls) (.inr n) = lkK (ls.filter fun l => !decide (l.n = n)) := by
  unfold dropK lkK
  rw [List.filter_map]
  congr 1
  apply List.filter_congr
  intro l _
  simp
section
variable {K : PySem.W.Frag} {H H' : Hp} {a : Addr} {b : Bk} {k m g : Nat} {d : Lk} {log : List V}
theorem Bk.At.begun (h : b.At K H a) {p q : Addr} (hd : d.n = dN) (hlk : d.f.look = p) (fr : ∀ x o, x ≠ b.s.aL → x ≠ b.s.aG → H x = some o → H' x = some o) (hL : H' b.s.aL = some (.dK (dropK (lkK b.ls) (.inr dN) ++ [(.inr dN, .ref d.a)]))) (hG : H' b.s.aG = some (.lst log))
    (hda : d.there K H') (hp : H' p = some (.tup [.int b.s.next, .ref q])) (hq : H' q = some (.tup [])) : (b.begun d log).At K H' a := by
  have nds := h.nd
  simp only [List.nodup_cons, List.mem_cons, List.not_mem_nil, or_false, not_or] at nds
  obtain ⟨⟨nTE, nTL, nTF⟩, ⟨nEL, nEF⟩, nLF, _⟩ := nds
  have kd : ∀ {x : Addr} {kvs : List (Key × V)}, H x = some (.dK kvs) → x ≠ b.s.aL → H' x = some (.dK kvs) := fun {x kvs} q n => fr _ _ n (ne_of q h.lg (fun z => nomatch z)) q
  have ki : ∀ {x C dx : Addr} {fs : List (Str × V)}, H x = some (.ins C dx fs) → H' x = some (.ins C dx fs) := fun {x C dx fs} q => fr _ _ (ne_of q h.lk (fun z => nomatch z)) (ne_of q h.lg (fun z => nomatch z)) q
  have hX : ∀ x, (x = b.s.aL ∨ x = b.s.aG) → Mut (H x) := fun x hx => by
    rcases hx with rfl | rfl
    · rw [h.lk]; trivial
    · rw [h.lg]; trivial
  have frX : ∀ x o, ¬ (x = b.s.aL ∨ x = b.s.aG) → H x = some o → H' x = some o := fun x o n q => fr x o (fun z => n (.inl z)) (fun z => n (.inr z)) q
  have hnl := h.nl
  rw [List.nodup_cons] at hnl
  refine { st := ki h.st, tb := kd h.tb nTL, el := kd h.el nEL, lk := ?_, ft := kd h.ft (Ne.symm nLF), lg := hG, vl := fun t ht => fr _ _ (ne_of (h.vl t ht) h.lk (fun z => nomatch z)) (fun z => hnl.1 (z ▸ List.mem_map_of_mem ht)) (h.vl t ht), vt := fun t ht e he => sqT_chg frX hX (h.vt t ht e he), ll := fun l hl => ?_, fl := fun e he => ki (h.fl e he), lo := fun l hl => ?_, nd := h.nd, nl := h.nl }
  · show H' b.s.aL = some (.dK (lkK (b.ls.filter (fun l => !decide (l.n = dN)) ++ [d])))
    rw [hL, dropK_lk]
    unfold lkK
    rw [List.map_append]
    show _ = some (HO.dK (_ ++ [((.inr d.n : Key), V.ref d.a)]))
    rw [hd]
  · rcases List.mem_append.mp hl with hl | hl
    · exact ki (h.ll l (List.mem_filter.mp hl).1)
    · rw [List.mem_singleton.mp hl]; exact hda
  · rcases List.mem_append.mp hl with hl | hl
    · obtain ⟨h1, h2⟩ := List.mem_filter.mp hl
      obtain ⟨q, q1, q2⟩ := h.lo l h1
      refine ⟨q, ?_, sqT_chg frX hX q2⟩
      have : ¬ l.n = dN := by simpa using h2
      show SqT K H' l.f.look [.int (if l.n = dN then b.s.next else b.cc l.n), .ref q]
      rw [if_neg this]
      exact sqT_chg frX hX q1
    · rw [List.mem_singleton.mp hl]
      refine ⟨q, ?_, SqT.of hq⟩
      show SqT K H' d.f.look [.int (if d.n = dN then b.s.next else b.cc d.n), .ref q]
      rw [if_pos hd, hlk]
      exact SqT.of hp
theorem Bk.Ok.begun (o : b.Ok none k m g) (hd : d.n = dN) (hf : d.f.name = dN) (hs : d.f.sort = dN) (hn : d.f.fin = none) (hl : log.length ≤ g + 1) : (b.begun d log).Ok (some d) k (m + 1) (g + 1) := by
  refine { busy := o.busy, r8 := o.r8, stp := o.stp, nx0 := o.nx0, nx1 := o.nx1, tne := o.tne, tl := o.tl, tnd := o.tnd, tw := o.tw, te := o.te, tv := o.tv, wo := o.wo, fk := o.fk, fnd := o.fnd, ff := fun e he => ?_, lnd := ?_, nm := fun l hl => (List.mem_append.mp hl).elim (fun h => o.nm l (List.mem_filter.mp h).1) (fun h => by rw [List.mem_singleton.mp h, hd, hf]), op := fun l hl hfin => ?_, dd := fun d' h => ?_, dn := fun h => (nomatch h), kv := o.kv, kf := o.kf, km := ?_, kg := hl }
  · rcases o.ff e he with h | h
    · exact .inl h
    · cases h
  · show ((b.ls.filter (fun l => !decide (l.n = dN)) ++ [d]).map (·.n)).Nodup
    rw [List.map_append]
    refine List.nodup_append.mpr ⟨o.lnd.sublist (List.Sublist.map _ List.filter_sublist), by simp, fun x hx y hy e => ?_⟩
    obtain ⟨l, hl, rfl⟩ := List.mem_map.mp hx
    have h2 := (List.mem_filter.mp hl).2
    have : y = d.n := by simpa using hy
    rw [e, this, hd] at h2
    simp at h2
  · rcases List.mem_append.mp hl with hl | hl
    · rcases o.op l (List.mem_filter.mp hl).1 hfin with h | h
      · cases h
      · exact .inr h
    · rw [List.mem_singleton.mp hl]; exact .inl rfl
  · cases h
    exact ⟨List.mem_append_right _ (List.mem_singleton.mpr rfl), hd, hf, hs, hn⟩
  · show (b.ls.filter _ ++ [d]).length ≤ m + 1
    have := List.length_filter_le (fun l : Lk => !decide (l.n = dN)) b.ls
    have := o.km
    rw [List.length_append]; simp; omega
theorem Bk.begun_c {l : Lk} (h : ¬ l.n = dN) : (b.begun d log).c l = b.c l := by show (if l.n = dN then _ else _) = _; rw [if_neg h]; rfl
theorem Bk.begun_ab (hd : d.n = dN) : (b.begun d log).ab = b.ab := by
  have : (b.begun d log).hs = b.hs := by
    unfold Bk.hs
    show (((b.ls.filter (fun l => !decide (l.n = dN)) ++ [d]).filter fun l => l.f.fin.isNone && !decide (l.n = dN)).map fun l => (l.n, (b.begun d log).c l)) = _
    rw [List.filter_append, List.filter_filter]
    have e1 : [d].filter (fun l => l.f.fin.isNone && !decide (l.n = dN)) = [] := by simp [hd]
    rw [e1, List.append_nil]
    have e2 : b.ls.filter (fun l => (l.f.fin.isNone && !decide (l.n = dN)) && !decide (l.n = dN)) = b.ls.filter (fun l => l.f.fin.isNone && !decide (l.n = dN)) := by
      apply List.filter_congr
      intro l _
      cases l.f.fin.isNone <;> cases decide (l.n = dN) <;> rfl
    rw [e2]
    apply List.map_congr_left
    intro l hl
    have h2 := (List.mem_filter.mp hl).2
    have : ¬ l.n = dN := by
      intro z
      simp [z] at h2
    rw [Bk.begun_c this]
  unfold Bk.ab
  rw [this]
  rfl
/-- a looker at the deed's place is the deed -/
theorem Bk.Ok.uniq (h : b.At K H a) (o : b.Ok (some d) k m g) {x : Lk} (hx : x ∈ b.ls) (e : x.a = d.a) : x = d := by
  obtain ⟨hd, _, _, hs, hfin⟩ := o.dd d rfl
  have e2 := there_inj (h.ll x hx) (h.ll d hd) e
  rcases o.op x hx (by rw [e2.2]; exact hfin) with h1 | ⟨_, h2⟩
  · exact Option.some.inj h1
  · rw [e2.2, hs] at h2
    exact absurd h2 (by decide +kernel)
theorem Bk.rep_ab (h : b.At K H a) (o : b.Ok (some d) k m g) (F : LF) : (((b.ls.map (repF d F)).filter fun l => l.f.fin.isNone && !decide (l.n = dN)).map fun l => (l.n, b.cc l.n)) = b.hs := by
  obtain ⟨hd, hdn, _, hs, hfin⟩ := o.dd d rfl
  unfold Bk.hs
  rw [List.filter_map, List.map_map]
  have e1 : (b.ls.filter ((fun l : Lk => l.f.fin.isNone && !decide (l.n = dN)) ∘ repF d F)) = b.ls.filter fun l => l.f.fin.isNone && !decide (l.n = dN) := by
    apply List.filter_congr
    intro l hl
    show ((repF d F l).f.fin.isNone && !decide ((repF d F l).n = dN)) = _
    rw [repF_n]
    by_cases e : l.a = d.a
    · have : l = d := o.uniq h hl e
      rw [this, hdn]
      simp
    · have : repF d F l = l := by unfold repF; rw [if_neg e]
      rw [this]
  rw [e1]
  apply List.map_congr_left
  intro l _
  show ((repF d F l).n, b.cc (repF d F l).n) = (l.n, b.cc l.n)
  rw [repF_n]
theorem Bk.At.ended (h : b.At K H a) (o : b.Ok (some d) k m g) {z : Str} (e : Same H H') : (b.ended d z log).At K (upd (upd H' d.a (.ins (CL K) d.dx { d.f with fin := some z }.l)) b.s.aG (.lst log)) a := by
  have hd := (o.dd d rfl).1
  have h' := h.same e
  have hdt := h'.ll d hd
  have hdt0 := hdt
  unfold Lk.there at hdt0
  have hda := cs_ne_cl h'.st hdt
  have kd : ∀ {x : Addr} {kvs : List (Key × V)}, H' x = some (.dK kvs) → upd (upd H' d.a (.ins (CL K) d.dx { d.f with fin := some z }.l)) b.s.aG (.lst log) x = some (.dK kvs) := fun {x kvs} q => by
    rw [upd_ne (ne_of q h'.lg (fun z => nomatch z)), upd_ne (ne_of q hdt0 (fun z => nomatch z))]; exact q
  have hX : ∀ x, (x = d.a ∨ x = b.s.aG) → Mut (H' x) := fun x hx => by
    rcases hx with rfl | rfl
    · rw [hdt0]; trivial
    · rw [h'.lg]; trivial
  have frX : ∀ x q, ¬ (x = d.a ∨ x = b.s.aG) → H' x = some q → upd (upd H' d.a (.ins (CL K) d.dx { d.f with fin := some z }.l)) b.s.aG (.lst log) x = some q := fun x q n y => by rw [upd_ne (fun w => n (.inr w)), upd_ne (fun w => n (.inl w))]; exact y
  have nGd : d.a ≠ b.s.aG := ne_of hdt0 h'.lg (fun z => nomatch z)
  have hda' : upd (upd H' d.a (.ins (CL K) d.dx { d.f with fin := some z }.l)) b.s.aG (.lst log) d.a = some (.ins (CL K) d.dx { d.f with fin := some z }.l) := by rw [upd_ne nGd, upd_same]
  have ht : ∀ l : Lk, l.there K H' → (repF d { d.f with fin := some z } l).there K (upd (upd H' d.a (.ins (CL K) d.dx { d.f with fin := some z }.l)) b.s.aG (.lst log)) := fun l hl => rep_there hl hdt (fun n => by
    have hl0 := hl
    unfold Lk.there at hl0
    rw [upd_ne (ne_of hl0 h'.lg (fun z => nomatch z)), upd_ne n]) hda'
  have hnl := h'.nl
  rw [List.nodup_cons] at hnl
  refine { st := by show upd _ _ _ a = _; rw [upd_ne (ne_of h'.st h'.lg (fun z => nomatch z)), upd_ne (Ne.symm hda)]; exact h'.st, tb := kd h'.tb, el := kd h'.el, lk := ?_, ft := ?_, lg := upd_same, vl := fun t ht => ?_, vt := fun t ht e he => sqT_chg frX hX (h'.vt t ht e he), ll := fun l hl => ?_, fl := fun e he => ?_, lo := fun l hl => ?_, nd := h.nd, nl := h.nl }
  · show upd _ _ _ b.s.aL = some (.dK (lkK (b.ls.map _)))
    rw [lkK_rep]; exact kd h'.lk
  · show upd _ _ _ b.s.aF = some (.dK (fkK (b.fs.map fun e => (e.1, repF d { d.f with fin := some z } e.2))))
    rw [fkK_rep]; exact kd h'.ft
  · have q := h'.vl t ht
    show upd _ _ _ t.a = _
    rw [upd_ne (fun w => hnl.1 (by have := List.mem_map_of_mem (f := fun t : Tb => t.a) ht; rw [show t.a = b.s.aG from w] at this; exact this)), upd_ne (ne_of q hdt0 (fun z => nomatch z))]; exact q
  · obtain ⟨x, hx, rfl⟩ := List.mem_map.mp hl
    exact ht x (h'.ll x hx)
  · obtain ⟨x, hx, rfl⟩ := List.mem_map.mp he
    exact ht x.2 (h'.fl x hx)
  · obtain ⟨x, hx, rfl⟩ := List.mem_map.mp hl
    obtain ⟨q, h1, h2⟩ := h'.lo x hx
    refine ⟨q, ?_, sqT_chg frX hX h2⟩
    have e : (repF d { d.f with fin := some z } x).f.look = x.f.look := by
      unfold repF
      split
      · rename_i e
        show d.f.look = x.f.look
        rw [(there_inj (h'.ll x hx) hdt e).2]
      · rfl
    rw [e]
    show SqT K _ x.f.look [.int (b.cc (repF d _ x).n), _]
    rw [repF_n]
    exact sqT_chg frX hX h1
theorem Bk.Ok.ended (h : b.At K H a) (o : b.Ok (some d) k m g) (hl : log.length ≤ g + 1) : (b.ended d (Str.ofString "done") log).Ok none k m (g + 1) := by
  obtain ⟨hd, hdn, hdf, hds, hdfin⟩ := o.dd d rfl
  have ln : ((b.ls.map (repF d { d.f with fin := some (Str.ofString "done") })).map (·.n)) = b.ls.map (·.n) := by rw [List.map_map]; exact List.map_congr_left fun l _ => repF_n _ _ l
  have fg : ∀ n, (fkG b.fs n).isSome = true → (fkG (b.fs.map fun e => (e.1, repF d { d.f with fin := some (Str.ofString "done") } e.2)) n).isSome = true := fun n q => by
    rw [fkG_rep]
    cases z : fkG b.fs n with
    | none => rw [z] at q; cases q
    | some _ => rfl
  have fkeys : (b.fs.map fun e => (e.1, repF d { d.f with fin := some (Str.ofString "done") } e.2)).map (fun x : Int × Lk => x.1) = b.fs.map (·.1) := by rw [List.map_map]; rfl
  refine { busy := o.busy, r8 := o.r8, stp := o.stp, nx0 := o.nx0, nx1 := o.nx1, tne := o.tne, tl := o.tl, tnd := o.tnd, tw := o.tw, te := o.te, tv := fun t ht e he n hn => let ⟨q1, q2, q3, q4, q5⟩ := o.tv t ht e he n hn; ⟨q1, q2, q3, q4, fg n q5⟩, wo := o.wo, fk := fun e he => ?_, fnd := ?_, ff := fun e he => ?_, lnd := ?_, nm := rep_nm h.ll (h.ll d hd) rfl o.nm, op := fun l hl hfin => ?_, dd := fun d' h => (nomatch h), dn := fun _ l hl hln => ?_, kv := o.kv, kf := ?_, km := ?_, kg := hl }
  · obtain ⟨x, hx, rfl⟩ := List.mem_map.mp he
    exact o.fk x hx
  · show ((b.fs.map fun e => (e.1, repF d { d.f with fin := some (Str.ofString "done") } e.2)).map (fun x : Int × Lk => x.1)).Nodup
    rw [fkeys]; exact o.fnd
  · obtain ⟨x, hx, rfl⟩ := List.mem_map.mp he
    left
    show (repF d _ x.2).f.fin = _
    by_cases e : x.2.a = d.a
    · unfold repF; rw [if_pos e]
    · rcases o.ff x hx with h1 | h1
      · unfold repF; rw [if_neg e]; exact h1
      · exact absurd (by rw [Option.some.inj h1]) e
  · show ((b.ls.map (repF d { d.f with fin := some (Str.ofString "done") })).map (fun l : Lk => l.n)).Nodup
    rw [ln]; exact o.lnd
  · obtain ⟨x, hx, rfl⟩ := List.mem_map.mp hl
    right
    by_cases e : x.a = d.a
    · unfold repF at hfin; rw [if_pos e] at hfin; cases hfin
    · have e2 : repF d { d.f with fin := some (Str.ofString "done") } x = x := by unfold repF; rw [if_neg e]
      rw [e2] at hfin ⊢
      rcases o.op x hx hfin with h1 | h1
      · exact absurd (by rw [Option.some.inj h1]) e
      · exact h1
  · obtain ⟨x, hx, rfl⟩ := List.mem_map.mp hl
    rw [repF_n] at hln
    have : x = d := key_inj o.lnd hx hd (by rw [hln, hdn])
    rw [this, repF_d]
    intro z; cases z
  · show (b.fs.map _).length ≤ k
    rw [List.length_map]; exact o.kf
  · show (b.ls.map _).length ≤ m
    rw [List.length_map]; exact o.km
end
theorem Bk.Ok.notLk {b : Bk} {k m g : Nat} (o : b.Ok none k m g) : isLk b.ls dN = false := by
  unfold isLk
  cases e : lkG b.ls dN with
  | none => simp
  | some l =>
    have h1 : l ∈ b.ls := List.mem_of_find?_eq_some e
    have h2 : l.n = dN := by simpa using List.find?_some e
    have h3 := o.dn rfl l h1 h2
    cases z : l.f.fin with
    | none => exact absurd z h3
    | some _ => simp [z]
section
variable {P : Program} {w : World} {K : PySem.W.Frag} {mg : Str → Option Value} {base : Heap}
def spB_Deeds_begin (K : PySem.W.Frag) : Sp := fun vs H Q _ => ∃ (a : Addr) (b : Bk) (k m g : Nat), vs = [.ref a, .str dN] ∧ b.At K H a ∧ b.Ok none k m g ∧ m < 900 ∧ g < 10000000 ∧
  ∀ H' (b' : Bk) (d : Lk), Far b H H' → Kin b b' → b'.At K H' a → b'.Ok (some d) k (m + 1) (g + 1) → d.f.num = none → b'.c d = b'.s.next → b'.ab = b.ab → b'.ts = b.ts → Q .non H'
theorem okB_Deeds_begin {fd : FuncData} (T : Txt K mg) (F : FnD K d_Deeds_begin fd) : FnOk P w K mg base CX0 4 (He.fAd K d_Deeds_begin.at_) fd ["self", "name"] (spB_Deeds_begin K) :=
  (ok_Deeds_begin T F).imp fun vs H Q E ⟨a, b, k, m, g, e, hb, ho, hm, hg, kk⟩ => by
    refine ⟨a, b.dx, b.s, dN, b.ls, b.log, e, hb.st, ho.busy, hb.lk, hb.ll, by have := ho.km; omega, by decide +kernel, by decide +kernel, ho.notLk, fun l hl hf => ?_, hb.lg, ?_, fun H' x dx' p q z hx hp hq npq fr hL hG hxa hpa hqa => ?_⟩
    · rcases ho.op l hl hf with h | h
      · cases h
      · exact h.1
    · have := ho.kg
      have : (10000000 : Nat) < sizeLine := by decide +kernel
      omega
    · have hd : (⟨dN, x, dx', LF.mk dN dN p none none⟩ : Lk).n = dN := rfl
      have hat := hb.begun (d := ⟨dN, x, dx', LF.mk dN dN p none none⟩) (log := b.log ++ [.str z]) (p := p) (q := q) hd rfl fr hL hG hxa hpa hqa
      have hok := ho.begun (d := ⟨dN, x, dx', LF.mk dN dN p none none⟩) (log := b.log ++ [.str z]) hd rfl rfl rfl (by rw [List.length_append]; have := ho.kg; simp; omega)
      exact kk H' (b.begun ⟨dN, x, dx', LF.mk dN dN p none none⟩ (b.log ++ [.str z])) ⟨dN, x, dx', LF.mk dN dN p none none⟩ (fun x o f q => fr x o (f.nd q hb.lk) (f.nG hb q) q) ⟨rfl, rfl⟩ hat hok rfl (show (if dN = dN then b.s.next else b.cc dN) = b.s.next from if_pos rfl) (Bk.begun_ab hd) rfl
def spB_Deeds_done (K : PySem.W.Frag) : Sp := fun vs H Q _ => ∃ (a : Addr) (b : Bk) (d : Lk) (k m g : Nat), vs = [.ref a, .str dN] ∧ b.At K H a ∧ b.Ok (some d) k m g ∧ g < 10000000 ∧
  ∀ H' (b' : Bk), b'.At K H' a → b'.Ok none k m (g + 1) → b'.ab = b.ab → b'.ts = b.ts → Far b H H' → Kin b b' → Q .non H'
theorem okB_Deeds_done {fd : FuncData} (T : Txt K mg) (F : FnD K d_Deeds_done fd) : FnOk P w K mg base CX0 5 (He.fAd K d_Deeds_done.at_) fd ["self", "name"] (spB_Deeds_done K) :=
  (ok_Deeds_done T F).imp fun vs H Q E ⟨a, b, d, k, m, g, e, hb, ho, hg, kk⟩ => by
    obtain ⟨hdm, hdn, hdf, hds, hdfin⟩ := ho.dd d rfl
    have hlkG : lkG b.ls dN = some d := by
      have := lkG_key ho.lnd hdm
      rwa [hdn] at this
    have hgz : b.log.length < sizeLine := by
      have := ho.kg
      have : (10000000 : Nat) < sizeLine := by decide +kernel
      omega
    refine ⟨a, b.dx, b.s, dN, b.ls, d, b.log, e, hb.st, ho.busy, hb.lk, hb.ll, by decide +kernel, by decide +kernel, hlkG, hdm, hdfin, hds, hb.lg, hgz, fun H2 zz e2 => ?_⟩
    have hat := hb.ended (log := b.log ++ [.str zz]) (z := Str.ofString "done") ho e2
    have hok := ho.ended hb (log := b.log ++ [.str zz]) (by rw [List.length_append]; have := ho.kg; simp; omega)
    refine kk _ _ hat hok ?_ rfl (fun x o f q => by rw [upd_ne (f.nG hb q), upd_ne (f.ni q (hb.ll d hdm))]; exact e2 x o q) ⟨rfl, rfl⟩
    unfold Bk.ab
    rw [show (b.ended d (Str.ofString "done") (b.log ++ [.str zz])).hs = b.hs from Bk.rep_ab hb ho { d.f with fin := some (Str.ofString "done") }]
    rfl
end
section
variable {P : Program} {w : World} {K : PySem.W.Frag} {mg : Str → Option Value} {base : Heap}
theorem okh_is_word {fd : FuncData} (T : Txt K mg) (F : FnD K d_is_word fd) : L2H.FnH P w K mg base CX0 1 (He.fAd K d_is_word.at_) fd ["thing"] (sp_is_word K) := by
  obtain ⟨t_LETTERS, g_LETTERS⟩ := T.str 68 (x := "LETTERS") (z := "abcdefghijklmnopqrstuvwxyz")
  obtain ⟨t_LONGEST_WORD, g_LONGEST_WORD⟩ := T.int 69 (x := "LONGEST_WORD") (v := 8)
  refine RX.okH F sc_is_word (fun vs H Q E h => ?_) (fun cdv A outer s H vs Q E p hc hr h => ?_)
  · obtain ⟨z, rfl, _⟩ := h; rfl
  · obtain ⟨z, rfl, hz, k⟩ := h
    refine ⟨_, (PSs.nox (pss_one (ps_ret (pe_and (pe_callB RX.call_isB (by rfl) (T.fre 53) (by decide +kernel) (pa_cons (pv 0) (pa_cons (pe_bltn (v := .ty "str") (by rfl) (T.fre 55) (by decide +kernel) rfl) pa_nil))) (pe_and (pe_chain op_le op_le pe_int (pe_callB call_len_str (by rfl) (T.fre 44) (by decide +kernel) (pa_cons (pv 0) pa_nil)) (pe_glob (v := .int 8) rfl g_LONGEST_WORD ⟨_, rfl⟩)) (pe_one (pe_callB (HotQ.cr_allH hc) (by rfl) (T.fre 51) (by decide +kernel) (pa_cons (HotQ.pe_lcH (own := [("sign", 1)]) (g := (gName 1)) (tt := tYes) hc sc_is_word.nd (HotQ.pi_strQ (pv 0)) (blkOk_by (own := [("sign", 1)]) (by kernel_rfl)) (fun _ _ _ _ _ => (pg_name (i := 1) sc_is_word.nd rfl (Or.inl rfl))) (fun _ _ _ _ _ => pts_nil) (fun _ _ _ _ _ => (pe_cmpR op_in_sign (pv 1) (pe_glob (v := .str "abcdefghijklmnopqrstuvwxyz") rfl g_LETTERS ⟨_, rfl⟩) rfl))) pa_nil)))))))), ?_⟩
    walk_at "go"
    unfold isW at k
    have big : (8 : Int) < z.length ∨ z.length ≤ 8 := by omega
    refine RX.iteB (fun hc => ?_) (fun hc => ?_) <;> simp only [decide_eq_true_eq, decide_eq_false_iff_not] at hc
    · walk_at "go"
      refine RX.iteB (fun hb => ?_) (fun hb => ?_) <;> simp only [decide_eq_true_eq, decide_eq_false_iff_not] at hb
      · walk_at "go"
        refine RX.lc_str (f := fun c => [V.bl (decide (c ∈ (Str.ofString "abcdefghijklmnopqrstuvwxyz").cps.toList))]) (by assumption) (fun _ => Nat.le_refl _) (by rw [Array.length_toList]; exact hz) (fun i c l H' hi hl ac => ?_) (fun H' ac => ?_)
        · walk_at "go"
          exact ac.yes (by assumption) (Same.refl _) hl
        · have e1 : z.length ≤ 8 := by omega
          have e2 : 1 ≤ z.length := by omega
          refine ⟨_, _, rfl, ac.bls, ?_⟩
          rw [RX.all_map]
          simpa only [e1, e2, decide_true, Bool.true_and] using k H' ac.same
      · have e1 : ¬ z.length ≤ 8 := by omega
        have e2 : 1 ≤ z.length := by omega
        simpa only [e1, e2, decide_true, decide_false, Bool.true_and, Bool.false_and] using k H (Same.refl _)
    · have e2 : ¬ 1 ≤ z.length := by omega
      walk_at "go"
      simpa only [e2, decide_false, Bool.false_and] using k H (Same.refl _)
theorem okh_Deeds_look_free {fd : FuncData} (T : Txt K mg) (F : FnD K d_Deeds_look_free fd) : L2H.FnH P w K mg base CX0 1 (He.fAd K d_Deeds_look_free.at_) fd ["self"] (sp_Deeds_look_free K) := by
  refine RX.okH F sc_Deeds_look_free (fun vs H Q E h => ?_) (fun cdv A outer s H vs Q E p hc hr h => ?_)
  · obtain ⟨a, dx, s, rfl, _⟩ := h; rfl
  · obtain ⟨a, dx, sf, rfl, ha, hb, k⟩ := h
    refine ⟨_, (PSs.nox (pss_one (ps_if (pt_val (pe_fld (pv 0) rfl)) (pss_one ps_never) pss_nil))), ?_⟩
    walk_at "go"
    rw [hb]
    walk_at "go"
    exact k
theorem okh_Deeds_note {fd : FuncData} (T : Txt K mg) (F : FnD K d_Deeds_note fd) : L2H.FnH P w K mg base CX0 1 (He.fAd K d_Deeds_note.at_) fd ["self", "row"] (sp_Deeds_note K) := by
  refine RX.okH F sc_Deeds_note (fun vs H Q E h => ?_) (fun cdv A outer s H vs Q E p hc hr h => ?_)
  · obtain ⟨a, dx, s, z, log, rfl, _⟩ := h; rfl
  · obtain ⟨a, dx, sf, z, log, rfl, ha, hg, hz, k⟩ := h
    refine ⟨_, (PSs.nox (pss_one (ps_expr (pe_bm PySem.F.plainAttrs_list PySem.F.slot_list_append PySem.F.type_list_append mt_append (pe_fld (pv 0) rfl) (pa_cons (pv 1) pa_nil))))), ?_⟩
    walk_at "go"
    exact k
theorem okh_Deeds_is_looker {fd : FuncData} (T : Txt K mg) (F : FnD K d_Deeds_is_looker fd) : L2H.FnH P w K mg base CX0 2 (He.fAd K d_Deeds_is_looker.at_) fd ["self", "name"] (sp_Deeds_is_looker K) := by
  obtain ⟨fd_is_word, F_is_word⟩ := T.fn 5 (d := d_is_word)
  have G_is_word := okh_is_word (P := P) (w := w) (base := base) T F_is_word
  have B_is_word_1 : KBn K fd_is_word ["thing"] 1 [] (fun us ws => us ++ ws) (fun us ws => us ++ ws) := RX.kb0 F_is_word 1 [] (fun us ws => us ++ ws) (fun a b => a.append b) (fun _ _ _ _ _ _ us ws h1 h2 => match us, ws, h1, h2 with | [_], [], _, _ => rfl)
  refine RX.okH F sc_Deeds_is_looker (fun vs H Q E h => ?_) (fun cdv A outer s H vs Q E p hc hr h => ?_)
  · obtain ⟨a, dx, s, n, ls, rfl, _⟩ := h; rfl
  · obtain ⟨a, dx, sf, n, ls, rfl, ha, hL, hl, hz, k⟩ := h
    refine ⟨_, (PSs.nox (pss_one (ps_ret (pe_and (RX.pe_csH hc G_is_word (hr.mono (by decide)) (T.glo 5) F_is_word.kp B_is_word_1 RX.passS0 (pa_cons (pv 1) pa_nil) pk_nil) (pe_and (pe_cmp (pc_din (RX.hu_ofH hr) (pv 1) (pe_fld (pv 0) rfl)) rfl) (pe_one (pe_cmp (pc_isN (pe_fld (pe_dget (RX.hu_ofH hr) (pe_fld (pv 0) rfl) (pv 1) (fun _ _ => rfl)) rfl)) rfl))))))), ?_⟩
    walk_at "go"
    unfold isLk at k
    refine RX.iteB (fun hc => ?_) (fun hc => ?_)
    · rw [hc] at k
      cases e : lkG ls n with
      | none =>
        have hg := dget_lk (n := n) (RX.via_same (by assumption) hL)
        rw [e] at hg
        walk_at "go"
        simpa [e] using k _ (by assumption)
      | some l =>
        have hg := dget_lk (n := n) (RX.via_same (by assumption) hL)
        rw [e] at hg
        have hll := hl l (lkG_mem e).1
        unfold Lk.there at hll
        walk_at "go"
        have k2 := k _ (by assumption)
        rw [e] at k2
        obtain ⟨ln, la, ldx, ⟨f1, f2, f3, f4, fin⟩⟩ := l
        cases fin with
        | none => simpa [oS] using k2
        | some z => simpa [oS] using k2
    · rw [hc] at k
      exact k _ (by assumption)
theorem okh_Deeds_deed_of {fd : FuncData} (T : Txt K mg) (F : FnD K d_Deeds_deed_of fd) : L2H.FnH P w K mg base CX0 3 (He.fAd K d_Deeds_deed_of.at_) fd ["self", "name"] (sp_Deeds_deed_of K) := by
  obtain ⟨t_DEED, g_DEED⟩ := T.str 77 (x := "DEED") (z := "deed")
  obtain ⟨fd_Deeds_is_looker, F_Deeds_is_looker⟩ := T.fn 47 (d := d_Deeds_is_looker)
  have G_Deeds_is_looker := okh_Deeds_is_looker (P := P) (w := w) (base := base) T F_Deeds_is_looker
  have B_Deeds_is_looker_2 : KBn K fd_Deeds_is_looker ["self", "name"] 2 [] (fun us ws => us ++ ws) (fun us ws => us ++ ws) := RX.kb0 F_Deeds_is_looker 2 [] (fun us ws => us ++ ws) (fun a b => a.append b) (fun _ _ _ _ _ _ us ws h1 h2 => match us, ws, h1, h2 with | [_, _], [], _, _ => rfl)
  refine RX.okH F sc_Deeds_deed_of (fun vs H Q E h => ?_) (fun cdv A outer s H vs Q E p hc hr h => ?_)
  · obtain ⟨a, dx, s, n, ls, l, rfl, _⟩ := h; rfl
  · obtain ⟨a, dx, sf, n, ls, l, rfl, ha, hL, hl, hz, hw, hg, hf, hs, k⟩ := h
    refine ⟨_, (PSs.nox (pss_cons (ps_if (PW.pt (pw_or (pt_not (pt_val (RX.pe_msH hc (pv 0) T.clStore (T.mt 125) G_Deeds_is_looker (hr.mono (by decide)) B_Deeds_is_looker_2 RX.passS0 (pa_cons (pv 1) pa_nil) pk_nil))) (pw_or1 (pt_cmpR op_ne (pe_fld (pe_dget (RX.hu_ofH hr) (pe_fld (pv 0) rfl) (pv 1) (fun _ _ => rfl)) rfl) (pe_glob (v := .str "deed") rfl g_DEED ⟨_, rfl⟩) (nomark _))))) (pss_one ps_never) pss_nil) (pss_one (ps_ret (pe_dget (RX.hu_ofH hr) (pe_fld (pv 0) rfl) (pv 1) (fun _ _ => rfl)))))), ?_⟩
    walk_at "go"
    rename_i H2 e2
    have ei : isLk ls n = true := by simp [isLk, hw, hg, hf]
    rw [ei]
    have hd := dget_lk (n := n) (RX.via_same e2 hL)
    rw [hg] at hd
    have hll := hl l (lkG_mem hg).1
    unfold Lk.there at hll
    walk_at "go"
    refine RX.iteB (fun hc => ?_) (fun hc => ?_)
    · simp [hs] at hc
    · walk_at "go"
      exact k _ (by assumption)
theorem okh_Deeds_end_deed {fd : FuncData} (T : Txt K mg) (F : FnD K d_Deeds_end_deed fd) : L2H.FnH P w K mg base CX0 4 (He.fAd K d_Deeds_end_deed.at_) fd ["self", "name", "end"] (sp_Deeds_end_deed K) := by
  obtain ⟨fd_Deeds_look_free, F_Deeds_look_free⟩ := T.fn 40 (d := d_Deeds_look_free)
  have G_Deeds_look_free := okh_Deeds_look_free (P := P) (w := w) (base := base) T F_Deeds_look_free
  have B_Deeds_look_free_1 : KBn K fd_Deeds_look_free ["self"] 1 [] (fun us ws => us ++ ws) (fun us ws => us ++ ws) := RX.kb0 F_Deeds_look_free 1 [] (fun us ws => us ++ ws) (fun a b => a.append b) (fun _ _ _ _ _ _ us ws h1 h2 => match us, ws, h1, h2 with | [_], [], _, _ => rfl)
  obtain ⟨fd_Deeds_deed_of, F_Deeds_deed_of⟩ := T.fn 51 (d := d_Deeds_deed_of)
  have G_Deeds_deed_of := okh_Deeds_deed_of (P := P) (w := w) (base := base) T F_Deeds_deed_of
  have B_Deeds_deed_of_2 : KBn K fd_Deeds_deed_of ["self", "name"] 2 [] (fun us ws => us ++ ws) (fun us ws => us ++ ws) := RX.kb0 F_Deeds_deed_of 2 [] (fun us ws => us ++ ws) (fun a b => a.append b) (fun _ _ _ _ _ _ us ws h1 h2 => match us, ws, h1, h2 with | [_, _], [], _, _ => rfl)
  obtain ⟨fd_Deeds_note, F_Deeds_note⟩ := T.fn 42 (d := d_Deeds_note)
  have G_Deeds_note := okh_Deeds_note (P := P) (w := w) (base := base) T F_Deeds_note
  have B_Deeds_note_2 : KBn K fd_Deeds_note ["self", "row"] 2 [] (fun us ws => us ++ ws) (fun us ws => us ++ ws) := RX.kb0 F_Deeds_note 2 [] (fun us ws => us ++ ws) (fun a b => a.append b) (fun _ _ _ _ _ _ us ws h1 h2 => match us, ws, h1, h2 with | [_, _], [], _, _ => rfl)
  refine RX.okH F sc_Deeds_end_deed (fun vs H Q E h => ?_) (fun cdv A outer s H vs Q E p hc hr h => ?_)
  · obtain ⟨a, dx, s, n, z, ls, l, log, rfl, _⟩ := h; rfl
  · obtain ⟨a, dx, sf, n, z, ls, l, log, rfl, ha, hb, hL, hl, hn, hz, hw, hg, hm, hf, hs, hG, hgz, k⟩ := h
    refine ⟨_, (PSs.nox (pss_cons (ps_expr (RX.pe_ms0H hc (pv 0) T.clStore (T.mt 119) G_Deeds_look_free (hr.mono (by decide)) B_Deeds_look_free_1 RX.passS0)) (pss_cons (ps_set (i := 3) sc_Deeds_end_deed.nd rfl (Or.inl rfl) (RX.pe_msH hc (pv 0) T.clStore (T.mt 129) G_Deeds_deed_of (hr.mono (by decide)) B_Deeds_deed_of_2 RX.passS0 (pa_cons (pv 1) pa_nil) pk_nil)) (pss_cons (ps_fld (pv 3) (pv 2) rfl) (pss_one (ps_expr (RX.pe_msH hc (pv 0) T.clStore (T.mt 120) G_Deeds_note (hr.mono (by decide)) B_Deeds_note_2 RX.passS0 (pa_cons (pe_joined (PJ.cons (pe_fmt (pv 2)) (PJ.cons pe_str (PJ.cons (pe_fmt (pv 1)) PJ.nil)))) pa_nil) pk_nil))))))), ?_⟩
    have hll := hl l hm
    unfold Lk.there at hll
    have n1 : a ≠ l.a := fun z => by
      rw [z, hll] at ha
      have z2 := congrArg (fun o : Option HO => match o with | some (.ins _ _ fs) => fs.length | _ => 0) ha
      exact absurd z2 (by show (5 : Nat) ≠ 11; decide)
    have n2 : sf.aG ≠ l.a := fun z => by rw [z, hll] at hG; cases hG
    have hb0 : (Str.empty ++ z).length ≤ sizeLine := len_le (len_app 50 100 (by decide +kernel) hz (by decide))
    have hb1 : (Str.empty ++ z ++ Str.ofString " ").length ≤ sizeLine := len_le (len_app 200 50 (Nat.le_trans (by rw [PySem.Str.length_append]; exact Nat.add_le_add (by decide +kernel : Str.empty.length ≤ 50) hz) (by decide)) (by decide +kernel) (by decide))
    have hb2 : (Str.empty ++ z ++ Str.ofString " " ++ n).length ≤ sizeLine := len_le (len_app 300 100 (by rw [PySem.Str.length_append, PySem.Str.length_append]; exact Nat.le_trans (Nat.add_le_add (Nat.add_le_add (by decide +kernel : Str.empty.length ≤ 50) hz) (by decide +kernel : (Str.ofString " ").length ≤ 50)) (by decide)) hn (by decide))
    have hzz : z.length ≤ sizeLine := Nat.le_trans hz (by decide)
    have hnz : n.length ≤ sizeLine := Nat.le_trans hn (by decide)
    walk_at "go"
    rename_i H2 e2
    have ha2 := e2 _ _ ha
    have hl2 := e2 _ _ hll
    have hG2 := e2 _ _ hG
    have ha3 : upd H2 l.a (.ins (CL K) l.dx (putF "looker_end" (.str z) l.f.l)) a = some (.ins (CS K) dx sf.l) := by rw [upd_ne n1]; exact ha2
    have hG3 : upd H2 l.a (.ins (CL K) l.dx (putF "looker_end" (.str z) l.f.l)) sf.aG = some (.lst log) := by rw [upd_ne n2]; exact hG2
    walk_at "go"
    have k' := k H2 (Str.empty ++ z ++ Str.ofString " " ++ n) e2
    rw [← LF.put_fin] at k'
    exact k'
theorem sc_Deeds_fell : FnScope ["self", "name"] ["self", "name"] (defScope s_Deeds_fell) := ⟨rfl, rfl, rfl, by decide +kernel, rfl, by decide +kernel, by decide +kernel⟩
def sp_Deeds_fell (K : PySem.W.Frag) : Sp := fun vs H Q _ => ∃ (a dx : Addr) (s : SF) (n : Str) (ls : List Lk) (l : Lk) (log : List V), vs = [.ref a, .str n] ∧ H a = some (.ins (CS K) dx s.l) ∧ s.busy = false ∧ H s.aL = some (.dK (lkK ls)) ∧ (∀ l ∈ ls, l.there K H) ∧ n.length ≤ 100 ∧
  isW n = true ∧ lkG ls n = some l ∧ l ∈ ls ∧ l.f.fin = none ∧ l.f.sort = Str.ofString "deed" ∧ H s.aG = some (.lst log) ∧ log.length < sizeLine ∧
  ∀ H2 zz, Same H H2 → Q .non (upd (upd H2 l.a (.ins (CL K) l.dx { l.f with fin := some "fell" }.l)) s.aG (.lst (log ++ [.str zz])))
theorem okh_Deeds_fell {fd : FuncData} (T : Txt K mg) (F : FnD K d_Deeds_fell fd) : L2H.FnH P w K mg base CX0 5 (He.fAd K d_Deeds_fell.at_) fd ["self", "name"] (sp_Deeds_fell K) := by
  obtain ⟨fd_Deeds_end_deed, F_Deeds_end_deed⟩ := T.fn 64 (d := d_Deeds_end_deed)
  have G_Deeds_end_deed := okh_Deeds_end_deed (P := P) (w := w) (base := base) T F_Deeds_end_deed
  have B_Deeds_end_deed_3 : KBn K fd_Deeds_end_deed ["self", "name", "end"] 3 [] (fun us ws => us ++ ws) (fun us ws => us ++ ws) := RX.kb0 F_Deeds_end_deed 3 [] (fun us ws => us ++ ws) (fun a b => a.append b) (fun _ _ _ _ _ _ us ws h1 h2 => match us, ws, h1, h2 with | [_, _, _], [], _, _ => rfl)
  obtain ⟨t_FELL_deedbook, g_FELL_deedbook⟩ := T.str 81 (x := "FELL_deedbook") (z := "fell")
  refine RX.okH F sc_Deeds_fell (fun vs H Q E h => ?_) (fun cdv A outer s H vs Q E p hc hr h => ?_)
  · obtain ⟨a, dx, s, n, ls, l, log, rfl, _⟩ := h; rfl
  · obtain ⟨a, dx, sf, n, ls, l, log, rfl, ha, hb, hL, hl, hn, hw, hg, hm, hf, hs, hG, hgz, k⟩ := h
    refine ⟨_, (PSs.nox (pss_one (ps_expr (RX.pe_msH hc (pv 0) T.clStore (T.mt 142) G_Deeds_end_deed (hr.mono (by decide)) B_Deeds_end_deed_3 RX.passS0 (pa_cons (pv 1) (pa_cons (pe_glob (v := .str "fell") rfl g_FELL_deedbook ⟨_, rfl⟩) pa_nil)) pk_nil)))), ?_⟩
    have hz : (Str.ofString "fell").length ≤ 100 := by decide +kernel
    walk_at "go"
    rename_i H2 zz e2
    exact k _ _ e2
def spB_Deeds_fell (K : PySem.W.Frag) : Sp := fun vs H Q _ => ∃ (a : Addr) (b : Bk) (d : Lk) (k m g : Nat), vs = [.ref a, .str dN] ∧ b.At K H a ∧ b.Ok (some d) k m g ∧ g < 10000000 ∧ ∀ H', Far b H H' → Q .non H'
theorem ok_Deeds_fell {fd : FuncData} (T : Txt K mg) (F : FnD K d_Deeds_fell fd) : L2H.FnH P w K mg base CX0 5 (He.fAd K d_Deeds_fell.at_) fd ["self", "name"] (spB_Deeds_fell K) :=
  RX.FnH.imp (okh_Deeds_fell T F) fun vs H Q E ⟨a, b, d, k, m, g, e, hb, ho, hg, kk⟩ => by
    obtain ⟨hdm, hdn, hdf, hds, hdfin⟩ := ho.dd d rfl
    have hlkG : lkG b.ls dN = some d := by
      have := lkG_key ho.lnd hdm
      rwa [hdn] at this
    have hgz : b.log.length < sizeLine := by
      have := ho.kg
      have : (10000000 : Nat) < sizeLine := by decide +kernel
      omega
    exact ⟨a, b.dx, b.s, dN, b.ls, d, b.log, e, hb.st, ho.busy, hb.lk, hb.ll, by decide +kernel, by decide +kernel, hlkG, hdm, hdfin, hds, hb.lg, hgz, fun H2 zz e2 => kk _ (fun x o f q => by rw [upd_ne (f.nG hb q), upd_ne (f.ni q (hb.ll d hdm))]; exact e2 x o q)⟩
end
theorem cmul_b (i : Int) (b : Bool) : CMul i (if b = true then 1 else 0) := by
  cases b <;> exact .inr ⟨by decide, by decide⟩
section
variable {P : Program} {w : World} {K : PySem.W.Frag} {mg : Str → Option Value} {base : Heap}
def sp__law_hand (K : PySem.W.Frag) : Sp := fun vs H Q _ => ∃ (a : Addr) (k : Nat) (ns : List Int), vs = [.ref a, .int k] ∧ SqL K H a (ns.map V.int) ∧ k ≤ 10 ∧ ∀ H' p d s, Same H H' → H p = none → H' p = some (.lst [.int d, .int s, .int 0]) → 0 ≤ s → s < 2305843009213693951 → Q (.ref p) H'
theorem sc__law_hand : FnScope ["_law_script", "_law_k", "_law_cell", "_law_seed"] ["_law_script", "_law_k"] (defScope s__law_hand) := ⟨rfl, rfl, rfl, by decide +kernel, rfl, by decide +kernel, by decide +kernel⟩
theorem ok__law_hand {fd : FuncData} (T : Txt K mg) (F : FnD K d__law_hand fd) : FnOk P w K mg base CX0 1 (He.fAd K d__law_hand.at_) fd ["_law_script", "_law_k"] (sp__law_hand K) := by
  refine F.ok sc__law_hand (fun vs H Q E h => ?_) (fun cdv A outer s H vs Q E hr h => ?_)
  · obtain ⟨a, k, ns, rfl, _⟩ := h; rfl
  · obtain ⟨a, kk, ns, rfl, ha, hk, k⟩ := h
    refine ⟨_, (PSs.nox (pss_cons (ps_set (i := 2) sc__law_hand.nd rfl (Or.inl rfl) (pe_ifExp (pt_cmpR op_lt (pv 1) (pe_callB call_len_seq (by rfl) (T.fre 44) (by decide +kernel) (pa_cons (pv 0) pa_nil)) (nomark _)) (pe_ix ix_list (pv 0) (pv 1) (fun _ _ => rfl)) pe_int)) (pss_cons (ps_set (i := 3) sc__law_hand.nd rfl (Or.inl rfl) (pe_op op_mod (pe_op op_pow (pe_op op_add (pe_op op_add (pe_op op_mod (pv 2) pe_int) (pe_op op_mul pe_int (pv 1))) pe_int) pe_int) pe_int)) (pss_one (ps_ret (pe_lst (pa_cons (pe_op op_mul (pe_op op_mod (pe_callB call_abs (by rfl) (T.fre 57) (by decide +kernel) (pa_cons (pv 2) pa_nil)) (pe_op RX.op_powW (pe_op op_pow pe_int pe_int) pe_int)) (pe_callTy call_int1 (by rfl) (T.fre 54) (by decide +kernel) (pa_cons (pe_cmpR op_ge (pe_callB call_abs (by rfl) (T.fre 57) (by decide +kernel) (pa_cons (pv 2) pa_nil)) (pe_op op_pow pe_int pe_int) (nomark _)) pa_nil))) (pa_cons (pv 3) (pa_cons pe_int pa_nil))))))))), ?_⟩
    have b1 := RX.big900.1
    have b2 := RX.big900.2
    walk_at "go"
    refine RX.ife_join2 (Pv := fun v => ∃ i : Int, v = .int i) (fun v ⟨cell, hv⟩ => ?_) (fun hc Kk hK => ?_) (fun hc Kk hK => ?_)
    · subst hv
      have m0 := Int.emod_nonneg cell (show (2305843009213693951 : Int) ≠ 0 by decide)
      have m1 := Int.emod_lt_of_pos cell (show (0 : Int) < 2305843009213693951 by decide)
      walk_at "go"
      refine .inr ⟨_, rfl, ?_⟩
      refine ⟨_, _, rfl, rfl, cmul_b _ _, ?_⟩
      walk_at "go"
      rename_i p hp
      exact k _ p _ _ (RX.same_new hp) hp upd_same (Int.emod_nonneg _ (by decide)) (Int.emod_lt_of_pos _ (by decide))
    · have hlt : kk < ns.length := by have := of_decide_eq_true hc; rw [List.length_map] at this; omega
      walk_at "go"
      exact ⟨atI_nat (by rw [List.getElem?_map, List.getElem?_eq_getElem hlt]; rfl), hK _ ⟨_, rfl⟩⟩
    · walk_at "go"
      exact hK _ ⟨0, rfl⟩
def sp__law_take (K : PySem.W.Frag) : Sp := fun vs H Q _ => ∃ (h : Addr) (d s c m : Int), vs = [.ref h, .int m] ∧ H h = some (.lst [.int d, .int s, .int c]) ∧ 0 < m ∧ m < 1000 ∧ 0 ≤ s ∧ s < 2305843009213693951 ∧ 0 ≤ c ∧ c < 1000000 ∧ ∀ x d' c', 0 ≤ x → x < m → 0 ≤ c' → c' ≤ c + 1 → Q (.int x) (upd H h (.lst [.int d', .int s, .int c']))
theorem sc__law_take : FnScope ["_law_hand_here", "_law_many", "_law_digit", "_law_one", "_law_two"] ["_law_hand_here", "_law_many"] (defScope s__law_take) := ⟨rfl, rfl, rfl, by decide +kernel, rfl, by decide +kernel, by decide +kernel⟩
theorem ok__law_take {fd : FuncData} (T : Txt K mg) (F : FnD K d__law_take fd) : FnOk P w K mg base CX0 1 (He.fAd K d__law_take.at_) fd ["_law_hand_here", "_law_many"] (sp__law_take K) := by
  refine F.ok sc__law_take (fun vs H Q E h => ?_) (fun cdv A outer s H vs Q E hr h => ?_)
  · obtain ⟨h, d, s, c, m, rfl, _⟩ := h; rfl
  · obtain ⟨h, d, s, c, m, rfl, hh, m0, m1, s0, s1, c0, c1, k⟩ := h
    refine ⟨_, (PSs.nox (pss_cons (ps_if (pt_cmpR op_gt (pe_ix ix_list (pv 0) pe_int (fun _ _ => rfl)) pe_int (nomark _)) (pss_cons (ps_set (i := 2) sc__law_take.nd rfl (Or.inl rfl) (pe_op op_mod (pe_ix ix_list (pv 0) pe_int (fun _ _ => rfl)) (pv 1))) (pss_cons (ps_asg (pe_op op_fdiv (pe_ix ix_list (pv 0) pe_int (fun _ _ => rfl)) (pv 1)) (pg_sub (pv 0) pe_int set_list)) (pss_one (ps_ret (pv 2))))) pss_nil) (pss_cons (ps_asg (pe_op op_add (pe_ix ix_list (pv 0) pe_int (fun _ _ => rfl)) pe_int) (pg_sub (pv 0) pe_int set_list)) (pss_cons (ps_set (i := 3) sc__law_take.nd rfl (Or.inl rfl) (pe_op op_mod (pe_op op_pow (pe_op op_add (pe_ix ix_list (pv 0) pe_int (fun _ _ => rfl)) (pe_op op_mul pe_int (pe_ix ix_list (pv 0) pe_int (fun _ _ => rfl)))) pe_int) pe_int)) (pss_cons (ps_set (i := 4) sc__law_take.nd rfl (Or.inl rfl) (pe_op op_mod (pe_op op_mul (pe_op op_add (pv 3) (pe_op op_mul pe_int (pe_ix ix_list (pv 0) pe_int (fun _ _ => rfl)))) (pe_op op_add (pe_op op_mod (pv 3) pe_int) pe_int)) pe_int)) (pss_one (ps_ret (pe_op op_mod (pe_op op_add (pe_op op_fdiv (pv 4) pe_int) (pe_op op_fdiv (pv 4) pe_int)) (pv 1))))))))), ?_⟩
    walk_at "go"
    refine RX.iteB (fun hc => ?_) (fun hc => ?_)
    · have q0 := Int.emod_nonneg d (show m ≠ 0 by omega)
      have q1 := Int.emod_lt_of_pos d m0
      walk_at "go"
      exact k _ (d / m) c q0 q1 c0 (by omega)
    · walk_at "go"
      exact k _ d (c + 1) (Int.emod_nonneg _ (by omega)) (Int.emod_lt_of_pos _ m0) (by omega) (Int.le_refl _)
/-- a hand: a list of three numbers, n takes so far -/
def HandAt (H : Hp) (h : Addr) (n : Nat) : Prop := ∃ d s c : Int, H h = some (.lst [.int d, .int s, .int c]) ∧ 0 ≤ s ∧ s < 2305843009213693951 ∧ 0 ≤ c ∧ c ≤ n
def spB__law_take (K : PySem.W.Frag) : Sp := fun vs H Q _ => ∃ (h : Addr) (n : Nat) (m : Int), vs = [.ref h, .int m] ∧ HandAt H h n ∧ n < 900000 ∧ 0 < m ∧ m < 1000 ∧ ∀ x H', (∀ b o, b ≠ h → H b = some o → H' b = some o) → HandAt H' h (n + 1) → 0 ≤ x → x < m → Q (.int x) H'
theorem okB__law_take {fd : FuncData} (T : Txt K mg) (F : FnD K d__law_take fd) : FnOk P w K mg base CX0 1 (He.fAd K d__law_take.at_) fd ["_law_hand_here", "_law_many"] (spB__law_take K) :=
  (ok__law_take T F).imp fun vs H Q E ⟨h, n, m, e, ⟨d, s, c, hh, s0, s1, c0, c1⟩, hn, m0, m1, k⟩ => ⟨h, d, s, c, m, e, hh, m0, m1, s0, s1, c0, by omega, fun x d' c' x0 x1 c0' c1' => k x _ (fun b o nb q => by rw [upd_ne nb]; exact q) ⟨d', s, c', upd_same, s0, s1, c0', by omega⟩ x0 x1⟩
def spB__law_hand (K : PySem.W.Frag) : Sp := fun vs H Q _ => ∃ (a : Addr) (k : Nat) (ns : List Int), vs = [.ref a, .int k] ∧ SqL K H a (ns.map V.int) ∧ k ≤ 10 ∧ ∀ H' p, Same H H' → H p = none → HandAt H' p 0 → Q (.ref p) H'
theorem okB__law_hand {fd : FuncData} (T : Txt K mg) (F : FnD K d__law_hand fd) : FnOk P w K mg base CX0 1 (He.fAd K d__law_hand.at_) fd ["_law_script", "_law_k"] (spB__law_hand K) :=
  (ok__law_hand T F).imp fun vs H Q E ⟨a, k, ns, e, h1, h2, h3⟩ => ⟨a, k, ns, e, h1, h2, fun H' p d s e1 e2 e3 s0 s1 => h3 H' p e1 e2 ⟨d, s, 0, e3, s0, s1, Int.le_refl _, Int.le_refl _⟩⟩
end
section
variable {P : Program} {w : World} {K : PySem.W.Frag} {mg : Str → Option Value} {base : Heap}
def sp_Deeds_looker_of (K : PySem.W.Frag) : Sp := fun vs H Q _ => ∃ (a dx : Addr) (s : SF) (n : Str) (ls : List Lk) (l : Lk), vs = [.ref a, .str n] ∧ H a = some (.ins (CS K) dx s.l) ∧ H s.aL = some (.dK (lkK ls)) ∧ (∀ l ∈ ls, l.there K H) ∧ n.length ≤ sizeLine ∧
  isW n = true ∧ lkG ls n = some l ∧ l.f.fin = none ∧ ∀ H', Same H H' → Q (.ref l.a) H'
theorem sc_Deeds_looker_of : FnScope ["self", "name"] ["self", "name"] (defScope s_Deeds_looker_of) := ⟨rfl, rfl, rfl, by decide +kernel, rfl, by decide +kernel, by decide +kernel⟩
theorem ok_Deeds_looker_of {fd : FuncData} (T : Txt K mg) (F : FnD K d_Deeds_looker_of fd) : FnOk P w K mg base CX0 3 (He.fAd K d_Deeds_looker_of.at_) fd ["self", "name"] (sp_Deeds_looker_of K) := by
  obtain ⟨fd_Deeds_is_looker, F_Deeds_is_looker⟩ := T.fn 47 (d := d_Deeds_is_looker)
  have G_Deeds_is_looker := ok_Deeds_is_looker (P := P) (w := w) (base := base) T F_Deeds_is_looker
  have B_Deeds_is_looker_2 : KBn K fd_Deeds_is_looker ["self", "name"] 2 [] (fun us ws => us ++ ws) (fun us ws => us ++ ws) := RX.kb0 F_Deeds_is_looker 2 [] (fun us ws => us ++ ws) (fun a b => a.append b) (fun _ _ _ _ _ _ us ws h1 h2 => match us, ws, h1, h2 with | [_, _], [], _, _ => rfl)
  refine F.ok sc_Deeds_looker_of (fun vs H Q E h => ?_) (fun cdv A outer s H vs Q E hr h => ?_)
  · obtain ⟨a, dx, s, n, ls, l, rfl, _⟩ := h; rfl
  · obtain ⟨a, dx, sf, n, ls, l, rfl, ha, hL, hl, hz, hw, hg, hf, k⟩ := h
    refine ⟨_, (PSs.nox (pss_cons (ps_if (pt_not (pt_val (RX.pe_ms (pv 0) T.clStore (T.mt 125) G_Deeds_is_looker (hr.mono (by decide)) B_Deeds_is_looker_2 RX.passS0 (pa_cons (pv 1) pa_nil) pk_nil))) (pss_one ps_never) pss_nil) (pss_one (ps_ret (pe_dget (hu_of hr) (pe_fld (pv 0) rfl) (pv 1) (fun _ _ => rfl)))))), ?_⟩
    walk_at "go"
    rename_i H2 e2
    have ei : isLk ls n = true := by simp [isLk, hw, hg, hf]
    rw [ei]
    have hd := dget_lk (n := n) (RX.via_same e2 hL)
    rw [hg] at hd
    walk_at "go"
    exact k _ (by assumption)
def sp_Freezing_hold (K : PySem.W.Frag) : Sp := fun vs H Q _ => ∃ (a dx : Addr) (s : SF) (n : Str) (ls : List Lk) (log : List V), vs = [.ref a, .str n, .non] ∧ H a = some (.ins (CS K) dx s.l) ∧ s.busy = false ∧ H s.aL = some (.dK (lkK ls)) ∧ (∀ l ∈ ls, l.there K H) ∧
  ls.length < 1000 ∧ n.length ≤ 100 ∧ isW n = true ∧ isLk ls n = false ∧ (∀ l ∈ ls, l.f.fin = none → l.f.num = none) ∧ H s.aG = some (.lst log) ∧ log.length < sizeLine ∧
  ∀ H' x dx' p q z, H x = none → H p = none → H q = none → p ≠ q → (∀ b o, b ≠ s.aL → b ≠ s.aG → H b = some o → H' b = some o) → H' s.aL = some (.dK (dropK (lkK ls) (.inr n) ++ [(.inr n, .ref x)])) → H' s.aG = some (.lst (log ++ [.str z])) →
    H' x = some (.ins (CL K) dx' (LF.mk n "house" p none none).l) → H' p = some (.tup [.int s.next, .ref q]) → H' q = some (.tup []) → Q .non H'
theorem sc_Freezing_hold : FnScope ["self", "name", "like", "look"] ["self", "name", "like"] (defScope s_Freezing_hold) := ⟨rfl, rfl, rfl, by decide +kernel, rfl, by decide +kernel, by decide +kernel⟩
theorem ok_Freezing_hold {fd : FuncData} (T : Txt K mg) (F : FnD K d_Freezing_hold fd) : FnOk P w K mg base CX0 4 (He.fAd K d_Freezing_hold.at_) fd ["self", "name", "like"] (sp_Freezing_hold K) := by
  obtain ⟨fd_Deeds_look_free, F_Deeds_look_free⟩ := T.fn 40 (d := d_Deeds_look_free)
  have G_Deeds_look_free := ok_Deeds_look_free (P := P) (w := w) (base := base) T F_Deeds_look_free
  have B_Deeds_look_free_1 : KBn K fd_Deeds_look_free ["self"] 1 [] (fun us ws => us ++ ws) (fun us ws => us ++ ws) := RX.kb0 F_Deeds_look_free 1 [] (fun us ws => us ++ ws) (fun a b => a.append b) (fun _ _ _ _ _ _ us ws h1 h2 => match us, ws, h1, h2 with | [_], [], _, _ => rfl)
  obtain ⟨fd_Deeds_check_name, F_Deeds_check_name⟩ := T.fn 48 (d := d_Deeds_check_name)
  have G_Deeds_check_name := ok_Deeds_check_name (P := P) (w := w) (base := base) T F_Deeds_check_name
  have B_Deeds_check_name_2 : KBn K fd_Deeds_check_name ["self", "name"] 2 [] (fun us ws => us ++ ws) (fun us ws => us ++ ws) := RX.kb0 F_Deeds_check_name 2 [] (fun us ws => us ++ ws) (fun a b => a.append b) (fun _ _ _ _ _ _ us ws h1 h2 => match us, ws, h1, h2 with | [_, _], [], _, _ => rfl)
  obtain ⟨fd_Deeds_look_now, F_Deeds_look_now⟩ := T.fn 46 (d := d_Deeds_look_now)
  have G_Deeds_look_now := ok_Deeds_look_now (P := P) (w := w) (base := base) T F_Deeds_look_now
  have B_Deeds_look_now_1 : KBn K fd_Deeds_look_now ["self"] 1 [] (fun us ws => us ++ ws) (fun us ws => us ++ ws) := RX.kb0 F_Deeds_look_now 1 [] (fun us ws => us ++ ws) (fun a b => a.append b) (fun _ _ _ _ _ _ us ws h1 h2 => match us, ws, h1, h2 with | [_], [], _, _ => rfl)
  obtain ⟨fd_Deeds_looker_of, F_Deeds_looker_of⟩ := T.fn 50 (d := d_Deeds_looker_of)
  have G_Deeds_looker_of := ok_Deeds_looker_of (P := P) (w := w) (base := base) T F_Deeds_looker_of
  have B_Deeds_looker_of_2 : KBn K fd_Deeds_looker_of ["self", "name"] 2 [] (fun us ws => us ++ ws) (fun us ws => us ++ ws) := RX.kb0 F_Deeds_looker_of 2 [] (fun us ws => us ++ ws) (fun a b => a.append b) (fun _ _ _ _ _ _ us ws h1 h2 => match us, ws, h1, h2 with | [_, _], [], _, _ => rfl)
  obtain ⟨fd_Deeds_look_by, F_Deeds_look_by⟩ := T.fn 52 (d := d_Deeds_look_by)
  have G_Deeds_look_by := ok_Deeds_look_by (P := P) (w := w) (base := base) T F_Deeds_look_by
  have B_Deeds_look_by_4 : KBn K fd_Deeds_look_by ["self", "name", "sort", "look"] 4 [] (fun us ws => us ++ ws) (fun us ws => us ++ ws) := RX.kb0 F_Deeds_look_by 4 [] (fun us ws => us ++ ws) (fun a b => a.append b) (fun _ _ _ _ _ _ us ws h1 h2 => match us, ws, h1, h2 with | [_, _, _, _], [], _, _ => rfl)
  obtain ⟨t_HOUSE, g_HOUSE⟩ := T.str 78 (x := "HOUSE") (z := "house")
  obtain ⟨fd_Deeds_note, F_Deeds_note⟩ := T.fn 42 (d := d_Deeds_note)
  have G_Deeds_note := ok_Deeds_note (P := P) (w := w) (base := base) T F_Deeds_note
  have B_Deeds_note_2 : KBn K fd_Deeds_note ["self", "row"] 2 [] (fun us ws => us ++ ws) (fun us ws => us ++ ws) := RX.kb0 F_Deeds_note 2 [] (fun us ws => us ++ ws) (fun a b => a.append b) (fun _ _ _ _ _ _ us ws h1 h2 => match us, ws, h1, h2 with | [_, _], [], _, _ => rfl)
  refine F.ok sc_Freezing_hold (fun vs H Q E h => ?_) (fun cdv A outer s H vs Q E hr h => ?_)
  · obtain ⟨a, dx, s, n, ls, log, rfl, _⟩ := h; rfl
  · obtain ⟨a, dx, sf, n, ls, log, rfl, ha, hb, hL, hl, hz, hnl, hw, hn, hnn, hG, hzG, k⟩ := h
    refine ⟨_, (PSs.nox (pss_cons (ps_expr (RX.pe_ms0 (pv 0) T.clStore (T.mt 119) G_Deeds_look_free (hr.mono (by decide)) B_Deeds_look_free_1 RX.passS0)) (pss_cons (ps_expr (RX.pe_ms (pv 0) T.clStore (T.mt 126) G_Deeds_check_name (hr.mono (by decide)) B_Deeds_check_name_2 RX.passS0 (pa_cons (pv 1) pa_nil) pk_nil)) (pss_cons (ps_set (i := 3) sc_Freezing_hold.nd rfl (Or.inl rfl) (pe_ifExp (pt_cmp (pc_isN (pv 2))) (RX.pe_ms0 (pv 0) T.clStore (T.mt 124) G_Deeds_look_now (hr.mono (by decide)) B_Deeds_look_now_1 RX.passS0) (pe_fld (RX.pe_ms (pv 0) T.clStore (T.mt 128) G_Deeds_looker_of (hr.mono (by decide)) B_Deeds_looker_of_2 RX.passS0 (pa_cons (pv 2) pa_nil) pk_nil) rfl))) (pss_cons (ps_expr (RX.pe_ms (pv 0) T.clStore (T.mt 130) G_Deeds_look_by (hr.mono (by decide)) B_Deeds_look_by_4 RX.passS0 (pa_cons (pv 1) (pa_cons (pe_glob (v := .str "house") rfl g_HOUSE ⟨_, rfl⟩) (pa_cons (pv 3) pa_nil))) pk_nil)) (pss_one (ps_expr (RX.pe_ms (pv 0) T.clStore (T.mt 120) G_Deeds_note (hr.mono (by decide)) B_Deeds_note_2 RX.passS0 (pa_cons (pe_ifExp (pt_cmp (pc_isN (pv 2))) (pe_joined (PJ.cons pe_str (PJ.cons (pe_fmt (pv 1)) PJ.nil))) (pe_joined (PJ.cons pe_str (PJ.cons (pe_fmt (pv 1)) (PJ.cons pe_str (PJ.cons (pe_fmt (pv 2)) PJ.nil)))))) pa_nil) pk_nil)))))))), ?_⟩
    have hb1 : (Str.empty ++ Str.ofString "hold ").length ≤ sizeLine := len_le (by decide +kernel)
    have hb2 : (Str.empty ++ Str.ofString "hold " ++ n).length ≤ sizeLine := len_le (len_app 50 100 (by decide +kernel) hnl (by decide))
    have hnz : n.length ≤ sizeLine := Nat.le_of_lt (small1000 (by omega))
    have hlz : ls.length ≤ sizeLine := Nat.le_of_lt (small1000 (by omega))
    have hkz : (lkK ls).length < sizeLine := by unfold lkK; rw [List.length_map]; exact small1000 (by omega)
    walk_at "go"
    rename_i H1 e1 H2 p q e2 hp hq npq atp atq H3 x dx' hx sb atL atx
    have naL : a ≠ sf.aL := ne_of ha hL (fun z => nomatch z)
    have nGL : sf.aG ≠ sf.aL := ne_of hG hL (fun z => nomatch z)
    have ha3 := sb _ _ naL (e2 _ _ (e1 _ _ ha))
    have hG3 := sb _ _ nGL (e2 _ _ (e1 _ _ hG))
    walk_at "go"
    have nx1 : ∀ {b o}, H3 b = some o → b ≠ sf.aG → upd H3 sf.aG (.lst (log ++ [V.str (Str.empty ++ Str.ofString "hold " ++ n)])) b = some o := fun h hn => by rw [upd_ne hn]; exact h
    have hx0 : H x = none := e1.free (e2.free hx)
    have pL : p ≠ sf.aL := fun z => by rw [z, e2 _ _ (e1 _ _ hL)] at atp; cases atp
    have pG : p ≠ sf.aG := fun z => by rw [z, e2 _ _ (e1 _ _ hG)] at atp; cases atp
    have qL : q ≠ sf.aL := fun z => by rw [z, e2 _ _ (e1 _ _ hL)] at atq; cases atq
    have qG : q ≠ sf.aG := fun z => by rw [z, e2 _ _ (e1 _ _ hG)] at atq; cases atq
    have xG : x ≠ sf.aG := fun z => by rw [z, e2 _ _ (e1 _ _ hG)] at hx; cases hx
    exact k _ x dx' p q _ hx0 (e1.free hp) (e1.free hq) npq (fun b o h1 h2 h => nx1 (sb _ _ h1 (e2 _ _ (e1 _ _ h))) h2) (nx1 atL (Ne.symm nGL)) upd_same (nx1 atx xG) (nx1 (sb _ _ pL atp) pG) (nx1 (sb _ _ qL atq) qG)
def sp_Freezing_let (K : PySem.W.Frag) : Sp := fun vs H Q _ => ∃ (a dx : Addr) (s : SF) (n : Str) (ls : List Lk) (l : Lk) (log : List V), vs = [.ref a, .str n] ∧ H a = some (.ins (CS K) dx s.l) ∧ s.busy = false ∧ H s.aL = some (.dK (lkK ls)) ∧ (∀ l ∈ ls, l.there K H) ∧ n.length ≤ 100 ∧
  isW n = true ∧ lkG ls n = some l ∧ l ∈ ls ∧ l.f.fin = none ∧ l.f.sort = Str.ofString "house" ∧ H s.aG = some (.lst log) ∧ log.length < sizeLine ∧
  ∀ H2 zz, Same H H2 → Q .non (upd (upd H2 l.a (.ins (CL K) l.dx { l.f with fin := some "gone" }.l)) s.aG (.lst (log ++ [.str zz])))
theorem sc_Freezing_let : FnScope ["self", "name"] ["self", "name"] (defScope s_Freezing_let) := ⟨rfl, rfl, rfl, by decide +kernel, rfl, by decide +kernel, by decide +kernel⟩
theorem ok_Freezing_let {fd : FuncData} (T : Txt K mg) (F : FnD K d_Freezing_let fd) : FnOk P w K mg base CX0 3 (He.fAd K d_Freezing_let.at_) fd ["self", "name"] (sp_Freezing_let K) := by
  obtain ⟨fd_Deeds_look_free, F_Deeds_look_free⟩ := T.fn 40 (d := d_Deeds_look_free)
  have G_Deeds_look_free := ok_Deeds_look_free (P := P) (w := w) (base := base) T F_Deeds_look_free
  have B_Deeds_look_free_1 : KBn K fd_Deeds_look_free ["self"] 1 [] (fun us ws => us ++ ws) (fun us ws => us ++ ws) := RX.kb0 F_Deeds_look_free 1 [] (fun us ws => us ++ ws) (fun a b => a.append b) (fun _ _ _ _ _ _ us ws h1 h2 => match us, ws, h1, h2 with | [_], [], _, _ => rfl)
  obtain ⟨t_HOUSE, g_HOUSE⟩ := T.str 78 (x := "HOUSE") (z := "house")
  obtain ⟨fd_Deeds_is_looker, F_Deeds_is_looker⟩ := T.fn 47 (d := d_Deeds_is_looker)
  have G_Deeds_is_looker := ok_Deeds_is_looker (P := P) (w := w) (base := base) T F_Deeds_is_looker
  have B_Deeds_is_looker_2 : KBn K fd_Deeds_is_looker ["self", "name"] 2 [] (fun us ws => us ++ ws) (fun us ws => us ++ ws) := RX.kb0 F_Deeds_is_looker 2 [] (fun us ws => us ++ ws) (fun a b => a.append b) (fun _ _ _ _ _ _ us ws h1 h2 => match us, ws, h1, h2 with | [_, _], [], _, _ => rfl)
  obtain ⟨t_GONE, g_GONE⟩ := T.str 82 (x := "GONE") (z := "gone")
  obtain ⟨fd_Deeds_note, F_Deeds_note⟩ := T.fn 42 (d := d_Deeds_note)
  have G_Deeds_note := ok_Deeds_note (P := P) (w := w) (base := base) T F_Deeds_note
  have B_Deeds_note_2 : KBn K fd_Deeds_note ["self", "row"] 2 [] (fun us ws => us ++ ws) (fun us ws => us ++ ws) := RX.kb0 F_Deeds_note 2 [] (fun us ws => us ++ ws) (fun a b => a.append b) (fun _ _ _ _ _ _ us ws h1 h2 => match us, ws, h1, h2 with | [_, _], [], _, _ => rfl)
  refine F.ok sc_Freezing_let (fun vs H Q E h => ?_) (fun cdv A outer s H vs Q E hr h => ?_)
  · obtain ⟨a, dx, s, n, ls, l, log, rfl, _⟩ := h; rfl
  · obtain ⟨a, dx, sf, n, ls, l, log, rfl, ha, hb, hL, hl, hn, hw, hg, hm, hf, hs, hG, hgz, k⟩ := h
    refine ⟨_, (PSs.nox (pss_cons (ps_expr (RX.pe_ms0 (pv 0) T.clStore (T.mt 119) G_Deeds_look_free (hr.mono (by decide)) B_Deeds_look_free_1 RX.passS0)) (pss_cons (ps_if (PW.pt (pw_or (pt_not (pt_val (RX.pe_ms (pv 0) T.clStore (T.mt 125) G_Deeds_is_looker (hr.mono (by decide)) B_Deeds_is_looker_2 RX.passS0 (pa_cons (pv 1) pa_nil) pk_nil))) (pw_or1 (pt_cmpR op_ne (pe_fld (pe_dget (hu_of hr) (pe_fld (pv 0) rfl) (pv 1) (fun _ _ => rfl)) rfl) (pe_glob (v := .str "house") rfl g_HOUSE ⟨_, rfl⟩) (nomark _))))) (pss_one ps_never) pss_nil) (pss_cons (ps_fld (pe_dget (hu_of hr) (pe_fld (pv 0) rfl) (pv 1) (fun _ _ => rfl)) (pe_glob (v := .str "gone") rfl g_GONE ⟨_, rfl⟩) rfl) (pss_one (ps_expr (RX.pe_ms (pv 0) T.clStore (T.mt 120) G_Deeds_note (hr.mono (by decide)) B_Deeds_note_2 RX.passS0 (pa_cons (pe_joined (PJ.cons pe_str (PJ.cons (pe_fmt (pv 1)) PJ.nil))) pa_nil) pk_nil))))))), ?_⟩
    have hll := hl l hm
    unfold Lk.there at hll
    have n1 : a ≠ l.a := fun z => by
      rw [z, hll] at ha
      have z2 := congrArg (fun o : Option HO => match o with | some (.ins _ _ fs) => fs.length | _ => 0) ha
      exact absurd z2 (by show (5 : Nat) ≠ 11; decide)
    have n2 : sf.aG ≠ l.a := fun z => by rw [z, hll] at hG; cases hG
    have hb1 : (Str.empty ++ Str.ofString "let ").length ≤ sizeLine := len_le (by decide +kernel)
    have hb2 : (Str.empty ++ Str.ofString "let " ++ n).length ≤ sizeLine := len_le (len_app 50 100 (by decide +kernel) hn (by decide))
    have hnz : n.length ≤ sizeLine := Nat.le_trans hn (by decide)
    walk_at "go"
    rename_i H2 e2
    have ei : isLk ls n = true := by simp [isLk, hw, hg, hf]
    rw [ei]
    have hd := dget_lk (n := n) (RX.via_same e2 hL)
    rw [hg] at hd
    have ha2 := e2 _ _ ha
    have hl2 := e2 _ _ hll
    have hG2 := e2 _ _ hG
    have ha3 : upd H2 l.a (.ins (CL K) l.dx (putF "looker_end" (.str (Str.ofString "gone")) l.f.l)) a = some (.ins (CS K) dx sf.l) := by rw [upd_ne n1]; exact ha2
    have hG3 : upd H2 l.a (.ins (CL K) l.dx (putF "looker_end" (.str (Str.ofString "gone")) l.f.l)) sf.aG = some (.lst log) := by rw [upd_ne n2]; exact hG2
    walk_at "go"
    refine RX.iteB (fun hc => ?_) (fun hc => ?_)
    · simp [hs] at hc
    · walk_at "go"
      have k' := k H2 (Str.empty ++ Str.ofString "let " ++ n) e2
      rw [← LF.put_fin] at k'
      exact k'
end
/-- a house n looks -/
def Bk.held (b : Bk) (n : Str) (d : Lk) (log : List V) : Bk := { b with ls := b.ls.filter (fun l => !decide (l.n = n)) ++ [d], cc := fun y => if y = n then b.s.next else b.cc y, log := log }
section
variable {K : PySem.W.Frag} {H H' : Hp} {a : Addr} {b : Bk} {k m g : Nat} {d : Lk} {log : List V} {n : Str}
theorem Bk.At.held (h : b.At K H a) {p q : Addr} (hd : d.n = n) (hlk : d.f.look = p) (fr : ∀ x o, x ≠ b.s.aL → x ≠ b.s.aG → H x = some o → H' x = some o) (hL : H' b.s.aL = some (.dK (dropK (lkK b.ls) (.inr n) ++ [(.inr n, .ref d.a)]))) (hG : H' b.s.aG = some (.lst log))
    (hda : d.there K H') (hp : H' p = some (.tup [.int b.s.next, .ref q])) (hq : H' q = some (.tup [])) : (b.held n d log).At K H' a := by
  have nds := h.nd
  simp only [List.nodup_cons, List.mem_cons, List.not_mem_nil, or_false, not_or] at nds
  obtain ⟨⟨nTE, nTL, nTF⟩, ⟨nEL, nEF⟩, nLF, _⟩ := nds
  have kd : ∀ {x : Addr} {kvs : List (Key × V)}, H x = some (.dK kvs) → x ≠ b.s.aL → H' x = some (.dK kvs) := fun {x kvs} q n => fr _ _ n (ne_of q h.lg (fun z => nomatch z)) q
  have ki : ∀ {x C dx : Addr} {fs : List (Str × V)}, H x = some (.ins C dx fs) → H' x = some (.ins C dx fs) := fun {x C dx fs} q => fr _ _ (ne_of q h.lk (fun z => nomatch z)) (ne_of q h.lg (fun z => nomatch z)) q
  have hX : ∀ x, (x = b.s.aL ∨ x = b.s.aG) → Mut (H x) := fun x hx => by
    rcases hx with rfl | rfl
    · rw [h.lk]; trivial
    · rw [h.lg]; trivial
  have frX : ∀ x o, ¬ (x = b.s.aL ∨ x = b.s.aG) → H x = some o → H' x = some o := fun x o n q => fr x o (fun z => n (.inl z)) (fun z => n (.inr z)) q
  have hnl := h.nl
  rw [List.nodup_cons] at hnl
  refine { st := ki h.st, tb := kd h.tb nTL, el := kd h.el nEL, lk := ?_, ft := kd h.ft (Ne.symm nLF), lg := hG, vl := fun t ht => fr _ _ (ne_of (h.vl t ht) h.lk (fun z => nomatch z)) (fun z => hnl.1 (z ▸ List.mem_map_of_mem ht)) (h.vl t ht), vt := fun t ht e he => sqT_chg frX hX (h.vt t ht e he), ll := fun l hl => ?_, fl := fun e he => ki (h.fl e he), lo := fun l hl => ?_, nd := h.nd, nl := h.nl }
  · show H' b.s.aL = some (.dK (lkK (b.ls.filter (fun l => !decide (l.n = n)) ++ [d])))
    rw [hL, dropK_lk]
    unfold lkK
    rw [List.map_append]
    show _ = some (HO.dK (_ ++ [((.inr d.n : Key), V.ref d.a)]))
    rw [hd]
  · rcases List.mem_append.mp hl with hl | hl
    · exact ki (h.ll l (List.mem_filter.mp hl).1)
    · rw [List.mem_singleton.mp hl]; exact hda
  · rcases List.mem_append.mp hl with hl | hl
    · obtain ⟨h1, h2⟩ := List.mem_filter.mp hl
      obtain ⟨q, q1, q2⟩ := h.lo l h1
      refine ⟨q, ?_, sqT_chg frX hX q2⟩
      have : ¬ l.n = n := by simpa using h2
      show SqT K H' l.f.look [.int (if l.n = n then b.s.next else b.cc l.n), .ref q]
      rw [if_neg this]
      exact sqT_chg frX hX q1
    · rw [List.mem_singleton.mp hl]
      refine ⟨q, ?_, SqT.of hq⟩
      show SqT K H' d.f.look [.int (if d.n = n then b.s.next else b.cc d.n), .ref q]
      rw [if_pos hd, hlk]
      exact SqT.of hp
theorem Bk.Ok.held (o : b.Ok none k m g) (hnd : n ≠ dN) (hd : d.n = n) (hf : d.f.name = n) (hs : d.f.sort = Str.ofString "house") (hu : d.f.num = none) (hl : log.length ≤ g + 1) : (b.held n d log).Ok none k (m + 1) (g + 1) := by
  refine { busy := o.busy, r8 := o.r8, stp := o.stp, nx0 := o.nx0, nx1 := o.nx1, tne := o.tne, tl := o.tl, tnd := o.tnd, tw := o.tw, te := o.te, tv := o.tv, wo := o.wo, fk := o.fk, fnd := o.fnd, ff := o.ff, lnd := ?_, nm := fun l hl => (List.mem_append.mp hl).elim (fun h => o.nm l (List.mem_filter.mp h).1) (fun h => by rw [List.mem_singleton.mp h, hd, hf]), op := fun l hl hfin => ?_, dd := fun d' h => (nomatch h), dn := fun _ l hl hln => ?_, kv := o.kv, kf := o.kf, km := ?_, kg := hl }
  · show ((b.ls.filter (fun l => !decide (l.n = n)) ++ [d]).map (·.n)).Nodup
    rw [List.map_append]
    refine List.nodup_append.mpr ⟨o.lnd.sublist (List.Sublist.map _ List.filter_sublist), by simp, fun x hx y hy e => ?_⟩
    obtain ⟨l, hl, rfl⟩ := List.mem_map.mp hx
    have h2 := (List.mem_filter.mp hl).2
    have : y = d.n := by simpa using hy
    rw [e, this, hd] at h2
    simp at h2
  · rcases List.mem_append.mp hl with hl | hl
    · exact o.op l (List.mem_filter.mp hl).1 hfin
    · rw [List.mem_singleton.mp hl]; exact .inr ⟨hu, hs⟩
  · rcases List.mem_append.mp hl with hl | hl
    · exact o.dn rfl l (List.mem_filter.mp hl).1 hln
    · rw [List.mem_singleton.mp hl, hd] at hln; exact absurd hln hnd
  · show (b.ls.filter _ ++ [d]).length ≤ m + 1
    have := List.length_filter_le (fun l : Lk => !decide (l.n = n)) b.ls
    have := o.km
    rw [List.length_append]; simp; omega
theorem notLk_open {ls : List Lk} (nd : (ls.map (·.n)).Nodup) (hw : isW n = true) (h : isLk ls n = false) {l : Lk} (hl : l ∈ ls) (hf : l.f.fin = none) : l.n ≠ n := fun e => by
  have hg := lkG_key nd hl
  rw [e] at hg
  simp [isLk, hw, hg, hf] at h
theorem Bk.held_ab (o : b.Ok none k m g) (hw : isW n = true) (hn : isLk b.ls n = false) (hnd : n ≠ dN) (hd : d.n = n) (hf : d.f.fin = none) : (b.held n d log).ab = { b.ab with hs := b.ab.hs ++ [(n, b.s.next)] } := by
  have : (b.held n d log).hs = b.hs ++ [(n, b.s.next)] := by
    unfold Bk.hs
    show (((b.ls.filter (fun l => !decide (l.n = n)) ++ [d]).filter fun l => l.f.fin.isNone && !decide (l.n = dN)).map fun l => (l.n, (b.held n d log).c l)) = _
    have hnd' : ¬ n = dN := hnd
    rw [List.filter_append, List.filter_filter, List.map_append]
    have e1 : [d].filter (fun l => l.f.fin.isNone && !decide (l.n = dN)) = [d] := by simp [hd, hf, hnd']
    rw [e1]
    have e2 : b.ls.filter (fun l => (l.f.fin.isNone && !decide (l.n = dN)) && !decide (l.n = n)) = b.ls.filter (fun l => l.f.fin.isNone && !decide (l.n = dN)) := by
      apply List.filter_congr
      intro l hl
      cases e : l.f.fin with
      | some _ => simp
      | none =>
        have := notLk_open o.lnd hw hn hl e
        simp [this]
    rw [e2]
    congr 1
    · apply List.map_congr_left
      intro l hl
      have h2 := (List.mem_filter.mp hl).2
      have hfl : l.f.fin = none := by simp at h2; exact h2.1
      have := notLk_open o.lnd hw hn (List.mem_filter.mp hl).1 hfl
      show (l.n, if l.n = n then _ else _) = _
      rw [if_neg this]; rfl
    · show [(d.n, if d.n = n then b.s.next else _)] = _
      rw [if_pos hd, hd]
  unfold Bk.ab
  rw [this]
  rfl
theorem Bk.At.gone (h : b.At K H a) (hd : d ∈ b.ls) {z : Str} (e : Same H H') : (b.ended d z log).At K (upd (upd H' d.a (.ins (CL K) d.dx { d.f with fin := some z }.l)) b.s.aG (.lst log)) a := by
  have h' := h.same e
  have hdt := h'.ll d hd
  have hdt0 := hdt
  unfold Lk.there at hdt0
  have hda := cs_ne_cl h'.st hdt
  have kd : ∀ {x : Addr} {kvs : List (Key × V)}, H' x = some (.dK kvs) → upd (upd H' d.a (.ins (CL K) d.dx { d.f with fin := some z }.l)) b.s.aG (.lst log) x = some (.dK kvs) := fun {x kvs} q => by
    rw [upd_ne (ne_of q h'.lg (fun z => nomatch z)), upd_ne (ne_of q hdt0 (fun z => nomatch z))]; exact q
  have hX : ∀ x, (x = d.a ∨ x = b.s.aG) → Mut (H' x) := fun x hx => by
    rcases hx with rfl | rfl
    · rw [hdt0]; trivial
    · rw [h'.lg]; trivial
  have frX : ∀ x q, ¬ (x = d.a ∨ x = b.s.aG) → H' x = some q → upd (upd H' d.a (.ins (CL K) d.dx { d.f with fin := some z }.l)) b.s.aG (.lst log) x = some q := fun x q n y => by rw [upd_ne (fun w => n (.inr w)), upd_ne (fun w => n (.inl w))]; exact y
  have nGd : d.a ≠ b.s.aG := ne_of hdt0 h'.lg (fun z => nomatch z)
  have hda' : upd (upd H' d.a (.ins (CL K) d.dx { d.f with fin := some z }.l)) b.s.aG (.lst log) d.a = some (.ins (CL K) d.dx { d.f with fin := some z }.l) := by rw [upd_ne nGd, upd_same]
  have ht : ∀ l : Lk, l.there K H' → (repF d { d.f with fin := some z } l).there K (upd (upd H' d.a (.ins (CL K) d.dx { d.f with fin := some z }.l)) b.s.aG (.lst log)) := fun l hl => rep_there hl hdt (fun n => by
    have hl0 := hl
    unfold Lk.there at hl0
    rw [upd_ne (ne_of hl0 h'.lg (fun z => nomatch z)), upd_ne n]) hda'
  have hnl := h'.nl
  rw [List.nodup_cons] at hnl
  refine { st := by show upd _ _ _ a = _; rw [upd_ne (ne_of h'.st h'.lg (fun z => nomatch z)), upd_ne (Ne.symm hda)]; exact h'.st, tb := kd h'.tb, el := kd h'.el, lk := ?_, ft := ?_, lg := upd_same, vl := fun t ht => ?_, vt := fun t ht e he => sqT_chg frX hX (h'.vt t ht e he), ll := fun l hl => ?_, fl := fun e he => ?_, lo := fun l hl => ?_, nd := h.nd, nl := h.nl }
  · show upd _ _ _ b.s.aL = some (.dK (lkK (b.ls.map _)))
    rw [lkK_rep]; exact kd h'.lk
  · show upd _ _ _ b.s.aF = some (.dK (fkK (b.fs.map fun e => (e.1, repF d { d.f with fin := some z } e.2))))
    rw [fkK_rep]; exact kd h'.ft
  · have q := h'.vl t ht
    show upd _ _ _ t.a = _
    rw [upd_ne (fun w => hnl.1 (by have := List.mem_map_of_mem (f := fun t : Tb => t.a) ht; rw [show t.a = b.s.aG from w] at this; exact this)), upd_ne (ne_of q hdt0 (fun z => nomatch z))]; exact q
  · obtain ⟨x, hx, rfl⟩ := List.mem_map.mp hl
    exact ht x (h'.ll x hx)
  · obtain ⟨x, hx, rfl⟩ := List.mem_map.mp he
    exact ht x.2 (h'.fl x hx)
  · obtain ⟨x, hx, rfl⟩ := List.mem_map.mp hl
    obtain ⟨q, h1, h2⟩ := h'.lo x hx
    refine ⟨q, ?_, sqT_chg frX hX h2⟩
    have e : (repF d { d.f with fin := some z } x).f.look = x.f.look := by
      unfold repF
      split
      · rename_i e
        show d.f.look = x.f.look
        rw [(there_inj (h'.ll x hx) hdt e).2]
      · rfl
    rw [e]
    show SqT K _ x.f.look [.int (b.cc (repF d _ x).n), _]
    rw [repF_n]
    exact sqT_chg frX hX h1
theorem Bk.Ok.gone (h : b.At K H a) (o : b.Ok none k m g) (hd : d ∈ b.ls) (hf : d.f.fin = none) (hl : log.length ≤ g + 1) : (b.ended d (Str.ofString "gone") log).Ok none k m (g + 1) := by
  have hdt := h.ll d hd
  have ln : ((b.ls.map (repF d { d.f with fin := some (Str.ofString "gone") })).map (·.n)) = b.ls.map (·.n) := by rw [List.map_map]; exact List.map_congr_left fun l _ => repF_n _ _ l
  have fg : ∀ n, (fkG b.fs n).isSome = true → (fkG (b.fs.map fun e => (e.1, repF d { d.f with fin := some (Str.ofString "gone") } e.2)) n).isSome = true := fun n q => by
    rw [fkG_rep]
    cases z : fkG b.fs n with
    | none => rw [z] at q; cases q
    | some _ => rfl
  have fkeys : (b.fs.map fun e => (e.1, repF d { d.f with fin := some (Str.ofString "gone") } e.2)).map (fun x : Int × Lk => x.1) = b.fs.map (·.1) := by rw [List.map_map]; rfl
  refine { busy := o.busy, r8 := o.r8, stp := o.stp, nx0 := o.nx0, nx1 := o.nx1, tne := o.tne, tl := o.tl, tnd := o.tnd, tw := o.tw, te := o.te, tv := fun t ht e he n hn => let ⟨q1, q2, q3, q4, q5⟩ := o.tv t ht e he n hn; ⟨q1, q2, q3, q4, fg n q5⟩, wo := o.wo, fk := fun e he => ?_, fnd := ?_, ff := fun e he => ?_, lnd := ?_, nm := rep_nm h.ll hdt rfl o.nm, op := fun l hl hfin => ?_, dd := fun d' h => (nomatch h), dn := fun _ l hl hln => ?_, kv := o.kv, kf := ?_, km := ?_, kg := hl }
  · obtain ⟨x, hx, rfl⟩ := List.mem_map.mp he
    exact o.fk x hx
  · show ((b.fs.map fun e => (e.1, repF d { d.f with fin := some (Str.ofString "gone") } e.2)).map (fun x : Int × Lk => x.1)).Nodup
    rw [fkeys]; exact o.fnd
  · obtain ⟨x, hx, rfl⟩ := List.mem_map.mp he
    left
    show (repF d _ x.2).f.fin = _
    have hx1 : x.2.f.fin = some (Str.ofString "done") := by
      rcases o.ff x hx with h1 | h1
      · exact h1
      · cases h1
    by_cases e : x.2.a = d.a
    · rw [(there_inj (h.fl x hx) hdt e).2, hf] at hx1; cases hx1
    · unfold repF; rw [if_neg e]; exact hx1
  · show ((b.ls.map (repF d { d.f with fin := some (Str.ofString "gone") })).map (fun l : Lk => l.n)).Nodup
    rw [ln]; exact o.lnd
  · obtain ⟨x, hx, rfl⟩ := List.mem_map.mp hl
    by_cases e : x.a = d.a
    · unfold repF at hfin; rw [if_pos e] at hfin; cases hfin
    · have e2 : repF d { d.f with fin := some (Str.ofString "gone") } x = x := by unfold repF; rw [if_neg e]
      rw [e2] at hfin ⊢
      exact o.op x hx hfin
  · obtain ⟨x, hx, rfl⟩ := List.mem_map.mp hl
    rw [repF_n] at hln
    unfold repF
    split
    · intro z; cases z
    · exact o.dn rfl x hx hln
  · show (b.fs.map _).length ≤ k
    rw [List.length_map]; exact o.kf
  · show (b.ls.map _).length ≤ m
    rw [List.length_map]; exact o.km
theorem Bk.gone_ab (h : b.At K H a) (o : b.Ok none k m g) (hd : d ∈ b.ls) : (b.ended d (Str.ofString "gone") log).ab = { b.ab with hs := b.ab.hs.filter fun e => !decide (e.1 = d.n) } := by
  have : (b.ended d (Str.ofString "gone") log).hs = b.hs.filter fun e => !decide (e.1 = d.n) := by
    unfold Bk.hs
    show (((b.ls.map (repF d { d.f with fin := some (Str.ofString "gone") })).filter fun l => l.f.fin.isNone && !decide (l.n = dN)).map fun l => (l.n, b.cc l.n)) = _
    rw [List.filter_map, List.filter_map, List.map_map, List.filter_filter]
    have e1 : (b.ls.filter ((fun l : Lk => l.f.fin.isNone && !decide (l.n = dN)) ∘ repF d { d.f with fin := some (Str.ofString "gone") })) = b.ls.filter fun l => ((fun e : Str × Int => !decide (e.1 = d.n)) ∘ fun l : Lk => (l.n, b.c l)) l && (l.f.fin.isNone && !decide (l.n = dN)) := by
      apply List.filter_congr
      intro l hl
      show ((repF d _ l).f.fin.isNone && !decide ((repF d _ l).n = dN)) = (!decide (l.n = d.n) && _)
      rw [repF_n]
      by_cases e : l.a = d.a
      · have hn : l.n = d.n := by rw [← o.nm l hl, ← o.nm d hd, (there_inj (h.ll l hl) (h.ll d hd) e).2]
        have : (repF d { d.f with fin := some (Str.ofString "gone") } l).f.fin.isNone = false := by unfold repF; rw [if_pos e]; rfl
        rw [this, hn]; simp
      · have : repF d { d.f with fin := some (Str.ofString "gone") } l = l := by unfold repF; rw [if_neg e]
        have hn : ¬ l.n = d.n := fun z => e (by rw [key_inj o.lnd hl hd z])
        rw [this]; simp [hn]
    rw [e1]
    apply List.map_congr_left
    intro l _
    show ((repF d _ l).n, b.cc (repF d _ l).n) = (l.n, b.cc l.n)
    rw [repF_n]
  unfold Bk.ab
  rw [this]
  rfl
end
theorem lkG_in {ls : List Lk} {n : Str} {l : Lk} (h : lkG ls n = some l) : l ∈ ls ∧ l.n = n := by
  unfold lkG at h
  exact ⟨List.mem_of_find?_eq_some h, by simpa using List.find?_some h⟩
theorem hs_mem {b : Bk} {l : Lk} (hl : l ∈ b.ls) (hf : l.f.fin = none) (hn : l.n ≠ dN) : (l.n, b.c l) ∈ b.hs := by
  unfold Bk.hs
  have hn' : ¬ l.n = dN := hn
  exact List.mem_map.mpr ⟨l, List.mem_filter.mpr ⟨hl, by simp [hf, hn']⟩, rfl⟩
theorem Bk.Ok.notHs {b : Bk} {k m g : Nat} {n : Str} (o : b.Ok none k m g) (h : n ∉ b.hs.map (·.1)) (hnd : n ≠ dN) : isLk b.ls n = false := by
  unfold isLk
  cases e : lkG b.ls n with
  | none => simp
  | some l =>
    obtain ⟨h1, h2⟩ := lkG_in e
    cases z : l.f.fin with
    | none => exact absurd (List.mem_map.mpr ⟨_, hs_mem h1 z (by rw [h2]; exact hnd), h2⟩) h
    | some _ => simp [z]
theorem hs_of {b : Bk} {n : Str} (h : n ∈ b.hs.map (·.1)) : ∃ l ∈ b.ls, l.n = n ∧ l.f.fin = none ∧ l.n ≠ dN := by
  unfold Bk.hs at h
  obtain ⟨e, he, rfl⟩ := List.mem_map.mp h
  obtain ⟨l, hl, rfl⟩ := List.mem_map.mp he
  obtain ⟨h1, h2⟩ := List.mem_filter.mp hl
  simp only [Bool.and_eq_true, Option.isNone_iff_eq_none, Bool.not_eq_true', decide_eq_false_iff_not] at h2
  exact ⟨l, h1, rfl, h2.1, h2.2⟩
/-- the horizon by the houses -/
theorem hor_ex {b : Bk} {k m g : Nat} (o : b.Ok none k m g) (hx : ∀ e ∈ b.hs, (b.s.next - e.2) % b.s.ring < b.s.ring / 2) :
    ∃ h, HorIs b.s.ring b.s.next b.ls b.c h ∧ (h = b.s.next ∨ h ∈ b.hs.map (·.2)) ∧ (∀ x ∈ b.hs.map (·.2), (b.s.next - x) % b.s.ring ≤ (b.s.next - h) % b.s.ring) := by
  have h8 := o.r8
  have h0 : (0 : Int) < b.s.ring := by omega
  have e1 : (b.ls.filter fun l => l.f.fin.isNone).map b.c = b.hs.map (·.2) := by
    unfold Bk.hs
    rw [List.map_map]
    have : b.ls.filter (fun l => l.f.fin.isNone) = b.ls.filter fun l => l.f.fin.isNone && !decide (l.n = dN) := by
      apply List.filter_congr
      intro l hl
      cases z : l.f.fin with
      | some _ => simp
      | none =>
        have : ¬ l.n = dN := fun e => o.dn rfl l hl e z
        simp [this]
    rw [this]
    exact List.map_congr_left fun _ _ => rfl
  have hz : (b.s.next - b.s.next) % b.s.ring = 0 := by rw [Int.sub_self, Int.zero_emod]
  have hall : ∀ x ∈ b.hs.map (·.2) ++ [b.s.next], (b.s.next - x) % b.s.ring < b.s.ring / 2 := fun x hm => by
    rcases List.mem_append.mp hm with hm | hm
    · obtain ⟨e, he, rfl⟩ := List.mem_map.mp hm
      exact hx e he
    · rw [List.mem_singleton.mp hm, hz]; omega
  unfold HorIs
  rw [e1]
  cases hq : b.hs.map (·.2) ++ [b.s.next] with
  | nil => simp at hq
  | cons e es =>
    rw [hq] at hall
    obtain ⟨i1, i2⟩ := eld_sb h0 es e hall
    refine ⟨eldF b.s.ring e es, ⟨e, es, rfl, eld_val h0 hall⟩, ?_, fun x hm => i2 x (by rw [← hq]; exact List.mem_append_left _ hm)⟩
    rw [← hq] at i1
    rcases List.mem_append.mp i1 with i | i
    · exact .inr i
    · exact .inl (List.mem_singleton.mp i)
section
variable {P : Program} {w : World} {K : PySem.W.Frag} {mg : Str → Option Value} {base : Heap}
def spB_Freezing_hold (K : PySem.W.Frag) : Sp := fun vs H Q _ => ∃ (a : Addr) (b : Bk) (k m g : Nat) (n : Str), vs = [.ref a, .str n, .non] ∧ b.At K H a ∧ b.Ok none k m g ∧ m < 900 ∧ g < 10000000 ∧ n.length ≤ 100 ∧ isW n = true ∧ n ≠ dN ∧ n ∉ b.ab.hs.map (·.1) ∧
  ∀ H' (b' : Bk), Far b H H' → Kin b b' → b'.At K H' a → b'.Ok none k (m + 1) (g + 1) → b'.ab = { b.ab with hs := b.ab.hs ++ [(n, b.ab.next)] } → b'.ts = b.ts → Q .non H'
theorem okB_Freezing_hold {fd : FuncData} (T : Txt K mg) (F : FnD K d_Freezing_hold fd) : FnOk P w K mg base CX0 4 (He.fAd K d_Freezing_hold.at_) fd ["self", "name", "like"] (spB_Freezing_hold K) :=
  (ok_Freezing_hold T F).imp fun vs H Q E ⟨a, b, k, m, g, n, e, hb, ho, hm, hg, hnl, hw, hnd, hnh, kk⟩ => by
    have hnk := ho.notHs hnh hnd
    refine ⟨a, b.dx, b.s, n, b.ls, b.log, e, hb.st, ho.busy, hb.lk, hb.ll, by have := ho.km; omega, hnl, hw, hnk, fun l hl hf => ?_, hb.lg, ?_, fun H' x dx' p q z hx hp hq npq fr hL hG hxa hpa hqa => ?_⟩
    · rcases ho.op l hl hf with h | h
      · cases h
      · exact h.1
    · have := ho.kg
      have : (10000000 : Nat) < sizeLine := by decide +kernel
      omega
    · have hd : (⟨n, x, dx', LF.mk n (Str.ofString "house") p none none⟩ : Lk).n = n := rfl
      have hat := hb.held (n := n) (d := ⟨n, x, dx', LF.mk n (Str.ofString "house") p none none⟩) (log := b.log ++ [.str z]) (p := p) (q := q) hd rfl fr hL hG hxa hpa hqa
      have hok := ho.held (n := n) (d := ⟨n, x, dx', LF.mk n (Str.ofString "house") p none none⟩) (log := b.log ++ [.str z]) hnd hd rfl rfl rfl (by rw [List.length_append]; have := ho.kg; simp; omega)
      exact kk H' (b.held n ⟨n, x, dx', LF.mk n (Str.ofString "house") p none none⟩ (b.log ++ [.str z])) (fun x o f q => fr x o (f.nd q hb.lk) (f.nG hb q) q) ⟨rfl, rfl⟩ hat hok (Bk.held_ab ho hw hnk hnd hd rfl) rfl
def spB_Freezing_let (K : PySem.W.Frag) : Sp := fun vs H Q _ => ∃ (a : Addr) (b : Bk) (k m g : Nat) (n : Str), vs = [.ref a, .str n] ∧ b.At K H a ∧ b.Ok none k m g ∧ g < 10000000 ∧ n.length ≤ 100 ∧ isW n = true ∧ n ∈ b.ab.hs.map (·.1) ∧
  ∀ H' (b' : Bk), Far b H H' → Kin b b' → b'.At K H' a → b'.Ok none k m (g + 1) → b'.ab = { b.ab with hs := b.ab.hs.filter fun e => !decide (e.1 = n) } → b'.ts = b.ts → Q .non H'
theorem okB_Freezing_let {fd : FuncData} (T : Txt K mg) (F : FnD K d_Freezing_let fd) : FnOk P w K mg base CX0 3 (He.fAd K d_Freezing_let.at_) fd ["self", "name"] (spB_Freezing_let K) :=
  (ok_Freezing_let T F).imp fun vs H Q E ⟨a, b, k, m, g, n, e, hb, ho, hg, hnl, hw, hnh, kk⟩ => by
    obtain ⟨d, hdm, hdn, hdf, hdd⟩ := hs_of hnh
    have hlkG : lkG b.ls n = some d := by
      have := lkG_key ho.lnd hdm
      rwa [hdn] at this
    have hsort : d.f.sort = Str.ofString "house" := by
      rcases ho.op d hdm hdf with h | h
      · cases h
      · exact h.2
    have hgz : b.log.length < sizeLine := by
      have := ho.kg
      have : (10000000 : Nat) < sizeLine := by decide +kernel
      omega
    refine ⟨a, b.dx, b.s, n, b.ls, d, b.log, e, hb.st, ho.busy, hb.lk, hb.ll, hnl, hw, hlkG, hdm, hdf, hsort, hb.lg, hgz, fun H2 zz e2 => ?_⟩
    have hat := hb.gone (log := b.log ++ [.str zz]) (z := Str.ofString "gone") hdm e2
    have hok := ho.gone hb hdm hdf (log := b.log ++ [.str zz]) (by rw [List.length_append]; have := ho.kg; simp; omega)
    refine kk _ (b.ended d (Str.ofString "gone") (b.log ++ [.str zz])) (fun x o f q => by rw [upd_ne (f.nG hb q), upd_ne (f.ni q (hb.ll d hdm))]; exact e2 x o q) ⟨rfl, rfl⟩ hat hok ?_ rfl
    rw [Bk.gone_ab hb ho hdm, hdn]
end
/-! ### a store as a law sees it, by steps back -/
def mx (l : List Nat) : Nat := l.foldr max 0
theorem mx_ge : ∀ {l : List Nat} {x : Nat}, x ∈ l → x ≤ mx l
  | y :: r, x, h => by
    show x ≤ max y (mx r)
    rcases List.mem_cons.mp h with rfl | h
    · omega
    · have := mx_ge h; omega
theorem mx_mem : ∀ {l : List Nat}, l ≠ [] → mx l ∈ l
  | [x], _ => by show max x 0 ∈ [x]; simp
  | x :: y :: r, _ => by
    have h := mx_mem (l := y :: r) (by simp)
    show max x (mx (y :: r)) ∈ _
    by_cases q : mx (y :: r) ≤ x
    · rw [Nat.max_eq_left q]; exact List.mem_cons_self ..
    · rw [Nat.max_eq_right (by omega)]; exact List.mem_cons_of_mem _ h
theorem mx_le {l : List Nat} {b : Nat} (h : ∀ x ∈ l, x ≤ b) : mx l ≤ b := by
  by_cases q : l = []
  · rw [q]; exact Nat.zero_le _
  · exact h _ (mx_mem q)
def ltr (i : Nat) : Nat := RX.lets.getD i 0
def hname (k : Nat) : Str := Str.ofString "h" ++ ⟨#[ltr (k % 26)]⟩ ++ ⟨#[ltr (k / 26 % 26)]⟩
theorem hname_ok (k : Nat) : isW (hname k) = true ∧ (hname k).length = 3 := by
  have h : ∀ a, a < 26 → ∀ b, b < 26 → isW (Str.ofString "h" ++ ⟨#[ltr a]⟩ ++ ⟨#[ltr b]⟩) = true ∧ (Str.ofString "h" ++ ⟨#[ltr a]⟩ ++ ⟨#[ltr b]⟩).length = 3 := by decide +kernel
  exact h _ (Nat.mod_lt _ (by decide)) _ (Nat.mod_lt _ (by decide))
theorem hname_nd (k : Nat) : hname k ≠ dN := fun z => by
  have := (hname_ok k).2
  rw [z] at this
  exact absurd this (by decide +kernel)
theorem ltr_inj : ∀ a, a < 26 → ∀ b, b < 26 → ltr a = ltr b → a = b := by decide +kernel
theorem hname_inj {j k : Nat} (hj : j < 676) (hk : k < 676) (h : hname j = hname k) : j = k := by
  have h2 := congrArg (fun z : Str => z.cps.toList) h
  have e : ∀ k, (hname k).cps.toList = (Str.ofString "h").cps.toList ++ [ltr (k % 26), ltr (k / 26 % 26)] := fun k => by
    show ((Str.ofString "h").cps ++ #[ltr (k % 26)] ++ #[ltr (k / 26 % 26)]).toList = _
    simp
  simp only [e] at h2
  have h3 := List.append_cancel_left h2
  simp only [List.cons.injEq, and_true] at h3
  have q1 := ltr_inj _ (Nat.mod_lt _ (by decide)) _ (Nat.mod_lt _ (by decide)) h3.1
  have q2 := ltr_inj _ (Nat.mod_lt _ (by decide)) _ (Nat.mod_lt _ (by decide)) h3.2
  omega
structure Sim (A : Ab) (nms : List Str) (sz sp : Nat) (D : List Nat) (Hs : List (Nat × Nat)) : Prop where
  r : A.ring = sz
  s : A.stop = sp
  n0 : 0 ≤ A.next
  n1 : A.next < sz
  nm : A.el.map (·.1) = nms
  nd : nms.Nodup
  d : A.el.map (fun e => (A.next - e.2) % (sz : Int)) = D.map fun n : Nat => (n : Int)
  hn : A.hs.map (·.1) = Hs.map fun h => hname h.1
  hc : A.hs.map (fun e => (A.next - e.2) % (sz : Int)) = Hs.map fun h => (h.2 : Int)
  hl : ∀ e ∈ A.hs, 0 ≤ e.2 ∧ e.2 < sz
  le : ∀ d ∈ D, d ≤ sp
  hd : ∀ h ∈ Hs, ∀ d ∈ D, h.2 ≤ d
  hi : (Hs.map (·.1)).Nodup
  h6 : ∀ h ∈ Hs, h.1 < 676
  z8 : 8 ≤ sz
  zs : 2 * sp + 2 ≤ sz
  ne : D ≠ []
section
variable {A : Ab} {nms : List Str} {sz sp : Nat} {D : List Nat} {Hs : List (Nat × Nat)}
theorem Sim.len (S : Sim A nms sz sp D Hs) : D.length = nms.length ∧ A.el.length = nms.length := by
  have h1 := congrArg List.length S.nm
  have h2 := congrArg List.length S.d
  simp only [List.length_map] at h1 h2
  omega
theorem Sim.ht (S : Sim A nms sz sp D Hs) : ∀ h ∈ Hs, h.2 ≤ sp := fun h hh => by
  obtain ⟨d, hd⟩ := List.exists_mem_of_ne_nil _ S.ne
  have := S.hd h hh d hd; have := S.le d hd; omega
theorem Sim.hst (S : Sim A nms sz sp D Hs) : ∀ e ∈ A.hs, (A.next - e.2) % (sz : Int) ≤ sp := fun e he => by
  have h : (A.next - e.2) % (sz : Int) ∈ A.hs.map (fun e => (A.next - e.2) % (sz : Int)) := List.mem_map_of_mem he
  rw [S.hc] at h
  obtain ⟨x, hx, q⟩ := List.mem_map.mp h
  have := S.ht x hx; omega
theorem Sim.floor {f : Int} (S : Sim A nms sz sp D Hs) (hf : A.Floor f) : (A.next - f) % A.ring = mx D := by
  have hm := hf.mem
  have ht := hf.top
  rw [S.r] at ht ⊢
  unfold elI at hm ht
  have h1 : (A.next - f) % (sz : Int) ∈ D.map fun n : Nat => (n : Int) := by
    rw [← S.d]
    obtain ⟨e, he, q⟩ := List.mem_map.mp hm
    exact List.mem_map.mpr ⟨e, he, by rw [q]⟩
  obtain ⟨x, hx, qx⟩ := List.mem_map.mp h1
  have h2 : ((mx D : Nat) : Int) ∈ A.el.map (fun e => (A.next - e.2) % (sz : Int)) := by rw [S.d]; exact List.mem_map_of_mem (mx_mem S.ne)
  obtain ⟨e, he, q⟩ := List.mem_map.mp h2
  have h3 := ht e.2 (List.mem_map_of_mem he)
  have h4 := mx_ge hx
  omega
theorem Sim.give (S : Sim A nms sz sp D Hs) (h : mx D < sp) : Sim { A with next := (A.next + 1) % A.ring } nms sz sp (D.map (· + 1)) (Hs.map fun h => (h.1, h.2 + 1)) := by
  have hz := S.z8
  have hzs := S.zs
  have h0 : (0 : Int) < (sz : Int) := by omega
  have step : ∀ x, (A.next - x) % (sz : Int) ≤ sp → ((A.next + 1) % A.ring - x) % (sz : Int) = (A.next - x) % (sz : Int) + 1 := fun x hx => by rw [S.r]; exact sb_succ h0 (by omega)
  refine { r := S.r, s := S.s, n0 := Int.emod_nonneg _ (by rw [S.r]; omega), n1 := by rw [← S.r]; exact Int.emod_lt_of_pos _ (by rw [S.r]; omega), nm := S.nm, nd := S.nd, d := ?_, hn := ?_, hc := ?_, hl := S.hl, le := fun d hd => ?_, hd := fun x hx d hd => ?_, hi := ?_, h6 := fun x hx => ?_, z8 := S.z8, zs := S.zs, ne := by simpa using S.ne }
  · rw [List.map_map]
    have : A.el.map (fun e => ((A.next + 1) % A.ring - e.2) % (sz : Int)) = (A.el.map (fun e => (A.next - e.2) % (sz : Int))).map (· + 1) := by
      rw [List.map_map]
      refine List.map_congr_left fun e he => step _ ?_
      have h : (A.next - e.2) % (sz : Int) ∈ A.el.map (fun e => (A.next - e.2) % (sz : Int)) := List.mem_map_of_mem he
      rw [S.d] at h
      obtain ⟨x, hx, q⟩ := List.mem_map.mp h
      have := S.le x hx; omega
    show A.el.map (fun e => ((A.next + 1) % A.ring - e.2) % (sz : Int)) = _
    rw [this, S.d, List.map_map]
    exact List.map_congr_left fun x _ => by show (x : Int) + 1 = ((x + 1 : Nat) : Int); omega
  · rw [List.map_map]; exact S.hn
  · rw [List.map_map]
    have : A.hs.map (fun e => ((A.next + 1) % A.ring - e.2) % (sz : Int)) = (A.hs.map (fun e => (A.next - e.2) % (sz : Int))).map (· + 1) := by
      rw [List.map_map]
      exact List.map_congr_left fun e he => step _ (S.hst e he)
    show A.hs.map (fun e => ((A.next + 1) % A.ring - e.2) % (sz : Int)) = _
    rw [this, S.hc, List.map_map]
    exact List.map_congr_left fun x _ => by show (x.2 : Int) + 1 = ((x.2 + 1 : Nat) : Int); omega
  · obtain ⟨x, hx, rfl⟩ := List.mem_map.mp hd
    have := mx_ge hx; omega
  · obtain ⟨y, hy, rfl⟩ := List.mem_map.mp hx
    obtain ⟨z, hz, rfl⟩ := List.mem_map.mp hd
    have := S.hd y hy z hz
    show y.2 + 1 ≤ z + 1; omega
  · rw [List.map_map]; exact S.hi
  · obtain ⟨y, hy, rfl⟩ := List.mem_map.mp hx; exact S.h6 y hy
theorem set_el (F : Str × Int → Int) (n : Str) (u : Int) : ∀ (el : List (Str × Int)) (i : Nat), (el.map (·.1)).Nodup → (el.map (·.1))[i]? = some n → (setE el n u).map F = (el.map F).set i (F (n, u))
  | [], i, _, h => by simp at h
  | e :: r, 0, nd, h => by
    rw [List.map_cons, List.nodup_cons] at nd
    have hn : e.1 = n := by simpa using h
    subst hn
    have : setE r e.1 u = r := by
      unfold setE
      conv => rhs; rw [← List.map_id r]
      refine List.map_congr_left fun x hx => ?_
      have hz : ¬ x.1 = e.1 := fun z => nd.1 (by rw [← z]; exact List.mem_map_of_mem hx)
      show (if x.1 = e.1 then (x.1, u) else x) = id x
      rw [if_neg hz]; rfl
    show ((if e.1 = e.1 then (e.1, u) else e) :: setE r e.1 u).map F = _
    rw [if_pos rfl, this]; rfl
  | e :: r, i + 1, nd, h => by
    rw [List.map_cons, List.nodup_cons] at nd
    have hr : (r.map (·.1))[i]? = some n := by simpa using h
    have hn : ¬ e.1 = n := fun z => nd.1 (by rw [z]; exact List.mem_of_getElem? hr)
    have ih := set_el F n u r i nd.2 hr
    show ((if e.1 = n then (e.1, u) else e) :: setE r n u).map F = _
    rw [if_neg hn, List.map_cons, ih]; rfl
theorem setE_nm (el : List (Str × Int)) (n : Str) (u : Int) : (setE el n u).map (·.1) = el.map (·.1) := by
  unfold setE
  rw [List.map_map]
  refine List.map_congr_left fun e _ => ?_
  show (if e.1 = n then (e.1, u) else e).1 = e.1
  split <;> rfl
theorem mem_set {l : List Nat} {i x y : Nat} (h : y ∈ l.set i x) : y = x ∨ y ∈ l := (List.mem_or_eq_of_mem_set h).symm
theorem Sim.freeze (S : Sim A nms sz sp D Hs) {i : Nat} {n : Str} (hi : nms[i]? = some n) {u : Int} (hu : (A.next - u) % (sz : Int) = mx (Hs.map (·.2))) : Sim { A with el := setE A.el n u } nms sz sp (D.set i (mx (Hs.map (·.2)))) Hs := by
  have hle : mx (Hs.map (·.2)) ≤ sp := mx_le fun x hx => by obtain ⟨h, hh, rfl⟩ := List.mem_map.mp hx; exact S.ht h hh
  refine { r := S.r, s := S.s, n0 := S.n0, n1 := S.n1, nm := by show (setE A.el n u).map (·.1) = nms; rw [setE_nm]; exact S.nm, nd := S.nd, d := ?_, hn := S.hn, hc := S.hc, hl := S.hl, le := fun d hd => ?_, hd := fun h hh d hd => ?_, hi := S.hi, h6 := S.h6, z8 := S.z8, zs := S.zs, ne := by intro z; rw [List.set_eq_nil_iff] at z; exact S.ne z }
  · show (setE A.el n u).map _ = _
    rw [set_el _ n u A.el i (by rw [S.nm]; exact S.nd) (by rw [S.nm]; exact hi), S.d, List.map_set]
    show List.set _ i ((A.next - u) % (sz : Int)) = _
    rw [hu]
  · rcases mem_set hd with rfl | h
    · exact hle
    · exact S.le d h
  · rcases mem_set hd with rfl | h2
    · exact mx_ge (List.mem_map_of_mem hh)
    · exact S.hd h hh d h2
theorem Sim.hold (S : Sim A nms sz sp D Hs) {k : Nat} (hk : k < 676) (hn : k ∉ Hs.map (·.1)) : Sim { A with hs := A.hs ++ [(hname k, A.next)] } nms sz sp D (Hs ++ [(k, 0)]) := by
  refine { r := S.r, s := S.s, n0 := S.n0, n1 := S.n1, nm := S.nm, nd := S.nd, d := S.d, hn := ?_, hc := ?_, hl := fun e he => ?_, le := S.le, hd := fun h hh d hd => ?_, hi := ?_, h6 := fun h hh => ?_, z8 := S.z8, zs := S.zs, ne := S.ne }
  · show (A.hs ++ _).map _ = _
    rw [List.map_append, List.map_append, S.hn]; rfl
  · show (A.hs ++ _).map _ = _
    rw [List.map_append, List.map_append, S.hc]
    show _ ++ [(A.next - A.next) % (sz : Int)] = _
    rw [Int.sub_self, Int.zero_emod]; rfl
  · rcases List.mem_append.mp he with h | h
    · exact S.hl e h
    · rw [List.mem_singleton.mp h]; exact ⟨S.n0, S.n1⟩
  · rcases List.mem_append.mp hh with h1 | h1
    · exact S.hd h h1 d hd
    · rw [List.mem_singleton.mp h1]; exact Nat.zero_le _
  · rw [List.map_append]
    refine List.nodup_append.mpr ⟨S.hi, by simp, fun x hx y hy e => ?_⟩
    have : y = k := by simpa using hy
    exact hn (this ▸ e ▸ hx)
  · rcases List.mem_append.mp hh with h1 | h1
    · exact S.h6 h h1
    · rw [List.mem_singleton.mp h1]; exact hk
theorem filter_maps {α β γ : Type} {p : α → Bool} {q : β → Bool} {F : α → γ} {G : β → γ} : ∀ {l : List α} {m : List β}, l.length = m.length → (∀ (i : Nat) (x : α) (y : β), l[i]? = some x → m[i]? = some y → F x = G y ∧ p x = q y) → (l.filter p).map F = (m.filter q).map G
  | [], [], _, _ => rfl
  | [], _ :: _, h, _ => by simp at h
  | _ :: _, [], h, _ => by simp at h
  | x :: r, y :: s, h, H => by
    have h0 := H 0 x y rfl rfl
    have ih := filter_maps (p := p) (q := q) (F := F) (G := G) (l := r) (m := s) (by simpa using h) fun i a b ha hb => H (i + 1) a b (by simpa using ha) (by simpa using hb)
    rw [List.filter_cons, List.filter_cons, h0.2]
    split
    · rw [List.map_cons, List.map_cons, ih, h0.1]
    · exact ih
theorem Sim.gone (S : Sim A nms sz sp D Hs) {k : Nat} (hk : k < 676) : Sim { A with hs := A.hs.filter fun e => !decide (e.1 = hname k) } nms sz sp D (Hs.filter fun h => !decide (h.1 = k)) := by
  have hln : A.hs.length = Hs.length := by have := congrArg List.length S.hn; simpa using this
  have hp : ∀ (i : Nat) (x : Str × Int) (y : Nat × Nat), A.hs[i]? = some x → Hs[i]? = some y → x.1 = hname y.1 ∧ (A.next - x.2) % (sz : Int) = y.2 ∧ (!decide (x.1 = hname k)) = (!decide (y.1 = k)) := fun i x y hx hy => by
    have h1 := congrArg (fun l => l[i]?) S.hn
    have h2 := congrArg (fun l => l[i]?) S.hc
    simp only [List.getElem?_map, hx, hy, Option.map_some, Option.some.injEq] at h1 h2
    refine ⟨h1, h2, ?_⟩
    have h6 := S.h6 y (List.mem_of_getElem? hy)
    by_cases q : y.1 = k
    · simp [h1, q]
    · have : ¬ x.1 = hname k := fun z => q (hname_inj h6 hk (h1.symm.trans z))
      simp [this, q]
  refine { r := S.r, s := S.s, n0 := S.n0, n1 := S.n1, nm := S.nm, nd := S.nd, d := S.d, hn := filter_maps hln fun i x y hx hy => ⟨(hp i x y hx hy).1, (hp i x y hx hy).2.2⟩, hc := filter_maps hln fun i x y hx hy => ⟨(hp i x y hx hy).2.1, (hp i x y hx hy).2.2⟩, hl := fun e he => S.hl e (List.mem_filter.mp he).1, le := S.le, hd := fun h hh => S.hd h (List.mem_filter.mp hh).1, hi := S.hi.sublist (List.Sublist.map _ List.filter_sublist), h6 := fun h hh => S.h6 h (List.mem_filter.mp hh).1, z8 := S.z8, zs := S.zs, ne := S.ne }
end
/-- the horizon, by steps -/
theorem Sim.hor {b : Bk} {k m g : Nat} {nms : List Str} {sz sp : Nat} {D : List Nat} {Hs : List (Nat × Nat)} (o : b.Ok none k m g) (S : Sim b.ab nms sz sp D Hs) : ∃ h, HorIs b.s.ring b.s.next b.ls b.c h ∧ 0 ≤ h ∧ h < b.s.ring ∧ (b.s.next - h) % b.s.ring = mx (Hs.map (·.2)) := by
  have er : b.s.ring = sz := S.r
  have hst := S.hst
  have hzs := S.zs
  obtain ⟨h, h1, h2, h3⟩ := hor_ex o (fun e he => by have := hst e he; rw [er]; show (b.ab.next - e.2) % (sz : Int) < _; omega)
  have hz : (b.s.next - b.s.next) % (sz : Int) = 0 := by rw [Int.sub_self, Int.zero_emod]
  refine ⟨h, h1, ?_⟩
  rw [er] at h3 ⊢
  have hc : b.hs.map (fun e => (b.s.next - e.2) % (sz : Int)) = Hs.map fun h => (h.2 : Int) := S.hc
  have hup : (mx (Hs.map (·.2)) : Int) ≤ (b.s.next - h) % (sz : Int) := by
    by_cases q : Hs.map (·.2) = []
    · rw [q]
      exact Int.emod_nonneg _ (by have := S.z8; omega)
    · obtain ⟨x, hx, e⟩ := List.mem_map.mp (mx_mem q)
      have hx2 : (x.2 : Int) ∈ b.hs.map (fun e => (b.s.next - e.2) % (sz : Int)) := by rw [hc]; exact List.mem_map.mpr ⟨x, hx, rfl⟩
      obtain ⟨y, hy, e2⟩ := List.mem_map.mp hx2
      have := h3 y.2 (List.mem_map_of_mem hy)
      omega
  rcases h2 with rfl | h2
  · refine ⟨o.nx0, er ▸ o.nx1, ?_⟩
    rw [hz] at hup ⊢
    omega
  · obtain ⟨y, hy, rfl⟩ := List.mem_map.mp h2
    obtain ⟨l1, l2⟩ := S.hl y hy
    refine ⟨l1, l2, ?_⟩
    have hx2 : (b.s.next - y.2) % (sz : Int) ∈ Hs.map fun h => (h.2 : Int) := by rw [← hc]; exact List.mem_map.mpr ⟨y, hy, rfl⟩
    obtain ⟨x, hx, e2⟩ := List.mem_map.mp hx2
    have := mx_ge (List.mem_map_of_mem (f := fun h : Nat × Nat => h.2) hx)
    omega
def frzD (D : List Nat) (Hs : List (Nat × Nat)) (pace k : Nat) : List Nat := if 0 < k ∧ k % pace = 0 then D.set ((k / pace - 1) % D.length) (mx (Hs.map (·.2))) else D
theorem ltr_at {i : Nat} (h : i < 26) : atI (Str.ofString "abcdefghijklmnopqrstuvwxyz").cps.toList (i : Int) = some (ltr i) := by
  refine atI_nat ?_
  have hl : i < RX.lets.length := by rw [RX.lets_len]; exact h
  show RX.lets[i]? = some (RX.lets.getD i 0)
  rw [List.getD, List.getElem?_eq_getElem hl]; rfl
theorem abc_at {j : Int} (h0 : 0 ≤ j) (h3 : j < 3) : ∃ c, atI (Str.ofString "abc").cps.toList j = some c ∧ isW ⟨#[c]⟩ = true ∧ (⟨#[c]⟩ : Str).length ≤ 100 ∧ PyData.strOk ⟨#[c]⟩ = true := by
  have : j = 0 ∨ j = 1 ∨ j = 2 := by omega
  rcases this with rfl | rfl | rfl
  · exact ⟨97, by decide +kernel, by decide +kernel, by decide +kernel, by decide +kernel⟩
  · exact ⟨98, by decide +kernel, by decide +kernel, by decide +kernel, by decide +kernel⟩
  · exact ⟨99, by decide +kernel, by decide +kernel, by decide +kernel, by decide +kernel⟩
theorem putd_ab {K : PySem.W.Frag} {H : Hp} {a : Addr} {b : Bk} {d : Lk} {k m g : Nat} (h : b.At K H a) (o : b.Ok (some d) k m g) (n : Str) (vs : List (Addr × Ver)) (log : List V) : ((b.numd d).tab n vs log).ab = { b.ab with next := (b.s.next + 1) % b.s.ring } := by
  have e : ((b.numd d).tab n vs log).hs = b.hs := Bk.rep_ab h o { d.f with num := some b.s.next }
  unfold Bk.ab
  rw [e]
  show (⟨_, _, _, tbE (tbV b.ts n vs), _⟩ : Ab) = _
  rw [tbV_E]
  rfl
theorem tb_at {b : Bk} {nms : List Str} {i : Nat} {n : Str} (h : b.ab.el.map (·.1) = nms) (hi : nms[i]? = some n) : ∃ t ∈ b.ts, t.n = n := by
  have e : b.ab.el.map (·.1) = b.ts.map (·.n) := by show (tbE b.ts).map _ = _; unfold tbE; rw [List.map_map]; rfl
  rw [← h, e, List.getElem?_map] at hi
  obtain ⟨t, ht, q⟩ := Option.map_eq_some_iff.mp hi
  exact ⟨t, List.mem_of_getElem? ht, q⟩
section
variable {P : Program} {w : World} {K : PySem.W.Frag} {mg : Str → Option Value} {base : Heap}
def sp_worst (K : PySem.W.Frag) : Sp := fun vs H Q _ => ∃ (t e l : Int), vs = [.int t, .int e, .int l] ∧ 0 ≤ t ∧ t < 1000 ∧ Q (.int (t * e + l)) H
theorem sc_worst : FnScope ["tables", "every", "longest"] ["tables", "every", "longest"] (defScope s_worst) := ⟨rfl, rfl, rfl, by decide +kernel, rfl, by decide +kernel, by decide +kernel⟩
theorem ok_worst {fd : FuncData} (T : Txt K mg) (F : FnD K d_worst fd) : FnOk P w K mg base CX0 1 (He.fAd K d_worst.at_) fd ["tables", "every", "longest"] (sp_worst K) := by
  refine F.ok sc_worst (fun vs H Q E h => ?_) (fun cdv A outer s H vs Q E hr h => ?_)
  · obtain ⟨t, e, l, rfl, _⟩ := h; rfl
  · obtain ⟨t, e, l, rfl, h0, ht, k⟩ := h
    refine ⟨_, (PSs.nox (pss_one (ps_ret (pe_op op_add (pe_op op_mul (pv 0) (pv 1)) (pv 2))))), ?_⟩
    walk_at "go"
    exact k
def sp__law_house (K : PySem.W.Frag) : Sp := fun vs H Q _ => ∃ (k : Nat), vs = [.int k] ∧ Q (.str (hname k)) H
theorem sc__law_house : FnScope ["_law_k"] ["_law_k"] (defScope s__law_house) := ⟨rfl, rfl, rfl, by decide +kernel, rfl, by decide +kernel, by decide +kernel⟩
theorem ok__law_house {fd : FuncData} (T : Txt K mg) (F : FnD K d__law_house fd) : FnOk P w K mg base CX0 1 (He.fAd K d__law_house.at_) fd ["_law_k"] (sp__law_house K) := by
  refine F.ok sc__law_house (fun vs H Q E h => ?_) (fun cdv A outer s H vs Q E hr h => ?_)
  · obtain ⟨k, rfl, _⟩ := h; rfl
  · obtain ⟨k, rfl, kq⟩ := h
    refine ⟨_, (PSs.nox (pss_one (ps_ret (pe_op op_add_str (pe_op op_add_str pe_str (pe_ix ix_str pe_str (pe_op op_mod (pv 0) pe_int) (fun _ _ => rfl))) (pe_ix ix_str pe_str (pe_op op_mod (pe_op op_fdiv (pv 0) pe_int) pe_int) (fun _ _ => rfl)))))), ?_⟩
    walk_at "go"
    refine ⟨ltr_at (i := k % 26) (Nat.mod_lt _ (by decide)), ?_⟩
    walk_at "go"
    refine ⟨ltr_at (i := k / 26 % 26) (Nat.mod_lt _ (by decide)), ?_⟩
    walk_at "go"

    exact kq
def sp__law_freezing (K : PySem.W.Frag) : Sp := fun vs H Q _ => ∃ (a tp : Addr) (b : Bk) (kk m g : Nat) (nms : List Str) (sz sp : Nat) (D : List Nat) (Hs : List (Nat × Nat)) (pace k : Nat), vs = [.ref a, .ref tp, .int pace, .int k] ∧ b.At K H a ∧ b.Ok none kk m g ∧ kk < 900 ∧ m < 900 ∧ g < 1000000 ∧ SqT K H tp (nms.map V.str) ∧ Sim b.ab nms sz sp D Hs ∧ 0 < pace ∧ pace < 1000 ∧ sz ≤ 1000 ∧
  ∀ H' b', Far b H H' → Kin b b' → b'.At K H' a → b'.Ok none kk m (g + kk + 1) → Sim b'.ab nms sz sp (frzD D Hs pace k) Hs → Q .non H'
theorem sc__law_freezing : FnScope ["_law_store", "_law_tables", "_law_pace", "_law_k"] ["_law_store", "_law_tables", "_law_pace", "_law_k"] (defScope s__law_freezing) := ⟨rfl, rfl, rfl, by decide +kernel, rfl, by decide +kernel, by decide +kernel⟩
theorem ok__law_freezing {fd : FuncData} (T : Txt K mg) (F : FnD K d__law_freezing fd) : FnOk P w K mg base CX0 8 (He.fAd K d__law_freezing.at_) fd ["_law_store", "_law_tables", "_law_pace", "_law_k"] (sp__law_freezing K) := by
  obtain ⟨fd_Freezing_freeze, F_Freezing_freeze⟩ := T.fn 81 (d := d_Freezing_freeze)
  have G_Freezing_freeze := ok_Freezing_freeze (P := P) (w := w) (base := base) T F_Freezing_freeze
  obtain ⟨mv_B_Freezing_freeze_2, B_Freezing_freeze_2⟩ := RX.kbm (ps := ["self", "table", "upto", "most", "each"]) F_Freezing_freeze 2 [] [("upto", V.non), ("most", V.non), ("each", V.non)] (by simp [DefD.kws, d_Freezing_freeze, Dv.v]) (by simp [DefD.kws, d_Freezing_freeze]) (fun us mv ws => us ++ (RX.at1 mv 0 ++ (RX.at1 mv 1 ++ (RX.at1 mv 2)))) (fun a m z => a.append ((RX.at1_vals m 0).append ((RX.at1_vals m 1).append (RX.at1_vals m 2)))) (fun D doc pm an cdv ct us mv ws h1 h2 h3 => match us, mv, ws, h1, h2, h3 with | [_, _], [_, _, _], [], _, _, _ => ⟨_, _, _, _, _, _, rfl, rfl, _, _, _, _, _, _, rfl, rfl, _, _, _, _, _, _, rfl, rfl, rfl⟩)
  refine F.ok sc__law_freezing (fun vs H Q E h => ?_) (fun cdv A outer s H vs Q E hr h => ?_)
  · obtain ⟨a, tp, b, kk, m, g, nms, sz, sp, D, Hs, pace, k, rfl, _⟩ := h; rfl
  · obtain ⟨a, tp, b, kk, m, g, nms, sz, sp, D, Hs, pace, kn, rfl, hb, ho, hk, hm, hg, htp, S, hp0, hp9, hz9, k⟩ := h
    refine ⟨_, (PSs.nox (pss_one (ps_if (PW.pt (pw_and (pt_cmpR op_gt (pv 3) pe_int (nomark _)) (pw_and1 (pt_cmpR op_eq (pe_op op_mod (pv 3) (pv 2)) pe_int (nomark _))))) (pss_one (ps_expr (RX.pe_ms (pv 0) T.clStore (T.mt 116) G_Freezing_freeze (hr.mono (by decide)) B_Freezing_freeze_2 RX.passS0 (pa_cons (pe_ix ix_tup (pv 1) (pe_op op_mod (pe_op op_sub (pe_op op_fdiv (pv 3) (pv 2)) pe_int) (pe_callB call_len_seq (by rfl) (T.fre 44) (by decide +kernel) (pa_cons (pv 1) pa_nil))) (fun _ _ => rfl)) pa_nil) pk_nil))) pss_nil))), ?_⟩
    have hp0' : (0 : Int) < (pace : Int) := by omega
    have hp9' : (pace : Int) < 1000 := by omega
    obtain ⟨hl1, hl2⟩ := S.len
    have hn0 : 0 < nms.length := by rw [← hl1]; exact List.length_pos_iff.mpr S.ne
    have hn0' : (0 : Int) < ((nms.map V.str).length : Int) := by rw [List.length_map]; omega
    have hno : frzD D Hs pace kn = D → Q .non H := fun e => k H b (Far.of (Same.refl _)) (Kin.refl _) hb (ho.mono (Nat.le_refl _) (Nat.le_refl _) (by omega)) (by rw [e]; exact S)
    walk_at "go"
    refine RX.iteB (fun hc => ?_) (fun hc => ?_)
    · have hk0 : 0 < kn := by have := of_decide_eq_true hc; omega
      walk_at "go"
      refine RX.iteB (fun hc2 => ?_) (fun hc2 => ?_)
      · have hm0 : kn % pace = 0 := by
          have := of_decide_eq_true hc2
          injection this with h
          omega
        have hq : 1 ≤ kn / pace := by
          have := Nat.div_add_mod kn pace
          rw [hm0] at this
          exact Nat.pos_of_ne_zero fun z => by rw [z] at this; omega
        obtain ⟨i, hi⟩ : ∃ i, i = (kn / pace - 1) % nms.length := ⟨_, rfl⟩
        have hil : i < nms.length := hi ▸ Nat.mod_lt _ hn0
        have hni : nms[i]? = some nms[i] := List.getElem?_eq_getElem hil
        obtain ⟨t, ht, htn⟩ := tb_at S.nm hni
        obtain ⟨hor, hh, u0, u1, hst⟩ := S.hor ho
        have er : b.s.ring = sz := S.r
        have hdi : ∃ d ∈ D, (b.s.next - t.e) % b.s.ring = (d : Int) := by
          have h1 : (b.ab.next - t.e) % (sz : Int) ∈ b.ab.el.map (fun e => (b.ab.next - e.2) % (sz : Int)) := by
            show _ ∈ (tbE b.ts).map _
            unfold tbE
            rw [List.map_map]
            exact List.mem_map.mpr ⟨t, ht, rfl⟩
          rw [S.d] at h1
          obtain ⟨d, hd, q⟩ := List.mem_map.mp h1
          exact ⟨d, hd, by rw [er]; exact q.symm⟩
        obtain ⟨d, hd, hde⟩ := hdi
        have hle : mx (Hs.map (·.2)) ≤ d := mx_le fun x hx => by obtain ⟨y, hy, rfl⟩ := List.mem_map.mp hx; exact S.hd y hy d hd
        have h0 : (0 : Int) < b.s.ring := by have := ho.r8; omega
        have hue : (hor - t.e) % b.s.ring ≤ (b.s.next - t.e) % b.s.ring := by
          have e1 : (hor - t.e) % b.s.ring = ((b.s.next - t.e) % b.s.ring - (b.s.next - hor) % b.s.ring) % b.s.ring := by rw [← Int.sub_emod]; congr 1; omega
          have h9 := Int.emod_lt_of_pos (b.s.next - t.e) h0
          rw [e1, hde, hst]
          rw [hde] at h9
          rw [Int.emod_eq_of_lt (by omega) (by omega)]
          omega
        have ha := hb.st
        have hut : Upt b t hor hor := ⟨hh, u0, u1, hue, Int.le_refl _⟩
        have hix : ((kn : Int) / (pace : Int) - 1) % ((nms.map V.str).length : Int) = (i : Int) := by
          rw [List.length_map, hi, Int.natCast_emod, Int.natCast_sub hq, Int.natCast_ediv]; rfl
        have hat : atI (nms.map V.str) (((kn : Int) / (pace : Int) - 1) % ((nms.map V.str).length : Int)) = some (.str t.n) := by
          rw [hix, htn]
          exact atI_nat (by rw [List.getElem?_map, hni]; rfl)
        walk_at "go"
        refine ⟨.inr ⟨rfl, rfl⟩, fun H' v b' hA hO habq hF hK => ?_⟩
        refine k H' b' hF hK hA hO ?_
        rw [habq, htn]
        unfold frzD
        rw [if_pos ⟨hk0, hm0⟩, hl1, ← hi]
        exact S.freeze hni (by rw [← er]; exact hst)
      · walk_at "go"
        refine hno ?_
        unfold frzD
        rw [if_neg]
        intro ⟨_, h2⟩
        have := of_decide_eq_false hc2
        exact this (by show V.int _ = V.int _; congr 1; omega)
    · walk_at "go"
      refine hno ?_
      unfold frzD
      rw [if_neg]
      intro ⟨h1, _⟩
      have := of_decide_eq_false hc
      omega
def sp__law_given (K : PySem.W.Frag) : Sp := fun vs H Q _ => ∃ (a tp : Addr) (b : Bk) (kk m g : Nat) (nms : List Str) (sz sp : Nat) (D : List Nat) (Hs : List (Nat × Nat)) (k : Nat), vs = [.ref a, .ref tp, .int k] ∧ b.At K H a ∧ b.Ok none kk m g ∧ kk < 700 ∧ m < 700 ∧ g < 1000000 ∧ SqT K H tp (nms.map V.str) ∧ Sim b.ab nms sz sp D Hs ∧ k < 1000 ∧ sz ≤ 1000 ∧
  (mx D = sp → ∀ H', Far b H H' → Q (.bl false) H') ∧
  (mx D < sp → ∀ H' b', Far b H H' → Kin b b' → b'.At K H' a → b'.Ok none (kk + 1) (m + 1) (g + 3) → Sim b'.ab nms sz sp (D.map (· + 1)) (Hs.map fun h => (h.1, h.2 + 1)) → Q (.bl true) H')
theorem sc__law_given : FnScope ["_law_store", "_law_tables", "_law_k"] ["_law_store", "_law_tables", "_law_k"] (defScope s__law_given) := ⟨rfl, rfl, rfl, by decide +kernel, rfl, by decide +kernel, by decide +kernel⟩
theorem ok__law_given {fd : FuncData} (T : Txt K mg) (F : FnD K d__law_given fd) : FnOk P w K mg base CX0 9 (He.fAd K d__law_given.at_) fd ["_law_store", "_law_tables", "_law_k"] (sp__law_given K) := by
  obtain ⟨fd_Deeds_begin, F_Deeds_begin⟩ := T.fn 53 (d := d_Deeds_begin)
  have G_Deeds_begin := okB_Deeds_begin (P := P) (w := w) (base := base) T F_Deeds_begin
  have B_Deeds_begin_2 : KBn K fd_Deeds_begin ["self", "name"] 2 [] (fun us ws => us ++ ws) (fun us ws => us ++ ws) := RX.kb0 F_Deeds_begin 2 [] (fun us ws => us ++ ws) (fun a b => a.append b) (fun _ _ _ _ _ _ us ws h1 h2 => match us, ws, h1, h2 with | [_, _], [], _, _ => rfl)
  obtain ⟨fd_Deeds_put, F_Deeds_put⟩ := T.fn 62 (d := d_Deeds_put)
  have G_Deeds_put := ok_Deeds_put (P := P) (w := w) (base := base) T F_Deeds_put
  have B_Deeds_put_5 : KBn K fd_Deeds_put ["self", "name", "table", "key", "worth"] 5 [] (fun us ws => us ++ ws) (fun us ws => us ++ ws) := RX.kb0 F_Deeds_put 5 [] (fun us ws => us ++ ws) (fun a b => a.append b) (fun _ _ _ _ _ _ us ws h1 h2 => match us, ws, h1, h2 with | [_, _, _, _, _], [], _, _ => rfl)
  obtain ⟨fd_Deeds_fell, F_Deeds_fell⟩ := T.fn 66 (d := d_Deeds_fell)
  have G_Deeds_fell := ok_Deeds_fell (P := P) (w := w) (base := base) T F_Deeds_fell
  have B_Deeds_fell_2 : KBn K fd_Deeds_fell ["self", "name"] 2 [] (fun us ws => us ++ ws) (fun us ws => us ++ ws) := RX.kb0 F_Deeds_fell 2 [] (fun us ws => us ++ ws) (fun a b => a.append b) (fun _ _ _ _ _ _ us ws h1 h2 => match us, ws, h1, h2 with | [_, _], [], _, _ => rfl)
  obtain ⟨fd_Deeds_done, F_Deeds_done⟩ := T.fn 65 (d := d_Deeds_done)
  have G_Deeds_done := okB_Deeds_done (P := P) (w := w) (base := base) T F_Deeds_done
  have B_Deeds_done_2 : KBn K fd_Deeds_done ["self", "name"] 2 [] (fun us ws => us ++ ws) (fun us ws => us ++ ws) := RX.kb0 F_Deeds_done 2 [] (fun us ws => us ++ ws) (fun a b => a.append b) (fun _ _ _ _ _ _ us ws h1 h2 => match us, ws, h1, h2 with | [_, _], [], _, _ => rfl)
  refine F.ok sc__law_given (fun vs H Q E h => ?_) (fun cdv A outer s H vs Q E hr h => ?_)
  · obtain ⟨a, tp, b, kk, m, g, nms, sz, sp, D, Hs, k, rfl, _⟩ := h; rfl
  · obtain ⟨a, tp, b, kk, m, g, nms, sz, sp, D, Hs, kn, rfl, hb, ho, hk, hm, hg, htp, S, hk9, hz9, k1, k2⟩ := h
    refine ⟨_, (PSs.nox (pss_cons (ps_expr (RX.pe_ms (pv 0) T.clStore (T.mt 131) G_Deeds_begin (hr.mono (by decide)) B_Deeds_begin_2 RX.passS0 (pa_cons pe_str pa_nil) pk_nil)) (pss_cons (L2N.ps_try_many (Wout := fun _ _ _ _ => False) rfl rfl RX.takes_noneN (fun W pn xe tk1 po1 => (pss_one (ps_expr (RX.pe_ms (pv 0) T.clStore (T.mt 140) G_Deeds_put (hr.mono (by decide)) B_Deeds_put_5 (L2N.passAt tk1) (pa_cons pe_str (pa_cons (pe_ix (ix_tup : IxR _ (rIxT K)) (pv 1) (pe_op op_mod (pv 2) (pe_callB (call_len_seq : CallR _ _ (RX.rLenQ K)) (by rfl) (T.fre 44) (by decide +kernel) (pa_cons (pv 1) pa_nil))) (fun _ _ => rfl)) (pa_cons (pe_ix ix_str pe_str (pe_op op_mod (pv 2) pe_int) (fun _ _ => rfl)) (pa_cons (pv 2) pa_nil)))) pk_nil)))) (L2N.HdsOk.cons (c := .ref (ga K "Stopped")) ⟨rfl, by decide, .inl (T.glo 39)⟩ (fun a oe cls d pn hz hv => pss_cons (ps_expr (RX.pe_msH (RXe.hotc hz hv) (pv 0) T.clStore (T.mt 144) G_Deeds_fell (RX.roomSuite hr (by decide)) B_Deeds_fell_2 RX.passS0 (pa_cons pe_str pa_nil) pk_nil)) (pss_one (ps_ret pe_bl))) L2N.HdsOk.nil)) (pss_cons (ps_expr (RX.pe_ms (pv 0) T.clStore (T.mt 143) G_Deeds_done (hr.mono (by decide)) B_Deeds_done_2 RX.passS0 (pa_cons pe_str pa_nil) pk_nil)) (pss_one (ps_ret pe_bl)))))), ?_⟩
    obtain ⟨hl1, hl2⟩ := S.len
    have hn0 : 0 < nms.length := by rw [← hl1]; exact List.length_pos_iff.mpr S.ne
    have hn0' : (0 : Int) < ((nms.map V.str).length : Int) := by rw [List.length_map]; omega
    have h30 : (0 : Int) < 3 := by decide
    obtain ⟨i, hi⟩ : ∃ i, i = kn % nms.length := ⟨_, rfl⟩
    have hil : i < nms.length := hi ▸ Nat.mod_lt _ hn0
    have hni : nms[i]? = some nms[i] := List.getElem?_eq_getElem hil
    have ha := hb.st
    have hm9 : m < 900 := by omega
    have hg9 : g < 10000000 := by omega
    walk_at "go"
    rename_i H2 b2 d fa2 ki2 hb2 ho2 hnum2 hc2 hab2 hts2
    have ha2 := hb2.st
    have S2 : Sim b2.ab nms sz sp D Hs := hab2 ▸ S
    obtain ⟨t2, ht2m, htn2⟩ := tb_at S2.nm hni
    have htp2 := fa2.sqT htp
    have hix : (kn : Int) % ((nms.map V.str).length : Int) = (i : Int) := by
      rw [List.length_map, hi, Int.natCast_emod]
    have hat : atI (nms.map V.str) ((kn : Int) % ((nms.map V.str).length : Int)) = some (.str t2.n) := by
      rw [hix, htn2]
      exact atI_nat (by rw [List.getElem?_map, hni]; rfl)
    obtain ⟨ch, hch, hcw, hcl, hcs⟩ := abc_at (j := (kn : Int) % 3) (Int.emod_nonneg _ (by decide)) (Int.emod_lt_of_pos _ (by decide))
    obtain ⟨f, hfl2, hfs⟩ := ho2.floor
    have hst := S2.floor hfl2
    have hk8 : kk < 800 := by omega
    have hm8 : m + 1 < 800 := by omega
    have hg8 : g + 1 < 10000000 := by omega
    have hi0 : (0 : Int) ≤ (kn : Int) := by omega
    have hi9 : (kn : Int) < 1000000000 := by omega
    have es2 : b2.s.stop = (sp : Int) := S2.s
    have hst2 : (b2.s.next - f) % b2.s.ring = (mx D : Int) := hst
    have hDle : mx D ≤ sp := mx_le S.le
    walk_at "go"
    have hr2 : b2.s.stop - (b2.s.next - f) % b2.s.ring = (sp : Int) - mx D := by rw [hst2, es2]
    refine ⟨fun hc0 H3 x e3 => ?_, fun hc0 H3 vs' log' hb3 ho3 hf3 => ?_⟩
    · refine ⟨true, T.exm, fun _ y hy => ?_, fun z => nomatch z⟩
      rw [hr2] at hc0
      have hf9 : Far b H H3 := fa2.trans (Far.of e3)
      have hb3 := hb2.same e3
      have ha3 := hb3.st
      walk_at "go"
      rename_i H4 hf4
      show Q (.bl false) H4
      exact k1 (by omega) _ (hf9.trans (hf4.kin ki2))
    · rw [hr2] at hc0
      have ha3 := hb3.st
      have hg3 : g + 1 + 1 < 10000000 := by omega
      have hfa3 := hf3
      walk_at "go"
      rename_i H4 b4 hb4 ho4 hab4 hts4 hf4 hk4
      have kp : Kin b2 ((b2.numd d).tab t2.n vs' log') := ⟨rfl, by show (tbV b2.ts t2.n vs').map (fun t : Tb => t.a) = _; rw [tbV_a]⟩
      have k03 := ki2.trans kp
      refine k2 (by omega) H4 b4 (fa2.trans ((hf3.kin ki2).trans (hf4.kin k03))) (k03.trans hk4) hb4 (ho4.mono (by omega) (by omega) (by omega)) ?_
      rw [hab4, putd_ab hb2 ho2]
      exact S2.give (by omega)
end
def letF (back k : Nat) : List (Nat × Nat) → List (Nat × Nat)
  | [] => []
  | h :: r => if h.1 + back ≤ k then r else h :: r
theorem letF_sub {back k : Nat} : ∀ {Hs : List (Nat × Nat)} {h : Nat × Nat}, h ∈ letF back k Hs → h ∈ Hs
  | [], h, q => by cases q
  | x :: r, h, q => by
    simp only [letF] at q
    split at q
    · exact List.mem_cons_of_mem _ q
    · exact q
def holdF (back pace k : Nat) (Hs : List (Nat × Nat)) : List (Nat × Nat) := if (k + back) % pace = 0 then Hs ++ [(k, 0)] else Hs
def upH (Hs : List (Nat × Nat)) : List (Nat × Nat) := Hs.map fun h => (h.1, h.2 + 1)
/-- how a store goes: most steps, whether it was refused -/
def gf (back pace sp : Nat) : Nat → Nat → Nat → List Nat → List (Nat × Nat) → Nat × Bool
  | 0, _, far, _, _ => (far, false)
  | n + 1, k, far, D, Hs =>
    if mx (frzD D Hs pace k) = sp then (max far (mx D), true) else
      gf back pace sp n (k + 1) (max far (mx D)) ((frzD D Hs pace k).map (· + 1)) (upH (holdF back pace k (letF back k Hs)))
theorem drop_join {A : TE} {D : Ends} {σ : L2.St} {b : Bool} {H1 : Hp} {Pp : Hp → Prop} (key : ∀ H2, Pp H2 → D.nx σ H2) (h1 : b = true → ∀ Kk : VK, (∀ v H2, Pp H2 → Kk v H2) → A σ H1 Kk) (h2 : b = false → Pp H1) :
    (fun b H1 => if b = true then tDrop A D σ H1 else tNext D σ H1) b H1 := by
  cases b
  · exact key _ (h2 rfl)
  · exact h1 rfl _ fun _ => key
theorem and_drop_join {TW : (Bool → Hp → Prop) → Prop} {A : TE} {D : Ends} {σ : L2.St} {c : Bool} {H1 : Hp} {Pp : Hp → Prop} (key : ∀ H2, Pp H2 → D.nx σ H2)
    (h1 : c = true → ∀ Kb : Bool → Hp → Prop, (∀ H2, (∀ Kk : VK, (∀ v H3, Pp H3 → Kk v H3) → A σ H2 Kk) → Kb true H2) → (∀ H2, Pp H2 → Kb false H2) → TW Kb) (h2 : c = false → Pp H1) :
    if c = true then TW (fun b H1 => if b = true then tDrop A D σ H1 else tNext D σ H1) else (fun b H1 => if b = true then tDrop A D σ H1 else tNext D σ H1) false H1 := by
  cases c
  · exact key _ (h2 rfl)
  · exact h1 rfl _ (fun H2 hA => hA _ fun _ => key) fun H2 hp => key _ hp
def nV (l : List Nat) : List V := l.map fun n : Nat => V.int (n : Int)
theorem nV_eq (l : List Nat) : nV l = (l.map fun n : Nat => (n : Int)).map V.int := by unfold nV; rw [List.map_map]; rfl
/-- a store that goes, its houses' list beside it -/
structure GSt (K : PySem.W.Frag) (H : Hp) (a R : Addr) (b : Bk) (nms : List Str) (sz sp k m g : Nat) (b1 : Bk) (D : List Nat) (Hs : List (Nat × Nat)) (L : List Nat) (H' : Hp) : Prop where
  fa : Far b H H'
  ki : Kin b b1
  at_ : b1.At K H' a
  ok : b1.Ok none k m g
  S : Sim b1.ab nms sz sp D Hs
  lR : H' R = some (.lst (nV L))
  nG : R ≠ b.s.aG
  nT : R ∉ b.ts.map (·.a)
  nH : H R = none
section
variable {K : PySem.W.Frag} {H H' H2 : Hp} {a R : Addr} {b b1 b2 : Bk} {nms : List Str} {sz sp k m g k' m' g' : Nat} {D D2 : List Nat} {Hs Hs2 : List (Nat × Nat)} {L L2 : List Nat}
theorem GSt.same (s : GSt K H a R b nms sz sp k m g b1 D Hs L H') (e : Same H' H2) : GSt K H a R b nms sz sp k m g b1 D Hs L H2 :=
  { s with fa := s.fa.trans (Far.of e), at_ := s.at_.same e, lR := e _ _ s.lR }
theorem GSt.go (s : GSt K H a R b nms sz sp k m g b1 D Hs L H') (f : Far b1 H' H2) (ki : Kin b1 b2) (h : b2.At K H2 a) (o : b2.Ok none k' m' g') (S : Sim b2.ab nms sz sp D2 Hs2) : GSt K H a R b nms sz sp k' m' g' b2 D2 Hs2 L H2 :=
  { fa := s.fa.trans (f.kin s.ki), ki := s.ki.trans ki, at_ := h, ok := o, S := S, lR := f _ _ (.inr ⟨⟨_, rfl⟩, by rw [s.ki.g]; exact s.nG, by rw [s.ki.t]; exact s.nT⟩) s.lR, nG := s.nG, nT := s.nT, nH := s.nH }
theorem GSt.lst (s : GSt K H a R b nms sz sp k m g b1 D Hs L H') : GSt K H a R b nms sz sp k m g b1 D Hs L2 (upd H' R (.lst (nV L2))) :=
  { s with fa := fun x o f q => by rw [upd_ne (ne_of_none q s.nH)]; exact s.fa x o f q, at_ := s.at_.other s.lR (by rw [s.ki.g]; exact s.nG) (by rw [s.ki.t]; exact s.nT) (fun x o n q => by rw [upd_ne n]; exact q), lR := upd_same }
theorem GSt.mono (s : GSt K H a R b nms sz sp k m g b1 D Hs L H') (h1 : k ≤ k') (h2 : m ≤ m') (h3 : g ≤ g') : GSt K H a R b nms sz sp k' m' g' b1 D Hs L H' := { s with ok := s.ok.mono h1 h2 h3 }
end
section
variable {P : Program} {w : World} {K : PySem.W.Frag} {mg : Str → Option Value} {base : Heap}
def sp__law_gone_far (K : PySem.W.Frag) : Sp := fun vs H Q _ => ∃ (a tp : Addr) (b : Bk) (nms : List Str) (sz sp pace back many : Nat) (D : List Nat) (mk : Int), vs = [.ref a, .ref tp, .int pace, .int back, .int many, .int mk] ∧ b.At K H a ∧ b.Ok none 0 0 0 ∧ SqT K H tp (nms.map V.str) ∧ Sim b.ab nms sz sp D [] ∧ mk = (sp : Int) ∧ 0 < pace ∧ pace < 1000 ∧ back < 1000 ∧ many ≤ 150 ∧ sz ≤ 1000 ∧
  ∀ H' r, Far b H H' → H' r = some (.tup [.int (gf back pace sp many 0 0 D []).1, .bl (gf back pace sp many 0 0 D []).2]) → Q (.ref r) H'
theorem sc__law_gone_far : FnScope ["_law_store", "_law_tables", "_law_pace", "_law_back", "_law_many", "_law_mark", "_law_far", "_law_held", "_law_k"] ["_law_store", "_law_tables", "_law_pace", "_law_back", "_law_many", "_law_mark"] (defScope s__law_gone_far) := ⟨rfl, rfl, rfl, by decide +kernel, rfl, by decide +kernel, by decide +kernel⟩
theorem ok__law_gone_far {fd : FuncData} (T : Txt K mg) (F : FnD K d__law_gone_far fd) : FnOk P w K mg base CX0 10 (He.fAd K d__law_gone_far.at_) fd ["_law_store", "_law_tables", "_law_pace", "_law_back", "_law_many", "_law_mark"] (sp__law_gone_far K) := by
  obtain ⟨fd_Freezing_room, F_Freezing_room⟩ := T.fn 73 (d := d_Freezing_room)
  have G_Freezing_room := ok_Freezing_room (P := P) (w := w) (base := base) T F_Freezing_room
  have B_Freezing_room_1 : KBn K fd_Freezing_room ["self"] 1 [] (fun us ws => us ++ ws) (fun us ws => us ++ ws) := RX.kb0 F_Freezing_room 1 [] (fun us ws => us ++ ws) (fun a b => a.append b) (fun _ _ _ _ _ _ us ws h1 h2 => match us, ws, h1, h2 with | [_], [], _, _ => rfl)
  obtain ⟨fd__law_freezing, F__law_freezing⟩ := T.fn 23 (d := d__law_freezing)
  have G__law_freezing := ok__law_freezing (P := P) (w := w) (base := base) T F__law_freezing
  have B__law_freezing_4 : KBn K fd__law_freezing ["_law_store", "_law_tables", "_law_pace", "_law_k"] 4 [] (fun us ws => us ++ ws) (fun us ws => us ++ ws) := RX.kb0 F__law_freezing 4 [] (fun us ws => us ++ ws) (fun a b => a.append b) (fun _ _ _ _ _ _ us ws h1 h2 => match us, ws, h1, h2 with | [_, _, _, _], [], _, _ => rfl)
  obtain ⟨fd_Freezing_let, F_Freezing_let⟩ := T.fn 83 (d := d_Freezing_let)
  have G_Freezing_let := okB_Freezing_let (P := P) (w := w) (base := base) T F_Freezing_let
  have B_Freezing_let_2 : KBn K fd_Freezing_let ["self", "name"] 2 [] (fun us ws => us ++ ws) (fun us ws => us ++ ws) := RX.kb0 F_Freezing_let 2 [] (fun us ws => us ++ ws) (fun a b => a.append b) (fun _ _ _ _ _ _ us ws h1 h2 => match us, ws, h1, h2 with | [_, _], [], _, _ => rfl)
  obtain ⟨fd__law_house, F__law_house⟩ := T.fn 22 (d := d__law_house)
  have G__law_house := ok__law_house (P := P) (w := w) (base := base) T F__law_house
  have B__law_house_1 : KBn K fd__law_house ["_law_k"] 1 [] (fun us ws => us ++ ws) (fun us ws => us ++ ws) := RX.kb0 F__law_house 1 [] (fun us ws => us ++ ws) (fun a b => a.append b) (fun _ _ _ _ _ _ us ws h1 h2 => match us, ws, h1, h2 with | [_], [], _, _ => rfl)
  obtain ⟨fd_Freezing_hold, F_Freezing_hold⟩ := T.fn 82 (d := d_Freezing_hold)
  have G_Freezing_hold := okB_Freezing_hold (P := P) (w := w) (base := base) T F_Freezing_hold
  obtain ⟨mv_B_Freezing_hold_2, B_Freezing_hold_2⟩ := RX.kbm (ps := ["self", "name", "like"]) F_Freezing_hold 2 [] [("like", V.non)] (by simp [DefD.kws, d_Freezing_hold, Dv.v]) (by simp [DefD.kws, d_Freezing_hold]) (fun us mv ws => us ++ (RX.at1 mv 0)) (fun a m z => a.append (RX.at1_vals m 0)) (fun D doc pm an cdv ct us mv ws h1 h2 h3 => match us, mv, ws, h1, h2, h3 with | [_, _], [_], [], _, _, _ => ⟨_, _, _, _, _, _, rfl, rfl, rfl⟩)
  obtain ⟨fd__law_given, F__law_given⟩ := T.fn 21 (d := d__law_given)
  have G__law_given := ok__law_given (P := P) (w := w) (base := base) T F__law_given
  have B__law_given_3 : KBn K fd__law_given ["_law_store", "_law_tables", "_law_k"] 3 [] (fun us ws => us ++ ws) (fun us ws => us ++ ws) := RX.kb0 F__law_given 3 [] (fun us ws => us ++ ws) (fun a b => a.append b) (fun _ _ _ _ _ _ us ws h1 h2 => match us, ws, h1, h2 with | [_, _, _], [], _, _ => rfl)
  refine F.ok sc__law_gone_far (fun vs H Q E h => ?_) (fun cdv A outer s H vs Q E hr h => ?_)
  · obtain ⟨a, tp, b, nms, sz, sp, pace, back, many, D, mk, rfl, _⟩ := h; rfl
  · obtain ⟨a, tp, b, nms, sz, sp, pace, back, many, D, mk, rfl, hb, ho, htp, S, rfl, hp0, hp9, hb9, hm9, hz9, k⟩ := h
    refine ⟨_, (PSs.nox (pss_cons (ps_par (i := 6) (j := 7) (by rfl) sc__law_gone_far.nd rfl rfl (by decide) rfl rfl (pa_cons pe_int (pa_cons (pe_lst pa_nil) pa_nil)) (by rfl)) (pss_cons (ps_for PassesOwn.never rfl (pi_range1 rfl (T.fre 45) (pa_cons (pv 4) pa_nil)) (pg_name (i := 8) sc__law_gone_far.nd rfl (Or.inl rfl)) (pss_cons (ps_set (i := 6) sc__law_gone_far.nd rfl (Or.inl rfl) (pe_callB (call_max2 rfl) (by rfl) (T.fre 50) (by decide +kernel) (pa_cons (pv 6) (pa_cons (pe_op op_sub (pv 5) (RX.pe_ms0 (pv 0) T.clStore (T.mt 108) G_Freezing_room (hr.mono (by decide)) B_Freezing_room_1 RX.passS0)) pa_nil)))) (pss_cons (ps_expr (RX.pe_cs G__law_freezing (hr.mono (by decide)) (T.glo 23) F__law_freezing.kp B__law_freezing_4 RX.passS0 (pa_cons (pv 0) (pa_cons (pv 1) (pa_cons (pv 2) (pa_cons (pv 8) pa_nil)))) pk_nil)) (pss_cons (ps_if (PW.pt (pw_and (pt_cmpR (op_neD hr.units) (pv 7) (pe_lst pa_nil) (nomark _)) (pw_and1 (pt_cmpR op_le (pe_op op_add (pe_ix ix_list (pv 7) pe_int (fun _ _ => rfl)) (pv 3)) (pv 8) (nomark _))))) (pss_one (ps_expr (RX.pe_ms (pv 0) T.clStore (T.mt 118) G_Freezing_let (hr.mono (by decide)) B_Freezing_let_2 RX.passS0 (pa_cons (RX.pe_cs G__law_house (hr.mono (by decide)) (T.glo 22) F__law_house.kp B__law_house_1 RX.passS0 (pa_cons (pe_bm PySem.F.plainAttrs_list PySem.F.slot_list_pop PySem.F.type_list_pop mt_popAt (pv 7) (pa_cons pe_int pa_nil)) pa_nil) pk_nil) pa_nil) pk_nil))) pss_nil) (pss_cons (ps_if (pt_cmpR op_eq (pe_op op_mod (pe_op op_add (pv 8) (pv 3)) (pv 2)) pe_int (nomark _)) (pss_cons (ps_expr (RX.pe_ms (pv 0) T.clStore (T.mt 117) G_Freezing_hold (hr.mono (by decide)) B_Freezing_hold_2 RX.passS0 (pa_cons (RX.pe_cs G__law_house (hr.mono (by decide)) (T.glo 22) F__law_house.kp B__law_house_1 RX.passS0 (pa_cons (pv 8) pa_nil) pk_nil) pa_nil) pk_nil)) (pss_one (ps_expr (pe_bm PySem.F.plainAttrs_list PySem.F.slot_list_append PySem.F.type_list_append mt_append (pv 7) (pa_cons (pv 8) pa_nil))))) pss_nil) (pss_one (ps_if (pt_not (pt_val (RX.pe_cs G__law_given (hr.mono (by decide)) (T.glo 21) F__law_given.kp B__law_given_3 RX.passS0 (pa_cons (pv 0) (pa_cons (pv 1) (pa_cons (pv 8) pa_nil))) pk_nil))) (pss_one (ps_ret (pe_tup (pa_cons (pv 6) (pa_cons pe_bl pa_nil))))) pss_nil))))))) (pss_one (ps_ret (pe_tup (pa_cons (pv 6) (pa_cons pe_bl pa_nil)))))))), ?_⟩
    have hp0' : (0 : Int) < (pace : Int) := by omega
    walk_at "go"
    rename_i R hR
    have nG0 : R ≠ b.s.aG := fun z => by rw [z, hb.lg] at hR; cases hR
    have nT0 : R ∉ b.ts.map (·.a) := fun z => by
      obtain ⟨t, ht, e⟩ := List.mem_map.mp z
      rw [← e, hb.vl t ht] at hR; cases hR
    have s0 : GSt K H a R b nms sz sp 0 0 0 b D [] [] (upd H R (.lst [])) := ⟨Far.of (RX.same_new hR), Kin.refl _, hb.same (RX.same_new hR), ho, S, upd_same, nG0, nT0, hR⟩
    refine for_range (fun i σ' H' => RX.Box (∃ (b1 : Bk) (far : Nat) (D1 : List Nat) (Hs : List (Nat × Nat)) (o8 : Option V), σ' = [some (.ref a), some (.ref tp), some (.int pace), some (.int back), some (.int many), some (.int sp), some (.int far), some (.ref R), o8] ∧ GSt K H a R b nms sz sp i (2 * i) (1000 * i) b1 D1 Hs (Hs.map (·.1)) H' ∧ (∀ h ∈ Hs, h.1 < i) ∧ gf back pace sp (many - i) i far D1 Hs = gf back pace sp many 0 0 D [])) ?_ (fun i σ' H' hi ⟨⟨b1, far, D1, Hs, o8, hσ, s, hlt, hgf⟩⟩ => ?_) (fun σ' H' ⟨⟨b1, far, D1, Hs, o8, hσ, s, hlt, hgf⟩⟩ => ?_)
    · exact ⟨⟨b, 0, D, [], none, rfl, s0, fun _ h => (nomatch h), rfl⟩⟩
    · subst hσ
      have hi9 : i < 150 := by omega
      rw [Int.zero_add]
      have hat := s.at_
      have ha1 := hat.st
      have hE1 := hat.el
      have ho1 := s.ok
      have S1 := s.S
      have htp1 := s.fa.sqT htp
      obtain ⟨f, hfl1, hfs1⟩ := ho1.floor
      have hst1 := S1.floor hfl1
      have h01 : (0 : Int) < b1.s.ring := by have := ho1.r8; omega
      have hel9 : (tbE b1.ts).length < 1000 := by unfold tbE; rw [List.length_map]; have := ho1.tl; omega
      have hfl2 : FloorIs b1.s.ring (tbE b1.ts) f := hfl1.is
      have es1 : b1.s.stop = (sp : Int) := S1.s
      have hst2 : (b1.s.next - f) % b1.s.ring = (mx D1 : Int) := hst1
      obtain ⟨n, hn⟩ : ∃ n, many - i = n + 1 := ⟨many - i - 1, by omega⟩
      walk_at "go"
      rename_i H3 e3
      have s3 := s.same e3
      refine ⟨s3.at_, s3.ok, by omega, by omega, by omega, s3.fa.sqT htp, s3.S, hp0, hp9, hz9, fun H4 b4 f4 k4 at4 ok4 S4 => ?_⟩
      have s4 := s3.go f4 k4 at4 ok4 S4
      have hfar : (if (sp : Int) - (b1.s.stop - (b1.s.next - f) % b1.s.ring) > (far : Int) then (sp : Int) - (b1.s.stop - (b1.s.next - f) % b1.s.ring) else (far : Int)) = ((max far (mx D1) : Nat) : Int) := by
        rw [hst2, es1, Nat.max_def]; split <;> split <;> omega
      have lR4 := s4.lR
      rw [hfar]
      walk_at "go"
      rename_i pE hpE
      have s5 := s4.same (RX.same_new (o := .lst []) hpE)
      have lR5 := s5.lR
      refine ⟨(show Dp K _ _ (.list (((Hs.map (·.1)).map fun n : Nat => (n : Int)).map PyData.int)) from .lst (SqL.of (by rw [lR5, nV_eq])) (RX.dpInts _ _)), (show Dp K _ _ (.list (([] : List Int).map PyData.int)) from .lst (SqL.of upd_same) .nil), RX.ints_shL _, RX.ints_shL _, _, rfl, ?_⟩
      rw [RX.ints_eqL]
      have hg4 : 1000 * i + i + 1 < 10000000 := by omega
      refine and_drop_join (Pp := fun H6 => RX.Box (∃ b6, GSt K H a R b nms sz sp i (2 * i) (1000 * i + i + 2) b6 (frzD D1 Hs pace i) (letF back i Hs) ((letF back i Hs).map (·.1)) H6)) (fun H6 ⟨⟨b6, s6⟩⟩ => ?_) (fun hc Kb hT hF => ?_) (fun hc => ?_)
      · have hlt6 : ∀ h ∈ letF back i Hs, h.1 < i := fun h hh => hlt h (letF_sub hh)
        have hw := (hname_ok i).1
        have hl3 : (hname i).length ≤ 100 := by rw [(hname_ok i).2]; decide
        have hnd := hname_nd i
        have hnin : i ∉ (letF back i Hs).map (·.1) := fun z => by
          obtain ⟨x, hx, q⟩ := List.mem_map.mp z
          have := hlt6 x hx; omega
        have hnot : hname i ∉ b6.ab.hs.map (·.1) := fun z => by
          rw [s6.S.hn] at z
          obtain ⟨x, hx, q⟩ := List.mem_map.mp z
          have := hlt6 x hx
          have := hname_inj (by omega) (by omega) q
          omega
        have at6 := s6.at_
        have ok6 := s6.ok
        have lR6 := s6.lR
        have hm6 : 2 * i < 900 := by omega
        have hg6 : 1000 * i + i + 2 < 10000000 := by omega
        have ha6 := at6.st
        walk_at "go"
        refine RX.iteB (fun hc => ?_) (fun hc => ?_)
        · have hm0 : (i + back) % pace = 0 := by
            have := of_decide_eq_true hc
            injection this with h
            have h3 : (((i + back) % pace : Nat) : Int) = 0 := by rw [Int.natCast_emod, Int.natCast_add]; exact h
            omega
          have hHF : holdF back pace i (letF back i Hs) = letF back i Hs ++ [(i, 0)] := by unfold holdF; rw [if_pos hm0]
          walk_at "go"
          rename_i H7 b7 f7 k7 at7 ok7 hab7 hts7
          have s7 := s6.go f7 k7 at7 ok7 (hab7 ▸ s6.S.hold (by omega) hnin)
          have lR7 := s7.lR
          have hz7 : (nV ((letF back i Hs).map (·.1))).length < sizeLine := by
            have h1 : ∀ l : List (Nat × Nat), (∀ h ∈ l, h.1 < 150) → (l.map (·.1)).Nodup → l.length ≤ 150 := fun l hl hn => by
              have := hn.length_le_of_subset (l₂ := List.range 150) (fun x hx => by
                obtain ⟨h, hh, rfl⟩ := List.mem_map.mp hx
                exact List.mem_range.mpr (hl h hh))
              rw [List.length_map, List.length_range] at this; exact this
            have := h1 _ (fun h hh => by have := hlt6 h hh; omega) s6.S.hi
            unfold nV
            rw [List.length_map, List.length_map]
            exact Nat.lt_of_le_of_lt this (by decide)
          walk_at "go"
          have s8 := s7.lst (L2 := (letF back i Hs).map (·.1) ++ [i])
          have eR : nV ((letF back i Hs).map (·.1)) ++ [V.int (i : Int)] = nV ((letF back i Hs).map (·.1) ++ [i]) := by unfold nV; rw [List.map_append]; rfl
          rw [eR]
          refine ⟨s8.at_, s8.ok, by omega, by omega, by omega, s8.fa.sqT htp, s8.S, by omega, hz9, fun hmx H9 f9 => ?_, fun hmx H9 b9 f9 k9 at9 ok9 S9 => ?_⟩
          · walk_at "go"
            rename_i r hr
            have hq : gf back pace sp (many - i) i far D1 Hs = (max far (mx D1), true) := by rw [hn]; unfold gf; rw [if_pos hmx]
            rw [hq] at hgf
            exact k _ r (s8.fa.trans ((f9.kin s8.ki).trans (Far.of (RX.same_new hr)))) (by rw [upd_same, ← hgf])
          · walk_at "go"
            have s9 := s8.go f9 k9 at9 ok9 S9
            have hq : gf back pace sp (many - i) i far D1 Hs = gf back pace sp (many - (i + 1)) (i + 1) (max far (mx D1)) ((frzD D1 Hs pace i).map (· + 1)) (upH (holdF back pace i (letF back i Hs))) := by
              rw [hn, show many - (i + 1) = n by omega]
              show (if mx (frzD D1 Hs pace i) = sp then _ else _) = _
              rw [if_neg (by omega)]
            rw [hq] at hgf
            refine ⟨⟨b9, _, _, upH (letF back i Hs ++ [(i, 0)]), _, rfl, ?_, fun h hh => ?_, by rw [← hHF]; exact hgf⟩⟩
            · have e9 : (upH (letF back i Hs ++ [(i, 0)])).map (·.1) = (letF back i Hs).map (·.1) ++ [i] := by unfold upH; rw [List.map_map, List.map_append]; rfl
              rw [e9]
              exact s9.mono (by omega) (by omega) (by omega)
            · unfold upH at hh
              obtain ⟨y, hy, rfl⟩ := List.mem_map.mp hh
              rcases List.mem_append.mp hy with hy | hy
              · have := hlt6 y hy; show y.1 < i + 1; omega
              · rw [List.mem_singleton.mp hy]; exact Nat.lt_succ_self _
        · have hm0 : ¬ (i + back) % pace = 0 := fun z => by
            have := of_decide_eq_false hc
            have h3 : (((i + back) % pace : Nat) : Int) = 0 := by rw [z]; rfl
            rw [Int.natCast_emod, Int.natCast_add] at h3
            exact this (congrArg V.int h3)
          have hHF : holdF back pace i (letF back i Hs) = letF back i Hs := by unfold holdF; rw [if_neg hm0]
          have s8 := s6
          have hk7 : i < 700 := by omega
          have hm7 : 2 * i < 700 := by omega
          have hg7 : 1000 * i + i + 2 < 1000000 := by omega
          have htp6 := s6.fa.sqT htp
          have S6 := s6.S
          have hi1 : i < 1000 := by omega
          walk_at "go"
          refine ⟨fun hmx H9 f9 => ?_, fun hmx H9 b9 f9 k9 at9 ok9 S9 => ?_⟩
          · walk_at "go"
            rename_i r hr
            have hq : gf back pace sp (many - i) i far D1 Hs = (max far (mx D1), true) := by rw [hn]; unfold gf; rw [if_pos hmx]
            rw [hq] at hgf
            exact k _ r (s8.fa.trans ((f9.kin s8.ki).trans (Far.of (RX.same_new hr)))) (by rw [upd_same, ← hgf])
          · walk_at "go"
            have s9 := s8.go f9 k9 at9 ok9 S9
            have hq : gf back pace sp (many - i) i far D1 Hs = gf back pace sp (many - (i + 1)) (i + 1) (max far (mx D1)) ((frzD D1 Hs pace i).map (· + 1)) (upH (holdF back pace i (letF back i Hs))) := by
              rw [hn, show many - (i + 1) = n by omega]
              show (if mx (frzD D1 Hs pace i) = sp then _ else _) = _
              rw [if_neg (by omega)]
            rw [hq] at hgf
            refine ⟨⟨b9, _, _, upH (letF back i Hs), _, rfl, ?_, fun h hh => ?_, by rw [hHF] at hgf; exact hgf⟩⟩
            · have e9 : (upH (letF back i Hs)).map (·.1) = (letF back i Hs).map (·.1) := by unfold upH; rw [List.map_map]; rfl
              rw [e9]
              exact s9.mono (by omega) (by omega) (by omega)
            · unfold upH at hh
              obtain ⟨y, hy, rfl⟩ := List.mem_map.mp hh
              have := hlt6 y hy; show y.1 < i + 1; omega
      · cases Hs with
        | nil => simp at hc
        | cons x r =>
          have hw := (hname_ok x.1).1
          have hl3 : (hname x.1).length ≤ 100 := by rw [(hname_ok x.1).2]; decide
          have hat5 : atI (nV ((x :: r).map (·.1))) 0 = some (.int x.1) := RX.atI_zero
          have lR5' : upd H4 pE (.lst []) R = some (.lst (nV ((x :: r).map (·.1)))) := lR5
          walk_at "go"
          by_cases hle : x.1 + back ≤ i
          · rw [decide_eq_true (show (x.1 : Int) + (back : Int) ≤ (i : Int) by omega)]
            refine hT _ (fun Kk hK => ?_)
            have hlF : letF back i (x :: r) = r := by show (if x.1 + back ≤ i then r else x :: r) = r; rw [if_pos hle]
            have ha5 := s5.at_.st
            walk_at "go"
            refine ⟨PyProof.Rows.seqIndex?_zero (by simp [nV]), rfl, ?_⟩
            have eR : (nV ((x :: r).map (·.1))).eraseIdx 0 = nV (r.map (·.1)) := rfl
            rw [eR]
            have s5' := s5.lst (L2 := r.map (·.1))
            have at5' := s5'.at_
            have ok5' := s5'.ok
            have ha5' := at5'.st
            have hin5 : hname x.1 ∈ b4.ab.hs.map (·.1) := by rw [s5.S.hn]; exact List.mem_cons_self ..
            walk_at "go"
            rename_i H7 b7 f7 k7 at7 ok7 hab7 hts7
            have s7 := s5'.go f7 k7 at7 ok7 (hab7 ▸ s5.S.gone (hlt x (List.mem_cons_self ..) |> fun h => (by omega : x.1 < 676)))
            refine hK _ _ ?_
            have hnd := s5.S.hi
            rw [List.map_cons, List.nodup_cons] at hnd
            have hfl : (x :: r).filter (fun h => !decide (h.1 = x.1)) = r := by
              rw [List.filter_cons_of_neg (by simp)]
              refine List.filter_eq_self.mpr fun y hy => ?_
              have : ¬ y.1 = x.1 := fun z => hnd.1 (z ▸ List.mem_map_of_mem hy)
              simp [this]
            rw [hfl] at s7
            rw [hlF]
            exact ⟨⟨b7, s7⟩⟩
          · rw [decide_eq_false (show ¬ (x.1 : Int) + (back : Int) ≤ (i : Int) by omega)]
            have hlF : letF back i (x :: r) = x :: r := by show (if x.1 + back ≤ i then r else x :: r) = x :: r; rw [if_neg hle]
            refine hF _ ?_
            rw [hlF]
            exact ⟨⟨b4, s5.mono (Nat.le_refl _) (Nat.le_refl _) (show 1000 * i + i + 1 ≤ 1000 * i + i + 2 by omega)⟩⟩
      · have he : Hs = [] := by
          cases Hs with
          | nil => rfl
          | cons _ _ => simp at hc
        subst he
        exact ⟨⟨b4, s5.mono (Nat.le_refl _) (Nat.le_refl _) (show 1000 * i + i + 1 ≤ 1000 * i + i + 2 by omega)⟩⟩
    · subst hσ
      rw [show ((many : Int)).toNat = many by omega, Nat.sub_self] at hgf
      walk_at "go"
      rename_i r hr
      exact k _ r (s.fa.trans (Far.of (RX.same_new hr))) (by rw [upd_same, ← hgf]; rfl)
end
/-- all but one object as it was -/
def But (h : Addr) (H H' : Hp) : Prop := ∀ b o, b ≠ h → H b = some o → H' b = some o
theorem But.of {h : Addr} {H H' : Hp} (e : Same H H') : But h H H' := fun b o _ q => e b o q
theorem But.trans {h : Addr} {H H1 H2 : Hp} (a : But h H H1) (b : But h H1 H2) : But h H H2 := fun x o n q => b x o n (a x o n q)
theorem HandAt.mut {H : Hp} {h : Addr} {n : Nat} (a : HandAt H h n) : Mut (H h) := by obtain ⟨_, _, _, e, _⟩ := a; rw [e]; trivial
theorem HandAt.same {H H' : Hp} {h : Addr} {n : Nat} (a : HandAt H h n) (e : Same H H') : HandAt H' h n := by obtain ⟨d, s, c, q, r⟩ := a; exact ⟨d, s, c, e _ _ q, r⟩
theorem HandAt.mono {H : Hp} {h : Addr} {n m : Nat} (a : HandAt H h n) (e : n ≤ m) : HandAt H h m := by obtain ⟨d, s, c, q, r1, r2, r3, r4⟩ := a; exact ⟨d, s, c, q, r1, r2, r3, by omega⟩
theorem HandAt.ne {H : Hp} {h p : Addr} {n : Nat} (a : HandAt H h n) (e : H p = none) : p ≠ h := fun z => by obtain ⟨_, _, _, q, _⟩ := a; rw [← z, e] at q; cases q
theorem HandAt.upd {H : Hp} {h p : Addr} {o : HO} {n : Nat} (a : HandAt H h n) (e : p ≠ h) : HandAt (upd H p o) h n := by obtain ⟨d, s, c, q, r⟩ := a; exact ⟨d, s, c, by rw [upd_ne (Ne.symm e)]; exact q, r⟩
theorem But.sqT {K : PySem.W.Frag} {h p : Addr} {H H' : Hp} {xs : List V} (e : But h H H') (hm : Mut (H h)) (t : SqT K H p xs) : SqT K H' p xs := by
  rcases t with (t | ⟨u, t⟩) | t
  · exact .inl (.inl (e _ _ (fun z => by rw [← z, t] at hm; exact hm) t))
  · exact .inl (.inr ⟨u, e _ _ (fun z => by rw [← z, t] at hm; exact hm) t⟩)
  · exact .inr t
theorem But.sqL {K : PySem.W.Frag} {h p : Addr} {H H' : Hp} {xs : List V} (e : But h H H') (n : p ≠ h) (t : SqL K H p xs) : SqL K H' p xs := by
  rcases t with (t | ⟨u, t⟩) | t
  · exact .inl (.inl (e _ _ n t))
  · exact .inl (.inr ⟨u, e _ _ n t⟩)
  · exact .inr t
section
variable {P : Program} {w : World} {K : PySem.W.Frag} {mg : Str → Option Value} {base : Heap}
def sp__law_of_L (K : PySem.W.Frag) : Sp := fun vs H Q _ => ∃ (h l : Addr) (n : Nat) (xs : List V), vs = [.ref h, .ref l] ∧ HandAt H h n ∧ n < 900000 ∧ SqL K H l xs ∧ l ≠ h ∧ 0 < xs.length ∧ xs.length < 1000 ∧ ∀ x H', But h H H' → HandAt H' h (n + 1) → x ∈ xs → Q x H'
def sp__law_of_T (K : PySem.W.Frag) : Sp := fun vs H Q _ => ∃ (h l : Addr) (n : Nat) (xs : List V), vs = [.ref h, .ref l] ∧ HandAt H h n ∧ n < 900000 ∧ SqT K H l xs ∧ 0 < xs.length ∧ xs.length < 1000 ∧ ∀ x H', But h H H' → HandAt H' h (n + 1) → x ∈ xs → Q x H'
def sp__law_of_S (K : PySem.W.Frag) : Sp := fun vs H Q _ => ∃ (h : Addr) (n : Nat) (z : Str), vs = [.ref h, .str z] ∧ HandAt H h n ∧ n < 900000 ∧ 0 < z.length ∧ z.length < 1000 ∧ ∀ c H', But h H H' → HandAt H' h (n + 1) → c ∈ z.cps.toList → Q (.str ⟨#[c]⟩) H'
def sp__law_of (K : PySem.W.Frag) : Sp := fun vs H Q E => sp__law_of_L K vs H Q E ∨ sp__law_of_T K vs H Q E ∨ sp__law_of_S K vs H Q E
theorem sc__law_of : FnScope ["_law_hand_here", "_law_some"] ["_law_hand_here", "_law_some"] (defScope s__law_of) := ⟨rfl, rfl, rfl, by decide +kernel, rfl, by decide +kernel, by decide +kernel⟩
theorem ok__law_of {fd : FuncData} (T : Txt K mg) (F : FnD K d__law_of fd) : FnOk P w K mg base CX0 2 (He.fAd K d__law_of.at_) fd ["_law_hand_here", "_law_some"] (sp__law_of K) := by
  obtain ⟨fd__law_take, F__law_take⟩ := T.fn 18 (d := d__law_take)
  have G__law_take := okB__law_take (P := P) (w := w) (base := base) T F__law_take
  have B__law_take_2 : KBn K fd__law_take ["_law_hand_here", "_law_many"] 2 [] (fun us ws => us ++ ws) (fun us ws => us ++ ws) := RX.kb0 F__law_take 2 [] (fun us ws => us ++ ws) (fun a b => a.append b) (fun _ _ _ _ _ _ us ws h1 h2 => match us, ws, h1, h2 with | [_, _], [], _, _ => rfl)
  refine F.ok sc__law_of (fun vs H Q E h => ?_) (fun cdv A outer s H vs Q E hr h => ?_)
  · rcases h with ⟨h, l, n, xs, rfl, _⟩ | ⟨h, l, n, xs, rfl, _⟩ | ⟨h, n, z, rfl, _⟩ <;> rfl
  · refine ⟨_, (PSs.nox (pss_one (ps_ret (pe_ix (RX.ixR_or ix_list (RX.ixR_or ix_tup ix_str)) (pv 1) (RX.pe_cs G__law_take (hr.mono (by decide)) (T.glo 18) F__law_take.kp B__law_take_2 RX.passS0 (pa_cons (pv 0) (pa_cons (pe_callB (RX.callR_or call_len_seq call_len_str) (by rfl) (T.fre 44) (by decide +kernel) (pa_cons (pv 1) pa_nil)) pa_nil)) pk_nil) (fun _ _ => rfl))))), ?_⟩
    rcases h with ⟨h, l, n, xs, rfl, hh, hn, hl, hlh, z0, z1, k⟩ | ⟨h, l, n, xs, rfl, hh, hn, hl, z0, z1, k⟩ | ⟨h, n, z, rfl, hh, hn, z0, z1, k⟩
    · have z0' : (0 : Int) < xs.length := by omega
      have z1' : (xs.length : Int) < 1000 := by omega
      walk_at "go"
      refine .inl ⟨l, xs, rfl, .inl hl, ?_⟩
      walk_at "go"
      rename_i x H1 fr hA x0 x1
      have hx : x.toNat < xs.length := by omega
      have e2 : xs[x.toNat]? = some xs[x.toNat] := List.getElem?_eq_getElem hx
      have e3 : atI xs x = some xs[x.toNat] := by
        have q := atI_nat e2
        rwa [Int.toNat_of_nonneg x0] at q
      exact .inl ⟨l, xs, x, _, rfl, rfl, But.sqL fr hlh hl, e3, k _ _ fr hA (List.getElem_mem hx)⟩
    · have z0' : (0 : Int) < xs.length := by omega
      have z1' : (xs.length : Int) < 1000 := by omega
      walk_at "go"
      refine .inl ⟨l, xs, rfl, .inr hl, ?_⟩
      walk_at "go"
      rename_i x H1 fr hA x0 x1
      have hx : x.toNat < xs.length := by omega
      have e2 : xs[x.toNat]? = some xs[x.toNat] := List.getElem?_eq_getElem hx
      have e3 : atI xs x = some xs[x.toNat] := by
        have q := atI_nat e2
        rwa [Int.toNat_of_nonneg x0] at q
      exact .inr (.inl ⟨l, xs, x, _, rfl, rfl, But.sqT fr hh.mut hl, e3, k _ _ fr hA (List.getElem_mem hx)⟩)
    · have z0' : (0 : Int) < z.length := by omega
      have z1' : (z.length : Int) < 1000 := by omega
      have zz : z.length ≤ sizeLine := Nat.le_of_lt (small1000 (by omega))
      walk_at "go"
      refine .inr ⟨z, rfl, zz, ?_⟩
      walk_at "go"
      rename_i x H1 fr hA x0 x1
      have hzl : z.cps.toList.length = z.length := by simp [PySem.Str.length]
      have hx : x.toNat < z.cps.toList.length := by omega
      have e2 : z.cps.toList[x.toNat]? = some z.cps.toList[x.toNat] := List.getElem?_eq_getElem hx
      have e3 : atI z.cps.toList x = some z.cps.toList[x.toNat] := by
        have q := atI_nat e2
        rwa [Int.toNat_of_nonneg x0] at q
      exact .inr (.inr ⟨z, x, _, rfl, rfl, zz, e3, k _ _ fr hA (List.getElem_mem hx)⟩)
theorem ok__law_of_L {fd : FuncData} (T : Txt K mg) (F : FnD K d__law_of fd) : FnOk P w K mg base CX0 2 (He.fAd K d__law_of.at_) fd ["_law_hand_here", "_law_some"] (sp__law_of_L K) := (ok__law_of T F).imp fun vs H Q E h => .inl h
theorem ok__law_of_T {fd : FuncData} (T : Txt K mg) (F : FnD K d__law_of fd) : FnOk P w K mg base CX0 2 (He.fAd K d__law_of.at_) fd ["_law_hand_here", "_law_some"] (sp__law_of_T K) := (ok__law_of T F).imp fun vs H Q E h => .inr (.inl h)
theorem ok__law_of_S {fd : FuncData} (T : Txt K mg) (F : FnD K d__law_of fd) : FnOk P w K mg base CX0 2 (He.fAd K d__law_of.at_) fd ["_law_hand_here", "_law_some"] (sp__law_of_S K) := (ok__law_of T F).imp fun vs H Q E h => .inr (.inr h)
def sp__law_words (K : PySem.W.Frag) : Sp := fun vs H Q _ => ∃ (h : Addr) (n : Nat) (m : Int), vs = [.ref h, .int m] ∧ HandAt H h n ∧ n < 800000 ∧ 0 ≤ m ∧ m ≤ 20 ∧ ∀ H' p (ws : List Str), But h H H' → HandAt H' h (n + 200) → H p = none → H' p = some (.lst (ws.map V.str)) → (ws.length : Int) = m → ws.Nodup → (∀ w ∈ ws, isW w = true) → Q (.ref p) H'
theorem sc__law_words : FnScope ["_law_hand_here", "_law_many", "_law_letters", "_law_some", "_law_k", "_law_long", "_law_word", "_law_j", "_law_free", "_law_sign"] ["_law_hand_here", "_law_many"] (defScope s__law_words) := ⟨rfl, rfl, rfl, by decide +kernel, rfl, by decide +kernel, by decide +kernel⟩
theorem ok__law_words {fd : FuncData} (T : Txt K mg) (F : FnD K d__law_words fd) : FnOk P w K mg base CX0 3 (He.fAd K d__law_words.at_) fd ["_law_hand_here", "_law_many"] (sp__law_words K) := by
  obtain ⟨fd__law_of, F__law_of⟩ := T.fn 19 (d := d__law_of)
  have G__law_of_L := ok__law_of_L (P := P) (w := w) (base := base) T F__law_of
  have B__law_of_2 : KBn K fd__law_of ["_law_hand_here", "_law_some"] 2 [] (fun us ws => us ++ ws) (fun us ws => us ++ ws) := RX.kb0 F__law_of 2 [] (fun us ws => us ++ ws) (fun a b => a.append b) (fun _ _ _ _ _ _ us ws h1 h2 => match us, ws, h1, h2 with | [_, _], [], _, _ => rfl)
  have G__law_of_S := ok__law_of_S (P := P) (w := w) (base := base) T F__law_of
  refine F.ok sc__law_words (fun vs H Q E h => ?_) (fun cdv A outer s H vs Q E hr h => ?_)
  · obtain ⟨h, n, m, rfl, _⟩ := h; rfl
  · obtain ⟨h, n, m, rfl, hh, hn, m0, m20, k⟩ := h
    refine ⟨_, (PSs.nox (pss_cons (ps_asg (pe_tup (pa_cons pe_str (pa_cons (pe_lst pa_nil) pa_nil))) (pg_tup rfl (pgs_cons (pg_name (i := 2) sc__law_words.nd rfl (Or.inr rfl)) (pgs_cons (pg_name (i := 3) sc__law_words.nd rfl (Or.inr rfl)) pgs_nil)))) (pss_cons (ps_for PassesOwn.never rfl (pi_range1 rfl (T.fre 45) (pa_cons (pv 1) pa_nil)) (pg_name (i := 4) sc__law_words.nd rfl (Or.inl rfl)) (pss_cons (ps_set (i := 5) sc__law_words.nd rfl (Or.inl rfl) (RX.pe_cs G__law_of_L (hr.mono (by decide)) (T.glo 19) F__law_of.kp B__law_of_2 RX.passS0 (pa_cons (pv 0) (pa_cons (pe_lst (pa_cons pe_int (pa_cons pe_int (pa_cons pe_int (pa_cons pe_int (pa_cons pe_int (pa_cons pe_int pa_nil))))))) pa_nil)) pk_nil)) (pss_cons (ps_set (i := 6) sc__law_words.nd rfl (Or.inr rfl) (pe_join pe_str (pe_lc (own := [("_law_j", 7)]) (g := (gName 7)) (tt := tYes) rfl sc__law_words.nd (pi_range1 rfl (T.fre 45) (pa_cons (pv 5) pa_nil)) (blkOk_by (own := [("_law_j", 7)]) (by kernel_rfl)) (fun _ _ _ _ _ => (pg_name (i := 7) sc__law_words.nd rfl (Or.inl rfl))) (fun _ _ _ _ _ => pts_nil) (fun _ _ _ _ _ => (RX.pe_cs G__law_of_S (hr.mono (by decide)) (T.glo 19) F__law_of.kp B__law_of_2 RX.passS0 (pa_cons (pv 0) (pa_cons (pv 2) pa_nil)) pk_nil))))) (pss_cons (ps_setLc (i := 8) (own := [("_law_sign", 9)]) (g := (gName 9)) rfl sc__law_words.nd rfl rfl (sw_true rfl rfl rfl (by decide +kernel)) (pi_str (pv 2)) (blkOk_by (own := [("_law_sign", 9)]) (by kernel_rfl)) (fun _ _ _ _ _ => (pg_name (i := 9) sc__law_words.nd rfl (Or.inl rfl))) (fun _ _ _ _ _ => (pts_one (pt_cmpR (op_notIn_seq : OpR _ _ (rIn K true)) (pe_op op_add_str (pe_slice sl_str (pv 6) po_none (po_some pe_int)) (pv 9)) (pv 3) rfl))) (fun _ _ _ _ _ => (pe_op op_add_str (pe_slice sl_str (pv 6) po_none (po_some pe_int)) (pv 9)))) (pss_one (ps_expr (pe_bm PySem.F.plainAttrs_list PySem.F.slot_list_append PySem.F.type_list_append mt_append (pv 3) (pa_cons (pe_ifExp (pt_cmpR op_notIn_seq (pv 6) (pv 3) rfl) (pv 6) (pe_ix ix_list (pv 8) pe_int (fun _ _ => rfl))) pa_nil)))))))) (pss_one (ps_ret (pv 3)))))), ?_⟩
    walk_at "go"
    rename_i pS hpS pT0 hpT0
    have hSh : pS ≠ h := hh.ne hpS
    have e00 := (RX.same_new (o := .lst []) hpS).trans (RX.same_new (o := .tup [V.str (Str.ofString "abcdefghijklmnopqrstuvwxyz"), V.ref pS]) hpT0)
    have hS0 := RX.same_new (o := .tup [V.str (Str.ofString "abcdefghijklmnopqrstuvwxyz"), V.ref pS]) hpT0 _ _ (upd_same (H := H) (a := pS) (o := .lst []))
    refine for_range (fun i σ' H' => RX.Box (∃ (ws : List Str) (o4 o5 o6 o8 : Option V), σ' = [some (.ref h), some (.int m), some (.str (Str.ofString "abcdefghijklmnopqrstuvwxyz")), some (.ref pS), o4, o5, o6, none, o8, none] ∧ But h H H' ∧ HandAt H' h (n + 10 * i) ∧ H' pS = some (.lst (ws.map V.str)) ∧ ws.length = i ∧ ws.Nodup ∧ ∀ w ∈ ws, isW w = true)) ?_ (fun i σ' H' hi ⟨⟨ws, o4, o5, o6, o8, hσ, hb, hA, hS, hl, hnd, hw⟩⟩ => ?_) (fun σ' H' ⟨⟨ws, o4, o5, o6, o8, hσ, hb, hA, hS, hl, hnd, hw⟩⟩ => ?_)
    · exact ⟨⟨[], none, none, none, none, rfl, But.of e00, hh.same e00, hS0, rfl, List.nodup_nil, fun _ h => (nomatch h)⟩⟩
    · subst hσ
      have hi20 : i < 20 := by omega
      walk_at "go"
      rename_i pL hpL
      have hLh : pL ≠ h := hA.ne hpL
      refine ⟨hA.same (RX.same_new hpL), by omega, SqL.of upd_same, hLh, by show 0 < 6; decide, by show 6 < 1000; decide, fun x H2 b2 hA2 hx => ?_⟩
      obtain ⟨lg, rfl, hlg1, hlg8⟩ : ∃ lg : Nat, x = .int lg ∧ 1 ≤ lg ∧ lg ≤ 8 := by
        simp only [List.mem_cons, List.not_mem_nil, or_false] at hx
        rcases hx with rfl | rfl | rfl | rfl | rfl | rfl
        · exact ⟨1, rfl, by omega, by omega⟩
        · exact ⟨1, rfl, by omega, by omega⟩
        · exact ⟨2, rfl, by omega, by omega⟩
        · exact ⟨3, rfl, by omega, by omega⟩
        · exact ⟨5, rfl, by omega, by omega⟩
        · exact ⟨8, rfl, by omega, by omega⟩
      have hS2 := b2 _ _ hSh (RX.same_new hpL _ _ hS)
      have hbb : But h H' H2 := (But.of (RX.same_new hpL)).trans b2
      refine ⟨⟨_, rfl⟩, ?_⟩
      walk_at "go"
      rename_i D hD
      have hDh : D ≠ h := hA2.ne hD
      refine lc_range (lo := 0) (n := lg) (fun j H3 => RX.Box (∃ cs : List Nat, But h H2 H3 ∧ HandAt H3 h (n + 10 * i + 1 + j) ∧ H3 D = some (.lst (cs.map fun c => V.str ⟨#[c]⟩)) ∧ cs.length = j ∧ ∀ c ∈ cs, c ∈ RX.lets)) ?_ (fun j H3 hj ⟨⟨cs, b3, hA3, hD3, hcl, hcs⟩⟩ => ?_) (fun H3 ⟨⟨cs, b3, hA3, hD3, hcl, hcs⟩⟩ => ?_)
      · exact ⟨⟨[], But.of (RX.same_new hD), hA2.same (RX.same_new hD), upd_same, rfl, fun _ h => (nomatch h)⟩⟩
      · walk_at "go"
        rename_i c H4 b4 hA4 hc
        have hz4 : (cs.map fun c => V.str ⟨#[c]⟩).length < sizeLine := by rw [List.length_map]; exact Nat.lt_of_le_of_lt (show cs.length ≤ 100 by omega) (by decide)
        refine ⟨_, b4 _ _ hDh hD3, hz4, ⟨⟨cs ++ [c], fun b o nb q => ?_, (hA4.upd hDh).mono (by omega), by rw [upd_same, List.map_append]; rfl, by simp [hcl], fun x hx => ?_⟩⟩⟩
        · rw [upd_ne (ne_of_none q hD)]; exact b4 _ _ nb (b3 _ _ nb q)
        · rcases List.mem_append.mp hx with hx | hx
          · exact hcs x hx
          · rw [List.mem_singleton.mp hx]; exact hc
      · walk_at "go"
        case' r.refine_3.h.h.w => exact cs.map fun c => (⟨#[c]⟩ : Str)
        have hsum : ∀ l : List Nat, ((l.map fun c => (⟨#[c]⟩ : Str)).map fun x => x.length).sum = l.length := by
          intro l
          induction l with
          | nil => rfl
          | cons c r ih => rw [List.map_cons, List.map_cons, List.sum_cons, ih, List.length_cons]; show 1 + _ = _; omega
        refine ⟨Or.inl (SqL.of (by rw [hD3, List.map_map]; rfl)), by rw [hsum, List.length_map, show (Str.ofString "").length = 0 by decide +kernel]; omega, ?_⟩
        have hWt := RX.join_signs cs
        generalize Txt.join (Str.ofString "") (cs.map fun c => (⟨#[c]⟩ : Str)) = W at *
        have hWl : W.length = lg := by rw [← hcl, ← hWt]; simp [PySem.Str.length]
        have hWz : W.length ≤ sizeLine := Nat.le_of_lt (small1000 (by omega))
        have hS3 := b3 _ _ hSh hS2
        walk_at "go"
        rename_i D2 hD2
        refine RX.lc_str (f := fun c => if (!decide (RX.pre7 W c ∈ ws)) = true then [V.str (RX.pre7 W c)] else []) hD2 (fun c => by split <;> simp) (by decide +kernel) (fun j c l H4 hj hl ac => ?_) (fun H4 ac => ?_)
        · have hS4 := ac.same _ _ hS3
          have hcl1 : (⟨#[c]⟩ : Str).length = 1 := rfl
          have hcw : (cutS W none (some 7)).length + (⟨#[c]⟩ : Str).length ≤ sizeLine := by
            have h := congrArg List.length (RX.pre7_list W c)
            have h2 : (RX.pre7 W c).cps.toList.length = (cutS W none (some 7)).length + 1 := by unfold RX.pre7; show ((cutS W none (some 7)).cps ++ #[c]).toList.length = _; rw [Array.length_toList, Array.size_append]; rfl
            rw [h2] at h
            rw [List.length_append, List.length_take] at h
            simp only [List.length_cons, List.length_nil] at h
            rw [hcl1]
            exact Nat.le_of_lt (small1000 (by omega))
          have hin : inV (.str (cutS W none (some 7) ++ ⟨#[c]⟩)) (ws.map V.str) = decide (RX.pre7 W c ∈ ws) := RX.inV_str
          walk_at "go"
          refine ⟨RX.flat_strs ws, ?_⟩
          rw [hin]
          walk_at "go"
          refine RX.iteB (fun hc => ?_) (fun hc => ?_)
          · have hc' : decide (RX.pre7 W c ∈ ws) = false := by simpa using hc
            rw [if_pos (by rw [hc']; decide)]
            walk_at "go"
            exact ac.yes hD2 (Same.refl _) hl
          · have hc' : decide (RX.pre7 W c ∈ ws) = true := by simpa using hc
            rw [if_neg (by rw [hc']; decide), List.append_nil]
            exact ac.no (Same.refl _)
        · have e4 := ac.same
          have at4 := ac.at_
          have hS4 := e4 _ _ hS3
          have hWin : inV (.str W) (ws.map V.str) = decide (W ∈ ws) := RX.inV_str
          have hsz : (ws.map V.str).length < sizeLine := by rw [List.length_map]; exact Nat.lt_of_le_of_lt (show ws.length ≤ 100 by omega) (by decide)
          walk_at "go"
          refine ⟨RX.flat_strs ws, ?_⟩
          rw [hWin]
          walk_at "go"
          obtain ⟨c0, r0, hc0⟩ := RX.free_ex W ws (by omega)
          have hm0 := List.mem_filter.mp (show c0 ∈ RX.lets.filter fun c => !decide (RX.pre7 W c ∈ ws) by rw [hc0]; exact List.mem_cons_self ..)
          have fin : ∀ w', isW w' = true → w' ∉ ws → RX.Box (∃ (ws1 : List Str) (o4 o5 o6 o8 : Option V), ([some (.ref h), some (.int m), some (.str (Str.ofString "abcdefghijklmnopqrstuvwxyz")), some (.ref pS), some (.int (0 + i)), some (.int lg), some (.str W), none, some (.ref D2), none] : L2.St) = [some (.ref h), some (.int m), some (.str (Str.ofString "abcdefghijklmnopqrstuvwxyz")), some (.ref pS), o4, o5, o6, none, o8, none] ∧ But h H (upd H4 pS (.lst (ws.map V.str ++ [V.str w']))) ∧ HandAt (upd H4 pS (.lst (ws.map V.str ++ [V.str w']))) h (n + 10 * (i + 1)) ∧ upd H4 pS (.lst (ws.map V.str ++ [V.str w'])) pS = some (.lst (ws1.map V.str)) ∧ ws1.length = i + 1 ∧ ws1.Nodup ∧ ∀ w ∈ ws1, isW w = true) := by
            intro w' hw1 hw2
            refine ⟨⟨ws ++ [w'], _, _, _, _, rfl, fun b o nb q => ?_, ?_, by rw [upd_same, List.map_append]; rfl, by simp [hl], List.nodup_append.mpr ⟨hnd, by simp, fun x hx y hy e => ?_⟩, fun x hx => ?_⟩⟩
            · rw [upd_ne (fun z => by rw [z, hpS] at q; cases q)]
              exact e4 _ _ (b3 _ _ nb (hbb _ _ nb (hb _ _ nb q)))
            · exact ((hA3.same e4).upd hSh).mono (by omega)
            · have hy : y = w' := by simpa using hy
              exact hw2 (hy ▸ e ▸ hx)
            · rcases List.mem_append.mp hx with hx | hx
              · exact hw x hx
              · rw [List.mem_singleton.mp hx]; exact hw1
          refine RX.iteB (fun hc => ?_) (fun hc => ?_)
          · have hc' : ¬ W ∈ ws := by simpa using hc
            walk_at "go"
            refine fin W ?_ hc'
            unfold isW
            simp only [Bool.and_eq_true, decide_eq_true_eq, List.all_eq_true]
            exact ⟨by omega, by omega, fun c hc => hcs c (hWt ▸ hc)⟩
          · rw [RX.fm_filter, show (Str.ofString "abcdefghijklmnopqrstuvwxyz").cps.toList = RX.lets from rfl, hc0, List.map_cons] at at4
            walk_at "go"
            refine ⟨RX.atI_zero, ?_⟩
            walk_at "go"
            refine fin (RX.pre7 W c0) ?_ (by simpa using hm0.2)
            have hp := RX.pre7_list W c0
            have hp2 : (RX.pre7 W c0).length = (RX.pre7 W c0).cps.toList.length := by simp [PySem.Str.length]
            have hW2 : W.cps.toList.length = W.length := by simp [PySem.Str.length]
            unfold isW
            rw [hp2, hp]
            simp only [Bool.and_eq_true, decide_eq_true_eq, List.all_eq_true, List.length_append, List.length_take, List.length_cons, List.length_nil]
            refine ⟨by omega, by omega, fun c hc => ?_⟩
            rcases List.mem_append.mp hc with hc | hc
            · exact hcs c (hWt ▸ List.mem_of_mem_take hc)
            · rw [List.mem_singleton.mp hc]; exact hm0.1
    · subst hσ
      walk_at "go"
      exact k _ pS ws hb (hA.mono (by omega)) hpS hS (by omega) hnd hw
end
/-! ### bounds of steps, whoever looks, no longer than told -/
def frzU (U : List Nat) (pace back k : Nat) : List Nat := if 0 < k ∧ k % pace = 0 then U.set ((k / pace - 1) % U.length) back else U
def ubrun (back pace sp : Nat) : Nat → Nat → List Nat → Bool
  | 0, _, _ => true
  | n + 1, k, U => decide (mx (frzU U pace back k) < sp) && ubrun back pace sp n (k + 1) ((frzU U pace back k).map (· + 1))
structure LeL (D U : List Nat) : Prop where
  len : D.length = U.length
  le : ∀ (i d u : Nat), D[i]? = some d → U[i]? = some u → d ≤ u
theorem LeL.mxl {D U : List Nat} (h : LeL D U) : mx D ≤ mx U := mx_le fun x hx => by
  obtain ⟨i, hi, e⟩ := List.mem_iff_getElem.mp hx
  have hu : i < U.length := h.len ▸ hi
  have := h.le i x U[i] (by rw [List.getElem?_eq_getElem hi, e]) (List.getElem?_eq_getElem hu)
  have := mx_ge (List.getElem_mem hu)
  omega
theorem LeL.up {D U : List Nat} (h : LeL D U) : LeL (D.map (· + 1)) (U.map (· + 1)) := ⟨by rw [List.length_map, List.length_map, h.len], fun i d u hd hu => by
  rw [List.getElem?_map] at hd hu
  obtain ⟨d0, q1, rfl⟩ := Option.map_eq_some_iff.mp hd
  obtain ⟨u0, q2, rfl⟩ := Option.map_eq_some_iff.mp hu
  have := h.le i d0 u0 q1 q2; omega⟩
theorem LeL.set {D U : List Nat} (h : LeL D U) {x y j : Nat} (hx : x ≤ y) : LeL (D.set j x) (U.set j y) := ⟨by rw [List.length_set, List.length_set, h.len], fun i d u hd hu => by
  by_cases e : j = i
  · subst e
    rw [List.getElem?_set_self'] at hd hu
    obtain ⟨d0, q1, q2⟩ := Option.map_eq_some_iff.mp hd
    obtain ⟨u0, q3, q4⟩ := Option.map_eq_some_iff.mp hu
    simp at q2 q4
    omega
  · rw [List.getElem?_set_ne e] at hd hu
    exact h.le i d u hd hu⟩
theorem LeL.frz {D U : List Nat} {Hs : List (Nat × Nat)} {pace back k : Nat} (h : LeL D U) (hb : mx (Hs.map (·.2)) ≤ back) : LeL (frzD D Hs pace k) (frzU U pace back k) := by
  unfold frzD frzU
  rw [h.len]
  split
  · exact h.set hb
  · exact h
theorem erase_filter : ∀ {l : List Nat} {j k : Nat}, l.Nodup → l[j]? = some k → l.eraseIdx j = l.filter fun x => !decide (x = k)
  | [], j, k, _, h => by simp at h
  | x :: r, 0, k, nd, h => by
    rw [List.nodup_cons] at nd
    have : x = k := by simpa using h
    subst this
    rw [List.filter_cons_of_neg (by simp)]
    show r = _
    refine (List.filter_eq_self.mpr fun y hy => ?_).symm
    have : ¬ y = x := fun z => nd.1 (z ▸ hy)
    simp [this]
  | x :: r, j + 1, k, nd, h => by
    rw [List.nodup_cons] at nd
    have hr : r[j]? = some k := by simpa using h
    have : ¬ x = k := fun z => nd.1 (z ▸ List.mem_of_getElem? hr)
    rw [List.filter_cons_of_pos (by simp [this])]
    show x :: r.eraseIdx j = _
    rw [erase_filter nd.2 hr]
theorem and_suite_join {TW : (Bool → Hp → Prop) → Prop} {S : TS} {D : Ends} {σ : L2.St} {c : Bool} {H1 : Hp} {Pp : Hp → Prop} (key : ∀ H2, Pp H2 → D.nx σ H2)
    (h1 : c = true → ∀ Kb : Bool → Hp → Prop, (∀ H2, (∀ D' : Ends, (∀ H3, Pp H3 → D'.nx σ H3) → S D' σ H2) → Kb true H2) → (∀ H2, Pp H2 → Kb false H2) → TW Kb) (h2 : c = false → Pp H1) :
    if c = true then TW (fun b H1 => if b = true then S D σ H1 else tNext D σ H1) else (fun b H1 => if b = true then S D σ H1 else tNext D σ H1) false H1 := by
  cases c
  · exact key _ (h2 rfl)
  · exact h1 rfl _ (fun H2 hA => hA _ key) fun H2 hp => key _ hp
theorem er_map {α β : Type} (f : α → β) : ∀ (l : List α) (k : Nat), (l.map f).eraseIdx k = (l.eraseIdx k).map f
  | [], _ => rfl
  | _ :: _, 0 => rfl
  | x :: r, k + 1 => by rw [List.map_cons, List.eraseIdx_cons_succ, List.eraseIdx_cons_succ, List.map_cons, er_map f r k]
theorem filter_fst (Hs : List (Nat × Nat)) (k : Nat) : (Hs.filter fun h => !decide (h.1 = k)).map (·.1) = (Hs.map (·.1)).filter fun x => !decide (x = k) := by rw [List.filter_map]; rfl
/-- a store that goes, its houses' list and a hand beside it -/
structure HSt (K : PySem.W.Frag) (H : Hp) (a R h : Addr) (b : Bk) (nms : List Str) (sz sp k m g n : Nat) (b1 : Bk) (D : List Nat) (Hs : List (Nat × Nat)) (L : List Nat) (H' : Hp) : Prop where
  fa : ∀ x o, x ≠ h → Fgn b x o → H x = some o → H' x = some o
  ki : Kin b b1
  at_ : b1.At K H' a
  ok : b1.Ok none k m g
  S : Sim b1.ab nms sz sp D Hs
  lR : H' R = some (.lst (nV L))
  nG : R ≠ b.s.aG
  nT : R ∉ b.ts.map (·.a)
  nH : H R = none
  hh : HandAt H' h n
  hR : R ≠ h
  hG : h ≠ b.s.aG
  hT : h ∉ b.ts.map (·.a)
section
variable {K : PySem.W.Frag} {H H' H2 : Hp} {a R h : Addr} {b b1 b2 : Bk} {nms : List Str} {sz sp k m g n k' m' g' n' : Nat} {D D2 : List Nat} {Hs Hs2 : List (Nat × Nat)} {L L2 : List Nat}
theorem HSt.same (s : HSt K H a R h b nms sz sp k m g n b1 D Hs L H') (e : Same H' H2) : HSt K H a R h b nms sz sp k m g n b1 D Hs L H2 :=
  { s with fa := fun x o nh f q => e _ _ (s.fa x o nh f q), at_ := s.at_.same e, lR := e _ _ s.lR, hh := s.hh.same e }
theorem HandAt.far {n : Nat} (hh : HandAt H h n) (f : Far b H H') (hG : h ≠ b.s.aG) (hT : h ∉ b.ts.map (·.a)) : HandAt H' h n := by
  obtain ⟨d, s, c, q, r⟩ := hh
  exact ⟨d, s, c, f _ _ (.inr ⟨⟨_, rfl⟩, hG, hT⟩) q, r⟩
theorem HSt.go (s : HSt K H a R h b nms sz sp k m g n b1 D Hs L H') (f : Far b1 H' H2) (ki : Kin b1 b2) (hb : b2.At K H2 a) (o : b2.Ok none k' m' g') (S : Sim b2.ab nms sz sp D2 Hs2) : HSt K H a R h b nms sz sp k' m' g' n b2 D2 Hs2 L H2 :=
  { fa := fun x o nh fg q => (f.kin s.ki) x o fg (s.fa x o nh fg q), ki := s.ki.trans ki, at_ := hb, ok := o, S := S, lR := f _ _ (.inr ⟨⟨_, rfl⟩, by rw [s.ki.g]; exact s.nG, by rw [s.ki.t]; exact s.nT⟩) s.lR, nG := s.nG, nT := s.nT, nH := s.nH, hh := s.hh.far f (by rw [s.ki.g]; exact s.hG) (by rw [s.ki.t]; exact s.hT), hR := s.hR, hG := s.hG, hT := s.hT }
theorem HSt.lst (s : HSt K H a R h b nms sz sp k m g n b1 D Hs L H') : HSt K H a R h b nms sz sp k m g n b1 D Hs L2 (upd H' R (.lst (nV L2))) :=
  { s with fa := fun x o nh f q => by rw [upd_ne (ne_of_none q s.nH)]; exact s.fa x o nh f q, at_ := s.at_.other s.lR (by rw [s.ki.g]; exact s.nG) (by rw [s.ki.t]; exact s.nT) (fun x o n q => by rw [upd_ne n]; exact q), lR := upd_same, hh := s.hh.upd s.hR }
theorem HSt.take (s : HSt K H a R h b nms sz sp k m g n b1 D Hs L H') (e : But h H' H2) (hA : HandAt H2 h n') : HSt K H a R h b nms sz sp k m g n' b1 D Hs L H2 := by
  obtain ⟨d0, s0, c0, q0, _⟩ := s.hh
  exact { s with fa := fun x o nh f q => e _ _ nh (s.fa x o nh f q), at_ := s.at_.other q0 (by rw [s.ki.g]; exact s.hG) (by rw [s.ki.t]; exact s.hT) (fun x o n q => e x o n q), lR := e _ _ s.hR s.lR, hh := hA }
theorem HSt.mono (s : HSt K H a R h b nms sz sp k m g n b1 D Hs L H') (h1 : k ≤ k') (h2 : m ≤ m') (h3 : g ≤ g') (h4 : n ≤ n') : HSt K H a R h b nms sz sp k' m' g' n' b1 D Hs L H' := { s with ok := s.ok.mono h1 h2 h3, hh := s.hh.mono h4 }
end
section
variable {P : Program} {w : World} {K : PySem.W.Frag} {mg : Str → Option Value} {base : Heap}
def sp__law_drawn_right (K : PySem.W.Frag) : Sp := fun vs H Q _ => ∃ (h a tp : Addr) (nn : Nat) (b : Bk) (nms : List Str) (sz sp pace back many : Nat) (D : List Nat), vs = [.ref h, .ref a, .ref tp, .int pace, .int back, .int many] ∧ HandAt H h nn ∧ nn < 500000 ∧ h ≠ b.s.aG ∧ h ∉ b.ts.map (·.a) ∧ b.At K H a ∧ b.Ok none 0 0 0 ∧ SqT K H tp (nms.map V.str) ∧ Sim b.ab nms sz sp D [] ∧ 0 < pace ∧ pace < 1000 ∧ 0 < back ∧ back < 1000 ∧ many ≤ 150 ∧ sz ≤ 1000 ∧ ubrun back pace sp many 0 D = true ∧
  ∀ H', (∀ x o, x ≠ h → Fgn b x o → H x = some o → H' x = some o) → HandAt H' h (nn + 10000) → Q (.bl true) H'
theorem sc__law_drawn_right : FnScope ["_law_hand_here", "_law_store", "_law_tables", "_law_pace", "_law_back", "_law_many", "_law_held", "_law_k", "_law_begun"] ["_law_hand_here", "_law_store", "_law_tables", "_law_pace", "_law_back", "_law_many"] (defScope s__law_drawn_right) := ⟨rfl, rfl, rfl, by decide +kernel, rfl, by decide +kernel, by decide +kernel⟩
theorem ok__law_drawn_right {fd : FuncData} (T : Txt K mg) (F : FnD K d__law_drawn_right fd) : FnOk P w K mg base CX0 10 (He.fAd K d__law_drawn_right.at_) fd ["_law_hand_here", "_law_store", "_law_tables", "_law_pace", "_law_back", "_law_many"] (sp__law_drawn_right K) := by
  obtain ⟨fd__law_freezing, F__law_freezing⟩ := T.fn 23 (d := d__law_freezing)
  have G__law_freezing := ok__law_freezing (P := P) (w := w) (base := base) T F__law_freezing
  have B__law_freezing_4 : KBn K fd__law_freezing ["_law_store", "_law_tables", "_law_pace", "_law_k"] 4 [] (fun us ws => us ++ ws) (fun us ws => us ++ ws) := RX.kb0 F__law_freezing 4 [] (fun us ws => us ++ ws) (fun a b => a.append b) (fun _ _ _ _ _ _ us ws h1 h2 => match us, ws, h1, h2 with | [_, _, _, _], [], _, _ => rfl)
  obtain ⟨fd__law_take, F__law_take⟩ := T.fn 18 (d := d__law_take)
  have G__law_take := okB__law_take (P := P) (w := w) (base := base) T F__law_take
  have B__law_take_2 : KBn K fd__law_take ["_law_hand_here", "_law_many"] 2 [] (fun us ws => us ++ ws) (fun us ws => us ++ ws) := RX.kb0 F__law_take 2 [] (fun us ws => us ++ ws) (fun a b => a.append b) (fun _ _ _ _ _ _ us ws h1 h2 => match us, ws, h1, h2 with | [_, _], [], _, _ => rfl)
  obtain ⟨fd_Freezing_let, F_Freezing_let⟩ := T.fn 83 (d := d_Freezing_let)
  have G_Freezing_let := okB_Freezing_let (P := P) (w := w) (base := base) T F_Freezing_let
  have B_Freezing_let_2 : KBn K fd_Freezing_let ["self", "name"] 2 [] (fun us ws => us ++ ws) (fun us ws => us ++ ws) := RX.kb0 F_Freezing_let 2 [] (fun us ws => us ++ ws) (fun a b => a.append b) (fun _ _ _ _ _ _ us ws h1 h2 => match us, ws, h1, h2 with | [_, _], [], _, _ => rfl)
  obtain ⟨fd__law_house, F__law_house⟩ := T.fn 22 (d := d__law_house)
  have G__law_house := ok__law_house (P := P) (w := w) (base := base) T F__law_house
  have B__law_house_1 : KBn K fd__law_house ["_law_k"] 1 [] (fun us ws => us ++ ws) (fun us ws => us ++ ws) := RX.kb0 F__law_house 1 [] (fun us ws => us ++ ws) (fun a b => a.append b) (fun _ _ _ _ _ _ us ws h1 h2 => match us, ws, h1, h2 with | [_], [], _, _ => rfl)
  obtain ⟨fd_Freezing_hold, F_Freezing_hold⟩ := T.fn 82 (d := d_Freezing_hold)
  have G_Freezing_hold := okB_Freezing_hold (P := P) (w := w) (base := base) T F_Freezing_hold
  obtain ⟨mv_B_Freezing_hold_2, B_Freezing_hold_2⟩ := RX.kbm (ps := ["self", "name", "like"]) F_Freezing_hold 2 [] [("like", V.non)] (by simp [DefD.kws, d_Freezing_hold, Dv.v]) (by simp [DefD.kws, d_Freezing_hold]) (fun us mv ws => us ++ (RX.at1 mv 0)) (fun a m z => a.append (RX.at1_vals m 0)) (fun D doc pm an cdv ct us mv ws h1 h2 h3 => match us, mv, ws, h1, h2, h3 with | [_, _], [_], [], _, _, _ => ⟨_, _, _, _, _, _, rfl, rfl, rfl⟩)
  obtain ⟨fd__law_given, F__law_given⟩ := T.fn 21 (d := d__law_given)
  have G__law_given := ok__law_given (P := P) (w := w) (base := base) T F__law_given
  have B__law_given_3 : KBn K fd__law_given ["_law_store", "_law_tables", "_law_k"] 3 [] (fun us ws => us ++ ws) (fun us ws => us ++ ws) := RX.kb0 F__law_given 3 [] (fun us ws => us ++ ws) (fun a b => a.append b) (fun _ _ _ _ _ _ us ws h1 h2 => match us, ws, h1, h2 with | [_, _, _], [], _, _ => rfl)
  refine F.ok sc__law_drawn_right (fun vs H Q E h => ?_) (fun cdv A outer s H vs Q E hr h => ?_)
  · obtain ⟨h, a, tp, nn, b, nms, sz, sp, pace, back, many, D, rfl, _⟩ := h; rfl
  · obtain ⟨h, a, tp, nn, b, nms, sz, sp, pace, back, many, D, rfl, hh, hn5, hG, hT, hb, ho, htp, S, hp0, hp9, hb0, hb9, hm9, hz9, hub, k⟩ := h
    refine ⟨_, (PSs.nox (pss_cons (ps_set (i := 6) sc__law_drawn_right.nd rfl (Or.inl rfl) (pe_lst pa_nil)) (pss_cons (ps_for PassesOwn.never rfl (pi_range1 rfl (T.fre 45) (pa_cons (pv 5) pa_nil)) (pg_name (i := 7) sc__law_drawn_right.nd rfl (Or.inr rfl)) (pss_cons (ps_expr (RX.pe_cs G__law_freezing (hr.mono (by decide)) (T.glo 23) F__law_freezing.kp B__law_freezing_4 RX.passS0 (pa_cons (pv 1) (pa_cons (pv 2) (pa_cons (pv 3) (pa_cons (pv 7) pa_nil)))) pk_nil)) (pss_cons (ps_for PassesOwn.never rfl (pi_list (pe_lc (own := [("_law_begun", 8)]) (g := (gName 8)) rfl sc__law_drawn_right.nd (pi_list (pv 6)) (blkOk_by (own := [("_law_begun", 8)]) (by kernel_rfl)) (fun _ _ _ _ _ => (pg_name (i := 8) sc__law_drawn_right.nd rfl (Or.inl rfl))) (fun _ _ _ _ _ => (pts_one (PW.pt (pw_or (pt_cmpR op_le (pe_op op_add (pv 8) (pv 4)) (pv 7) (nomark _)) (pw_or1 (pt_cmpR op_eq (RX.pe_cs G__law_take (hr.mono (by decide)) (T.glo 18) F__law_take.kp B__law_take_2 RX.passS0 (pa_cons (pv 0) (pa_cons pe_int pa_nil)) pk_nil) pe_int (nomark _))))))) (fun _ _ _ _ _ => (pv 8)))) (pg_name (i := 8) sc__law_drawn_right.nd rfl (Or.inl rfl)) (pss_cons (ps_expr (RX.pe_ms (pv 1) T.clStore (T.mt 118) G_Freezing_let (hr.mono (by decide)) B_Freezing_let_2 RX.passS0 (pa_cons (RX.pe_cs G__law_house (hr.mono (by decide)) (T.glo 22) F__law_house.kp B__law_house_1 RX.passS0 (pa_cons (pv 8) pa_nil) pk_nil) pa_nil) pk_nil)) (pss_one (ps_expr (pe_bm PySem.F.plainAttrs_list PySem.F.slot_list_remove PySem.F.type_list_remove mt_remove (pv 6) (pa_cons (pv 8) pa_nil)))))) (pss_cons (ps_if (PW.pt (pw_and (pt_cmpR op_lt (pe_callB call_len_seq (by rfl) (T.fre 44) (by decide +kernel) (pa_cons (pv 6) pa_nil)) pe_int (nomark _)) (pw_and1 (pt_cmpR op_eq (RX.pe_cs G__law_take (hr.mono (by decide)) (T.glo 18) F__law_take.kp B__law_take_2 RX.passS0 (pa_cons (pv 0) (pa_cons pe_int pa_nil)) pk_nil) pe_int (nomark _))))) (pss_cons (ps_expr (RX.pe_ms (pv 1) T.clStore (T.mt 117) G_Freezing_hold (hr.mono (by decide)) B_Freezing_hold_2 RX.passS0 (pa_cons (RX.pe_cs G__law_house (hr.mono (by decide)) (T.glo 22) F__law_house.kp B__law_house_1 RX.passS0 (pa_cons (pv 7) pa_nil) pk_nil) pa_nil) pk_nil)) (pss_one (ps_expr (pe_bm PySem.F.plainAttrs_list PySem.F.slot_list_append PySem.F.type_list_append mt_append (pv 6) (pa_cons (pv 7) pa_nil))))) pss_nil) (pss_one (ps_if (pt_not (pt_val (RX.pe_cs G__law_given (hr.mono (by decide)) (T.glo 21) F__law_given.kp B__law_given_3 RX.passS0 (pa_cons (pv 1) (pa_cons (pv 2) (pa_cons (pv 7) pa_nil))) pk_nil))) (pss_one (ps_ret pe_bl)) pss_nil)))))) (pss_one (ps_ret pe_bl))))), ?_⟩
    have hp0' : (0 : Int) < (pace : Int) := by omega
    walk_at "go"
    rename_i R hR
    have nG0 : R ≠ b.s.aG := fun z => by rw [z, hb.lg] at hR; cases hR
    have nT0 : R ∉ b.ts.map (·.a) := fun z => by
      obtain ⟨t, ht, e⟩ := List.mem_map.mp z
      rw [← e, hb.vl t ht] at hR; cases hR
    have s0 : HSt K H a R h b nms sz sp 0 0 0 nn b D [] [] (upd H R (.lst [])) := ⟨fun x o _ _ q => RX.same_new hR _ _ q, Kin.refl _, hb.same (RX.same_new hR), ho, S, upd_same, nG0, nT0, hR, hh.same (RX.same_new hR), hh.ne hR, hG, hT⟩
    refine for_range (fun i σ' H' => RX.Box (∃ (b1 : Bk) (D1 U : List Nat) (Hs : List (Nat × Nat)) (o7 o8 : Option V), σ' = [some (.ref h), some (.ref a), some (.ref tp), some (.int pace), some (.int back), some (.int many), some (.ref R), o7, o8] ∧ HSt K H a R h b nms sz sp i (2 * i) (1000 * i) (nn + 30 * i) b1 D1 Hs (Hs.map (·.1)) H' ∧ (∀ x ∈ Hs, x.1 < i ∧ x.2 + x.1 = i ∧ i ≤ x.1 + back) ∧ Hs.length ≤ 20 ∧ LeL D1 U ∧ ubrun back pace sp (many - i) i U = true)) ?_ (fun i σ' H' hi ⟨⟨b1, D1, U, Hs, o7, o8, hσ, s, hst, hl20, hU, hub⟩⟩ => ?_) (fun σ' H' ⟨⟨b1, D1, U, Hs, o7, o8, hσ, s, hst, hl20, hU, hub⟩⟩ => ?_)
    · exact ⟨⟨b, D, D, [], none, none, rfl, s0, fun _ h => (nomatch h), Nat.zero_le _, ⟨rfl, fun i d u h1 h2 => by rw [h1] at h2; cases h2; exact Nat.le_refl _⟩, hub⟩⟩
    · subst hσ
      have hi9 : i < 150 := by omega
      rw [Int.zero_add]
      obtain ⟨n, hn⟩ : ∃ n, many - i = n + 1 := ⟨many - i - 1, by omega⟩
      have tp_of : ∀ {H2 : Hp}, (∀ x o, x ≠ h → Fgn b x o → H x = some o → H2 x = some o) → SqT K H2 tp (nms.map V.str) := fun {H2} f => by
        rcases htp with (t | ⟨u, t⟩) | t
        · exact .inl (.inl (f _ _ (fun z => by have := hh.mut; rw [← z, t] at this; exact this) (.inl (fun z => z)) t))
        · exact .inl (.inr ⟨u, f _ _ (fun z => by have := hh.mut; rw [← z, t] at this; exact this) (.inl (fun z => z)) t⟩)
        · exact .inr t
      walk_at "go"
      refine ⟨s.at_, s.ok, by omega, by omega, by omega, tp_of s.fa, s.S, hp0, hp9, hz9, fun H4 b4 f4 k4 at4 ok4 S4 => ?_⟩
      have s4 := s.go f4 k4 at4 ok4 S4
      have hmb : mx (Hs.map (·.2)) ≤ back := mx_le fun x hx => by
        obtain ⟨y, hy, rfl⟩ := List.mem_map.mp hx
        have := hst y hy; omega
      have hU4 := LeL.frz (k := i) (pace := pace) hU hmb
      have lR4 := s4.lR
      have hLl : ((Hs.map (·.1)).length) = Hs.length := List.length_map ..
      have hndL := s4.S.hi
      walk_at "go"
      rename_i Dl hDl
      have hDh : Dl ≠ h := s4.hh.ne hDl
      have hDR : Dl ≠ R := fun z => by rw [z, lR4] at hDl; cases hDl
      have nDG : Dl ≠ b.s.aG := fun z => by
        have := s4.at_.lg
        rw [s4.ki.g, ← z, hDl] at this; cases this
      have nDT : Dl ∉ b.ts.map (·.a) := fun z => by
        rw [← s4.ki.t] at z
        obtain ⟨t, ht, e⟩ := List.mem_map.mp z
        have := s4.at_.vl t ht
        rw [e, hDl] at this; cases this
      refine lc_list (K := K) (xs := nV (Hs.map (·.1))) (fun j H3 => RX.Box (∃ sel : List Nat, But h H4 H3 ∧ HandAt H3 h (nn + 30 * i + j) ∧ H3 Dl = some (.lst (nV sel)) ∧ sel.Sublist ((Hs.map (·.1)).take j) ∧ ∀ x ∈ (Hs.map (·.1)).take j, x + back ≤ i → x ∈ sel)) ⟨⟨[], But.of (RX.same_new hDl), s4.hh.same (RX.same_new hDl), upd_same, List.nil_sublist _, fun x hx => by simp at hx⟩⟩ (fun j H3 _ ⟨⟨sel, b3, _⟩⟩ => SqL.of (b3 _ _ s4.hR lR4)) (fun j x H3 hj ⟨⟨sel, b3, hA3, hD3, hsub, hall⟩⟩ => ?_) (fun H3 ⟨⟨sel, b3, hA3, hD3, hsub, hall⟩⟩ => ?_)
      · unfold nV at hj
        rw [List.getElem?_map] at hj
        obtain ⟨x0, hx0, rfl⟩ := Option.map_eq_some_iff.mp hj
        have hjl := (List.getElem?_eq_some_iff.mp hx0).1
        have htk : (Hs.map (·.1)).take (j + 1) = (Hs.map (·.1)).take j ++ [x0] := by rw [List.take_add_one, hx0]; rfl
        have hsl : sel.length ≤ j := by
          have := hsub.length_le
          rw [List.length_take] at this; omega
        have hz3 : (nV sel).length < sizeLine := by unfold nV; rw [List.length_map]; exact Nat.lt_of_le_of_lt (show sel.length ≤ 100 by omega) (by decide)
        have hx0s : sel.Sublist ((Hs.map (·.1)).take (j + 1)) := hsub.trans (List.take_sublist_take_left (by omega))
        have add : ∀ H5, But h H4 H5 → HandAt H5 h (nn + 30 * i + (j + 1)) → H5 Dl = some (.lst (nV sel)) → ∃ acc, H5 Dl = some (.lst acc) ∧ acc.length < sizeLine ∧ RX.Box (∃ sel : List Nat, But h H4 (upd H5 Dl (.lst (acc ++ [V.int x0]))) ∧ HandAt (upd H5 Dl (.lst (acc ++ [V.int x0]))) h (nn + 30 * i + (j + 1)) ∧ upd H5 Dl (.lst (acc ++ [V.int x0])) Dl = some (.lst (nV sel)) ∧ sel.Sublist ((Hs.map (·.1)).take (j + 1)) ∧ ∀ x ∈ (Hs.map (·.1)).take (j + 1), x + back ≤ i → x ∈ sel) := by
          intro H5 b5 hA5 hD5
          refine ⟨_, hD5, hz3, ⟨⟨sel ++ [x0], fun y o ny q => by rw [upd_ne (ne_of_none q hDl)]; exact b5 _ _ ny q, hA5.upd hDh, by rw [upd_same]; unfold nV; rw [List.map_append]; rfl, by rw [htk]; exact hsub.append (List.Sublist.refl _), fun x hx hxb => ?_⟩⟩⟩
          rw [htk] at hx
          rcases List.mem_append.mp hx with hx | hx
          · exact List.mem_append_left _ (hall x hx hxb)
          · exact List.mem_append_right _ hx
        have hnn : nn + 30 * i + j < 900000 := by omega
        have h40 : (0 : Int) < 4 := by decide
        have h41 : (4 : Int) < 1000 := by decide
        walk_at "go"
        refine RX.iteB (fun hc => ?_) (fun hc => ?_)
        · walk_at "go"
          exact add H3 b3 (hA3.mono (by omega)) hD3
        · walk_at "go"
          rename_i y H5 b5 hA5 c0 c1
          refine RX.iteB (fun hc2 => ?_) (fun hc2 => ?_)
          · walk_at "go"
            exact add H5 (But.trans b3 b5) (hA5.mono (by omega)) (b5 _ _ hDh hD3)
          · refine ⟨⟨sel, But.trans b3 b5, hA5.mono (by omega), b5 _ _ hDh hD3, hx0s, fun x hx hxb => ?_⟩⟩
            rw [htk] at hx
            rcases List.mem_append.mp hx with hx | hx
            · exact hall x hx hxb
            · rw [List.mem_singleton.mp hx] at hxb
              have := of_decide_eq_false hc
              omega
      · rw [show (nV (Hs.map (·.1))).length = Hs.length by unfold nV; rw [List.length_map, List.length_map], List.take_of_length_le (by omega)] at hsub hall
        rw [show (nV (Hs.map (·.1))).length = Hs.length by unfold nV; rw [List.length_map, List.length_map]] at hA3
        have s5 := s4.take b3 hA3
        have hndsel := hndL.sublist hsub
        walk_at "go"
        refine for_list (K := K) (xs := nV sel) (fun j σ' H6 => RX.Box (∃ (b6 : Bk) (o8 : Option V), σ' = [some (.ref h), some (.ref a), some (.ref tp), some (.int pace), some (.int back), some (.int many), some (.ref R), some (.int i), o8] ∧ HSt K H a R h b nms sz sp i (2 * i) (1000 * i + i + 1 + j) (nn + 30 * i + Hs.length) b6 (frzD D1 Hs pace i) (Hs.filter fun x => !decide (x.1 ∈ sel.take j)) ((Hs.filter fun x => !decide (x.1 ∈ sel.take j)).map (·.1)) H6 ∧ H6 Dl = some (.lst (nV sel)))) ?_ (fun j σ' H6 _ ⟨⟨b6, o8, hσ, s6, hD6⟩⟩ => SqL.of hD6) (fun j x σ' H6 hj ⟨⟨b6, o8, hσ, s6, hD6⟩⟩ => ?_) (fun σ' H6 ⟨⟨b6, o8, hσ, s6, hD6⟩⟩ => ?_)
        · have e0 : (Hs.filter fun x => !decide (x.1 ∈ sel.take 0)) = Hs := List.filter_eq_self.mpr fun x _ => by simp
          refine ⟨⟨b4, _, rfl, ?_, hD3⟩⟩
          rw [e0]
          exact s5
        · subst hσ
          unfold nV at hj
          rw [List.getElem?_map] at hj
          obtain ⟨x0, hx0, rfl⟩ := Option.map_eq_some_iff.mp hj
          have hmem : x0 ∈ Hs.map (·.1) := hsub.subset (List.mem_of_getElem? hx0)
          have hnd6 := s6.S.hi
          have hx6 : x0 ∈ (Hs.filter fun x => !decide (x.1 ∈ sel.take j)).map (·.1) := by
            obtain ⟨y, hy, rfl⟩ := List.mem_map.mp hmem
            refine List.mem_map.mpr ⟨y, List.mem_filter.mpr ⟨hy, ?_⟩, rfl⟩
            have : ¬ y.1 ∈ sel.take j := fun z => by
              have htk : sel.take (j + 1) = sel.take j ++ [y.1] := by rw [List.take_add_one, hx0]; rfl
              have h1 : (sel.take (j + 1)).Nodup := hndsel.sublist (List.take_sublist _ _)
              rw [htk] at h1
              exact (List.nodup_append.mp h1).2.2 _ z _ (List.mem_singleton.mpr rfl) rfl
            simp [this]
          obtain ⟨y6, hy6, ey6⟩ := List.mem_map.mp hx6
          have h676 := s6.S.h6 y6 hy6
          rw [ey6] at h676
          have hw := (hname_ok x0).1
          have hl3 : (hname x0).length ≤ 100 := by rw [(hname_ok x0).2]; decide
          have hin6 : hname x0 ∈ b6.ab.hs.map (·.1) := by
            rw [s6.S.hn]
            exact List.mem_map.mpr ⟨y6, hy6, by rw [ey6]⟩
          have at6 := s6.at_
          have ok6 := s6.ok
          have ha6 := at6.st
          have hjs : j < sel.length := (List.getElem?_eq_some_iff.mp hx0).1
          have hsl : sel.length ≤ 20 := by have := hsub.length_le; omega
          have hg6 : 1000 * i + i + 1 + j < 10000000 := by omega
          walk_at "go"
          rename_i H7 b7 f7 k7 at7 ok7 hab7 hts7
          have s7 := s6.go f7 k7 at7 ok7 (hab7 ▸ s6.S.gone h676)
          have hD7 : H7 Dl = some (.lst (nV sel)) := f7 _ _ (.inr ⟨⟨_, rfl⟩, by rw [s6.ki.g]; exact nDG, by rw [s6.ki.t]; exact nDT⟩) hD6
          have lR7 := s7.lR
          rw [nV_eq] at lR7
          obtain ⟨jj, hjj⟩ := List.getElem?_of_mem hx6
          walk_at "go"
          case' r.h.h.h.w => exact jj
          refine ⟨by rw [List.getElem?_map, hjj]; rfl, fun mm hmm z => ?_, ?_⟩
          · rw [List.getElem?_map] at z
            obtain ⟨z0, hz0, ez⟩ := Option.map_eq_some_iff.mp z
            have : z0 = x0 := by omega
            rw [this] at hz0
            have := (List.getElem?_inj (List.getElem?_eq_some_iff.mp hz0).1 hnd6).mp (hz0.trans hjj.symm)
            omega
          · have er : ((((Hs.filter fun x => !decide (x.1 ∈ sel.take j)).map (·.1)).map fun n : Nat => (n : Int)).eraseIdx jj).map V.int = nV (((Hs.filter fun x => !decide (x.1 ∈ sel.take j)).map (·.1)).filter fun x => !decide (x = x0)) := by
              rw [nV_eq, ← erase_filter hnd6 hjj, er_map]
            rw [er]
            have s8 := s7.lst (L2 := ((Hs.filter fun x => !decide (x.1 ∈ sel.take j)).map (·.1)).filter fun x => !decide (x = x0))
            have hff : ((Hs.filter fun x => !decide (x.1 ∈ sel.take j)).filter fun x => !decide (x.1 = x0)) = Hs.filter fun x => !decide (x.1 ∈ sel.take (j + 1)) := by
              rw [List.filter_filter]
              refine List.filter_congr fun x _ => ?_
              have htk : sel.take (j + 1) = sel.take j ++ [x0] := by rw [List.take_add_one, hx0]; rfl
              rw [htk]
              by_cases q1 : x.1 = x0 <;> by_cases q2 : x.1 ∈ sel.take j <;> simp [q1, q2]
            rw [← filter_fst, hff] at s8
            refine ⟨⟨b7, _, rfl, ?_, by rw [upd_ne hDR]; exact hD7⟩⟩
            rw [← filter_fst, hff]
            exact s8
        · subst hσ
          rw [show (nV sel).length = sel.length by unfold nV; rw [List.length_map], List.take_length] at s6
          have hsl : sel.length ≤ 20 := by have := hsub.length_le; omega
          have hst3 : ∀ x ∈ Hs.filter (fun x => !decide (x.1 ∈ sel)), x.1 < i + 1 ∧ x.2 + x.1 = i ∧ i + 1 ≤ x.1 + back := fun x hx => by
            obtain ⟨q1, q2⟩ := List.mem_filter.mp hx
            have q3 := hst x q1
            have q4 : ¬ x.1 ∈ sel := by simpa using q2
            have q5 : ¬ x.1 + back ≤ i := fun z => q4 (hall x.1 (List.mem_map_of_mem q1) z)
            omega
          have hl3 : (Hs.filter (fun x => !decide (x.1 ∈ sel))).length ≤ 20 := Nat.le_trans (List.length_filter_le _ _) hl20
          have hlt3 : ∀ x ∈ Hs.filter (fun x => !decide (x.1 ∈ sel)), x.1 < i := fun x hx => (hst x (List.mem_filter.mp hx).1).1
          generalize Hs.filter (fun x => !decide (x.1 ∈ sel)) = Hs3 at *
          have lR6 := s6.lR
          have hnR : (nV (Hs3.map (·.1))).length = Hs3.length := by unfold nV; rw [List.length_map, List.length_map]
          have hwk := (hname_ok i).1
          have hlk : (hname i).length ≤ 100 := by rw [(hname_ok i).2]; decide
          have hndk := hname_nd i
          have hnin : i ∉ Hs3.map (·.1) := fun z => by
            obtain ⟨x, hx, q⟩ := List.mem_map.mp z
            have := hlt3 x hx; omega
          have hnot : hname i ∉ b6.ab.hs.map (·.1) := fun z => by
            rw [s6.S.hn] at z
            obtain ⟨x, hx, q⟩ := List.mem_map.mp z
            have := hlt3 x hx
            have := hname_inj (by omega) (by omega) q
            omega
          have hnn : nn + 30 * i + Hs.length < 900000 := by omega
          have h30 : (0 : Int) < 3 := by decide
          have h31 : (3 : Int) < 1000 := by decide
          walk_at "go"
          refine and_suite_join (Pp := fun H7 => RX.Box (∃ (b7 : Bk) (Hs7 : List (Nat × Nat)), HSt K H a R h b nms sz sp i (2 * i + 1) (1000 * i + i + 30) (nn + 30 * i + 21) b7 (frzD D1 Hs pace i) Hs7 (Hs7.map (·.1)) H7 ∧ (∀ x ∈ Hs7, x.1 < i + 1 ∧ x.2 + x.1 = i ∧ i + 1 ≤ x.1 + back) ∧ Hs7.length ≤ 20)) (fun H7 ⟨⟨b7, Hs7, s7, hst7, hl7⟩⟩ => ?_) (fun hc Kb hT hF => ?_) (fun hc => ?_)
          · have hsp : mx (frzD D1 Hs pace i) < sp := by
              rw [hn] at hub
              unfold ubrun at hub
              rw [Bool.and_eq_true] at hub
              have := of_decide_eq_true hub.1
              have := hU4.mxl; omega
            have hub2 : ubrun back pace sp (many - (i + 1)) (i + 1) ((frzU U pace back i).map (· + 1)) = true := by
              rw [hn] at hub
              unfold ubrun at hub
              rw [Bool.and_eq_true] at hub
              rw [show many - (i + 1) = n by omega]; exact hub.2
            walk_at "go"
            refine ⟨s7.at_, s7.ok, by omega, by omega, by omega, tp_of s7.fa, s7.S, by omega, hz9, fun hmx => absurd hmx (by omega), fun hmx H9 b9 f9 k9 at9 ok9 S9 => ?_⟩
            walk_at "go"
            have s9 := s7.go f9 k9 at9 ok9 S9
            refine ⟨⟨b9, _, _, upH Hs7, _, _, rfl, ?_, fun x hx => ?_, by unfold upH; rw [List.length_map]; exact hl7, hU4.up, hub2⟩⟩
            · have e9 : (upH Hs7).map (·.1) = Hs7.map (·.1) := by unfold upH; rw [List.map_map]; rfl
              rw [e9]
              exact s9.mono (by omega) (by omega) (by omega) (by omega)
            · unfold upH at hx
              obtain ⟨y, hy, rfl⟩ := List.mem_map.mp hx
              obtain ⟨q1, q2, q3⟩ := hst7 y hy
              exact ⟨q1, by show y.2 + 1 + y.1 = i + 1; omega, q3⟩
          · have hh6 := s6.hh
            have hlen20 : Hs3.length < 20 := by
              have := of_decide_eq_true hc
              rw [hnR] at this; omega
            walk_at "go"
            rename_i y H7 b7 hA7 c0 c1
            have s7 := s6.take b7 hA7
            by_cases hy : y = 0
            · subst hy
              refine hT _ (fun D' hD' => ?_)
              have at7 := s7.at_
              have ok7 := s7.ok
              have ha7 := at7.st
              have hm7 : 2 * i < 900 := by omega
              have hg7 : 1000 * i + i + 1 + sel.length < 10000000 := by omega
              walk_at "go"
              rename_i H8 b8 f8 k8 at8 ok8 hab8 hts8
              have s8 := s7.go f8 k8 at8 ok8 (hab8 ▸ s7.S.hold (by omega) hnin)
              have lR8 := s8.lR
              have hz8 : (nV (Hs3.map (·.1))).length < sizeLine := by rw [hnR]; exact Nat.lt_of_le_of_lt (show Hs3.length ≤ 100 by omega) (by decide)
              walk_at "go"
              have eR : nV (Hs3.map (·.1)) ++ [V.int (i : Int)] = nV ((Hs3 ++ [((i, 0) : Nat × Nat)]).map (fun h : Nat × Nat => h.1)) := by unfold nV; rw [List.map_append, List.map_append]; rfl
              rw [eR]
              have s9 := s8.lst (L2 := (Hs3 ++ [((i, 0) : Nat × Nat)]).map (fun h : Nat × Nat => h.1))
              have s9' := s9.mono (k' := i) (m' := 2 * i + 1) (g' := 1000 * i + i + 30) (n' := nn + 30 * i + 21) (Nat.le_refl _) (by omega) (by omega) (by omega)
              refine hD' _ ⟨⟨b8, Hs3 ++ [(i, 0)], s9', fun x hx => ?_, by rw [List.length_append]; simp; omega⟩⟩
              rcases List.mem_append.mp hx with hx | hx
              · exact hst3 x hx
              · rw [List.mem_singleton.mp hx]
                exact ⟨by show i < i + 1; omega, by show 0 + i = i; omega, by show i + 1 ≤ i + back; omega⟩
            · have hy2 : decide (V.int y = V.int 0) = false := decide_eq_false fun z => hy (V.int.inj z)
              rw [hy2]
              have s7' := s7.mono (k' := i) (m' := 2 * i + 1) (g' := 1000 * i + i + 30) (n' := nn + 30 * i + 21) (Nat.le_refl _) (by omega) (by omega) (by omega)
              exact hF _ ⟨⟨b6, Hs3, s7', hst3, hl3⟩⟩
          · have s6' := s6.mono (k' := i) (m' := 2 * i + 1) (g' := 1000 * i + i + 30) (n' := nn + 30 * i + 21) (Nat.le_refl _) (by omega) (by omega) (by omega)
            exact ⟨⟨b6, Hs3, s6', hst3, hl3⟩⟩
    · subst hσ
      walk_at "go"
      exact k _ s.fa (s.hh.mono (by omega))
end
theorem ld_inv {K : PySem.W.Frag} {a : Addr} {its : List V} {g : TG} {tt : TT} {tk tv : TE} {vs : List Nat} {σ : L2.St} {H1 : Hp} {D : Addr} {Qd : Hp → Prop} (R : Nat → Hp → Prop) (h0 : R 0 (upd H1 D (.dK []))) (hq : ∀ i H, R i H → SqT K H a its)
    (hs : ∀ i x H, its[i]? = some x → R i H → g x (wipe σ vs) H fun σ2 H2 => wipe σ2 vs = wipe σ vs ∧ tt σ2 H2 fun b H3 => if b = true then tk σ2 H3 fun y H4 => tv σ2 H4 fun z H5 => ∃ kvs k, y = kV k ∧ H5 D = some (.dK kvs) ∧ kvs.length < sizeLine ∧ R (i + 1) (upd H5 D (.dK (putK kvs k z))) else R (i + 1) H3)
    (hd : ∀ H, R its.length H → Qd H) :
    ∃ W : Nat → Nat → Hp → Prop, (∃ m, W 0 m (upd H1 D (.dK []))) ∧ ∀ i m H, W i m H →
      ((Itt K a).stop i H ∧ Qd H) ∨ ((Itt K a).go i H ∧ ∃ Nx : Hp → Prop, (∀ H', Nx H' → ∃ m', m' < m ∧ W (i + 1) m' H') ∧ ∀ x H', (Itt K a).yld i H x H' → g x (wipe σ vs) H' fun σ2 H2 => wipe σ2 vs = wipe σ vs ∧ tt σ2 H2 fun b H3 =>
        if b = true then tk σ2 H3 fun y H4 => tv σ2 H4 fun z H5 => ∃ kvs k, y = kV k ∧ H5 D = some (.dK kvs) ∧ kvs.length < sizeLine ∧ Nx (upd H5 D (.dK (putK kvs k z))) else Nx H3) := by
  refine ⟨fun i m H => m = its.length - i ∧ i ≤ its.length ∧ R i H, ⟨its.length, by simp, Nat.zero_le _, h0⟩, ?_⟩
  rintro i m H ⟨rfl, hi, r⟩
  by_cases hlt : i < its.length
  · refine .inr ⟨⟨_, its[i], hq _ _ r, List.getElem?_eq_getElem hlt⟩, R (i + 1), fun H' r => ⟨its.length - (i + 1), by omega, rfl, hlt, r⟩, fun y H' ⟨e1, e2⟩ => ?_⟩
    subst e1
    exact hs i y _ (e2 _ (hq _ _ r)) r
  · have : i = its.length := by omega
    subst this
    exact .inl ⟨⟨_, hq _ _ r, Nat.le_refl _⟩, hd _ r⟩
/-- a dict of tables -/
def tlK (tl : List (Str × Addr)) : List (Key × V) := tl.map fun e => (.inr e.1, .ref e.2)
theorem tlK_put {tl : List (Str × Addr)} {n : Str} {L : Addr} (h : n ∉ tl.map (·.1)) : putK (tlK tl) (.inr n) (.ref L) = tlK (tl ++ [(n, L)]) := by
  unfold putK
  rw [if_neg]
  · unfold tlK; rw [List.map_append]; rfl
  · intro z
    obtain ⟨e, he, hk⟩ := List.any_eq_true.mp z
    unfold tlK at he
    obtain ⟨x, hx, rfl⟩ := List.mem_map.mp he
    have : x.1 = n := by simpa using hk
    exact h (this ▸ List.mem_map_of_mem hx)
theorem cut_drop1 (xs : List V) : cutV xs (some 1) none = xs.drop 1 := by
  unfold cutV
  rw [HT.sIx_none, show (1 : Int) = ((1 : Nat) : Int) from rfl, HT.sIx_nat]
  cases xs with
  | nil => rfl
  | cons x r => simp [Nat.min_def]
theorem iteF2 {c : Bool} {A B : Prop} (h : c = false) (b : B) : if c = true then A else B := by rw [if_neg (by rw [h]; decide)]; exact b
theorem ifT2 {c : Bool} {A B : Prop} (h : c = true) (a : A) : if c = true then A else B := by rw [if_pos h]; exact a
theorem len_le2 {z : Str} (h : z.length ≤ 100) : z.length ≤ sizeLine := Nat.le_trans h (by decide)
/-- rising -/
def asc : List Str → Bool
  | x :: y :: r => decide (x.cps.toList < y.cps.toList) && asc (y :: r)
  | _ => true
theorem asc_get : ∀ {l : List Str} {i : Nat} {a b : Str}, asc l = true → l[i]? = some a → l[i + 1]? = some b → a.cps.toList < b.cps.toList
  | [], _, _, _, _, h, _ => by simp at h
  | [x], i, _, _, _, _, h => by simp at h
  | x :: y :: r, 0, a, b, h, h1, h2 => by
    simp only [asc, Bool.and_eq_true, decide_eq_true_eq] at h
    simp at h1 h2
    rw [← h1, ← h2]; exact h.1
  | x :: y :: r, i + 1, a, b, h, h1, h2 => by
    simp only [asc, Bool.and_eq_true, decide_eq_true_eq] at h
    exact asc_get (l := y :: r) h.2 (by simpa using h1) (by simpa using h2)
section
variable {P : Program} {w : World} {K : PySem.W.Frag} {mg : Str → Option Value} {base : Heap}
def sp_Deeds_init (K : PySem.W.Frag) : Sp := fun vs H Q _ => ∃ (x tp dx : Addr) (ring first : Int) (nms : List Str), vs = [.ref x, .ref tp, .int ring, .int first] ∧ H x = some (.ins (CS K) dx []) ∧ SqT K H tp (nms.map V.str) ∧ nms.Nodup ∧ nms.length ≤ 100 ∧
  ∀ H' aT tl aF aL aG, (∀ b o, b ≠ x → H b = some o → H' b = some o) → H' x = some (.ins (CS K) dx [("book_ring", .int ring), ("book_next", .int first), ("book_tables", .ref aT), ("book_fates", .ref aF), ("book_lookers", .ref aL), ("book_log", .ref aG), ("is_busy", .bl false)]) →
    H' aT = some (.dK (tlK tl)) → tl.map (·.1) = nms → (∀ e ∈ tl, H' e.2 = some (.lst [])) → H' aF = some (.dK []) → H' aL = some (.dK []) → H' aG = some (.lst []) → aL ≠ aF → (aG :: tl.map (·.2)).Nodup → aT ≠ aF → aT ≠ aL → (∀ y o, y ≠ x → H y = some o → y ∉ tl.map (·.2) ∧ y ≠ aG) → Q .non H'
theorem sc_Deeds_init : FnScope ["self", "tables", "ring", "first", "table"] ["self", "tables", "ring", "first"] (defScope s_Deeds_init) := ⟨rfl, rfl, rfl, by decide +kernel, rfl, by decide +kernel, by decide +kernel⟩
theorem ok_Deeds_init {fd : FuncData} (T : Txt K mg) (F : FnD K d_Deeds_init fd) : FnOk P w K mg base CX0 1 (He.fAd K d_Deeds_init.at_) fd ["self", "tables", "ring", "first"] (sp_Deeds_init K) := by
  refine F.ok sc_Deeds_init (fun vs H Q E h => ?_) (fun cdv A outer s H vs Q E hr h => ?_)
  · obtain ⟨x, tp, dx, ring, first, nms, rfl, _⟩ := h; rfl
  · obtain ⟨x, tp, dx, ring, first, nms, rfl, hx, htp, hnd, hn9, k⟩ := h
    refine ⟨_, (PSs.nox (pss_cons (ps_fld (pv 0) (pv 2) rfl) (pss_cons (ps_fld (pv 0) (pv 3) rfl) (pss_cons (ps_fld (pv 0) (pe_dc (own := [("table", 4)]) (g := (gName 4)) (tt := tYes) rfl sc_Deeds_init.nd (pi_tup (pv 1)) (blkOk_by (own := [("table", 4)]) (by kernel_rfl)) (fun _ _ _ _ _ => (pg_name (i := 4) sc_Deeds_init.nd rfl (Or.inl rfl))) (fun _ _ _ _ _ => pts_nil) (fun _ _ _ _ _ => (pv 4)) (fun _ _ _ _ _ => (pe_lst pa_nil))) rfl) (pss_cons (ps_fld (pv 0) pe_dnewK rfl) (pss_cons (ps_fld (pv 0) pe_dnewK rfl) (pss_cons (ps_fld (pv 0) (pe_lst pa_nil) rfl) (pss_one (ps_fld (pv 0) pe_bl rfl))))))))), ?_⟩
    have mx : Mut (H x) := by rw [hx]; trivial
    walk_at "go"
    simp only [upd_upd]
    have ht1 : SqT K (upd H x (.ins (CS K) dx (putF (Str.ofString "book_next") (V.int first) (putF (Str.ofString "book_ring") (V.int ring) [])))) tp (nms.map V.str) := RX.sqT_mut mx htp
    have hx1 : upd H x (.ins (CS K) dx (putF (Str.ofString "book_next") (V.int first) (putF (Str.ofString "book_ring") (V.int ring) []))) x = some (.ins (CS K) dx (putF (Str.ofString "book_next") (V.int first) (putF (Str.ofString "book_ring") (V.int ring) []))) := upd_same
    have fr1 : ∀ b o, b ≠ x → H b = some o → upd H x (.ins (CS K) dx (putF (Str.ofString "book_next") (V.int first) (putF (Str.ofString "book_ring") (V.int ring) []))) b = some o := fun b o n q => by rw [upd_ne n]; exact q
    generalize upd H x (.ins (CS K) dx (putF (Str.ofString "book_next") (V.int first) (putF (Str.ofString "book_ring") (V.int ring) []))) = H1 at *
    refine ⟨⟨_, ht1⟩, fun D hD => ?_⟩
    refine ld_inv (its := nms.map V.str) (fun i H' => RX.Box (Same H1 H' ∧ ∃ tl : List (Str × Addr), tl.map (·.1) = nms.take i ∧ H' D = some (.dK (tlK tl)) ∧ (∀ e ∈ tl, H' e.2 = some (.lst []) ∧ H1 e.2 = none) ∧ (tl.map (·.2)).Nodup)) ⟨⟨RX.same_new hD, [], rfl, upd_same, fun e h => (nomatch h), List.nodup_nil⟩⟩ (fun i H' ⟨⟨e, _⟩⟩ => RX.same_sqT e ht1) (fun i x H' hi ⟨⟨e2, tl, hta, hDk, htl, htn⟩⟩ => ?_) (fun H2 ⟨⟨e2, tl, hta, hDk, htl, htn⟩⟩ => ?_)
    · rw [List.getElem?_map] at hi
      obtain ⟨n, hn, rfl⟩ := Option.map_eq_some_iff.mp hi
      have hil := (List.getElem?_eq_some_iff.mp hn).1
      walk_at "go"
      rename_i L hL
      have hLn : H1 L = none := by
        cases q : H1 L with
        | none => rfl
        | some o => have := e2 _ _ q; rw [hL] at this; cases this
      have nLD : L ≠ D := fun z => by rw [z, hDk] at hL; cases hL
      have htz : (tlK tl).length < sizeLine := by
        have : tl.length = (nms.take i).length := by rw [← hta, List.length_map]
        rw [List.length_take] at this
        unfold tlK
        rw [List.length_map]; exact Nat.lt_of_le_of_lt (show tl.length ≤ 100 by omega) (by decide)
      have hnin : n ∉ tl.map (·.1) := by
        rw [hta]
        have h1 : (nms.take (i + 1)).Nodup := hnd.sublist (List.take_sublist _ _)
        rw [List.take_add_one, hn] at h1
        intro z
        exact (List.nodup_append.mp h1).2.2 n z n (by simp) rfl
      have hDk2 : upd H' L (.lst []) D = some (.dK (tlK tl)) := by rw [upd_ne (Ne.symm nLD)]; exact hDk
      refine ⟨htz, ⟨⟨fun b o q => ?_, tl ++ [(n, L)], ?_, ?_, fun e he => ?_, ?_⟩⟩⟩
      · rw [upd_ne (ne_of_none q hD), upd_ne (ne_of_none q hLn)]; exact e2 _ _ q
      · rw [List.map_append, hta, List.take_add_one, hn]; rfl
      · rw [upd_same, tlK_put hnin]
      · rcases List.mem_append.mp he with he | he
        · obtain ⟨h1, h2⟩ := htl e he
          exact ⟨by rw [upd_ne (ne_of h1 hDk (fun z => nomatch z)), upd_ne (fun z => by rw [z, hL] at h1; cases h1)]; exact h1, h2⟩
        · rw [List.mem_singleton.mp he]
          exact ⟨by rw [upd_ne nLD, upd_same], hLn⟩
      · rw [List.map_append]
        refine List.nodup_append.mpr ⟨htn, by simp, fun x hx y hy e => ?_⟩
        obtain ⟨e0, he0, rfl⟩ := List.mem_map.mp hx
        have hy : y = L := by simpa using hy
        have h1 := (htl e0 he0).1
        rw [e, hy, hL] at h1
        cases h1
    · rw [List.length_map, List.take_length] at hta
      have hx2 := e2 _ _ hx1
      walk_at "go"
      rename_i aF hF aL hL2 aG hG
      have nDx : D ≠ x := ne_of hDk hx2 (fun z => nomatch z)
      have nFx : aF ≠ x := fun z => by rw [z, upd_same] at hF; cases hF
      have nLx2 : aL ≠ x := fun z => by rw [z, upd_same] at hL2; cases hL2
      have nGx : aG ≠ x := fun z => by rw [z, upd_same] at hG; cases hG
      have nLF : aL ≠ aF := fun z => by rw [z, upd_ne nFx, upd_same] at hL2; cases hL2
      have nGF : aG ≠ aF := fun z => by rw [z, upd_ne nFx, upd_ne (Ne.symm nLF), upd_ne nFx, upd_same] at hG; cases hG
      have nGL : aG ≠ aL := fun z => by rw [z, upd_ne nLx2, upd_same] at hG; cases hG
      have neF : ∀ y o, y ≠ x → H2 y = some o → y ≠ aF := fun y o n q z => by rw [← z, upd_ne n, q] at hF; cases hF
      have neL : ∀ y o, y ≠ x → H2 y = some o → y ≠ aL := fun y o n q z => by
        have := neF y o n q
        rw [← z, upd_ne n, upd_ne this, upd_ne n, q] at hL2; cases hL2
      have neG : ∀ y o, y ≠ x → H2 y = some o → y ≠ aG := fun y o n q z => by
        have h1 := neF y o n q
        have h2 := neL y o n q
        rw [← z, upd_ne n, upd_ne h2, upd_ne n, upd_ne h1, upd_ne n, q] at hG; cases hG
      have ntx : ∀ e ∈ tl, e.2 ≠ x := fun e he => ne_of (htl e he).1 hx2 (fun z => nomatch z)
      refine k _ D tl aF aL aG (fun b o n q => ?_) (by rw [upd_same]; rfl) ?_ hta (fun e he => ?_) ?_ ?_ ?_ nLF ?_ (neF _ _ nDx hDk) (neL _ _ nDx hDk) (fun y o n q => ⟨fun z => ?_, neG y o n (e2 _ _ (fr1 _ _ n q))⟩)
      · have q2 := e2 _ _ (fr1 _ _ n q)
        rw [upd_ne n, upd_ne n, upd_ne (neG _ _ n q2), upd_ne n, upd_ne (neL _ _ n q2), upd_ne n, upd_ne (neF _ _ n q2), upd_ne n]; exact q2
      · rw [upd_ne nDx, upd_ne nDx, upd_ne (neG _ _ nDx hDk), upd_ne nDx, upd_ne (neL _ _ nDx hDk), upd_ne nDx, upd_ne (neF _ _ nDx hDk), upd_ne nDx]; exact hDk
      · have n := ntx e he
        have q2 := (htl e he).1
        rw [upd_ne n, upd_ne n, upd_ne (neG _ _ n q2), upd_ne n, upd_ne (neL _ _ n q2), upd_ne n, upd_ne (neF _ _ n q2), upd_ne n]; exact q2
      · rw [upd_ne nFx, upd_ne nFx, upd_ne (Ne.symm nGF), upd_ne nFx, upd_ne (Ne.symm nLF), upd_ne nFx, upd_same]
      · rw [upd_ne nLx2, upd_ne nLx2, upd_ne (Ne.symm nGL), upd_ne nLx2, upd_same]
      · rw [upd_ne nGx, upd_ne nGx, upd_same]
      · rw [List.nodup_cons]
        refine ⟨fun z => ?_, htn⟩
        obtain ⟨e, he, q⟩ := List.mem_map.mp z
        exact neG _ _ (ntx e he) (htl e he).1 q
      · obtain ⟨e, he, q'⟩ := List.mem_map.mp z
        have := (htl e he).2
        rw [q', fr1 _ _ n q] at this
        cases this
def sp_are_tables (K : PySem.W.Frag) : Sp := fun vs H Q _ => ∃ (tp : Addr) (nms : List Str), vs = [.ref tp] ∧ SqT K H tp (nms.map V.str) ∧ nms ≠ [] ∧ nms.length ≤ 100 ∧ (∀ n ∈ nms, isW n = true ∧ n.length ≤ 100) ∧ asc nms = true ∧ ∀ H', Same H H' → Q (.bl true) H'
theorem sc_are_tables : FnScope ["thing", "table", "one", "other"] ["thing"] (defScope s_are_tables) := ⟨rfl, rfl, rfl, by decide +kernel, rfl, by decide +kernel, by decide +kernel⟩
theorem ok_are_tables {fd : FuncData} (T : Txt K mg) (F : FnD K d_are_tables fd) : FnOk P w K mg base CX0 2 (He.fAd K d_are_tables.at_) fd ["thing"] (sp_are_tables K) := by
  obtain ⟨fd_is_word, F_is_word⟩ := T.fn 5 (d := d_is_word)
  have G_is_word := ok_is_word (P := P) (w := w) (base := base) T F_is_word
  have B_is_word_1 : KBn K fd_is_word ["thing"] 1 [] (fun us ws => us ++ ws) (fun us ws => us ++ ws) := RX.kb0 F_is_word 1 [] (fun us ws => us ++ ws) (fun a b => a.append b) (fun _ _ _ _ _ _ us ws h1 h2 => match us, ws, h1, h2 with | [_], [], _, _ => rfl)
  refine F.ok sc_are_tables (fun vs H Q E h => ?_) (fun cdv A outer s H vs Q E hr h => ?_)
  · obtain ⟨tp, nms, rfl, _⟩ := h; rfl
  · obtain ⟨tp, nms, rfl, htp, hne, hn9, hw, hasc, k⟩ := h
    refine ⟨_, (PSs.nox (pss_cons (ps_if (PW.pt (pw_or (pt_not (pt_val (pe_callB RX.call_isB (by rfl) (T.fre 53) (by decide +kernel) (pa_cons (pv 0) (pa_cons (pe_bltn (v := .ty "tuple") (by rfl) (T.fre 46) (by decide +kernel) rfl) pa_nil))))) (pw_or (pt_cmpR op_eq (pe_callB call_len_seq (by rfl) (T.fre 44) (by decide +kernel) (pa_cons (pv 0) pa_nil)) pe_int (nomark _)) (pw_or1 (pt_not (pt_val (pe_callB (cr_all rfl) (by rfl) (T.fre 51) (by decide +kernel) (pa_cons (pe_lc (own := [("table", 1)]) (g := (gName 1)) (tt := tYes) rfl sc_are_tables.nd (pi_tup (pv 0)) (blkOk_by (own := [("table", 1)]) (by kernel_rfl)) (fun _ _ _ _ _ => (pg_name (i := 1) sc_are_tables.nd rfl (Or.inl rfl))) (fun _ _ _ _ _ => pts_nil) (fun _ _ _ _ _ => (RX.pe_cs G_is_word (hr.mono (by decide)) (T.glo 5) F_is_word.kp B_is_word_1 RX.passS0 (pa_cons (pv 1) pa_nil) pk_nil))) pa_nil)))))))) (pss_one (ps_ret pe_bl)) pss_nil) (pss_one (ps_ret (pe_callB (cr_all rfl) (by rfl) (T.fre 51) (by decide +kernel) (pa_cons (pe_lc (own := [("one", 2), ("other", 3)]) (g := (gTup K 2 (gCons (gName 2) (gCons (gName 3) gNil)))) (tt := tYes) rfl sc_are_tables.nd (RZ.pi_zipA (by rfl) (T.fre 59) (pa_cons (pv 0) (pa_cons (pe_slice sl_tupA (pv 0) (po_some pe_int) po_none) pa_nil))) (blkOk_by (own := [("one", 2), ("other", 3)]) (by kernel_rfl)) (fun _ _ _ _ _ => (pg_tup rfl (pgs_cons (pg_name (i := 2) sc_are_tables.nd rfl (Or.inl rfl)) (pgs_cons (pg_name (i := 3) sc_are_tables.nd rfl (Or.inl rfl)) pgs_nil)))) (fun _ _ _ _ _ => pts_nil) (fun _ _ _ _ _ => (pe_cmpR op_lt_str (pv 2) (pv 3) (nomark _)))) pa_nil)))))), ?_⟩
    have hlen0 : (nms.map V.str).length ≠ 0 := by simpa using hne
    walk_at "go"
    have hlen1 : ((nms.map V.str).length : Int) ≠ 0 := by omega
    refine iteF2 (by simpa using hne) ?_
    have hnz : nms.length ≤ sizeLine := Nat.le_trans hn9 (by decide)
    walk_at "go"
    rename_i D hD
    refine RX.lm_tpl (its := nms) (vf := V.str) (f := fun _ => [V.bl true]) hD (fun _ => Nat.le_refl _) hnz htp (fun i t acc H3 hi hlen ac => ?_) (fun H3 ac => ?_)
    · obtain ⟨hwt, hlt⟩ := hw t (List.mem_of_getElem? hi)
      have hl0 : t.length ≤ sizeLine := len_le2 hlt
      walk_at "go"
      rename_i H4 e4
      rw [hwt]
      exact ac.yes hD e4 hlen
    · have e3 := ac.same
      have ebl : nms.flatMap (fun _ => [V.bl true]) = (nms.map fun _ => true).map V.bl := by rw [RX.fm1, List.map_map]; rfl
      have at3 : SqL K H3 D ((nms.map fun _ => true).map V.bl) := SqL.of (by rw [ac.at_, ebl])
      have htp3 := RX.same_sqT e3 htp
      refine ⟨_, _, rfl, at3, ?_⟩
      have hall : (nms.map fun _ => true).all id = true := by simp
      rw [hall]
      walk_at "go"
      have hn1 : 1 ≤ nms.length := Nat.pos_of_ne_zero fun z => hne (List.length_eq_zero_iff.mp z)
      refine ⟨fun z => absurd z.1 (by rw [show (1 : Int) = ((1 : Nat) : Int) from rfl, HT.sIx_nat, List.length_map, Nat.min_def]; split <;> omega), fun _ p hp => ?_⟩
      rw [cut_drop1]
      have hp2 : SqT K (upd H3 p (.tup ((nms.map V.str).drop 1))) p ((nms.map V.str).drop 1) := SqT.of upd_same
      have htp4 := RX.sqT_fresh (o := .tup ((nms.map V.str).drop 1)) hp htp3
      refine ⟨tp, p, nms.map V.str, (nms.map V.str).drop 1, rfl, .inr ⟨htp4, hp2, fun D2 hD2 => ?_⟩⟩
      refine RX.lc_zipt (xs := nms.map V.str) (ys := (nms.map V.str).drop 1) (f := fun _ => [V.bl true]) hD2 (fun _ => Nat.le_refl _) (by rw [List.length_zip, List.length_map, List.length_drop, List.length_map]; omega) htp4 hp2 (fun i q T l H' hi hT hl ac => ?_) (fun H5 ac5 => ?_)
      · obtain ⟨z1, z2⟩ := List.getElem?_zip_eq_some.mp hi
        rw [List.getElem?_map] at z1
        rw [List.getElem?_drop, List.getElem?_map, Nat.add_comm] at z2
        obtain ⟨x1, hx1, e1⟩ := Option.map_eq_some_iff.mp z1
        obtain ⟨x2, hx2, e2⟩ := Option.map_eq_some_iff.mp z2
        obtain ⟨q1, q2⟩ := q
        simp only at e1 e2 hT
        subst e1 e2
        have hlt := asc_get hasc hx1 hx2
        have hT2 : SqT K H' T [.str x1, .str x2] := SqT.of hT
        walk_at "go"
        rw [decide_eq_true hlt]
        exact ac.yes hD2 (Same.refl _) hl
      · have ebl2 : (((nms.map V.str).zip ((nms.map V.str).drop 1)).flatMap fun _ => [V.bl true]) = (((nms.map V.str).zip ((nms.map V.str).drop 1)).map fun _ => true).map V.bl := by rw [RX.fm1, List.map_map]; rfl
        have at5 : SqL K H5 D2 ((((nms.map V.str).zip ((nms.map V.str).drop 1)).map fun _ => true).map V.bl) := SqL.of (by rw [ac5.at_, ebl2])
        refine ⟨_, _, rfl, at5, ?_⟩
        have hall2 : (((nms.map V.str).zip ((nms.map V.str).drop 1)).map fun _ => true).all id = true := by simp
        rw [hall2]
        exact k _ ((e3.trans (RX.same_new hp)).trans ac5.same)
def sp_are_marks (K : PySem.W.Frag) : Sp := fun vs H Q _ => ∃ (r s w : Int), vs = [.int r, .int s, .int w] ∧ 8 ≤ r ∧ r % 2 = 0 ∧ 1 ≤ w ∧ w ≤ s ∧ s < r / 2 ∧ Q (.bl true) H
theorem sc_are_marks : FnScope ["ring", "stop", "warn"] ["ring", "stop", "warn"] (defScope s_are_marks) := ⟨rfl, rfl, rfl, by decide +kernel, rfl, by decide +kernel, by decide +kernel⟩
theorem ok_are_marks {fd : FuncData} (T : Txt K mg) (F : FnD K d_are_marks fd) : FnOk P w K mg base CX0 3 (He.fAd K d_are_marks.at_) fd ["ring", "stop", "warn"] (sp_are_marks K) := by
  obtain ⟨fd_is_whole, F_is_whole⟩ := T.fn 6 (d := d_is_whole)
  have G_is_whole := ok_is_whole (P := P) (w := w) (base := base) T F_is_whole
  have B_is_whole_1 : KBn K fd_is_whole ["thing"] 1 [] (fun us ws => us ++ ws) (fun us ws => us ++ ws) := RX.kb0 F_is_whole 1 [] (fun us ws => us ++ ws) (fun a b => a.append b) (fun _ _ _ _ _ _ us ws h1 h2 => match us, ws, h1, h2 with | [_], [], _, _ => rfl)
  obtain ⟨fd_is_ring, F_is_ring⟩ := T.fn 8 (d := d_is_ring)
  have G_is_ring := ok_is_ring (P := P) (w := w) (base := base) T F_is_ring
  have B_is_ring_1 : KBn K fd_is_ring ["thing"] 1 [] (fun us ws => us ++ ws) (fun us ws => us ++ ws) := RX.kb0 F_is_ring 1 [] (fun us ws => us ++ ws) (fun a b => a.append b) (fun _ _ _ _ _ _ us ws h1 h2 => match us, ws, h1, h2 with | [_], [], _, _ => rfl)
  refine F.ok sc_are_marks (fun vs H Q E h => ?_) (fun cdv A outer s H vs Q E hr h => ?_)
  · obtain ⟨r, s, w, rfl, _⟩ := h; rfl
  · obtain ⟨r, s, w, rfl, h1, h2, h3, h4, h5, k⟩ := h
    refine ⟨_, (PSs.nox (pss_one (ps_ret (pe_and (RX.pe_cs G_is_ring (hr.mono (by decide)) (T.glo 8) F_is_ring.kp B_is_ring_1 RX.passS0 (pa_cons (pv 0) pa_nil) pk_nil) (pe_and (RX.pe_cs G_is_whole (hr.mono (by decide)) (T.glo 6) F_is_whole.kp B_is_whole_1 RX.passS0 (pa_cons (pv 1) pa_nil) pk_nil) (pe_and (RX.pe_cs G_is_whole (hr.mono (by decide)) (T.glo 6) F_is_whole.kp B_is_whole_1 RX.passS0 (pa_cons (pv 2) pa_nil) pk_nil) (pe_one (RX.pe_chain3 op_le op_le op_lt pe_int (pv 2) (pv 1) (pe_op op_fdiv (pv 0) pe_int))))))))), ?_⟩
    walk_at "go"
    refine ifT2 (by simp [h1, h2]) ?_
    walk_at "go"
    refine ifT2 (by simpa using h3) ?_
    walk_at "go"
    refine ifT2 (by simpa using h4) ?_
    walk_at "go"
    show Q (.bl (decide (s < r / 2))) H
    rw [show decide (s < r / 2) = true from decide_eq_true h5]
    exact k
end
theorem dps_names {v : V} : ∀ (nms dn : List Str), (dn ++ nms).Nodup → RX.dps (dn.map fun n => ((.inr n : Key), v)) (nms.flatMap fun n => [((.inr n : Key), v)]) = (dn ++ nms).map fun n => ((.inr n : Key), v)
  | [], dn, _ => by simp [RX.dps]
  | n :: r, dn, h => by
    have h2 : (dn ++ [n] ++ r).Nodup := by rw [List.append_assoc]; exact h
    have ih := dps_names (v := v) r (dn ++ [n]) h2
    have hn : n ∉ dn := fun z => (List.nodup_append.mp h).2.2 n z n (List.mem_cons_self ..) rfl
    have e : putK (dn.map fun n => ((.inr n : Key), v)) (.inr n) v = (dn ++ [n]).map fun n => ((.inr n : Key), v) := by
      unfold putK
      rw [if_neg]
      · rw [List.map_append]; rfl
      · intro z
        obtain ⟨e, he, hk⟩ := List.any_eq_true.mp z
        obtain ⟨x, hx, rfl⟩ := List.mem_map.mp he
        have : x = n := by simpa using hk
        exact hn (this ▸ hx)
    rw [List.flatMap_cons]
    show RX.dps (putK (dn.map fun n => ((.inr n : Key), v)) (.inr n) v) (r.flatMap fun n => [((.inr n : Key), v)]) = _
    rw [e, ih, List.append_assoc]; rfl
theorem asc_lt : ∀ {l : List Str} {x : Str}, asc (x :: l) = true → ∀ y ∈ l, x.cps.toList < y.cps.toList
  | [], _, _, y, hy => by cases hy
  | z :: r, x, h, y, hy => by
    simp only [asc, Bool.and_eq_true, decide_eq_true_eq] at h
    rcases List.mem_cons.mp hy with rfl | hy
    · exact h.1
    · exact List.lt_trans h.1 (asc_lt (l := r) h.2 y hy)
theorem asc_nodup : ∀ {l : List Str}, asc l = true → l.Nodup
  | [], _ => List.nodup_nil
  | x :: r, h => by
    rw [List.nodup_cons]
    refine ⟨fun z => List.lt_irrefl _ (asc_lt h x z), asc_nodup ?_⟩
    cases r with
    | nil => rfl
    | cons y r => simp only [asc, Bool.and_eq_true] at h; exact h.2
section
variable {P : Program} {w : World} {K : PySem.W.Frag} {mg : Str → Option Value} {base : Heap}
def sp_Freezing_init (K : PySem.W.Frag) : Sp := fun vs H Q _ => ∃ (x tp dx : Addr) (ring first stop warn : Int) (nms : List Str), vs = [.ref x, .ref tp, .int ring, .int first, .int stop, .int warn] ∧ H x = some (.ins (CS K) dx []) ∧ SqT K H tp (nms.map V.str) ∧ nms.Nodup ∧ nms.length ≤ 100 ∧
  ∀ H' aT tl aF aL aG aE, (∀ b o, b ≠ x → H b = some o → H' b = some o) → H' x = some (.ins (CS K) dx [("book_ring", .int ring), ("book_next", .int first), ("book_tables", .ref aT), ("book_fates", .ref aF), ("book_lookers", .ref aL), ("book_log", .ref aG), ("is_busy", .bl false), ("book_stop", .int stop), ("book_warn", .int warn), ("book_eldests", .ref aE)]) →
    H' aT = some (.dK (tlK tl)) → tl.map (·.1) = nms → (∀ e ∈ tl, H' e.2 = some (.lst [])) → H' aF = some (.dK []) → H' aL = some (.dK []) → H' aG = some (.lst []) → H' aE = some (.dK (nms.map fun n => (.inr n, .int first))) → [aT, aE, aL, aF].Nodup → (aG :: tl.map (·.2)).Nodup → (∀ y o, y ≠ x → H y = some o → y ∉ tl.map (·.2) ∧ y ≠ aG) → Q .non H'
theorem sc_Freezing_init : FnScope ["self", "tables", "ring", "first", "stop", "warn", "table"] ["self", "tables", "ring", "first", "stop", "warn"] (defScope s_Freezing_init) := ⟨rfl, rfl, rfl, by decide +kernel, rfl, by decide +kernel, by decide +kernel⟩
theorem ok_Freezing_init {fd : FuncData} (T : Txt K mg) (F : FnD K d_Freezing_init fd) : FnOk P w K mg base CX0 2 (He.fAd K d_Freezing_init.at_) fd ["self", "tables", "ring", "first", "stop", "warn"] (sp_Freezing_init K) := by
  obtain ⟨fd_Deeds_init, F_Deeds_init⟩ := T.fn 39 (d := d_Deeds_init)
  have G_Deeds_init := ok_Deeds_init (P := P) (w := w) (base := base) T F_Deeds_init
  have B_Deeds_init_4 : KBn K fd_Deeds_init ["self", "tables", "ring", "first"] 4 [] (fun us ws => us ++ ws) (fun us ws => us ++ ws) := RX.kb0 F_Deeds_init 4 [] (fun us ws => us ++ ws) (fun a b => a.append b) (fun _ _ _ _ _ _ us ws h1 h2 => match us, ws, h1, h2 with | [_, _, _, _], [], _, _ => rfl)
  refine F.ok sc_Freezing_init (fun vs H Q E h => ?_) (fun cdv A outer s H vs Q E hr h => ?_)
  · obtain ⟨x, tp, dx, ring, first, stop, warn, nms, rfl, _⟩ := h; rfl
  · obtain ⟨x, tp, dx, ring, first, stop, warn, nms, rfl, hx, htp, hnd, hn9, k⟩ := h
    refine ⟨_, (PSs.nox (pss_cons (ps_expr (RX.pe_cls (pe_glob (v := .ref _) rfl (T.glo 41) rfl) T.coDeeds.r T.coDeeds.v G_Deeds_init (hr.mono (by decide)) T.coDeeds.k B_Deeds_init_4 RX.passS0 (pa_cons (pv 0) (pa_cons (pv 1) (pa_cons (pv 2) (pa_cons (pv 3) pa_nil)))) pk_nil)) (pss_cons (ps_fld (pv 0) (pv 4) rfl) (pss_cons (ps_fld (pv 0) (pv 5) rfl) (pss_one (ps_fld (pv 0) (pe_dc (own := [("table", 6)]) (g := (gName 6)) (tt := tYes) rfl sc_Freezing_init.nd (pi_tup (pv 1)) (blkOk_by (own := [("table", 6)]) (by kernel_rfl)) (fun _ _ _ _ _ => (pg_name (i := 6) sc_Freezing_init.nd rfl (Or.inl rfl))) (fun _ _ _ _ _ => pts_nil) (fun _ _ _ _ _ => (pv 6)) (fun _ _ _ _ _ => (pv 3))) rfl)))))), ?_⟩
    have mx : Mut (H x) := by rw [hx]; trivial
    walk_at "go"
    rename_i H1 aT tl aF aL aG fr hx1 hT hta hL hF hLk hG n1 n2 n3 n4 nw
    simp only [upd_upd]
    have mx1 : Mut (H1 x) := by rw [hx1]; trivial
    let fs1 : List (Str × V) := [("book_ring", .int ring), ("book_next", .int first), ("book_tables", .ref aT), ("book_fates", .ref aF), ("book_lookers", .ref aL), ("book_log", .ref aG), ("is_busy", .bl false), ("book_stop", .int stop), ("book_warn", .int warn)]
    have nx : ∀ {y : Addr} {o : HO}, H1 y = some o → (∀ C d f, o ≠ .ins C d f) → y ≠ x := fun {y o} q n => ne_of q hx1 (n _ _ _)
    have hX : ∀ y, y = x → Mut (H y) := fun y hy => by rw [hy]; exact mx
    have htp1 : SqT K H1 tp (nms.map V.str) := sqT_chg fr hX htp
    have ht2 : SqT K (upd H1 x (.ins (CS K) dx fs1)) tp (nms.map V.str) := RX.sqT_mut mx1 htp1
    have hx2 : upd H1 x (.ins (CS K) dx fs1) x = some (.ins (CS K) dx fs1) := upd_same
    have fr2 : ∀ b o, b ≠ x → H1 b = some o → upd H1 x (.ins (CS K) dx fs1) b = some o := fun b o n q => by rw [upd_ne n]; exact q
    have efs : (putF (Str.ofString "book_warn") (V.int warn) (putF (Str.ofString "book_stop") (V.int stop) [(Str.ofString "book_ring", V.int ring), (Str.ofString "book_next", V.int first), (Str.ofString "book_tables", V.ref aT), (Str.ofString "book_fates", V.ref aF), (Str.ofString "book_lookers", V.ref aL), (Str.ofString "book_log", V.ref aG), (Str.ofString "is_busy", V.bl false)])) = fs1 := by kernel_rfl
    rw [efs]
    generalize hH2 : upd H1 x (.ins (CS K) dx fs1) = H2 at *
    refine ⟨⟨_, ht2⟩, fun D hD => ?_⟩
    refine RX.ld_tpl (its := nms) (vf := V.str) (f := fun n => [(.inr n, .int first)]) hD (fun _ => Nat.le_refl _) (Nat.le_trans hn9 (by decide)) ht2 (fun i t kvs H3 hi hlen ac => ?_) (fun H3 ac => ?_)
    · walk_at "go"
      exact ⟨ac.at_, hlen, ⟨fun b o q => by rw [upd_ne (fun z => by rw [z, hD] at q; cases q)]; exact ac.same b o q, upd_same⟩⟩
    · have e3 := ac.same
      have atD : H3 D = some (.dK (nms.map fun n => (.inr n, .int first))) := by rw [ac.at_]; exact congrArg (fun z => some (HO.dK z)) (dps_names nms [] hnd)
      have hx3 := e3 _ _ hx2
      walk_at "go"
      have efs2 : putF (Str.ofString "book_eldests") (V.ref D) fs1 = ([("book_ring", .int ring), ("book_next", .int first), ("book_tables", .ref aT), ("book_fates", .ref aF), ("book_lookers", .ref aL), ("book_log", .ref aG), ("is_busy", .bl false), ("book_stop", .int stop), ("book_warn", .int warn), ("book_eldests", .ref D)] : List (Str × V)) := by kernel_rfl
      rw [efs2]
      have nDx : D ≠ x := ne_of atD hx3 (fun z => nomatch z)
      have fin : ∀ {y o}, H1 y = some o → y ≠ x → upd H3 x (.ins (CS K) dx [("book_ring", .int ring), ("book_next", .int first), ("book_tables", .ref aT), ("book_fates", .ref aF), ("book_lookers", .ref aL), ("book_log", .ref aG), ("is_busy", .bl false), ("book_stop", .int stop), ("book_warn", .int warn), ("book_eldests", .ref D)]) y = some o := fun {y o} q n => by rw [upd_ne n]; exact e3 _ _ (fr2 _ _ n q)
      have nD : ∀ {y o}, H1 y = some o → y ≠ x → y ≠ D := fun {y o} q n z => by
        have := fr2 _ _ n q
        rw [z, hD] at this; cases this
      have tx := ne_of hT hx1 (fun z => nomatch z)
      have Lx : ∀ e ∈ tl, e.2 ≠ x := fun e he => ne_of (hL e he) hx1 (fun z => nomatch z)
      have Fx := ne_of hF hx1 (fun z => nomatch z)
      have Kx := ne_of hLk hx1 (fun z => nomatch z)
      have Gx := ne_of hG hx1 (fun z => nomatch z)
      refine k _ aT tl aF aL aG D (fun b o n q => fin (fr _ _ n q) n) upd_same (fin hT tx) hta (fun e he => fin (hL e he) (Lx e he)) (fin hF Fx) (fin hLk Kx) (fin hG Gx) (by rw [upd_ne nDx]; exact atD) ?_ n2 nw
      simp only [List.nodup_cons, List.mem_cons, List.not_mem_nil, or_false, not_or]
      exact ⟨⟨nD hT tx, n4, n3⟩, ⟨Ne.symm (nD hLk Kx), Ne.symm (nD hF Fx)⟩, n1, ⟨fun z => z, List.nodup_nil⟩⟩
/-- a new store -/
def nbk (ring first stop warn : Int) (tl : List (Str × Addr)) (dx aT aF aL aG aE : Addr) : Bk := ⟨⟨ring, first, aT, aF, aL, aG, false, stop, warn, aE, first⟩, dx, tl.map fun e => ⟨e.1, e.2, first, []⟩, [], [], [], fun _ => 0⟩
def sp_Store_init (K : PySem.W.Frag) : Sp := fun vs H Q _ => ∃ (x tp dx : Addr) (ring first stop warn : Int) (nms : List Str), vs = [.ref x, .ref tp, .int ring, .int stop, .int warn, .int first] ∧ H x = some (.ins (CS K) dx []) ∧ SqT K H tp (nms.map V.str) ∧ nms ≠ [] ∧ nms.length ≤ 100 ∧ (∀ n ∈ nms, isW n = true ∧ n.length ≤ 100) ∧ asc nms = true ∧
  8 ≤ ring ∧ ring % 2 = 0 ∧ 1 ≤ warn ∧ warn ≤ stop ∧ stop < ring / 2 ∧ 0 ≤ first ∧ first < ring ∧
  ∀ (H' : Hp) (b : Bk), (∀ c o, c ≠ x → H c = some o → H' c = some o) → b.At K H' x → b.Ok none 0 0 0 → b.ab = ⟨ring, stop, first, nms.map fun n => (n, first), []⟩ → (∀ y o, y ≠ x → H y = some o → y ≠ b.s.aG ∧ y ∉ b.ts.map (·.a)) → Q .non H'
theorem sc_Store_init : FnScope ["self", "tables", "ring", "stop", "warn", "first"] ["self", "tables", "ring", "stop", "warn", "first"] (defScope s_Store_init) := ⟨rfl, rfl, rfl, by decide +kernel, rfl, by decide +kernel, by decide +kernel⟩
theorem ok_Store_init {fd : FuncData} (T : Txt K mg) (F : FnD K d_Store_init fd) : FnOk P w K mg base CX0 4 (He.fAd K d_Store_init.at_) fd ["self", "tables", "ring", "stop", "warn", "first"] (sp_Store_init K) := by
  obtain ⟨fd_is_on, F_is_on⟩ := T.fn 9 (d := d_is_on)
  have G_is_on := ok_is_on (P := P) (w := w) (base := base) T F_is_on
  have B_is_on_2 : KBn K fd_is_on ["thing", "ring"] 2 [] (fun us ws => us ++ ws) (fun us ws => us ++ ws) := RX.kb0 F_is_on 2 [] (fun us ws => us ++ ws) (fun a b => a.append b) (fun _ _ _ _ _ _ us ws h1 h2 => match us, ws, h1, h2 with | [_, _], [], _, _ => rfl)
  obtain ⟨fd_are_marks, F_are_marks⟩ := T.fn 16 (d := d_are_marks)
  have G_are_marks := ok_are_marks (P := P) (w := w) (base := base) T F_are_marks
  have B_are_marks_3 : KBn K fd_are_marks ["ring", "stop", "warn"] 3 [] (fun us ws => us ++ ws) (fun us ws => us ++ ws) := RX.kb0 F_are_marks 3 [] (fun us ws => us ++ ws) (fun a b => a.append b) (fun _ _ _ _ _ _ us ws h1 h2 => match us, ws, h1, h2 with | [_, _, _], [], _, _ => rfl)
  obtain ⟨fd_are_tables, F_are_tables⟩ := T.fn 15 (d := d_are_tables)
  have G_are_tables := ok_are_tables (P := P) (w := w) (base := base) T F_are_tables
  have B_are_tables_1 : KBn K fd_are_tables ["thing"] 1 [] (fun us ws => us ++ ws) (fun us ws => us ++ ws) := RX.kb0 F_are_tables 1 [] (fun us ws => us ++ ws) (fun a b => a.append b) (fun _ _ _ _ _ _ us ws h1 h2 => match us, ws, h1, h2 with | [_], [], _, _ => rfl)
  obtain ⟨fd_Freezing_init, F_Freezing_init⟩ := T.fn 69 (d := d_Freezing_init)
  have G_Freezing_init := ok_Freezing_init (P := P) (w := w) (base := base) T F_Freezing_init
  have B_Freezing_init_6 : KBn K fd_Freezing_init ["self", "tables", "ring", "first", "stop", "warn"] 6 [] (fun us ws => us ++ ws) (fun us ws => us ++ ws) := RX.kb0 F_Freezing_init 6 [] (fun us ws => us ++ ws) (fun a b => a.append b) (fun _ _ _ _ _ _ us ws h1 h2 => match us, ws, h1, h2 with | [_, _, _, _, _, _], [], _, _ => rfl)
  refine F.ok sc_Store_init (fun vs H Q E h => ?_) (fun cdv A outer s H vs Q E hr h => ?_)
  · obtain ⟨x, tp, dx, ring, first, stop, warn, nms, rfl, _⟩ := h; rfl
  · obtain ⟨x, tp, dx, ring, first, stop, warn, nms, rfl, hx, htp, hne, hn9, hw, hasc, h8, he, w1, ws, sr, f0, f1, k⟩ := h
    refine ⟨_, (PSs.nox (pss_cons (ps_if (PW.pt (pw_or (pt_not (pt_val (RX.pe_cs G_are_tables (hr.mono (by decide)) (T.glo 15) F_are_tables.kp B_are_tables_1 RX.passS0 (pa_cons (pv 1) pa_nil) pk_nil))) (pw_or (pt_not (pt_val (RX.pe_cs G_are_marks (hr.mono (by decide)) (T.glo 16) F_are_marks.kp B_are_marks_3 RX.passS0 (pa_cons (pv 2) (pa_cons (pv 3) (pa_cons (pv 4) pa_nil))) pk_nil))) (pw_or1 (pt_not (pt_val (RX.pe_cs G_is_on (hr.mono (by decide)) (T.glo 9) F_is_on.kp B_is_on_2 RX.passS0 (pa_cons (pv 5) (pa_cons (pv 2) pa_nil)) pk_nil))))))) (pss_one ps_never) pss_nil) (pss_cons (ps_expr (RX.pe_cls (pe_glob (v := .ref _) rfl (T.glo 42) rfl) T.coFreezing.r T.coFreezing.v G_Freezing_init (hr.mono (by decide)) T.coFreezing.k B_Freezing_init_6 RX.passS0 (pa_cons (pv 0) (pa_cons (pv 1) (pa_cons (pv 2) (pa_cons (pv 5) (pa_cons (pv 3) (pa_cons (pv 4) pa_nil)))))) pk_nil)) (pss_one (ps_fld (pv 0) (pv 5) rfl))))), ?_⟩
    have hnd := asc_nodup hasc
    walk_at "go"
    rename_i H0 e0
    rw [show (decide (0 ≤ first) && decide (first < ring)) = true from by simp [f0, f1]]
    have hx0 := e0 _ _ hx
    have htp0 := RX.same_sqT e0 htp
    walk_at "go"
    rename_i H1 aT tl aF aL aG aE fr hx1 hT hta hL hF hLk hG hE hadn nLG nw
    have efs : (putF (Str.ofString "store_first") (V.int first) [(Str.ofString "book_ring", V.int ring), (Str.ofString "book_next", V.int first), (Str.ofString "book_tables", V.ref aT), (Str.ofString "book_fates", V.ref aF), (Str.ofString "book_lookers", V.ref aL), (Str.ofString "book_log", V.ref aG), (Str.ofString "is_busy", V.bl false), (Str.ofString "book_stop", V.int stop), (Str.ofString "book_warn", V.int warn), (Str.ofString "book_eldests", V.ref aE)]) = (nbk ring first stop warn tl dx aT aF aL aG aE).s.l := by kernel_rfl
    rw [efs]
    have tx := ne_of hT hx1 (fun z => nomatch z)
    have Lx : ∀ e ∈ tl, e.2 ≠ x := fun e he => ne_of (hL e he) hx1 (fun z => nomatch z)
    have Fx := ne_of hF hx1 (fun z => nomatch z)
    have Kx := ne_of hLk hx1 (fun z => nomatch z)
    have Gx := ne_of hG hx1 (fun z => nomatch z)
    have Ex := ne_of hE hx1 (fun z => nomatch z)
    have fin : ∀ {y o}, H1 y = some o → y ≠ x → upd H1 x (.ins (CS K) dx (nbk ring first stop warn tl dx aT aF aL aG aE).s.l) y = some o := fun {y o} q n => by rw [upd_ne n]; exact q
    have ets : (nbk ring first stop warn tl dx aT aF aL aG aE).ts = tl.map fun e => (⟨e.1, e.2, first, []⟩ : Tb) := rfl
    have mts : ∀ t ∈ (nbk ring first stop warn tl dx aT aF aL aG aE).ts, ∃ e ∈ tl, t = ⟨e.1, e.2, first, []⟩ := fun t ht => by
      obtain ⟨e, he, rfl⟩ := List.mem_map.mp ht
      exact ⟨e, he, rfl⟩
    have hml : (nbk ring first stop warn tl dx aT aF aL aG aE).ts.map (fun t => t.a) = tl.map (·.2) := by rw [ets, List.map_map]; rfl
    have hmn : (nbk ring first stop warn tl dx aT aF aL aG aE).ts.map (fun t => t.n) = nms := by rw [ets, List.map_map, ← hta]; rfl
    have hmE : tbE (nbk ring first stop warn tl dx aT aF aL aG aE).ts = nms.map fun n => (n, first) := by unfold tbE; rw [ets, List.map_map, ← hta, List.map_map]; rfl
    have hlen : tl.length = nms.length := by rw [← hta, List.length_map]
    refine k _ (nbk ring first stop warn tl dx aT aF aL aG aE) (fun b o n q => fin (fr _ _ n (e0 _ _ q)) n) ?_ ?_ ?_ (fun y o n q => ⟨(nw y o n (e0 _ _ q)).2, fun h => (nw y o n (e0 _ _ q)).1 (by rw [hml] at h; exact h)⟩)
    · exact { st := upd_same, tb := (by show _ = some (HO.dK (tbK ((nbk ring first stop warn tl dx aT aF aL aG aE).ts))); unfold tbK; rw [ets, List.map_map]; exact fin hT tx), el := (by rw [hmE]; unfold elK; rw [List.map_map]; exact fin hE Ex), lk := fin hLk Kx, ft := fin hF Fx, lg := fin hG Gx, vl := fun t ht => (by obtain ⟨e, he, rfl⟩ := mts t ht; exact fin (hL e he) (Lx e he)), vt := fun t ht e he => (by obtain ⟨_, _, rfl⟩ := mts t ht; cases he), ll := fun l hl => (nomatch hl), fl := fun e he => (nomatch he), lo := fun l hl => (nomatch hl), nd := hadn, nl := (by rw [hml]; exact nLG) }
    · exact { busy := rfl, r8 := h8, stp := sr, nx0 := f0, nx1 := f1, tne := (by rw [ets]; intro z; rw [List.map_eq_nil_iff] at z; rw [z] at hlen; exact hne (List.length_eq_zero_iff.mp hlen.symm)), tl := (by rw [ets, List.length_map, hlen]; omega), tnd := (by rw [hmn]; exact hnd), tw := fun t ht => (by obtain ⟨e, he, rfl⟩ := mts t ht; exact hw _ (hta ▸ List.mem_map_of_mem he)), te := fun t ht => (by
                  obtain ⟨e, he, rfl⟩ := mts t ht
                  refine ⟨f0, f1, ?_⟩
                  show (first - first) % ring ≤ stop
                  rw [Int.sub_self, Int.zero_emod]
                  omega), tv := fun t ht e he => (by obtain ⟨_, _, rfl⟩ := mts t ht; cases he), wo := fun t ht e he => (by obtain ⟨_, _, rfl⟩ := mts t ht; cases he), fk := fun e he => (nomatch he), fnd := List.nodup_nil, ff := fun e he => (nomatch he), lnd := List.nodup_nil, nm := fun l hl => (nomatch hl), op := fun l hl => (nomatch hl), dd := fun d h => (nomatch h), dn := fun _ l hl => (nomatch hl), kv := fun t ht => (by obtain ⟨_, _, rfl⟩ := mts t ht; exact Nat.le_refl _), kf := Nat.le_refl _, km := Nat.le_refl _, kg := Nat.le_refl _ }
    · show (⟨_, _, _, tbE (nbk ring first stop warn tl dx aT aF aL aG aE).ts, _⟩ : Ab) = _
      rw [hmE]; rfl
end
/-! ### the plain law: all settings, looked through -/
def wOk (T pace back x : Nat) : Bool :=
  let due := T * pace + back
  let size := 2 * due + 2 + 2 * x
  let many := min 150 (2 * size + 30)
  decide (gf back pace due many 0 0 (List.replicate T 0) [] = (due, false)) && (decide (gf back pace (due - 1) many 0 0 (List.replicate T 0) [] = (due - 1, true)) && ubrun back pace due many 0 (List.replicate T 0))
theorem worst_all1 : ∀ T, T < 3 → ∀ pace, pace < 4 → ∀ back, back < 7 → (wOk (T + 1) (pace + 1) (back + 1) (3 - ((T + 1) * (pace + 1) + (back + 1))) && (wOk (T + 1) (pace + 1) (back + 1) 3 && wOk (T + 1) (pace + 1) (back + 1) 10)) = true := by decide +kernel
theorem worst_all {T pace back x : Nat} (h1 : 0 < T) (h2 : T < 4) (h3 : 0 < pace) (h4 : pace < 5) (h5 : 0 < back) (h6 : back < 8) (hx : x = 3 - (T * pace + back) ∨ x = 3 ∨ x = 10) : wOk T pace back x = true := by
  have h := worst_all1 (T - 1) (by omega) (pace - 1) (by omega) (back - 1) (by omega)
  rw [show T - 1 + 1 = T by omega, show pace - 1 + 1 = pace by omega, show back - 1 + 1 = back by omega] at h
  simp only [Bool.and_eq_true] at h
  rcases hx with rfl | rfl | rfl
  · exact h.1
  · exact h.2.1
  · exact h.2.2
theorem ltCps_tri : ∀ a b : List Nat, ltCps a b = false → ltCps b a = false → a = b
  | [], [], _, _ => rfl
  | [], _ :: _, h, _ => by cases h
  | _ :: _, [], _, h => by cases h
  | x :: r, y :: t, h1, h2 => by
    simp only [ltCps, Bool.or_eq_false_iff, Bool.and_eq_false_iff, decide_eq_false_iff_not, beq_eq_false_iff_ne] at h1 h2
    have hxy : x = y := by omega
    subst hxy
    rw [ltCps_tri r t (h1.2.resolve_left (by simp)) (h2.2.resolve_left (by simp))]
theorem asc_of_rising : ∀ (l : List Str) (x : Str), risingS x l = true → (x :: l).Nodup → asc (x :: l) = true
  | [], _, _, _ => rfl
  | y :: r, x, h, nd => by
    simp only [risingS, Bool.and_eq_true, Bool.not_eq_true'] at h
    rw [List.nodup_cons] at nd
    have hne : x ≠ y := fun z => nd.1 (z ▸ List.mem_cons_self ..)
    have hlt : ltCps x.cps.toList y.cps.toList = true := by
      cases q : ltCps x.cps.toList y.cps.toList with
      | true => rfl
      | false =>
        have := ltCps_tri _ _ q h.1
        exfalso
        apply hne
        obtain ⟨⟨a⟩⟩ := x
        obtain ⟨⟨b⟩⟩ := y
        simp at this
        rw [this]
    simp only [asc, Bool.and_eq_true, decide_eq_true_eq]
    refine ⟨?_, asc_of_rising r y h.2 nd.2⟩
    rw [PyProof.Rows.ltCps_eq] at hlt
    exact of_decide_eq_true hlt
theorem asc_of_sorted {l : List Str} (h : sortedS l = true) (nd : l.Nodup) : asc l = true := by
  cases l with
  | nil => rfl
  | cons x r => exact asc_of_rising r x h nd
/-- all but objects, dicts and one hand stands as it stood -/
def KB (h : Addr) (H H' : Hp) : Prop := ∀ x o, x ≠ h → (¬ Mut (some o) ∨ ∃ xs, o = .lst xs) → H x = some o → H' x = some o
theorem KB.of {h : Addr} {H H' : Hp} (e : Keep H H') : KB h H H' := fun x o _ f q => e x o f q
theorem KB.same {h : Addr} {H H' : Hp} (e : Same H H') : KB h H H' := KB.of (Keep.of e)
theorem KB.but {h : Addr} {H H' : Hp} (e : But h H H') : KB h H H' := fun x o n _ q => e x o n q
theorem KB.trans {h : Addr} {H H1 H2 : Hp} (a : KB h H H1) (b : KB h H1 H2) : KB h H H2 := fun x o n f q => b x o n f (a x o n f q)
theorem KB.sqT {K : PySem.W.Frag} {h p : Addr} {H H' : Hp} {xs : List V} (e : KB h H H') (hm : Mut (H h)) (t : SqT K H p xs) : SqT K H' p xs := by
  rcases t with (t | ⟨u, t⟩) | t
  · exact .inl (.inl (e _ _ (fun z => by rw [← z, t] at hm; exact hm) (.inl (fun z => z)) t))
  · exact .inl (.inr ⟨u, e _ _ (fun z => by rw [← z, t] at hm; exact hm) (.inl (fun z => z)) t⟩)
  · exact .inr t
theorem Keep.sqL {K : PySem.W.Frag} {H H' : Hp} (h : Keep H H') {p : Addr} {xs : List V} (t : SqL K H p xs) : SqL K H' p xs := by
  rcases t with (t | ⟨u, t⟩) | t
  · exact .inl (.inl (h _ _ (.inr ⟨_, rfl⟩) t))
  · exact .inl (.inr ⟨u, h _ _ (.inl (fun z => z)) t⟩)
  · exact .inr t
theorem Keep.kb {h : Addr} {H H1 H2 : Hp} (a : Keep H H1) (n : ∀ o, (¬ Mut (some o) ∨ ∃ xs, o = .lst xs) → H h ≠ some o) (b : KB h H1 H2) : Keep H H2 := fun x o f q => b x o (fun z => n o f (z ▸ q)) f (a x o f q)
theorem Fgn.of {b : Bk} {x : Addr} {o : HO} (f : ¬ Mut (some o) ∨ ∃ xs, o = .lst xs) (n : x ≠ b.s.aG ∧ x ∉ b.ts.map (·.a)) : Fgn b x o := f.elim .inl fun z => .inr ⟨z, n.1, n.2⟩
theorem sim0 {A : Ab} {nms : List Str} {sz sp : Nat} {fs : Int} (hA : A = ⟨sz, sp, fs, nms.map fun n => (n, fs), []⟩) (nd : nms.Nodup) (ne : nms ≠ []) (f0 : 0 ≤ fs) (f1 : fs < sz) (z8 : 8 ≤ sz) (zs : 2 * sp + 2 ≤ sz) : Sim A nms sz sp (List.replicate nms.length 0) [] := by
  subst hA
  refine { r := rfl, s := rfl, n0 := f0, n1 := f1, nm := by rw [List.map_map]; exact List.map_id _, nd := nd, d := ?_, hn := rfl, hc := rfl, hl := fun e he => (nomatch he), le := fun d hd => ?_, hd := fun h hh => (nomatch hh), hi := List.nodup_nil, h6 := fun h hh => (nomatch hh), z8 := z8, zs := zs, ne := ?_ }
  · rw [List.map_map, List.map_replicate]
    refine List.eq_replicate_iff.mpr ⟨by rw [List.length_map], fun x hx => ?_⟩
    obtain ⟨n, _, rfl⟩ := List.mem_map.mp hx
    show (fs - fs) % (sz : Int) = _
    rw [Int.sub_self, Int.zero_emod]; rfl
  · rw [(List.mem_replicate.mp hd).2]; exact Nat.zero_le _
  · intro z
    rw [List.replicate_eq_nil_iff] at z
    exact ne (List.length_eq_zero_iff.mp z)
theorem pair_eqv (i : Int) (b : Bool) : PyData.eqv (.tuple [.int i, .bool b]) (.tuple [.int i, .bool b]) = true := by simp [PyData.eqv, PyData.eqvAll]
theorem pair_sh (i : Int) (b : Bool) : SeqAt.shaped (.tuple [.int i, .bool b]) = true := by
  have h : PyData.depth (.tuple [.int i, .bool b]) ≤ 64 := by simp [PyData.depth, PyData.depthAll]
  show (PyData.canLay0 _ && decide (PyData.depth _ ≤ 64)) = true
  rw [Bool.and_eq_true]
  exact ⟨by simp [PyData.canLay0, PyData.canLayAll0], decide_eq_true h⟩
section
variable {P : Program} {w : World} {K : PySem.W.Frag} {mg : Str → Option Value} {base : Heap}
def sp_law (K : PySem.W.Frag) : Sp := fun vs H Q _ => ∃ (a : Addr) (ns : List Int), vs = [.ref a] ∧ SqL K H a (ns.map V.int) ∧ ns.length ≤ 63 ∧ ∀ H', Q (.bl true) H'
theorem sc_law : FnScope ["_law_script", "_law_k", "_law_hand_here", "_law_tables", "_law_pace", "_law_back", "_law_due", "_law_size", "_law_many", "_law_begin_at", "_law_one", "_law_few", "_law_other", "_law_more"] ["_law_script"] (defScope s_law) := ⟨rfl, rfl, rfl, by decide +kernel, rfl, by decide +kernel, by decide +kernel⟩
theorem ok_law {fd : FuncData} (T : Txt K mg) (F : FnD K d_law fd) : FnOk P w K mg base CX0 11 (He.fAd K d_law.at_) fd ["_law_script"] (sp_law K) := by
  obtain ⟨fd__law_hand, F__law_hand⟩ := T.fn 17 (d := d__law_hand)
  have G__law_hand := okB__law_hand (P := P) (w := w) (base := base) T F__law_hand
  have B__law_hand_2 : KBn K fd__law_hand ["_law_script", "_law_k"] 2 [] (fun us ws => us ++ ws) (fun us ws => us ++ ws) := RX.kb0 F__law_hand 2 [] (fun us ws => us ++ ws) (fun a b => a.append b) (fun _ _ _ _ _ _ us ws h1 h2 => match us, ws, h1, h2 with | [_, _], [], _, _ => rfl)
  obtain ⟨fd__law_words, F__law_words⟩ := T.fn 20 (d := d__law_words)
  have G__law_words := ok__law_words (P := P) (w := w) (base := base) T F__law_words
  have B__law_words_2 : KBn K fd__law_words ["_law_hand_here", "_law_many"] 2 [] (fun us ws => us ++ ws) (fun us ws => us ++ ws) := RX.kb0 F__law_words 2 [] (fun us ws => us ++ ws) (fun a b => a.append b) (fun _ _ _ _ _ _ us ws h1 h2 => match us, ws, h1, h2 with | [_, _], [], _, _ => rfl)
  obtain ⟨fd__law_take, F__law_take⟩ := T.fn 18 (d := d__law_take)
  have G__law_take := okB__law_take (P := P) (w := w) (base := base) T F__law_take
  have B__law_take_2 : KBn K fd__law_take ["_law_hand_here", "_law_many"] 2 [] (fun us ws => us ++ ws) (fun us ws => us ++ ws) := RX.kb0 F__law_take 2 [] (fun us ws => us ++ ws) (fun a b => a.append b) (fun _ _ _ _ _ _ us ws h1 h2 => match us, ws, h1, h2 with | [_, _], [], _, _ => rfl)
  obtain ⟨fd_worst, F_worst⟩ := T.fn 0 (d := d_worst)
  have G_worst := ok_worst (P := P) (w := w) (base := base) T F_worst
  have B_worst_1_longest_every := RX.kb0 (ps := ["tables", "every", "longest"]) F_worst 1 ["longest", "every"] (fun us ws => us ++ RX.pick [1, 0] ws) (fun a b => a.append (RX.pick_vals b)) (fun _ _ _ _ _ _ us ws h1 h2 => match us, ws, h1, h2 with | [_], [_, _], _, _ => rfl)
  have B_worst_1_every_longest : KBn K fd_worst ["tables", "every", "longest"] 1 ["every", "longest"] (fun us ws => us ++ ws) (fun us ws => us ++ ws) := RX.kb0 F_worst 1 ["every", "longest"] (fun us ws => us ++ ws) (fun a b => a.append b) (fun _ _ _ _ _ _ us ws h1 h2 => match us, ws, h1, h2 with | [_], [_, _], _, _ => rfl)
  obtain ⟨fd__law_of, F__law_of⟩ := T.fn 19 (d := d__law_of)
  have G__law_of_L := ok__law_of_L (P := P) (w := w) (base := base) T F__law_of
  have B__law_of_2 : KBn K fd__law_of ["_law_hand_here", "_law_some"] 2 [] (fun us ws => us ++ ws) (fun us ws => us ++ ws) := RX.kb0 F__law_of 2 [] (fun us ws => us ++ ws) (fun a b => a.append b) (fun _ _ _ _ _ _ us ws h1 h2 => match us, ws, h1, h2 with | [_, _], [], _, _ => rfl)
  obtain ⟨fd_Store_init, F_Store_init⟩ := T.fn 84 (d := d_Store_init)
  have G_Store_init := ok_Store_init (P := P) (w := w) (base := base) T F_Store_init
  have B_Store_init_2_first_ring_stop_warn := RX.kb0 (ps := ["self", "tables", "ring", "stop", "warn", "first"]) F_Store_init 2 ["first", "ring", "stop", "warn"] (fun us ws => us ++ RX.pick [1, 2, 3, 0] ws) (fun a b => a.append (RX.pick_vals b)) (fun _ _ _ _ _ _ us ws h1 h2 => match us, ws, h1, h2 with | [_, _], [_, _, _, _], _, _ => rfl)
  obtain ⟨fd__law_gone_far, F__law_gone_far⟩ := T.fn 24 (d := d__law_gone_far)
  have G__law_gone_far := ok__law_gone_far (P := P) (w := w) (base := base) T F__law_gone_far
  have B__law_gone_far_6 : KBn K fd__law_gone_far ["_law_store", "_law_tables", "_law_pace", "_law_back", "_law_many", "_law_mark"] 6 [] (fun us ws => us ++ ws) (fun us ws => us ++ ws) := RX.kb0 F__law_gone_far 6 [] (fun us ws => us ++ ws) (fun a b => a.append b) (fun _ _ _ _ _ _ us ws h1 h2 => match us, ws, h1, h2 with | [_, _, _, _, _, _], [], _, _ => rfl)
  have B_Store_init_2_warn_first_stop_ring := RX.kb0 (ps := ["self", "tables", "ring", "stop", "warn", "first"]) F_Store_init 2 ["warn", "first", "stop", "ring"] (fun us ws => us ++ RX.pick [3, 2, 0, 1] ws) (fun a b => a.append (RX.pick_vals b)) (fun _ _ _ _ _ _ us ws h1 h2 => match us, ws, h1, h2 with | [_, _], [_, _, _, _], _, _ => rfl)
  obtain ⟨fd__law_drawn_right, F__law_drawn_right⟩ := T.fn 25 (d := d__law_drawn_right)
  have G__law_drawn_right := ok__law_drawn_right (P := P) (w := w) (base := base) T F__law_drawn_right
  have B__law_drawn_right_6 : KBn K fd__law_drawn_right ["_law_hand_here", "_law_store", "_law_tables", "_law_pace", "_law_back", "_law_many"] 6 [] (fun us ws => us ++ ws) (fun us ws => us ++ ws) := RX.kb0 F__law_drawn_right 6 [] (fun us ws => us ++ ws) (fun a b => a.append b) (fun _ _ _ _ _ _ us ws h1 h2 => match us, ws, h1, h2 with | [_, _, _, _, _, _], [], _, _ => rfl)
  refine F.ok sc_law (fun vs H Q E h => ?_) (fun cdv A outer s H vs Q E hr h => ?_)
  · obtain ⟨a, ns, rfl, _⟩ := h; rfl
  · obtain ⟨a, ns, rfl, ha, hn, k⟩ := h
    refine ⟨_, (PSs.nox (pss_cons (ps_for PassesOwn.never rfl (pi_range1 rfl (T.fre 45) (pa_cons (pe_callB (call_max2 rfl) (by rfl) (T.fre 50) (by decide +kernel) (pa_cons pe_int (pa_cons (pe_callB (call_min2 rfl) (by rfl) (T.fre 49) (by decide +kernel) (pa_cons pe_int (pa_cons (pe_callB call_len_seq (by rfl) (T.fre 44) (by decide +kernel) (pa_cons (pv 0) pa_nil)) pa_nil))) pa_nil))) pa_nil)) (pg_name (i := 1) sc_law.nd rfl (Or.inl rfl)) (pss_cons (ps_set (i := 2) sc_law.nd rfl (Or.inl rfl) (RX.pe_cs G__law_hand (hr.mono (by decide)) (T.glo 17) F__law_hand.kp B__law_hand_2 RX.passS0 (pa_cons (pv 0) (pa_cons (pv 1) pa_nil)) pk_nil)) (pss_cons (ps_set (i := 3) sc_law.nd rfl (Or.inl rfl) (pe_callTy call_tuple_of (by rfl) (T.fre 46) (by decide +kernel) (pa_cons (pe_callB cr_sortedS (by rfl) (T.fre 48) (by decide +kernel) (pa_cons (RX.pe_cs G__law_words (hr.mono (by decide)) (T.glo 20) F__law_words.kp B__law_words_2 RX.passS0 (pa_cons (pv 2) (pa_cons (pe_op op_add pe_int (RX.pe_cs G__law_take (hr.mono (by decide)) (T.glo 18) F__law_take.kp B__law_take_2 RX.passS0 (pa_cons (pv 2) (pa_cons pe_int pa_nil)) pk_nil)) pa_nil)) pk_nil) pa_nil)) pa_nil))) (pss_cons (ps_par (i := 4) (j := 5) (by rfl) sc_law.nd rfl rfl (by decide) rfl rfl (pa_cons (pe_op op_add pe_int (RX.pe_cs G__law_take (hr.mono (by decide)) (T.glo 18) F__law_take.kp B__law_take_2 RX.passS0 (pa_cons (pv 2) (pa_cons pe_int pa_nil)) pk_nil)) (pa_cons (pe_op op_add pe_int (RX.pe_cs G__law_take (hr.mono (by decide)) (T.glo 18) F__law_take.kp B__law_take_2 RX.passS0 (pa_cons (pv 2) (pa_cons pe_int pa_nil)) pk_nil)) pa_nil)) (by rfl)) (pss_cons (ps_set (i := 6) sc_law.nd rfl (Or.inl rfl) (RX.pe_cs G_worst (hr.mono (by decide)) (T.glo 0) F_worst.kp B_worst_1_longest_every RX.passS0 (pa_cons (pe_callB call_len_seq (by rfl) (T.fre 44) (by decide +kernel) (pa_cons (pv 3) pa_nil)) pa_nil) (pk_cons (pv 5) (pk_cons (pv 4) pk_nil)))) (pss_cons (ps_if (PW.pt (pw_or (pt_cmpR op_ne (pv 6) (RX.pe_cs G_worst (hr.mono (by decide)) (T.glo 0) F_worst.kp B_worst_1_every_longest RX.passS0 (pa_cons (pe_callB call_len_seq (by rfl) (T.fre 44) (by decide +kernel) (pa_cons (pv 3) pa_nil)) pa_nil) (pk_cons (pv 4) (pk_cons (pv 5) pk_nil))) (nomark _)) (pw_or1 (pt_cmpR op_lt (pv 6) pe_int (nomark _))))) (pss_one (ps_ret pe_bl)) pss_nil) (pss_cons (ps_set (i := 7) sc_law.nd rfl (Or.inl rfl) (pe_op op_add (pe_op op_add (pe_op op_mul pe_int (pv 6)) pe_int) (pe_op op_mul pe_int (RX.pe_cs G__law_of_L (hr.mono (by decide)) (T.glo 19) F__law_of.kp B__law_of_2 RX.passS0 (pa_cons (pv 2) (pa_cons (pe_lst (pa_cons (pe_callB (call_max2 rfl) (by rfl) (T.fre 50) (by decide +kernel) (pa_cons pe_int (pa_cons (pe_op op_sub pe_int (pv 6)) pa_nil))) (pa_cons (pe_callB (call_max2 rfl) (by rfl) (T.fre 50) (by decide +kernel) (pa_cons pe_int (pa_cons (pe_op op_sub pe_int (pv 6)) pa_nil))) (pa_cons pe_int (pa_cons pe_int pa_nil))))) pa_nil)) pk_nil)))) (pss_cons (ps_par (i := 8) (j := 9) (by rfl) sc_law.nd rfl rfl (by decide) rfl rfl (pa_cons (pe_callB (call_min2 rfl) (by rfl) (T.fre 49) (by decide +kernel) (pa_cons pe_int (pa_cons (pe_op op_add (pe_op op_mul pe_int (pv 7)) pe_int) pa_nil))) (pa_cons (RX.pe_cs G__law_take (hr.mono (by decide)) (T.glo 18) F__law_take.kp B__law_take_2 RX.passS0 (pa_cons (pv 2) (pa_cons (pv 7) pa_nil)) pk_nil) pa_nil)) (by rfl)) (pss_cons (ps_set (i := 10) sc_law.nd rfl (Or.inl rfl) (RX.pe_mk T.mkStore G_Store_init (hr.mono (by decide)) (T.glo 43) B_Store_init_2_first_ring_stop_warn RX.passS0 (pa_cons (pv 3) pa_nil) (pk_cons (pv 9) (pk_cons (pv 7) (pk_cons (pv 6) (pk_cons pe_int pk_nil)))))) (pss_cons (ps_if (pt_cmpR (op_neD hr.units) (RX.pe_cs G__law_gone_far (hr.mono (by decide)) (T.glo 24) F__law_gone_far.kp B__law_gone_far_6 RX.passS0 (pa_cons (pv 10) (pa_cons (pv 3) (pa_cons (pv 4) (pa_cons (pv 5) (pa_cons (pv 8) (pa_cons (pv 6) pa_nil)))))) pk_nil) (pe_tup (pa_cons (pv 6) (pa_cons pe_bl pa_nil))) (nomark _)) (pss_one (ps_ret pe_bl)) pss_nil) (pss_cons (ps_set (i := 11) sc_law.nd rfl (Or.inl rfl) (RX.pe_mk T.mkStore G_Store_init (hr.mono (by decide)) (T.glo 43) B_Store_init_2_warn_first_stop_ring RX.passS0 (pa_cons (pv 3) pa_nil) (pk_cons pe_int (pk_cons (pv 9) (pk_cons (pe_op op_sub (pv 6) pe_int) (pk_cons (pv 7) pk_nil)))))) (pss_cons (ps_if (pt_cmpR (op_neD hr.units) (RX.pe_cs G__law_gone_far (hr.mono (by decide)) (T.glo 24) F__law_gone_far.kp B__law_gone_far_6 RX.passS0 (pa_cons (pv 11) (pa_cons (pv 3) (pa_cons (pv 4) (pa_cons (pv 5) (pa_cons (pv 8) (pa_cons (pe_op op_sub (pv 6) pe_int) pa_nil)))))) pk_nil) (pe_tup (pa_cons (pe_op op_sub (pv 6) pe_int) (pa_cons pe_bl pa_nil))) (nomark _)) (pss_one (ps_ret pe_bl)) pss_nil) (pss_cons (ps_set (i := 12) sc_law.nd rfl (Or.inl rfl) (RX.pe_mk T.mkStore G_Store_init (hr.mono (by decide)) (T.glo 43) B_Store_init_2_warn_first_stop_ring RX.passS0 (pa_cons (pv 3) pa_nil) (pk_cons (pv 6) (pk_cons (pv 9) (pk_cons (pv 6) (pk_cons (pv 7) pk_nil)))))) (pss_cons (ps_if (pt_not (pt_val (RX.pe_cs G__law_drawn_right (hr.mono (by decide)) (T.glo 25) F__law_drawn_right.kp B__law_drawn_right_6 RX.passS0 (pa_cons (pv 2) (pa_cons (pv 12) (pa_cons (pv 3) (pa_cons (pv 4) (pa_cons (pv 5) (pa_cons (pv 8) pa_nil)))))) pk_nil))) (pss_one (ps_ret pe_bl)) pss_nil) (pss_cons (ps_set (i := 13) sc_law.nd rfl (Or.inl rfl) (pe_lst (pa_cons (RX.pe_cs G_worst (hr.mono (by decide)) (T.glo 0) F_worst.kp B_worst_1_every_longest RX.passS0 (pa_cons (pe_op op_add (pe_callB call_len_seq (by rfl) (T.fre 44) (by decide +kernel) (pa_cons (pv 3) pa_nil)) pe_int) pa_nil) (pk_cons (pv 4) (pk_cons (pv 5) pk_nil))) (pa_cons (RX.pe_cs G_worst (hr.mono (by decide)) (T.glo 0) F_worst.kp B_worst_1_every_longest RX.passS0 (pa_cons (pe_callB call_len_seq (by rfl) (T.fre 44) (by decide +kernel) (pa_cons (pv 3) pa_nil)) pa_nil) (pk_cons (pe_op op_add (pv 4) pe_int) (pk_cons (pv 5) pk_nil))) pa_nil)))) (pss_one (ps_if (pt_cmpR op_lt (pe_callB (cr_min rfl) (by rfl) (T.fre 49) (by decide +kernel) (pa_cons (pe_op op_cat (pv 13) (pe_lst (pa_cons (RX.pe_cs G_worst (hr.mono (by decide)) (T.glo 0) F_worst.kp B_worst_1_every_longest RX.passS0 (pa_cons (pe_callB call_len_seq (by rfl) (T.fre 44) (by decide +kernel) (pa_cons (pv 3) pa_nil)) pa_nil) (pk_cons (pv 4) (pk_cons (pe_op op_add (pv 5) pe_int) pk_nil))) pa_nil))) pa_nil)) (pv 6) (nomark _)) (pss_one (ps_ret pe_bl)) pss_nil))))))))))))))))) (pss_one (ps_ret pe_bl)))), ?_⟩
    walk_at "go"
    refine for_range (fun i σ' H' => RX.Box (∃ (o1 o2 o3 o4 o5 o6 o7 o8 o9 o10 o11 o12 o13 : Option V), σ' = [some (.ref a), o1, o2, o3, o4, o5, o6, o7, o8, o9, o10, o11, o12, o13] ∧ Keep H H')) ⟨⟨none, none, none, none, none, none, none, none, none, none, none, none, none, rfl, Keep.of (Same.refl _)⟩⟩ (fun i σ' H' hi ⟨⟨o1, o2, o3, o4, o5, o6, o7, o8, o9, o10, o11, o12, o13, hσ, hk⟩⟩ => ?_) (fun σ' H' ⟨⟨o1, o2, o3, o4, o5, o6, o7, o8, o9, o10, o11, o12, o13, hσ, hk⟩⟩ => ?_)
    · subst hσ
      have hi3 : i ≤ 10 := by
        rw [List.length_map] at hi
        split at hi <;> split at hi <;> omega
      have ha1 := hk.sqL ha
      rw [Int.zero_add]
      walk_at "go"
      case' r.h.w H1 ph e1 hnp hA1 x H2 b2 hA2 c0 c1 H3 pW ws b3 hA3 hpW hW hwl hndw hww ys pS hperm hsort hpS => exact ys.map V.str
      rename_i H1 ph e1 hnp hA1 x H2 b2 hA2 c0 c1 H3 pW ws b3 hA3 hpW hW hwl hndw hww ys pS hperm hsort hpS
      have hk1 := hk.trans (Keep.of e1)
      have hno : ∀ o, (¬ Mut (some o) ∨ ∃ xs, o = .lst xs) → H ph ≠ some o := fun o f z => by
        have := hk _ _ f z
        rw [hnp] at this; cases this
      refine .inl ⟨SqL.of upd_same, fun pT hpT => ?_⟩
      have e4 : Same H3 (upd (upd H3 pS (.lst (ys.map V.str))) pT (.tup (ys.map V.str))) := (RX.same_new hpS).trans (RX.same_new hpT)
      have hT0 : SqT K (upd (upd H3 pS (.lst (ys.map V.str))) pT (.tup (ys.map V.str))) pT (ys.map V.str) := SqT.of upd_same
      generalize upd (upd H3 pS (.lst (ys.map V.str))) pT (.tup (ys.map V.str)) = H4 at *
      have hA4 := hA3.same e4
      have kb4 : KB ph H1 H4 := ((KB.but b2).trans (KB.but b3)).trans (KB.same e4)
      have hyl : ys.length = ws.length := hperm.length_eq
      have hnd : ys.Nodup := hperm.nodup_iff.mpr hndw
      have hasc := asc_of_sorted hsort hnd
      have hyw : ∀ n ∈ ys, isW n = true ∧ n.length ≤ 100 := fun n hn => by
        have h1 := hww n (hperm.mem_iff.mp hn)
        refine ⟨h1, ?_⟩
        unfold isW at h1
        simp only [Bool.and_eq_true, decide_eq_true_eq] at h1
        omega
      have hTx : RX.Box (SqT K H4 pT (ys.map V.str)) := ⟨hT0⟩
      clear hT0
      walk_at "go"
      case' r.h.w y1 H5 b5 hA5 d0 d1 y2 H6 b6 hA6 g0 g1 => exact ys.map V.str
      rename_i y1 H5 b5 hA5 d0 d1 y2 H6 b6 hA6 g0 g1
      obtain ⟨hT4⟩ := hTx
      have kb6 : KB ph H1 H6 := kb4.trans ((KB.but b5).trans (KB.but b6))
      have hT6 : SqT K H6 pT (ys.map V.str) := But.sqT b6 hA5.mut (But.sqT b5 hA4.mut hT4)
      obtain ⟨pn, hpn⟩ := Int.eq_ofNat_of_zero_le (show 0 ≤ 1 + y1 by omega)
      obtain ⟨bn, hbn⟩ := Int.eq_ofNat_of_zero_le (show 0 ≤ 1 + y2 by omega)
      simp only [hpn, hbn]
      have hp1 : 0 < pn ∧ pn < 5 := by omega
      have hb1 : 0 < bn ∧ bn < 8 := by omega
      have hT14 : 0 < ys.length ∧ ys.length < 4 := by omega
      have hml : (ys.map V.str).length = ys.length := List.length_map ..
      have hml9 : (ys.map V.str).length < 1000 := by omega
      refine ⟨Or.inr hT6, ?_⟩
      walk_at "go"
      obtain ⟨du, hdu⟩ : ∃ du, du = ys.length * pn + bn := ⟨_, rfl⟩
      have hduI : ((ys.map V.str).length : Int) * (pn : Int) + (bn : Int) = (du : Int) := by rw [hml, hdu, Int.natCast_add, Int.natCast_mul]
      simp only [hduI]
      have hdb : 2 ≤ du ∧ du ≤ 19 := by
        have : ys.length = 1 ∨ ys.length = 2 ∨ ys.length = 3 := by omega
        rcases this with q | q | q <;> rw [q] at hdu <;> omega
      refine iteF' (by simp) ?_
      walk_at "go"
      refine iteF' (by simp; omega) ?_
      walk_at "go"
      rename_i pL hpL
      have hLh : pL ≠ ph := hA6.ne hpL
      refine ⟨hA6.same (RX.same_new hpL), by omega, SqL.of upd_same, hLh, by show 0 < 4; decide, by show 4 < 1000; decide, fun xv H7 b7 hA7 hx => ?_⟩
      obtain ⟨xn, rfl, hxn⟩ : ∃ xn : Nat, xv = .int xn ∧ (xn = 3 - du ∨ xn = 3 ∨ xn = 10) := by
        simp only [List.mem_cons, List.not_mem_nil, or_false] at hx
        have hm : (if (3 : Int) - du > 0 then (3 : Int) - du else 0) = ((3 - du : Nat) : Int) := by split <;> omega
        rcases hx with rfl | rfl | rfl | rfl
        · exact ⟨3 - du, by rw [← hm], .inl rfl⟩
        · exact ⟨3 - du, by rw [← hm], .inl rfl⟩
        · exact ⟨3, rfl, .inr (.inl rfl)⟩
        · exact ⟨10, rfl, .inr (.inr rfl)⟩
      have kb7 : KB ph H1 H7 := kb6.trans ((KB.same (RX.same_new hpL)).trans (KB.but b7))
      have hA7x : RX.Box (HandAt H7 ph (0 + 1 + 200 + 1 + 1 + 1)) := ⟨hA7⟩
      clear hA7
      walk_at "go"
      case' r.h.w => exact 0 + 1 + 200 + 1 + 1 + 1
      obtain ⟨hA7⟩ := hA7x
      obtain ⟨sz, hsz⟩ : ∃ sz : Nat, (2 : Int) * du + 2 + 2 * xn = (sz : Int) := ⟨2 * du + 2 + 2 * xn, by omega⟩
      simp only [hsz]
      have hs8 : 8 ≤ sz := by omega
      have hs60 : sz ≤ 60 := by omega
      have hse : sz % 2 = 0 := by omega
      have hsd : 2 * du + 2 ≤ sz := by omega
      refine ⟨hA7, by omega, by omega, by omega, fun fs H8 b8 hA8 f0 f1 => ?_⟩
      have kb8 : KB ph H1 H8 := kb7.trans (KB.but b8)
      walk_at "go"
      case' r.h.h.h.h.h.h.h.w X dx hX hdx hne => exact ys
      rename_i X dx hX hdx hne
      obtain ⟨mn, hmn, hmn2⟩ : ∃ mn : Nat, (if (2 : Int) * sz + 30 < 150 then (2 : Int) * sz + 30 else 150) = (mn : Int) ∧ mn = min 150 (2 * sz + 30) := ⟨min 150 (2 * sz + 30), by rw [Nat.min_def]; split <;> split <;> omega, rfl⟩
      have hmn9 : mn ≤ 150 := by omega
      have hwo := worst_all (T := ys.length) (pace := pn) (back := bn) (x := xn) hT14.1 hT14.2 hp1.1 hp1.2 hb1.1 hb1.2 (by rw [← hdu]; exact hxn)
      unfold wOk at hwo
      simp only [Bool.and_eq_true, decide_eq_true_eq] at hwo
      rw [← hdu, show 2 * du + 2 + 2 * xn = sz by omega, ← hmn2] at hwo
      obtain ⟨hwo1, hwo2, hwo3⟩ := hwo
      have hyne : ys ≠ [] := fun z => by rw [z] at hT14; simp at hT14
      have hy100 : ys.length ≤ 100 := by omega
      have hT8 : SqT K H8 pT (ys.map V.str) := But.sqT b8 hA7.mut (But.sqT b7 (hA6.same (RX.same_new hpL)).mut (RX.same_sqT (RX.same_new hpL) hT6))
      have hsz8 : (8 : Int) ≤ (sz : Int) := by omega
      have hsz2 : (sz : Int) % 2 = 0 := by omega
      have hdz : (du : Int) < (sz : Int) / 2 := by omega
      have nX : ∀ x o, H8 x = some o → x ≠ X := fun x o q => ne_of_none q hX
      have s12 : Same H8 (upd (upd H8 dx (.own X)) X (.ins (CS K) dx [])) := fun x o q => by rw [upd_ne (nX x o q), upd_ne (ne_of_none q hdx)]; exact q
      refine ⟨RX.same_sqT s12 hT8, hyne, hy100, hyw, hasc, hsz8, hsz2, by decide, by omega, hdz, f0, f1, fun H9 b fr hb ho hab hfor => ⟨rfl, ?_⟩⟩
      have e89 : Same H8 H9 := fun x o q => fr x o (nX x o q) (s12 x o q)
      have nw9 : ∀ y o, H8 y = some o → y ≠ b.s.aG ∧ y ∉ b.ts.map (fun t => t.a) := fun y o q => hfor y o (nX _ _ q) (s12 _ _ q)
      have S9 : Sim b.ab ys sz du (List.replicate ys.length 0) [] := sim0 hab hnd hyne f0 f1 hs8 hsd
      have hT9 := RX.same_sqT e89 hT8
      have hpn9 : pn < 1000 := by omega
      have hbn9 : bn < 1000 := by omega
      have hsz9 : sz ≤ 1000 := by omega
      simp only [hmn]
      walk_at "go"
      rename_i H10 r10 f10 hr10 pD hpD
      rw [hwo1] at hr10
      refine ⟨(show Dp K _ _ (.tuple [.int _, .bool _]) from .tup (SqT.of (RX.same_new hpD _ _ hr10)) (.cons (.int _) (.cons (.bl _) .nil))), (show Dp K _ _ (.tuple [.int _, .bool _]) from .tup (SqT.of upd_same) (.cons (.int _) (.cons (.bl _) .nil))), pair_sh _ _, pair_sh _ _, _, rfl, ?_⟩
      refine iteF' (by rw [pair_eqv]; rfl) ?_
      have k11 : Keep H8 (upd H10 pD (.tup [V.int du, V.bl false])) := fun x o f q => RX.same_new hpD _ _ (f10 _ _ (Fgn.of f (nw9 x o q)) (e89 _ _ q))
      clear hr10 hT9 S9 hb ho hab hfor fr nw9 e89 s12 nX hX hdx hne f10
      generalize upd H10 pD (.tup [V.int du, V.bl false]) = H11 at *
      obtain ⟨dm, hdm⟩ : ∃ dm : Nat, (du : Int) - 1 = (dm : Int) := ⟨du - 1, by omega⟩
      have hdm2 : du - 1 = dm := by omega
      rw [hdm2] at hwo2
      walk_at "go"
      case' r.h.h.h.h.h.h.h.w X dx hX hdx hne => exact ys
      rename_i X2 dx2 hX2 hdx2 hne2
      have hT11 := k11.sqT hT8
      have nX : ∀ x o, H11 x = some o → x ≠ X2 := fun x o q => ne_of_none q hX2
      have s12 : Same H11 (upd (upd H11 dx2 (.own X2)) X2 (.ins (CS K) dx2 [])) := fun x o q => by rw [upd_ne (nX x o q), upd_ne (ne_of_none q hdx2)]; exact q
      refine ⟨RX.same_sqT s12 hT11, hyne, hy100, hyw, hasc, hsz8, hsz2, by decide, by omega, by omega, f0, f1, fun H12 b fr hb ho hab hfor => ⟨rfl, ?_⟩⟩
      have e89 : Same H11 H12 := fun x o q => fr x o (nX x o q) (s12 x o q)
      have nw9 : ∀ y o, H11 y = some o → y ≠ b.s.aG ∧ y ∉ b.ts.map (fun t => t.a) := fun y o q => hfor y o (nX _ _ q) (s12 _ _ q)
      have S9 : Sim b.ab ys sz dm (List.replicate ys.length 0) [] := sim0 (by rw [← hdm]; exact hab) hnd hyne f0 f1 hs8 (by omega)
      have hT9 := RX.same_sqT e89 hT11
      walk_at "go"
      rename_i H13 r13 f13 hr13 pE hpE
      rw [hwo2] at hr13
      simp only [hdm]
      refine ⟨(show Dp K _ _ (.tuple [.int _, .bool _]) from .tup (SqT.of (RX.same_new hpE _ _ hr13)) (.cons (.int _) (.cons (.bl _) .nil))), (show Dp K _ _ (.tuple [.int _, .bool _]) from .tup (SqT.of upd_same) (.cons (.int _) (.cons (.bl _) .nil))), pair_sh _ _, pair_sh _ _, _, rfl, ?_⟩
      refine iteF' (by rw [pair_eqv]; rfl) ?_
      have k14 : Keep H8 (upd H13 pE (.tup [V.int dm, V.bl true])) := k11.trans (fun x o f q => RX.same_new hpE _ _ (f13 _ _ (Fgn.of f (nw9 x o q)) (e89 _ _ q)))
      clear hr13 hT9 S9 hb ho hab hfor fr nw9 e89 s12 nX hX2 hdx2 hne2 f13 k11 hT11
      generalize upd H13 pE (.tup [V.int dm, V.bl true]) = H14 at *
      have hT14' := k14.sqT hT8
      have hA14 : HandAt H14 ph (0 + 1 + 200 + 1 + 1 + 1 + 1) := by obtain ⟨d0, s0, c0', q, r⟩ := hA8; exact ⟨d0, s0, c0', k14.lst q, r⟩
      walk_at "go"
      case' r.h.h.h.h.h.h.h.w X dx hX hdx hne => exact ys
      rename_i X3 dx3 hX3 hdx3 hne3
      have nX : ∀ x o, H14 x = some o → x ≠ X3 := fun x o q => ne_of_none q hX3
      have s12 : Same H14 (upd (upd H14 dx3 (.own X3)) X3 (.ins (CS K) dx3 [])) := fun x o q => by rw [upd_ne (nX x o q), upd_ne (ne_of_none q hdx3)]; exact q
      refine ⟨RX.same_sqT s12 hT14', hyne, hy100, hyw, hasc, hsz8, hsz2, by omega, by omega, hdz, f0, f1, fun H15 b fr hb ho hab hfor => ⟨rfl, ?_⟩⟩
      have e89 : Same H14 H15 := fun x o q => fr x o (nX x o q) (s12 x o q)
      have nw9 : ∀ y o, H14 y = some o → y ≠ b.s.aG ∧ y ∉ b.ts.map (fun t => t.a) := fun y o q => hfor y o (nX _ _ q) (s12 _ _ q)
      have S9 : Sim b.ab ys sz du (List.replicate ys.length 0) [] := sim0 hab hnd hyne f0 f1 hs8 hsd
      have hT9 := RX.same_sqT e89 hT14'
      have hA15 := hA14.same e89
      have hpG : ph ≠ b.s.aG ∧ ph ∉ b.ts.map (fun t => t.a) := by obtain ⟨d0, s0, c0', q, r⟩ := hA14; exact nw9 _ _ q
      obtain ⟨hpG1, hpG2⟩ := hpG
      have hb01 := hb1.1
      have hp01 := hp1.1
      walk_at "go"
      case' r.h.w H16 f16 hA16 => exact ys.map V.str
      rename_i H16 f16 hA16
      have kb16 : KB ph H14 H16 := fun x o n f q => f16 x o n (Fgn.of f (nw9 x o q)) (e89 _ _ q)
      have hT16 := kb16.sqT hA14.mut hT14'
      have kall : Keep H H16 := hk1.kb hno (kb8.trans ((KB.of k14).trans kb16))
      have hml0 : (0 : Int) ≤ ((ys.map V.str).length : Int) + 1 := by omega
      have hml1 : ((ys.map V.str).length : Int) + 1 < 1000 := by omega
      have hml2 : (0 : Int) ≤ ((ys.map V.str).length : Int) := by omega
      have hml3 : ((ys.map V.str).length : Int) < 1000 := by omega
      refine ⟨Or.inr hT16, ?_⟩
      walk_at "go"
      case' r.h.w pM hpM => exact ys.map V.str
      rename_i pM hpM
      have e17 : Same H16 (upd H16 pM (.lst [V.int ((((ys.map V.str).length : Int) + 1) * pn + bn), V.int (((ys.map V.str).length : Int) * ((pn : Int) + 1) + bn)])) := RX.same_new hpM
      have hM : upd H16 pM (.lst [V.int ((((ys.map V.str).length : Int) + 1) * pn + bn), V.int (((ys.map V.str).length : Int) * ((pn : Int) + 1) + bn)]) pM = some (.lst [V.int ((((ys.map V.str).length : Int) + 1) * pn + bn), V.int (((ys.map V.str).length : Int) * ((pn : Int) + 1) + bn)]) := upd_same
      have hT17 := RX.same_sqT e17 hT16
      have k17 := kall.trans (Keep.of e17)
      refine ⟨Or.inr hT17, ?_⟩
      generalize upd H16 pM (.lst [V.int ((((ys.map V.str).length : Int) + 1) * pn + bn), V.int (((ys.map V.str).length : Int) * ((pn : Int) + 1) + bn)]) = H17 at *
      walk_at "go"
      case' r.h.w pN hpN pC hpC => exact [(((ys.map V.str).length : Int) + 1) * pn + bn, ((ys.map V.str).length : Int) * ((pn : Int) + 1) + bn, ((ys.map V.str).length : Int) * pn + ((bn : Int) + 1)]
      rename_i pN hpN pC hpC
      refine ⟨SqL.of upd_same, Nat.zero_lt_succ _, fun mm hmm hmin => ?_⟩
      have hdu2 : (du : Int) ≤ mm := by
        have hq1 : (((ys.map V.str).length : Int) + 1) * (pn : Int) = ((ys.map V.str).length : Int) * pn + pn := by rw [Int.add_mul, Int.one_mul]
        have hq2 : ((ys.map V.str).length : Int) * ((pn : Int) + 1) = ((ys.map V.str).length : Int) * pn + ((ys.map V.str).length : Int) := by rw [Int.mul_add, Int.mul_one]
        simp only [List.mem_cons, List.not_mem_nil, or_false] at hmm
        rcases hmm with rfl | rfl | rfl
        · rw [hq1]; omega
        · rw [hq2]; omega
        · omega
      walk_at "go"
      refine iteF' (decide_eq_false (by omega)) ?_
      exact ⟨⟨_, _, _, _, _, _, _, _, _, _, _, _, _, rfl, k17.trans (Keep.of ((RX.same_new hpN).trans (RX.same_new hpC)))⟩⟩
    · subst hσ
      walk_at "go"
      exact k _
end
end Hd
end
set_option maxHeartbeats 0
namespace Hd
open PySem PySem.Spec PyProof.Rows L2 He ExF
theorem txt {K : PySem.W.Frag} {h : Heap} {mg : Str → Option Value} (X : K.In h) (G : h.Ns mainGlobals mg) (c : HkM.SaysM fa fn ex K) : Txt K mg where
  says := c
  gl := fun i _ e => He.glo_ok X G (c.d.fact i e)
  fr := fun i _ e => He.free_ok X G (c.d.fact i e)
  it := fun i _ _ e => He.int_ok X G (c.d.fact i e)
  st := fun i _ _ e => He.str_ok X G (c.d.fact i e)
theorem facts {P : Program} {w : World} {K : PySem.W.Frag} {h : Heap} {mg : Str → Option Value} {f : Addr} (X : K.In h) (G : h.Ns mainGlobals mg) (hfa : mg ("law" : Str) = some (.ref f)) (c : HkM.SaysM fa fn ex K) :
    ∃ fd : FuncData, (∀ (s : Shared) (v : Value), BindsTo s fd ⟨[v], []⟩ [("_law_script", v)]) ∧ ∀ base : Heap, K.In base → base.Ns mainGlobals mg → FnOk P w K mg base CX0 11 f fd ["_law_script"] (sp_law K) := by
  have T := txt X G c
  obtain ⟨fd, F⟩ := T.fn 26 (d := d_law)
  have e := hfa.symm.trans (T.glo 26 (x := "law"))
  cases e
  have b := FunD.bindsA (ps := ["_law_script"]) F fun _ _ _ _ _ _ us hl => match us, hl with | [_], _ => rfl
  exact ⟨fd, fun s v => b s [v] rfl, fun base _ _ => ok_law T F⟩
end Hd
open PySem PySem.W PySem.Calls PyProof.Rows
theorem PySem.Challenge.cw_roundstore_k87_whole_worst_both_edges_holds : PySem.Challenge.rw_roundstore_k87_whole_worst_both_edges.Holds := by
  w_on; o_law
  refine HandSHeadRun.head_any (r := OpenLaw.row PySem.Challenge.rw_roundstore_k87_whole_worst_both_edges) (q := view (OpenLaw.row PySem.Challenge.rw_roundstore_k87_whole_worst_both_edges).prog [73]) (H := Hd.hk) (ob := Hd.ob) (M := 20000) (loose := Hd.names) (d := HandSHeadRun.topDef (OpenLaw.row PySem.Challenge.rw_roundstore_k87_whole_worst_both_edges).prog 73) (kwd := []) Hd.ob_eq
    (by kernel_rfl) (fun s => by kernel_rfl) Hd.run (by kernel_rfl) (by kernel_rfl) (by kernel_rfl) (by rfl) (by first | assumption | decide +kernel) (by decide +kernel) ⟨rfl, rfl, rfl, rfl, rfl, by decide +kernel⟩ ?hw ?hc
  case hw => w_witness2
  case hc =>
    refine L2.walk_ofE (l := PySem.Challenge.rw_roundstore_k87_whole_worst_both_edges) (n := 63) (k := 11) (x := "_law_script") (CX := L2.CX0) rfl (by decide) (by kernel_rfl) ⟨rfl, by decide, by decide⟩ ?F (fun _ _ _ _ z => z)
    intro w mg fa h Y G hmg0
    obtain ⟨K, KX, c⟩ := Y
    have hmg : mg ("law" : PySem.Str) = some (.ref fa) := by
      have e : (HandSHeadRun.topDef (OpenLaw.row PySem.Challenge.rw_roundstore_k87_whole_worst_both_edges).prog 73).name = ("law" : PySem.Str) := by kernel_rfl
      rw [← e]
      exact hmg0
    obtain ⟨fd, hb, hF⟩ := Hd.facts (P := (PySem.Challenge.rw_roundstore_k87_whole_worst_both_edges).prog) (w := w) KX G hmg c
    exact ⟨K, fd, Hd.sp_law K, KX, hb, fun H a ns hl _ hS => ⟨a, ns, rfl, hS, hl, fun _ => rfl⟩, hF⟩
