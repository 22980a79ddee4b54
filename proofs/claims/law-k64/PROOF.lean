import PyProof.Rows.All
import Wide.All
import OpenK.AllK
import Wide.FinOn
import KE.KStateDown
import Lean
import HandS.ForMost
import HandS.ForExc
import HandS.Defaults
import HandS.MakeKwOnly
import HandS.Star
import HandS.ClsMeth
import HandS.Property
import HandS.Style
import HandS.Flow
import HandS.Zip
import HandS.Conv
import HandS.Wide
import HandS.WideBits
import HandS.IsInst
import HandS.DictComp
import HandS.DictTup
import HandS.TupAny
import HandS.TupMul
import HandS.Codes
import HandS.Small
import HandS.Walk
import HandS.Lambda
import HandS.EndBits
import HandS.EndTab
import HandS.HeadWalk
import HandS.HeadEnd
import HandS.HeadHook1
import HandS.HeadHook2
import HandS.HeadHook3
import HandS.HeadHook4
import HandS.Head0
import HandS.Head1
import HandS.Head2
import HandS.SlotsOwn
import HandS.TryOnly
import HandS.ExcOwn
import KE.GoesEnum
import KE.GoesMore
import KE.GoesZip
import PySem.Challenge.RW_asksmore_k64_where_machines_part
import HandS.Deep
import KE.KDflt
import KE.KCallOwn
import HandS.HeadNt
set_option Elab.async false
set_option linter.all false
set_option maxRecDepth 100000
set_option maxHeartbeats 0
/-! rules of my own over the hand layer: defs, methods, classes by name; operators by own special methods -/
namespace K5
open PySem PySem.Spec PyProof.Rows L2
/-- the def that the module's name x holds keeps the promise -/
def FnG (P : Program) (w : World) (K : PySem.W.Frag) (mg : Str → Option Value) (base : Heap) (k : Nat) (x : Str) (sp : Sp) : Prop :=
  ∃ f, mg x = some (.ref f) ∧ PySem.W.keepIn K (.ref f) = true ∧ FnR P w K mg base (L2.CX P w) k f sp
/-- the method m of the class at C -/
def MtG (P : Program) (w : World) (K : PySem.W.Frag) (mg : Str → Option Value) (base : Heap) (k : Nat) (C : Addr) (m : Str) (sp : Sp) : Prop :=
  ∃ f, Meth K C m f ∧ FnR P w K mg base (L2.CX P w) k f sp
/-- the class that the module's name x holds, made by an __init__ of the promise sp -/
def MkG (P : Program) (w : World) (K : PySem.W.Frag) (mg : Str → Option Value) (base : Heap) (k : Nat) (x : Str) (C : Addr) (sp : Sp) : Prop :=
  ∃ f, mg x = some (.ref C) ∧ Mk K C f ∧ FnR P w K mg base (L2.CX P w) k f sp
section
variable {P : Program} {w : World} {K : PySem.W.Frag} {mg : Str → Option Value} {base : Heap} {j k : Nat} {x : Str} {C : Addr} {m : Str} {sp : Sp}
theorem FnG.mono (h : FnG P w K mg base j x sp) (l : j ≤ k) : FnG P w K mg base k x sp := let ⟨f, a, b, F⟩ := h; ⟨f, a, b, F.mono l⟩
theorem MtG.mono (h : MtG P w K mg base j C m sp) (l : j ≤ k) : MtG P w K mg base k C m sp := let ⟨f, a, F⟩ := h; ⟨f, a, F.mono l⟩
end
section
variable {X : Cx} {k : Nat} {C : Addr} {sp : Sp} {E : XK} {x m : Str} {p pos apos : Pos} {e o : Expr} {es : List Expr} {ta : TE} {t : TA}
def tCallG (sp : Sp) (E : XK) (t : TA) : TE := fun σ H Q => t σ H fun vs H1 => sp vs H1 Q E
theorem pe_callG (G : FnG X.prog X.w X.K X.mg X.base k x sp) (hr : Room k X.A) (hg : Gl X x) (hx : Passes (L2.CX X.prog X.w) X E) (ha : PA X (e :: es) t) (hd : (x == ("__debug__" : Str)) = false := by decide)
    (hs : starEach (e :: es) X.env = (false, eval e X.env) :: starEach es X.env := by rfl) (hp : (backTo pos (starEach es X.env)).any (·.1) = false := by rfl) : PE X (.Call (.Name x p) (e :: es) [] pos) (tCallG sp E t) := by
  obtain ⟨f, hm, hk, F⟩ := G
  refine ⟨fun pins s σ H Q I h => ?_⟩
  refine wpAny_Call_Name_kw (ld_glob I hg hm ?_ hd)
  exact PySem.W.callWith_K (h₀ := X.base) I.ok.mod.kin hk (thn (ha.run pos pins s σ H _ I h) fun us s1 ⟨vs, H1, I1, r, q⟩ => ⟨I1.kIn, wpAny_call (run_fnR F hr hx I1 r q)⟩) hs hp
def tMethG (C : Addr) (m : Str) (sp : Sp) (E : XK) (ta : TE) (t : TA) : TE := fun σ H Q => ta σ H fun x H1 => ∃ a dx fs, x = .ref a ∧ H1 a = some (.ins C dx fs) ∧ fs.lookup m = none ∧ t σ H1 fun vs H2 => sp (x :: vs) H2 Q E
theorem pe_methG {pl : Sem Bool} (he : PE X o ta) (c : Cls X.K C) (G : MtG X.prog X.w X.K X.mg X.base k C m sp) (hr : Room k X.A) (hx : Passes (L2.CX X.prog X.w) X E) (ha : PA X (e :: es) t)
    (hs : starEach (e :: es) X.env = (false, eval e X.env) :: starEach es X.env := by rfl) (hp : (backTo pos (starEach es X.env)).any (·.1) = false := by rfl)
    (ht : eval (.Call (.Attribute o m apos) (e :: es) [] pos) X.env = (do
      let ov ← eval o X.env
      standAt apos.atName
      let (f, first) ← holding [ov] (getMethod ov m pl)
      callWith pos f first (backTo pos (starEach (e :: es) X.env)) (backToKw pos (keywordEach [] X.env))) := by rfl) :
    PE X (.Call (.Attribute o m apos) (e :: es) [] pos) (tMethG C m sp E ta t) := by
  obtain ⟨f, hm, F⟩ := G
  exact pe_methR (pl := pl) he c hm F hr hx ha hs hp ht
theorem pe_methG0 {pl : Sem Bool} (he : PE X o ta) (c : Cls X.K C) (G : MtG X.prog X.w X.K X.mg X.base k C m sp) (hr : Room k X.A) (hx : Passes (L2.CX X.prog X.w) X E)
    (ht : eval (.Call (.Attribute o m apos) [] [] pos) X.env = (do
      let ov ← eval o X.env
      standAt apos.atName
      let (f, first) ← holding [ov] (getMethod ov m pl)
      callWith pos f first (backTo pos (starEach [] X.env)) (backToKw pos (keywordEach [] X.env))) := by rfl) :
    PE X (.Call (.Attribute o m apos) [] [] pos) (tMethG C m sp E ta tNil) := by
  obtain ⟨f, hm, F⟩ := G
  refine ⟨fun pins s σ H Q I h => ?_⟩
  refine PySem.W.methodCall_KW (pl := pl) (thn (he.run pins s σ H _ I h) fun u s1 ⟨x, H1, I1, rx, a, dx, fs, ex, ea, l, q⟩ => ?_) ht
  subst ex
  obtain rfl : u = Value.ref a := rx
  refine getmeth_ok I1 ea c hm l ?_
  exact PySem.W.callWith_K0 (first := [.ref a]) I1.kIn hm.kp (wpAny_call (run_fnR (us := [.ref a]) (vs := [.ref a]) F hr hx I1 (.cons rfl .nil) q))
theorem pe_makeG (G : MkG X.prog X.w X.K X.mg X.base k x C sp) (hr : Room (k + 1) X.A) (hg : Gl X x) (hx : Passes (L2.CX X.prog X.w) X E) (ha : PA X (e :: es) t) (hd : (x == ("__debug__" : Str)) = false := by decide)
    (hs : starEach (e :: es) X.env = (false, eval e X.env) :: starEach es X.env := by rfl) (hp : (backTo pos (starEach es X.env)).any (·.1) = false := by rfl) : PE X (.Call (.Name x p) (e :: es) [] pos) (StX.tMakeR C sp E t) := by
  obtain ⟨f, hm, M, F⟩ := G
  exact StX.pe_makeR M F hr hg hm hx ha hd hs hp
end
section
variable {P : Program} {w : World} {K : PySem.W.Frag} {mg : Str → Option Value} {base : Heap} {x qual : Str} {params : Arguments} {body : List Stmt} {scope : Scope} {f : Addr} {N ps : List Str} {k : Nat} {sp : Sp}
/-- a def's body gives its promise by position (no defaults) -/
theorem fnR_of (D : ∃ fd, FunD K x qual params body scope [] [] f fd) (S : FnScope N ps scope) (len : ∀ vs H Q E, sp vs H Q E → vs.length = ps.length)
    (hb : ∀ (kV doc pm : Value) (an : Option Addr) (cdv ct : Value) (us : List Value), us.length = ps.length → bindArgs (PySem.W.fnOf x qual params body scope .none kV doc pm an cdv ct) ⟨us, []⟩ = pure (ps.zip us))
    (hbody : ∀ (cdv : Value) (A : Around) (outer : List Env) (s : Shared) (H : Hp) (vs : List V) (Q : VK) (E : XK), Room k (A.deeper (envOfC qual scope s.heap.objs.size f cdv)) → sp vs H Q E →
      ∃ t, PSs (cxOf (L2.CX P w) P w K mg base N qual scope f cdv A outer s H E) body t ∧ t { nx := fun _ H' => Q .non H', rt := Q } (start N vs) H) : FnR P w K mg base (L2.CX P w) (k + 1) f sp := by
  obtain ⟨fd, F⟩ := D
  have B : Binds K fd ps [] := F.bindsN hb
  have G : FnOk P w K mg base (L2.CX P w) (k + 1) f fd ps sp := F.ok S len hbody
  exact (G.raw B .nil).imp fun vs H Q E h => by
    show sp (vs ++ []) H Q E
    rw [List.append_nil]
    exact h
theorem fnG_of (g : mg x = some (.ref f)) (D : ∃ fd, FunD K x qual params body scope [] [] f fd) (S : FnScope N ps scope) (len : ∀ vs H Q E, sp vs H Q E → vs.length = ps.length)
    (hb : ∀ (kV doc pm : Value) (an : Option Addr) (cdv ct : Value) (us : List Value), us.length = ps.length → bindArgs (PySem.W.fnOf x qual params body scope .none kV doc pm an cdv ct) ⟨us, []⟩ = pure (ps.zip us))
    (hbody : ∀ (cdv : Value) (A : Around) (outer : List Env) (s : Shared) (H : Hp) (vs : List V) (Q : VK) (E : XK), Room k (A.deeper (envOfC qual scope s.heap.objs.size f cdv)) → sp vs H Q E →
      ∃ t, PSs (cxOf (L2.CX P w) P w K mg base N qual scope f cdv A outer s H E) body t ∧ t { nx := fun _ H' => Q .non H', rt := Q } (start N vs) H) : FnG P w K mg base (k + 1) x sp :=
  ⟨f, g, D.elim fun _ F => F.kp, fnR_of D S len hb hbody⟩
end
end K5

namespace K5
open PySem PySem.Spec PyProof.Rows L2
/-- a text times 0 or 1 -/
theorem op_mulS01 {X : Cx} : OpR X (binaryOp .Mult) (fun x y H Q => ∃ (z : Str) (i : Int), x = .str z ∧ y = .int i ∧ (i = 0 ∨ i = 1) ∧ Q (.str (if i = 1 then z else Str.empty)) H) := by
  intro pins s σ H x y v u Q I rx ry h
  obtain ⟨z, i, rfl, rfl, hi, q⟩ := h
  obtain ⟨t, rfl⟩ := rx
  obtain ⟨t', rfl⟩ := ry
  have ok : MulOk z i := by
    rcases hi with rfl | rfl
    · exact ⟨by decide, fun h => absurd (by decide) h, fun h => absurd (by decide) h⟩
    · exact ⟨by decide, fun _ h => by simp at h, fun _ h => by simp at h⟩
  have e : Txt.mul z i = (if i = 1 then z else Str.empty) := by
    rcases hi with rfl | rfl
    · rfl
    · rfl
  refine SB.mul ok fun t2 k => ⟨.str (if i = 1 then z else Str.empty), H, I.tok _, ⟨t2, by rw [e]⟩, q⟩
/-! ### instances: own special methods -/
section
variable {X : Cx} {pins : List (Addr × Obj)} {σ : L2.St} {H : Hp} {s : Shared} {a C dx g : Addr} {fs : List (Str × V)}
theorem inst_of (I : Inv X pins σ H s) (h : H a = some (.ins C dx fs)) : ∃ od, PySem.W.InstAt s.heap a (PySem.W.instObj C dx) C (some od) := by
  obtain ⟨mA, O, _⟩ := ins_get I.hok h
  obtain ⟨od, J, _⟩ := O.look
  exact ⟨od, J⟩
end
/-- x in c, c an instance of the class at C with an own __contains__ at g -/
def rInOwn (neg : Bool) (C : Addr) (sp : Sp) (E : XK) : R2 := fun x y H Q => ∃ c dx fs, y = .ref c ∧ H c = some (.ins C dx fs) ∧ sp [.ref c, x] H (fun z H' => ∃ k, z = .bl k ∧ Q (.bl (if neg = true then !k else k)) H') E
section
variable {X : Cx} {C : Addr} {sp : Sp} {E : XK} {n : Nat}
theorem op_inOwn (G : MtG X.prog X.w X.K X.mg X.base n C "__contains__" sp) (hr : Room n X.A) (hx : Passes (L2.CX X.prog X.w) X E) : OpR X (compareOp .In) (rInOwn false C sp E) := by
  obtain ⟨g, M, F⟩ := G
  intro pins s σ H x y v u Q I rx ry h
  obtain ⟨c, dx, fs, rfl, hc, q⟩ := h
  cases (show u = Value.ref c from ry)
  obtain ⟨od, J⟩ := inst_of I hc
  obtain ⟨m, hF⟩ := I.fr
  refine PySem.W.in_K hF I.ok.mod.kin J M.at_ M.fn (wpAny_mono (wpAny_call (run_fnR (us := [.ref c, v]) (vs := [.ref c, x]) F hr hx I (.cons rfl (.cons rx .nil)) q)) (fun w s' z => ?_) fun _ _ x => x)
  obtain ⟨z', H', I', rz, k, e, qz⟩ := z
  subst e
  cases rz
  exact wpAny_truthy_bool ⟨.bl k, H', I', rfl, qz⟩
theorem op_notinOwn (G : MtG X.prog X.w X.K X.mg X.base n C "__contains__" sp) (hr : Room n X.A) (hx : Passes (L2.CX X.prog X.w) X E) : OpR X (compareOp .NotIn) (rInOwn true C sp E) := by
  obtain ⟨g, M, F⟩ := G
  intro pins s σ H x y v u Q I rx ry h
  obtain ⟨c, dx, fs, rfl, hc, q⟩ := h
  cases (show u = Value.ref c from ry)
  obtain ⟨od, J⟩ := inst_of I hc
  obtain ⟨m, hF⟩ := I.fr
  refine PySem.W.notIn_K hF I.ok.mod.kin J M.at_ M.fn (wpAny_mono (wpAny_call (run_fnR (us := [.ref c, v]) (vs := [.ref c, x]) F hr hx I (.cons rfl (.cons rx .nil)) q)) (fun w s' z => ?_) fun _ _ x => x)
  obtain ⟨z', H', I', rz, k, e, qz⟩ := z
  subst e
  cases rz
  exact wpAny_truthy_bool ⟨.bl (!k), H', I', rfl, qz⟩
/-- len(c), c an instance of the class at C with an own __len__ -/
def rLenOwn (C : Addr) (sp : Sp) (E : XK) : List V → Hp → VK → Prop := fun xs H Q => ∃ c dx fs, xs = [.ref c] ∧ H c = some (.ins C dx fs) ∧ sp [.ref c] H (fun z H' => ∃ i : Int, z = .int i ∧ 0 ≤ i ∧ i < 2 ^ 63 ∧ Q (.int i) H') E
theorem call_lenOwn (G : MtG X.prog X.w X.K X.mg X.base n C "__len__" sp) (hr : Room (n + 1) X.A) (hx : Passes (L2.CX X.prog X.w) X E) : CallR X (.builtin "len") (rLenOwn C sp E) := by
  obtain ⟨g, M, F⟩ := G
  intro pins s σ H xs us Q I r h
  obtain ⟨c, dx, fs, rfl, hc, q⟩ := h
  obtain ⟨u, rfl, ru⟩ := r.one
  cases (show u = Value.ref c from ru)
  obtain ⟨od, J⟩ := inst_of I hc
  obtain ⟨m, hF⟩ := I.fr
  refine PySem.W.len_K hF I.ok.mod.kin J M.at_ M.fn (wpAny_mono (wpAny_call (SlX.run_at (us := [.ref c]) (ws := [.ref c]) F hr.in1 I.env0.in1 hx I (.cons rfl .nil) q)) (fun w s' z => ?_) fun _ _ x => x)
  obtain ⟨z', H', I', rz, i, e, h0, h1, qz⟩ := z
  subst e
  obtain ⟨t, e⟩ := (show ∃ t, w = Value.int i t from rz)
  cases e
  exact ⟨⟨h0, h1⟩, .int i, H', I'.tok _, ⟨_, rfl⟩, qz⟩
/-- what x == y, x != y by an own __eq__ asks of the class at C: a class right below object, with its __eq__ at g and no __ne__ -/
def eqNoB (K : PySem.W.Frag) (C g : Addr) : Bool := match K.lookup C with
  | some ⟨.type "type", _, .cls cd, sl⟩ => (match cd.mro, sl.toList with
    | [.ref C', .type "object"], [_, _, _, _, some (.builtin _), _] => C' == C && !cd.hasDel && PySem.W.nsOkIn K cd.ns && PySem.W.nsIn K cd.ns "__eq__" == some (some (.ref g)) && PySem.W.nsIn K cd.ns "__ne__" == some none
    | _, _ => false)
  | _ => false
end
end K5

namespace K5
open PySem PySem.Spec PyProof.Rows L2
theorem ns_some_of {K : PySem.W.Frag} {h : Heap} {N : Addr} {mn : Str → Option Value} {n : Str} {v : Value} (X : K.In h) (G : h.Ns N mn) (e : PySem.W.nsIn K N n = some (some v)) : mn n = some v := by
  obtain ⟨o, es, ep, ho, hd, _, hf⟩ := G
  unfold PySem.W.nsIn at e
  split at e
  · rename_i c d es' n' sl q
    have z := X _ _ q
    rw [ho] at z
    cases z
    cases hd
    split at e
    · rename_i en he
      cases e
      rw [← hf]
      unfold nsFind findBy
      rw [← Array.find?_toList, he]
      rfl
    · split at e <;> cases e
  · cases e
theorem eqNo_at {K : PySem.W.Frag} {h : Heap} {C g x : Addr} {o : Obj} (X : K.In h) (q : eqNoB K C g = true) (hf : PySem.W.isFn K (.ref g) = true) (hx : h.get? x = some o) (hc : o.cls = .ref C) : h.OwnEqNoNe x C g "object" [.type "object"] := by
  unfold eqNoB at q
  split at q
  · rename_i dd cd sl ho
    split at q
    · rename_i C' k0 k1 k2 k3 n k5 hm hs
      simp only [Bool.and_eq_true, beq_iff_eq, Bool.not_eq_true'] at q
      obtain ⟨⟨⟨⟨rfl, hdel⟩, hok⟩, heq⟩, hne⟩ := q
      obtain ⟨nm, bs, mro, ns, qn, hd, sn, sub, ab, col, del⟩ := cd
      dsimp only at hm hdel hok heq hne
      subst hm hdel
      have hsl : sl = #[k0, k1, k2, k3, some (.builtin n), k5] := by
        obtain ⟨l⟩ := sl
        simp only at hs
        rw [hs]
      subst hsl
      have hN : h.Ns ns (h.nsMap ns) := .of_isNs (PySem.W.isNs_of_in X hok)
      have hty : PySem.W.typeIn K (.ref g) = some (.type "function") := beq_iff_eq.mp hf
      have hfo : ∃ of, h.get? g = some of ∧ of.cls = .type "function" := by
        unfold PySem.W.typeIn at hty
        revert hty
        cases e : K.lookup g with
        | none => intro hty; simp [e] at hty
        | some of => intro hty; simp [e] at hty; exact ⟨of, X _ _ e, hty⟩
      obtain ⟨of, e1, e2⟩ := hfo
      exact ⟨o, of, nm, qn, ns, bs, hd, sn, sub, ab, col, dd, k0, k1, k2, k3, k5, n, _, _, hx, hc, X _ _ ho, hN, ns_some_of X hN heq, e1, e2, F.cmp_object.mro, F.cmp_object.eq.lookup, PySem.W.nsMap_none_of_in X hok hne⟩
    · cases q
  · cases q
/-- x != y of two instances of the class at C with an own __eq__, no __ne__ -/
def rNeOwn (C : Addr) (sp : Sp) (E : XK) : R2 := fun x y H Q => ∃ a dx fs b dy gs, x = .ref a ∧ y = .ref b ∧ H a = some (.ins C dx fs) ∧ H b = some (.ins C dy gs) ∧ sp [.ref a, .ref b] H (fun z H' => ∃ k, z = .bl k ∧ Q (.bl (!k)) H') E
theorem op_neOwn {X : Cx} {C : Addr} {sp : Sp} {E : XK} {n : Nat} (G : ∃ g, eqNoB X.K C g = true ∧ PySem.W.isFn X.K (.ref g) = true ∧ FnR X.prog X.w X.K X.mg X.base (L2.CX X.prog X.w) n g sp) (hr : Room (n + 1) X.A) (hx : Passes (L2.CX X.prog X.w) X E) :
    OpR X (compareOp .NotEq) (rNeOwn C sp E) := by
  obtain ⟨g, eq, hf, F⟩ := G
  intro pins s σ H x y v u Q I rx ry h
  obtain ⟨a, dx, fs, b, dy, gs, rfl, rfl, ha, hb, q⟩ := h
  cases (show v = Value.ref a from rx)
  cases (show u = Value.ref b from ry)
  obtain ⟨od, J⟩ := inst_of I ha
  obtain ⟨od', J'⟩ := inst_of I hb
  have Z := eqNo_at I.kIn eq hf J.at_ J.cls
  have hu : X.A.units + 1 < cLine := by have := hr.un; omega
  obtain ⟨hp, gg, d, t, os⟩ := s
  refine compareOp_ne_ownEq PySem.F.cmp_object Z J'.at_ J'.cls hu (wpAny_mono (wpAny_call (SlX.run_at (us := [.ref a, .ref b]) (ws := [.ref a, .ref b]) F hr.in1 I.env0.in1 hx I (.cons rfl (.cons rfl .nil)) q)) (fun w s' z => ?_) fun _ _ x => x)
  obtain ⟨z', H', I', rz, k, e, qz⟩ := z
  subst e
  cases rz
  exact ⟨k, rfl, .bl (!k), H', I', rfl, qz⟩
/-- x == y of such instances (both of the class at C) -/
def rEqOwn (C : Addr) (sp : Sp) (E : XK) : R2 := fun x y H Q => ∃ a dx fs b dy gs, x = .ref a ∧ y = .ref b ∧ H a = some (.ins C dx fs) ∧ H b = some (.ins C dy gs) ∧ sp [.ref a, .ref b] H (fun z H' => ∃ k, z = .bl k ∧ Q (.bl k) H') E
theorem op_eqOwn {X : Cx} {C : Addr} {sp : Sp} {E : XK} {n : Nat} (G : MtG X.prog X.w X.K X.mg X.base n C "__eq__" sp) (hr : Room n X.A) (hn : PySem.W.notFirst X.K C (.ref C) = true) (hx : Passes (L2.CX X.prog X.w) X E) :
    OpR X (compareOp .Eq) (rEqOwn C sp E) := by
  obtain ⟨g, M, F⟩ := G
  intro pins s σ H x y v u Q I rx ry h
  obtain ⟨a, dx, fs, b, dy, gs, rfl, rfl, ha, hb, q⟩ := h
  cases (show v = Value.ref a from rx)
  cases (show u = Value.ref b from ry)
  obtain ⟨od, J⟩ := inst_of I ha
  obtain ⟨od', J'⟩ := inst_of I hb
  obtain ⟨m, hF⟩ := I.fr
  show wpAny _ _ (richCompare .Eq _ _) _ _ _
  refine PySem.W.cmp_K (op := .Eq) (tb := .ref C) hr.units0 hF I.ok.mod.kin J J'.type hn M.at_ M.fn ?_
  refine wpAny_mono (wpAny_call (run_fnR (us := [.ref a, .ref b]) (vs := [.ref a, .ref b]) F hr hx I (.cons rfl (.cons rfl .nil)) q)) (fun w s' z => ?_) fun _ _ x => x
  obtain ⟨z', H', I', rz, k, e, qz⟩ := z
  subst e
  cases rz
  exact ⟨.bl k, H', I', rfl, qz⟩
end K5

namespace K5
open PySem PySem.Spec PyProof.Rows L2
open Sem (wp)
open AutoSeq1 (wpAny_loadPart')
/-! enumerate over a tuple; zip of a tuple and a list -/
theorem meets_enum_tup (t : Addr) (items : Array Value) :
    Meets (Builtin.«enumerate.__new__» ⟨[.type "enumerate", .ref t], []⟩) (fun _ R s => s.heap.IsTuple t items ∧
      R (.ok (.ret (.ref (s.heap.push { cls := .type "tuple_iterator", data := .fields #[.ref t, .int 0 0] }).objs.size)))
        { s with heap := (s.heap.push { cls := .type "tuple_iterator", data := .fields #[.ref t, .int 0 0] }).push { cls := .type "enumerate", data := .fields #[.none, .bool false, .ref s.heap.objs.size, rawInt 0, .none, .none] } }) :=
  .of_wp fun prog w A R s h => by
    obtain ⟨hp, g, d, tk, os⟩ := s; obtain ⟨hl, h⟩ := h
    have hsub := sub_enumerate
    have hL : Heap.IsTuple (Shared.heap ⟨hp, g, d, tk, os⟩) t items := hl
    wp_walk using wpAny_pyIter_tuple hL
    refine wpAny_stack_any fun st => wpAny_pure ?_
    split
    · rename_i c _ _ _ _ _
      cases (c == Value.type "enumerate")
      · wp_walk using wpAny_pyIter_tuple hL
        exact ⟨_, rfl, h⟩
      · wp_walk using wpAny_pyIter_tuple hL
        exact ⟨_, rfl, h⟩
    · wp_walk using wpAny_pyIter_tuple hL
      exact ⟨_, rfl, h⟩
section
variable {prog : Program} {w : World} {A : Around} {E : Value → Shared → Prop} {s : Shared}
theorem call_enum_tup {l : Addr} {items : Array Value} {Q : Value → Shared → Prop} (hL : s.heap.IsTuple l items)
    (h : ∀ h', IsEnum h' (s.heap.objs.size + 1) s.heap.objs.size 0 .none → h'.IsTupleIter s.heap.objs.size l 0 → h'.objs.size = s.heap.objs.size + 2 →
      (∀ b o, s.heap.get? b = some o → h'.get? b = some o) → Q (.ref (s.heap.objs.size + 1)) { s with heap := h' }) :
    wpAny (model prog w) A (call (.type "enumerate") [.ref l]) Q E s := by
  refine callType_new F.called_enumerate (by decide) (F.typeCall_enumerate_1 _) (F.newCall_enumerate_1 _) (fun obj => F.args_object_init_2 obj _) F.entry_enumerate_new
    (meets_enum_tup l items) ⟨hL, ?_⟩
  have hz : (s.heap.push { cls := .type "tuple_iterator", data := .fields #[.ref l, .int 0 0] }).objs.size = s.heap.objs.size + 1 := Heap.size_push ..
  show _ ∧ _
  rw [hz]
  have he : IsEnum ((s.heap.push { cls := .type "tuple_iterator", data := .fields #[.ref l, .int 0 0] }).push
      { cls := .type "enumerate", data := .fields #[.none, .bool false, .ref s.heap.objs.size, rawInt 0, .none, .none] }) (s.heap.objs.size + 1) s.heap.objs.size 0 .none := by
    have := Heap.get?_push_size (s.heap.push { cls := .type "tuple_iterator", data := .fields #[.ref l, .int 0 0] })
      (o := { cls := .type "enumerate", data := .fields #[.none, .bool false, .ref s.heap.objs.size, rawInt 0, .none, .none] }) rfl
    rw [hz] at this; exact this
  refine ⟨⟨_, he, rfl⟩, h _ he ⟨_, Heap.get?_push_of_some _ (Heap.get?_push_size _ rfl), rfl, rfl⟩ (by rw [Heap.size_push, hz]) fun b o x => Heap.get?_push_of_some _ (Heap.get?_push_of_some _ x)⟩
end
/-- the tuple at a, each item in a new pair with its place -/
def IteT (K : PySem.W.Frag) (a : Addr) : It :=
  ⟨fun i H => ∃ (xs : List V) (x : V), SqT K H a xs ∧ xs[i]? = some x, fun i H v H' => ∃ T x, v = .ref T ∧ H T = none ∧ H' = upd H T (.tup [.int (i : Nat), x]) ∧ ∀ xs, SqT K H a xs → xs[i]? = some x, fun i H => ∃ xs : List V, SqT K H a xs ∧ xs.length = i⟩
theorem turn_enumT {P : Program} {w : World} {K : PySem.W.Frag} {elts : List Expr} {kk : Nat} {tpos : Pos} (a e it : Addr) :
    Turn P w K (.Tuple elts kk tpos) (IteT K a) [e, it] e (fun i h => (∃ old, IsEnum h e it ((i : Nat) : Int) old) ∧ h.IsTupleIter it a i ∧ e ≠ it ∧ a ≠ it ∧ e ≠ a) where
  mem := by simp
  obj := fun i h st b hb => by
    obtain ⟨⟨old, he⟩, ⟨o, ho, hc, hd⟩, _⟩ := st
    have e' : b = e ∨ b = it := by simpa using hb
    rcases e' with z | z
    · rw [z]; exact ⟨_, he, fun v q => nomatch q⟩
    · rw [z]; exact ⟨o, ho, fun v q => by rw [hd] at q; cases q⟩
  keep := fun i h h' st k => let ⟨⟨old, he⟩, hi, hne⟩ := st; ⟨⟨old, k e (by simp) _ he⟩, hi.at fun o q => k it (by simp) o q, hne⟩
  item := by
    intro X hP hw hK hc i pins s σ H E I hf st hg
    subst hP hw hK
    obtain ⟨⟨old, he⟩, hit, hne, hai, hea⟩ := st
    obtain ⟨xs, x, hq, hx⟩ := hg
    obtain ⟨its, rv, p, hz⟩ := I.tuple hq
    obtain ⟨u, hu, ru⟩ := rv.get hx
    have hu' : its.toArray[i]? = some u := by simpa using hu
    have hel : e < s.heap.objs.size := Heap.lt_size he
    have hil : it < s.heap.objs.size := by obtain ⟨_, q, _⟩ := hit; exact Heap.lt_size q
    have hlt : i < its.toArray.size := (Array.getElem?_eq_some_iff.mp hu').1
    have D := Draws.tuple (prog := X.prog) (w := X.w) (A := X.A.in1) (by exact I.ok.hd hc) it a hai its.toArray
    refine wpAny_pyNext_enum_itemD D he ⟨hit, p⟩ hlt hne (by simp [hne, hea]) fun x' h' tk hP ho hit' hT hsz hk => ?_
    have ex : x' = u := by rw [hu'] at hP; exact (Option.some.inj hP).symm
    subst ex
    refine ⟨_, rfl, wpAny_letOwnedTupleGo_enum (s := { s with heap := h', toks := tk + 1 }) ho fun h'' he' sb => ?_⟩
    have hT2 : h''.get? s.heap.objs.size = some { cls := .type "tuple", data := .seq #[.int i tk, x'] } := (sb.2 _ (Nat.ne_of_gt hel)).trans hT
    have new : ObjOk X.prog X.w (upd H s.heap.objs.size (.tup [.int (i : Nat), x])) h'' s.heap.objs.size (.tup [.int (i : Nat), x]) :=
      ⟨by show 2 ≤ sizeLine; decide, [.int i tk, x'], .cons ⟨_, rfl⟩ (.cons ru .nil), ⟨_, hT2, rfl, _, rfl⟩⟩
    have I1 : Inv X pins σ (upd H s.heap.objs.size (.tup [.int (i : Nat), x])) { s with heap := h'', toks := tk + 1 } :=
      I.turnedNew (ch := [e, it]) (fun b ob hb q => (sb.2 b (fun z => hb (by simp [z]))).trans (hk b ob (fun z => hb (by simp [z])) (fun z => hb (by simp [z])) q)) hf (Nat.le_refl _) new
    refine ⟨.ref s.heap.objs.size, _, I1, rfl, ⟨_, x, rfl, I.hok.fresh (Nat.le_refl _), rfl, fun ys hy => by rw [I.tuple_inj hy hq]; exact hx⟩, ⟨⟨x', ?_⟩, hit'.1.at fun o q => (sb.2 it (Ne.symm hne)).trans q, hne, hai, hea⟩, fun b hb => ?_⟩
    · have e1 : ((i + 1 : Nat) : Int) = (i : Int) + 1 := by omega
      rw [e1]; exact he'
    · have hb' : b < s.heap.objs.size := by
        have e' : b = e ∨ b = it := by simpa using hb
        rcases e' with z | z
        · rw [z]; exact hel
        · rw [z]; exact hil
      rw [upd_ne (Nat.ne_of_lt hb')]
      exact (hf b hb).1
  done := by
    intro X hP hw hK hc i pins s σ H E I hf st hg
    subst hP hw hK
    obtain ⟨⟨old, he⟩, hit, hne, hai, hea⟩ := st
    obtain ⟨xs, hq, hx⟩ := hg
    obtain ⟨its, rv, p, hz⟩ := I.tuple hq
    obtain ⟨f0, f1, f2, f3, f4, f5⟩ := hf it (by simp)
    have hl := rv.length
    have D := Draws.tuple (prog := X.prog) (w := X.w) (A := X.A.in1) (by exact I.ok.hd hc) it a hai its.toArray
    have hi : i = its.toArray.size := by simp; omega
    subst hi
    exact wpAny_pyNext_enum_endD D he ⟨hit, p⟩ fun h' eb => ⟨rfl, I.turned (t' := s.toks) (fun b o hb q => eb b o hb q) f0 f1 f3 f4 f5⟩
  self := fun A i s Q E st h => let ⟨⟨_, he⟩, _⟩ := st; wpAny_pyIter_enum he h
def iEnumA (K : PySem.W.Frag) (ta : TA) : TI := fun σ H R => ta σ H fun vs H1 => ∃ a xs, vs = [.ref a] ∧ ((SqL K H1 a xs ∧ R (Ite K a) H1) ∨ (SqT K H1 a xs ∧ R (IteT K a) H1))
theorem pi_enumA {X : Cx} {e : Expr} {ta : TA} {p pos tpos : Pos} {elts : List Expr} {kk : Nat} (hg : Gl X "enumerate") (hm : X.mg "enumerate" = none) (ha : PA X [e] ta) (hs : starEach [e] X.env = [(false, eval e X.env)] := by rfl) :
    PI X (.Tuple elts kk tpos) (.Call (.Name "enumerate" p) [e] [] pos) (iEnumA X.K ta) := by
  refine ⟨fun pins s σ H R I h => ?_⟩
  refine Call_ (ld_blt I hg hm boot_enumerate (PyProof.Rows.callWith_type1 (thn (ha.run pos pins s σ H _ I h) fun us s1 ⟨vs, H1, I1, r1, q1⟩ => ?_) hs rfl))
  obtain ⟨a, xs, ex, q1⟩ := q1
  subst ex
  cases r1 with
  | cons r rr =>
    cases rr
    cases r
    have fresh2 : ∀ b, b ∈ [s1.heap.objs.size + 1, s1.heap.objs.size] → FpOk X pins H1 b := fun b hb => by
      have e' : b = s1.heap.objs.size + 1 ∨ b = s1.heap.objs.size := by simpa using hb
      have hle : s1.heap.objs.size ≤ b := by
        rcases e' with z | z
        · rw [z]; exact Nat.le_add_right _ _
        · rw [z]; exact Nat.le_refl _
      exact I1.fpOk hle (I1.hok.fresh hle)
    rcases q1 with ⟨hq, q⟩ | ⟨hq, q⟩
    · obtain ⟨its, rv, p', hz⟩ := I1.list hq
      refine call_enumerate_list p'.isList fun h' he hit hsz hk => wpAny_pyIter_enum he ?_
      have I2 : Inv X pins σ H1 { s1 with heap := h' } := I1.kept (t' := s1.toks) hk
      exact ⟨s1.heap.objs.size + 1, [s1.heap.objs.size + 1, s1.heap.objs.size], _, _, H1, rfl, I2, turn_enum a (s1.heap.objs.size + 1) s1.heap.objs.size, ⟨⟨.none, he⟩, hit, Nat.succ_ne_self _⟩, fresh2, q⟩
    · obtain ⟨its, rv, p', hz⟩ := I1.tuple hq
      obtain ⟨o1, ho1, _⟩ := id p'
      have hlt := Heap.lt_size ho1
      refine call_enum_tup (show s1.heap.IsTuple a its.toArray from p') fun h' he hit hsz hk => wpAny_pyIter_enum he ?_
      have I2 : Inv X pins σ H1 { s1 with heap := h' } := I1.kept (t' := s1.toks) hk
      exact ⟨s1.heap.objs.size + 1, [s1.heap.objs.size + 1, s1.heap.objs.size], _, _, H1, rfl, I2, turn_enumT a (s1.heap.objs.size + 1) s1.heap.objs.size, ⟨⟨.none, he⟩, hit, Nat.succ_ne_self _, Nat.ne_of_lt hlt, Ne.symm (Nat.ne_of_lt (Nat.lt_succ_of_lt hlt))⟩, fresh2, q⟩
/-- a loop over enumerate of a list or a tuple that stays -/
theorem for_enumL {K : PySem.W.Frag} {a : Addr} {xs : List V} {g : TG} {tb : TS} {D : Ends} {σ : L2.St} {H : Hp} (Pv : Nat → L2.St → Hp → Prop) (h0 : Pv 0 σ H) (hq : ∀ i σ H, Pv i σ H → SqL K H a xs)
    (hs : ∀ (i : Nat) (x : V) (T : Addr) (σ : L2.St) (H : Hp), xs[i]? = some x → Pv i σ H → H T = none → g (.ref T) σ (upd H T (.tup [.int (i : Nat), x])) fun σ2 H2 => tb { D with nx := Pv (i + 1), ct := Pv (i + 1), bk := D.nx } σ2 H2) (hd : ∀ σ H, Pv xs.length σ H → D.nx σ H) :
    ∃ W : Nat → Nat → L2.St → Hp → Prop, (∃ m, W 0 m σ H) ∧ ∀ i m σ H, W i m σ H →
      ((Ite K a).stop i H ∧ D.nx σ H) ∨ ((Ite K a).go i H ∧ ∃ N : L2.St → Hp → Prop, (∀ σ' H', N σ' H' → ∃ m', m' < m ∧ W (i + 1) m' σ' H') ∧ ∀ v H', (Ite K a).yld i H v H' → g v σ H' fun σ2 H2 => tb { D with nx := N, ct := N, bk := D.nx } σ2 H2) := by
  refine ⟨fun i m σ H => m = xs.length - i ∧ i ≤ xs.length ∧ Pv i σ H, ⟨xs.length, rfl, Nat.zero_le _, h0⟩, ?_⟩
  rintro i m σ H ⟨rfl, hi, p⟩
  have qx := hq i σ H p
  by_cases hlt : i < xs.length
  · have hx : xs[i]? = some xs[i] := List.getElem?_eq_getElem hlt
    refine .inr ⟨⟨xs, _, qx, hx⟩, Pv (i + 1), fun σ' H' p' => ⟨xs.length - (i + 1), by omega, rfl, hlt, p'⟩, fun v H' y => ?_⟩
    obtain ⟨T, x', rfl, hT, rfl, f1⟩ := y
    exact hs i x' T σ H (f1 xs qx) p hT
  · have e : i = xs.length := by omega
    subst e
    exact .inl ⟨⟨xs, qx, Nat.le_refl _⟩, hd σ H p⟩
theorem for_enumT {K : PySem.W.Frag} {a : Addr} {xs : List V} {g : TG} {tb : TS} {D : Ends} {σ : L2.St} {H : Hp} (Pv : Nat → L2.St → Hp → Prop) (h0 : Pv 0 σ H) (hq : ∀ i σ H, Pv i σ H → SqT K H a xs)
    (hs : ∀ (i : Nat) (x : V) (T : Addr) (σ : L2.St) (H : Hp), xs[i]? = some x → Pv i σ H → H T = none → g (.ref T) σ (upd H T (.tup [.int (i : Nat), x])) fun σ2 H2 => tb { D with nx := Pv (i + 1), ct := Pv (i + 1), bk := D.nx } σ2 H2) (hd : ∀ σ H, Pv xs.length σ H → D.nx σ H) :
    ∃ W : Nat → Nat → L2.St → Hp → Prop, (∃ m, W 0 m σ H) ∧ ∀ i m σ H, W i m σ H →
      ((IteT K a).stop i H ∧ D.nx σ H) ∨ ((IteT K a).go i H ∧ ∃ N : L2.St → Hp → Prop, (∀ σ' H', N σ' H' → ∃ m', m' < m ∧ W (i + 1) m' σ' H') ∧ ∀ v H', (IteT K a).yld i H v H' → g v σ H' fun σ2 H2 => tb { D with nx := N, ct := N, bk := D.nx } σ2 H2) := by
  refine ⟨fun i m σ H => m = xs.length - i ∧ i ≤ xs.length ∧ Pv i σ H, ⟨xs.length, rfl, Nat.zero_le _, h0⟩, ?_⟩
  rintro i m σ H ⟨rfl, hi, p⟩
  have qx := hq i σ H p
  by_cases hlt : i < xs.length
  · have hx : xs[i]? = some xs[i] := List.getElem?_eq_getElem hlt
    refine .inr ⟨⟨xs, _, qx, hx⟩, Pv (i + 1), fun σ' H' p' => ⟨xs.length - (i + 1), by omega, rfl, hlt, p'⟩, fun v H' y => ?_⟩
    obtain ⟨T, x', rfl, hT, rfl, f1⟩ := y
    exact hs i x' T σ H (f1 xs qx) p hT
  · have e : i = xs.length := by omega
    subst e
    exact .inl ⟨⟨xs, qx, rfl⟩, hd σ H p⟩
end K5

namespace K5
open PySem PySem.Spec PyProof.Rows L2
/-! zip of a tuple and a list -/
/-- the tuple at a and the list at b as they stand at each turn, the items in new pairs -/
def ItzM (K : PySem.W.Frag) (a b : Addr) : It :=
  ⟨fun i H => ∃ (xs ys : List V) (x y : V), SqT K H a xs ∧ SqL K H b ys ∧ xs[i]? = some x ∧ ys[i]? = some y,
    fun i H v H' => ∃ T x y, v = .ref T ∧ H T = none ∧ H' = upd H T (.tup [x, y]) ∧ (∀ xs, SqT K H a xs → xs[i]? = some x) ∧ ∀ ys, SqL K H b ys → ys[i]? = some y,
    fun i H => ∃ xs ys : List V, SqT K H a xs ∧ SqL K H b ys ∧ xs.length = i ∧ ys.length = i⟩
theorem turn_zipM {P : Program} {w : World} {K : PySem.W.Frag} {elts : List Expr} {kk : Nat} {tpos : Pos} {a b z TI TO i1 i2 : Addr} (S : ZipSep2 z TI TO i1 i2 [i1, a] [i2, b]) (n1 : a ≠ i1) (n2 : b ≠ i2) :
    Turn P w K (.Tuple elts kk tpos) (ItzM K a b) [z, TI, TO, i1, i2] z (fun i h => IsZip h z TI TO .none ∧ IsTupOf2 h TI (.ref i1) (.ref i2) ∧ (∃ x y, IsTupOf2 h TO x y) ∧ h.IsTupleIter i1 a i ∧ h.IsListIter i2 b i) where
  mem := by simp
  obj := fun i h st c hc => by
    obtain ⟨hz, hTI, ⟨x, y, hTO⟩, ⟨o1, e1, _, d1⟩, ⟨o2, e2, _, d2⟩⟩ := st
    have e' : c = z ∨ c = TI ∨ c = TO ∨ c = i1 ∨ c = i2 := by simpa using hc
    rcases e' with q | q | q | q | q
    · rw [q]; exact ⟨_, hz, fun v q => nomatch q⟩
    · rw [q]; exact ⟨_, hTI, fun v q => nomatch q⟩
    · rw [q]; exact ⟨_, hTO, fun v q => nomatch q⟩
    · rw [q]; exact ⟨o1, e1, fun v q => by rw [d1] at q; cases q⟩
    · rw [q]; exact ⟨o2, e2, fun v q => by rw [d2] at q; cases q⟩
  keep := fun i h h' st k => by
    obtain ⟨hz, hTI, ⟨x, y, hTO⟩, h1, h2⟩ := st
    exact ⟨k z (by simp) _ hz, k TI (by simp) _ hTI, ⟨x, y, k TO (by simp) _ hTO⟩, h1.at fun o q => k i1 (by simp) o q, h2.at fun o q => k i2 (by simp) o q⟩
  item := by
    intro X hP hw hK hc i pins s σ H E I hf st hg
    subst hP hw hK
    obtain ⟨hz, hTI, ⟨x0, y0, hTO⟩, h1, h2⟩ := st
    obtain ⟨xs, ys, x, y, hqx, hqy, hx, hy⟩ := hg
    obtain ⟨its, rv, p, _⟩ := I.tuple hqx
    obtain ⟨its2, rv2, p2, _⟩ := I.list hqy
    obtain ⟨u, hu, ru⟩ := rv.get hx
    obtain ⟨u2, hu2, ru2⟩ := rv2.get hy
    have hu' : its.toArray[i]? = some u := by simpa using hu
    have hu2' : its2.toArray[i]? = some u2 := by simpa using hu2
    have hzl : z < s.heap.objs.size := Heap.lt_size hz
    have D1 := Draws.tuple (prog := X.prog) (w := X.w) (A := X.A.in1) (by exact I.ok.hd hc) i1 a n1 its.toArray
    have D2 := Draws.list (prog := X.prog) (w := X.w) (A := X.A.in1) (by exact I.ok.hd hc) i2 b n2 its2.toArray
    refine wpAny_pyNext_zipD2_item S D1 D2 hz hTI hTO ⟨h1, p⟩ ⟨h2, p2.isList⟩ (Array.getElem?_eq_some_iff.mp hu').1 (Array.getElem?_eq_some_iff.mp hu2').1 fun x1 x2 h' tk y1 y2 z' TO' h1' h2' hT hsz hk => ?_
    have ex1 : x1 = u := by rw [hu'] at y1; exact (Option.some.inj y1).symm
    have ex2 : x2 = u2 := by rw [hu2'] at y2; exact (Option.some.inj y2).symm
    subst ex1 ex2
    refine ⟨_, rfl, wpAny_letOwnedTupleGo_zip (s := { s with heap := h', toks := tk }) z' fun h'' z'' sb => ?_⟩
    have hT2 : h''.get? s.heap.objs.size = some { cls := .type "tuple", data := .seq #[x1, x2] } := (sb.2 _ (Nat.ne_of_gt hzl)).trans hT
    have new : ObjOk X.prog X.w (upd H s.heap.objs.size (.tup [x, y])) h'' s.heap.objs.size (.tup [x, y]) :=
      ⟨by show 2 ≤ sizeLine; decide, [x1, x2], .cons ru (.cons ru2 .nil), ⟨_, hT2, rfl, _, rfl⟩⟩
    have I1 : Inv X pins σ (upd H s.heap.objs.size (.tup [x, y])) { s with heap := h'', toks := tk } :=
      I.turnedNew (t' := tk) (ch := [z, TI, TO, i1, i2]) (fun c o hb q => (sb.2 c (fun q' => hb (by simp [q']))).trans (hk c o (fun q' => hb (by simp [q'])) (fun q' => hb (by simp [q'])) (fun q' => hb (by simp [q'])) (fun q' => hb (by simp [q'])) q)) hf (Nat.le_refl _) new
    refine ⟨.ref s.heap.objs.size, _, I1, rfl, ⟨_, x, y, rfl, I.hok.fresh (Nat.le_refl _), rfl, fun l hl => by rw [I.tuple_inj hl hqx]; exact hx, fun l hl => by rw [I.list_inj hl hqy]; exact hy⟩, ⟨z'', ?_, ⟨x1, x2, ?_⟩, ?_, ?_⟩, fun c hcm => ?_⟩
    · exact (sb.2 _ S.TIz).trans (hk _ _ S.TIz S.TITO S.TIi1 S.TIi2 hTI)
    · exact (sb.2 _ S.TOz).trans TO'
    · exact h1'.1.at fun o q => (sb.2 _ (Ne.symm S.zi1)).trans q
    · exact h2'.1.at fun o q => (sb.2 _ (Ne.symm S.zi2)).trans q
    · have hlt : c < s.heap.objs.size := by
        have e' : c = z ∨ c = TI ∨ c = TO ∨ c = i1 ∨ c = i2 := by simpa using hcm
        rcases e' with q | q | q | q | q
        · rw [q]; exact hzl
        · rw [q]; exact Heap.lt_size hTI
        · rw [q]; exact Heap.lt_size hTO
        · rw [q]; obtain ⟨_, e1, _⟩ := h1; exact Heap.lt_size e1
        · rw [q]; obtain ⟨_, e2, _⟩ := h2; exact Heap.lt_size e2
      rw [upd_ne (Nat.ne_of_lt hlt)]
      exact (hf c hcm).1
  done := by
    intro X hP hw hK hc i pins s σ H E I hf st hg
    subst hP hw hK
    obtain ⟨hz, hTI, ⟨x0, y0, hTO⟩, h1, h2⟩ := st
    obtain ⟨xs, ys, hqx, hqy, hend, hend2⟩ := hg
    obtain ⟨its, rv, p, _⟩ := I.tuple hqx
    obtain ⟨its2, rv2, p2, _⟩ := I.list hqy
    have l1 := rv.length
    have l2 := rv2.length
    have D1 := Draws.tuple (prog := X.prog) (w := X.w) (A := X.A.in1) (by exact I.ok.hd hc) i1 a n1 its.toArray
    have D2 := Draws.list (prog := X.prog) (w := X.w) (A := X.A.in1) (by exact I.ok.hd hc) i2 b n2 its2.toArray
    exact wpAny_pyNext_zipD2_end S D1 D2 hz hTI hTO ⟨h1, p⟩ ⟨h2, p2.isList⟩ (by simp; omega) (by simp; omega) (by simp; omega) fun h' tk hk => ⟨rfl, I.turnedL (t' := tk) (ch := [z, TI, TO, i1, i2]) (fun c o hb q =>
      hk c o (fun q' => hb (by simp [q'])) (fun q' => hb (by simp [q'])) (fun q' => hb (by simp [q'])) (fun q' => hb (by simp [q'])) q) hf⟩
  self := fun A i s Q E st h => wpAny_pyIter_zip st.1 h
theorem nin2 {c n a : Nat} (h1 : c ≠ n) (h2 : c ≠ a) : (c : Addr) ∉ ([n, a] : List Addr) := fun h => by
  rcases List.mem_cons.mp h with h | h
  · exact h1 h
  · exact h2 (List.mem_singleton.mp h)
theorem sep_at (n a b : Nat) (ha : a < n) (hb : b < n) : ZipSep2 (n + 4) (n + 2) (n + 3) n (n + 1) [n, a] [n + 1, b] where
  TIz := Nat.ne_of_lt (by omega)
  TOz := Nat.ne_of_lt (by omega)
  TITO := Nat.ne_of_lt (by omega)
  TIi1 := Nat.ne_of_gt (by omega)
  mem1 := List.mem_cons_self ..
  zf1 := nin2 (by omega) (by omega)
  Tf1 := nin2 (by omega) (by omega)
  TIi2 := Nat.ne_of_gt (by omega)
  mem2 := List.mem_cons_self ..
  zf2 := nin2 (by omega) (by omega)
  Tf2 := nin2 (by omega) (by omega)
  sep1_2 := nin2 (by omega) (by omega)
  sep2_1 := nin2 (by omega) (by omega)
theorem ge_of_mem5 (n : Nat) {c : Nat} (h : c = n + 4 ∨ c = n + 2 ∨ c = n + 3 ∨ c = n ∨ c = n + 1) : n ≤ c := by omega
def iZipM (K : PySem.W.Frag) (ta : TA) : TI := fun σ H R => ta σ H fun vs H1 => ∃ a b xs ys, vs = [.ref a, .ref b] ∧ SqT K H1 a xs ∧ SqL K H1 b ys ∧ R (ItzM K a b) H1
theorem pi_zipM {X : Cx} {e e2 : Expr} {ta : TA} {p pos tpos : Pos} {elts : List Expr} {kk : Nat} (hg : Gl X "zip") (hm : X.mg "zip" = none) (ha : PA X [e, e2] ta)
    (hs : starEach [e, e2] X.env = (false, eval e X.env) :: starEach [e2] X.env := by rfl) (hpl : (backTo pos (starEach [e2] X.env)).any (·.1) = false := by rfl) :
    PI X (.Tuple elts kk tpos) (.Call (.Name "zip" p) [e, e2] [] pos) (iZipM X.K ta) := by
  refine ⟨fun pins s σ H R I h => ?_⟩
  refine Call_ (ld_blt I hg hm PyProof.Rows.boot_zip (PyProof.Rows.callWith_type1 (thn (ha.run pos pins s σ H _ I h) fun us s1 ⟨vs, H1, I1, r1, q1⟩ => ?_) hs hpl))
  obtain ⟨a, b, xs, ys, ex, hqx, hqy, q⟩ := q1
  subst ex
  cases r1 with
  | cons r rr =>
    cases rr with
    | cons r' rr =>
      cases rr
      cases r
      cases r'
      obtain ⟨its, rv, p1, _⟩ := I1.tuple hqx
      obtain ⟨its2, rv2, p2, _⟩ := I1.list hqy
      obtain ⟨oa, hoa, _⟩ := id p1
      have la : a < s1.heap.objs.size := Heap.lt_size hoa
      have lb : b < s1.heap.objs.size := p2.lt
      refine zip_begins2 (begins_tuple a its.toArray) (begins_list b its2.toArray) (show s1.heap.IsTuple a its.toArray from p1) p2.isList fun h' hz hTI hTO h1 h2 hsz hk => wpAny_pyIter_zip hz ?_
      have I2 : Inv X pins σ H1 { s1 with heap := h' } := I1.kept (t' := s1.toks) hk
      have S : ZipSep2 (s1.heap.objs.size + 4) (s1.heap.objs.size + 2) (s1.heap.objs.size + 3) s1.heap.objs.size (s1.heap.objs.size + 1) [s1.heap.objs.size, a] [s1.heap.objs.size + 1, b] :=
        sep_at _ _ _ la lb
      refine ⟨s1.heap.objs.size + 4, [s1.heap.objs.size + 4, s1.heap.objs.size + 2, s1.heap.objs.size + 3, s1.heap.objs.size, s1.heap.objs.size + 1], _, _, H1, rfl, I2, turn_zipM S (Nat.ne_of_lt la) (Nat.ne_of_lt (Nat.lt_succ_of_lt lb)), ⟨hz, hTI, ⟨_, _, hTO⟩, ⟨_, h1, rfl, rfl⟩, ⟨_, h2, rfl, rfl⟩⟩, fun c hcm => ?_, q⟩
      have e' : c = s1.heap.objs.size + 4 ∨ c = s1.heap.objs.size + 2 ∨ c = s1.heap.objs.size + 3 ∨ c = s1.heap.objs.size ∨ c = s1.heap.objs.size + 1 := by simpa using hcm
      have hle : s1.heap.objs.size ≤ c := ge_of_mem5 _ e'
      exact I1.fpOk hle (I1.hok.fresh hle)
/-- a loop over zip of a tuple and a list of one length -/
theorem for_zipM {K : PySem.W.Frag} {a b : Addr} {xs ys : List V} {g : TG} {tb : TS} {D : Ends} {σ : L2.St} {H : Hp} (hl : xs.length = ys.length) (Pv : Nat → L2.St → Hp → Prop) (h0 : Pv 0 σ H) (hq : ∀ i σ H, Pv i σ H → SqT K H a xs ∧ SqL K H b ys)
    (hs : ∀ (i : Nat) (x y : V) (T : Addr) (σ : L2.St) (H : Hp), xs[i]? = some x → ys[i]? = some y → Pv i σ H → H T = none → g (.ref T) σ (upd H T (.tup [x, y])) fun σ2 H2 => tb { D with nx := Pv (i + 1), ct := Pv (i + 1), bk := D.nx } σ2 H2) (hd : ∀ σ H, Pv xs.length σ H → D.nx σ H) :
    ∃ W : Nat → Nat → L2.St → Hp → Prop, (∃ m, W 0 m σ H) ∧ ∀ i m σ H, W i m σ H →
      ((ItzM K a b).stop i H ∧ D.nx σ H) ∨ ((ItzM K a b).go i H ∧ ∃ N : L2.St → Hp → Prop, (∀ σ' H', N σ' H' → ∃ m', m' < m ∧ W (i + 1) m' σ' H') ∧ ∀ v H', (ItzM K a b).yld i H v H' → g v σ H' fun σ2 H2 => tb { D with nx := N, ct := N, bk := D.nx } σ2 H2) := by
  refine ⟨fun i m σ H => m = xs.length - i ∧ i ≤ xs.length ∧ Pv i σ H, ⟨xs.length, rfl, Nat.zero_le _, h0⟩, ?_⟩
  rintro i m σ H ⟨rfl, hi, p⟩
  obtain ⟨qx, qy⟩ := hq i σ H p
  by_cases hlt : i < xs.length
  · have hx : xs[i]? = some xs[i] := List.getElem?_eq_getElem hlt
    have hlt2 : i < ys.length := by omega
    have hy : ys[i]? = some ys[i] := List.getElem?_eq_getElem hlt2
    refine .inr ⟨⟨xs, ys, _, _, qx, qy, hx, hy⟩, Pv (i + 1), fun σ' H' p' => ⟨xs.length - (i + 1), by omega, rfl, hlt, p'⟩, fun v H' y => ?_⟩
    obtain ⟨T, x', y', rfl, hT, rfl, f1, f2⟩ := y
    exact hs i x' y' T σ H (f1 xs qx) (f2 ys qy) p hT
  · have e : i = xs.length := by omega
    subst e
    exact .inl ⟨⟨xs, ys, qx, qy, rfl, hl.symm⟩, hd σ H p⟩
/-! ### raise of an own class without arguments -/
section
variable {X : Cx} {pos : Pos}
theorem pmk_own0 {C : Addr} {bmB : List Value} {B newId initId : String} {x : Str} {p : Pos} (F : ExcBaseFacts B newId initId bmB) (q : PySem.W.excIn X.K C bmB newId = true) (gC : X.mg x = some (.ref C))
    (kC : PySem.W.keepIn X.K (.ref C) = true) (r : Raises X (.ref C)) (hg : Gl X x) (hdb : (x == ("__debug__" : Str)) = false := by decide) :
    PMk X (.Call (.Name x p) [] [] pos) (fun σ H Q => Q (.ref C) none H) := by
  intro pins s σ H Q I h
  refine wpAny_Call_Name_kw (ld_glob I hg gC ?_ hdb)
  refine PySem.W.callWith_K0 (first := []) I.kIn kC ?_
  show wpAny _ _ (call (.ref C) []) _ _ _
  obtain ⟨bm, N, nm, qn, bs, hdct, sn, sub, ab, col, dd, k0, k1, k2, k3, k5, mN, hC, hN, hni, T⟩ := exc_obj I.kIn q
  refine wpAny_call_exc_subT F T hC hN hni (fun h' e hm => ?_) (by show 0 ≤ sizeLine; omega)
  exact mk_of I hm r h (I.hok.gone hm.new)
end
/-! ### a class in a local name -/
def tMakeKV (i : Nat) (C : Addr) (n m : Nat) (sp : Sp) (gV : List V → List V → List V) (E : XK) (t tk : TA) : TE := fun σ H Q => σ[i]? = some (some (.ref C)) ∧ tMakeK C n m sp gV E t tk σ H Q
section
variable {X : Cx} {CX : CXT} {k n i : Nat} {f C : Addr} {fd : FuncData} {ps ks : List Str} {sp : Sp} {E : XK} {x : Str} {p pos : Pos} {e : Expr} {es : List Expr} {kws : List Keyword} {t tk : TA} {g : List Value → List Value → List Value} {gV : List V → List V → List V}
theorem pe_makeKV (M : Mk X.K C f) (F : FnOk X.prog X.w X.K X.mg X.base CX k f fd ps sp) (hr : Room (k + 1) X.A) (hN : X.N[i]? = some x) (hv : Vis X.env.scope x) (hb : KBn X.K fd ps (n + 1) ks g gV) (hx : Passes CX X E) (ha : PA X (e :: es) t) (hkw : PK X kws tk)
    (hall : (backToKw pos (keywordEach kws X.env)).all (·.1.isSome) = true := by rfl) (hks : (backToKw pos (keywordEach kws X.env)).filterMap (·.1) = ks := by rfl) (hd : (x == ("__debug__" : Str)) = false := by decide) (hcd : (x == ("__classdict__" : Str)) = false := by decide)
    (he : starEach (e :: es) X.env = (false, eval e X.env) :: starEach es X.env := by rfl) (hpl : ((backTo pos (starEach (e :: es) X.env)).any (·.1) || (backToKw pos (keywordEach kws X.env)).any (·.1.isNone)) = false := by rfl) :
    PE X (.Call (.Name x p) (e :: es) kws pos) (tMakeKV i C n ks.length sp gV E t tk) := by
  refine ⟨fun pins s σ H Q I h => ?_⟩
  obtain ⟨hs, h⟩ := h
  refine wpAny_Call_Name_kw (thn ((pe_var (pos := p) (i := i) hN hv hd hcd).run pins s σ H (fun v H1 => v = .ref C ∧ H1 = H) I ⟨.ref C, hs, rfl, rfl⟩) fun u s0 ⟨v, H0, I0, r0, ev, eH⟩ => ?_)
  subst ev
  rw [eH] at I0
  cases r0
  refine PySem.W.callWith_KW (h₀ := X.base) I.ok.mod.kin M.kp hall (thn (ha.run pos pins s0 σ H _ I0 h) fun us s1 ⟨vs, H1, I1, r, q⟩ => ?_) hpl he
  refine thn (hkw.run pos pins s1 σ H1 _ I1 q) fun ws s2 ⟨zs, H2, I2, rz, l1, l2, q2⟩ => ⟨I2.kIn, ?_⟩
  rw [hks]
  exact run_makeK M F hr hb hx I2 r rz l1 l2 q2
end
end K5

namespace K5
open PySem PySem.Spec PyProof.Rows L2
def top (i : Nat) : Stmt := PySem.Challenge.pw_asksmore_k64_where_machines_part.main.body.getD i (.Pass ⟨0, 0, 0, 0⟩)
abbrev s_is_list : Stmt := top 21
abbrev s_is_integer : Stmt := top 22
abbrev s_is_word : Stmt := top 23
abbrev s_is_beginning : Stmt := top 24
abbrev s_is_letter : Stmt := top 25
abbrev s_need_beginning : Stmt := top 31
abbrev s_need_runs : Stmt := top 32
abbrev s_join_runs : Stmt := top 33
abbrev s_moved : Stmt := top 36
abbrev s_run_moved : Stmt := top 37
abbrev s_runs_moved : Stmt := top 38
abbrev s_is_state : Stmt := top 40
abbrev s_need_same : Stmt := top 41
abbrev s_need_states : Stmt := top 44
abbrev s_law_pen : Stmt := top 47
abbrev s_law_draw : Stmt := top 48
abbrev s_law_pick : Stmt := top 49
abbrev s_law_shuffled : Stmt := top 50
abbrev s_law_words : Stmt := top 51
abbrev s_law_letters : Stmt := top 52
abbrev s_law_machine : Stmt := top 53
abbrev s_law_spelled : Stmt := top 54
abbrev s_law_history : Stmt := top 55
abbrev s_law_program : Stmt := top 56
abbrev s_law_answering : Stmt := top 57
abbrev s_law_changed : Stmt := top 58
abbrev s_law_first : Stmt := top 59
abbrev s_law_is_refused : Stmt := top 60
abbrev s_law : Stmt := top 61
abbrev s_Lettersu_initu : Stmt := inClass (top 26) 0
abbrev s_Lettersu_containsu : Stmt := inClass (top 26) 2
abbrev s_Lettersu_lenu : Stmt := inClass (top 26) 3
abbrev s_Lettersu_equ : Stmt := inClass (top 26) 5
abbrev s_Historyu_initu : Stmt := inClass (top 34) 0
abbrev s_Historyu_equ : Stmt := inClass (top 34) 5
abbrev s_Machineu_initu : Stmt := inClass (top 45) 0
abbrev s_Machine_moves : Stmt := inClass (top 45) 2
abbrev s_Machine_start : Stmt := inClass (top 45) 3
abbrev s_Machine_state : Stmt := inClass (top 45) 4
abbrev s_Machineu_callu : Stmt := inClass (top 45) 5
abbrev s_Machine_apart : Stmt := inClass (top 45) 12
abbrev s_History_spelled : Stmt := inClass (top 34) 1
theorem sc_is_list : FnScope ["value"] ["value"] (defScope s_is_list) := ⟨rfl, rfl, rfl, by decide +kernel, rfl, by decide +kernel, by decide +kernel⟩
theorem sc_is_integer : FnScope ["value"] ["value"] (defScope s_is_integer) := ⟨rfl, rfl, rfl, by decide +kernel, rfl, by decide +kernel, by decide +kernel⟩
theorem sc_is_word : FnScope ["value", "sign"] ["value"] (defScope s_is_word) := ⟨rfl, rfl, rfl, by decide +kernel, rfl, by decide +kernel, by decide +kernel⟩
theorem sc_is_beginning : FnScope ["value"] ["value"] (defScope s_is_beginning) := ⟨rfl, rfl, rfl, by decide +kernel, rfl, by decide +kernel, by decide +kernel⟩
theorem sc_is_letter : FnScope ["value", "word"] ["value"] (defScope s_is_letter) := ⟨rfl, rfl, rfl, by decide +kernel, rfl, by decide +kernel, by decide +kernel⟩
theorem sc_need_beginning : FnScope ["beginning"] ["beginning"] (defScope s_need_beginning) := ⟨rfl, rfl, rfl, by decide +kernel, rfl, by decide +kernel, by decide +kernel⟩
theorem sc_need_runs : FnScope ["letters", "runs", "index", "run"] ["letters", "runs"] (defScope s_need_runs) := ⟨rfl, rfl, rfl, by decide +kernel, rfl, by decide +kernel, by decide +kernel⟩
theorem sc_join_runs : FnScope ["runs", "found", "letter", "count"] ["runs"] (defScope s_join_runs) := ⟨rfl, rfl, rfl, by decide +kernel, rfl, by decide +kernel, by decide +kernel⟩
theorem sc_moved : FnScope ["moves", "state", "letter"] ["moves", "state", "letter"] (defScope s_moved) := ⟨rfl, rfl, rfl, by decide +kernel, rfl, by decide +kernel, by decide +kernel⟩
theorem sc_run_moved : FnScope ["moves", "state", "letter", "count", "order", "places", "found", "left", "first"] ["moves", "state", "letter", "count"] (defScope s_run_moved) := ⟨rfl, rfl, rfl, by decide +kernel, rfl, by decide +kernel, by decide +kernel⟩
theorem sc_runs_moved : FnScope ["moves", "state", "runs", "found", "letter", "count"] ["moves", "state", "runs"] (defScope s_runs_moved) := ⟨rfl, rfl, rfl, by decide +kernel, rfl, by decide +kernel, by decide +kernel⟩
theorem sc_is_state : FnScope ["value", "many"] ["value", "many"] (defScope s_is_state) := ⟨rfl, rfl, rfl, by decide +kernel, rfl, by decide +kernel, by decide +kernel⟩
theorem sc_need_same : FnScope ["one", "other"] ["one", "other"] (defScope s_need_same) := ⟨rfl, rfl, rfl, by decide +kernel, rfl, by decide +kernel, by decide +kernel⟩
theorem sc_need_states : FnScope ["letters", "rows", "answers", "index", "row", "answer", "state"] ["letters", "rows", "answers"] (defScope s_need_states) := ⟨rfl, rfl, rfl, by decide +kernel, rfl, by decide +kernel, by decide +kernel⟩
theorem sc_law_pen : FnScope ["_law_script"] ["_law_script"] (defScope s_law_pen) := ⟨rfl, rfl, rfl, by decide +kernel, rfl, by decide +kernel, by decide +kernel⟩
theorem sc_law_draw : FnScope ["_law_pen_here", "_law_many", "_law_digit", "_law_at", "_law_size", "_law_cell", "_law_blend"] ["_law_pen_here", "_law_many"] (defScope s_law_draw) := ⟨rfl, rfl, rfl, by decide +kernel, rfl, by decide +kernel, by decide +kernel⟩
theorem sc_law_pick : FnScope ["_law_pen_here", "_law_items"] ["_law_pen_here", "_law_items"] (defScope s_law_pick) := ⟨rfl, rfl, rfl, by decide +kernel, rfl, by decide +kernel, by decide +kernel⟩
theorem sc_law_shuffled : FnScope ["_law_pen_here", "_law_items", "_law_left", "_law_got"] ["_law_pen_here", "_law_items"] (defScope s_law_shuffled) := ⟨rfl, rfl, rfl, by decide +kernel, rfl, by decide +kernel, by decide +kernel⟩
theorem sc_law_words : FnScope ["_law_pen_here", "_law_many", "_law_small", "_law_signs", "_law_first_here", "_law_step", "_law_head", "_law_stem", "_law_k", "_law_at", "_law_got", "_law_word", "_law_sign"] ["_law_pen_here", "_law_many"] (defScope s_law_words) := ⟨rfl, rfl, rfl, by decide +kernel, rfl, by decide +kernel, by decide +kernel⟩
theorem sc_law_letters : FnScope ["_law_pen_here", "_law_least", "_law_most", "_law_got", "_law_word"] ["_law_pen_here", "_law_least", "_law_most"] (defScope s_law_letters) := ⟨rfl, rfl, rfl, by decide +kernel, rfl, by decide +kernel, by decide +kernel⟩
theorem sc_law_machine : FnScope ["_law_pen_here", "_law_words_here", "_law_most", "_law_missing", "_law_many", "_law_gap", "_law_rows", "_law_state", "_law_row", "_law_letter", "_law_is_gap", "_law_ends"] ["_law_pen_here", "_law_words_here", "_law_most", "_law_missing"] (defScope s_law_machine) := ⟨rfl, rfl, rfl, by decide +kernel, rfl, by decide +kernel, by decide +kernel⟩
theorem sc_law_spelled : FnScope ["_law_words_here", "_law_word", "_law_k"] ["_law_words_here", "_law_word"] (defScope s_law_spelled) := ⟨rfl, rfl, rfl, by decide +kernel, rfl, by decide +kernel, by decide +kernel⟩
theorem sc_law_history : FnScope ["_law_letters_here", "_law_beginning", "_law_word"] ["_law_letters_here", "_law_beginning", "_law_word"] (defScope s_law_history) := ⟨rfl, rfl, rfl, by decide +kernel, rfl, by decide +kernel, by decide +kernel⟩
theorem sc_law_program : FnScope ["_law_pen_here", "_law_letters_here", "_law_rows", "_law_answers", "_law_starts"] ["_law_pen_here", "_law_letters_here", "_law_rows", "_law_answers", "_law_starts"] (defScope s_law_program) := ⟨rfl, rfl, rfl, by decide +kernel, rfl, by decide +kernel, by decide +kernel⟩
theorem sc_law_answering : FnScope ["_law_pen_here", "_law_letters_here", "_law_most", "_law_pool", "_law_rows", "_law_answers", "_law_starts", "_law_row"] ["_law_pen_here", "_law_letters_here", "_law_most", "_law_pool"] (defScope s_law_answering) := ⟨rfl, rfl, rfl, by decide +kernel, rfl, by decide +kernel, by decide +kernel⟩
theorem sc_law_changed : FnScope ["_law_pen_here", "_law_rows", "_law_answers", "_law_starts", "_law_pool", "_law_way", "_law_state", "_law_row"] ["_law_pen_here", "_law_rows", "_law_answers", "_law_starts", "_law_pool"] (defScope s_law_changed) := ⟨rfl, rfl, rfl, by decide +kernel, rfl, by decide +kernel, by decide +kernel⟩
theorem sc_law_first : FnScope ["_law_one", "_law_two", "_law_queue", "_law_seen", "_law_at", "_law_k", "_law_pair", "_law_word", "_law_letter", "_law_far"] ["_law_one", "_law_two"] (defScope s_law_first) := ⟨rfl, rfl, rfl, by decide +kernel, rfl, by decide +kernel, by decide +kernel⟩
theorem sc_law_is_refused : FnScope ["_law_deed"] ["_law_deed"] (defScope s_law_is_refused) := ⟨rfl, rfl, rfl, by decide +kernel, rfl, by decide +kernel, by decide +kernel⟩
theorem sc_law : FnScope ["_law_script", "_law_pen_here", "_law_turn", "_law_letters_here", "_law_pool", "_law_one", "_law_two", "_law_first_here", "_law_second", "_law_due", "_law_told", "_law_history_here", "_law_other", "_law_wider", "_law_row"] ["_law_script"] (defScope s_law) := ⟨rfl, rfl, rfl, by decide +kernel, rfl, by decide +kernel, by decide +kernel⟩
theorem sc_Lettersu_initu : FnScope ["self", "words", "index", "word"] ["self", "words"] (defScope s_Lettersu_initu) := ⟨rfl, rfl, rfl, by decide +kernel, rfl, by decide +kernel, by decide +kernel⟩
theorem sc_Lettersu_containsu : FnScope ["self", "x"] ["self", "x"] (defScope s_Lettersu_containsu) := ⟨rfl, rfl, rfl, by decide +kernel, rfl, by decide +kernel, by decide +kernel⟩
theorem sc_Lettersu_lenu : FnScope ["self"] ["self"] (defScope s_Lettersu_lenu) := ⟨rfl, rfl, rfl, by decide +kernel, rfl, by decide +kernel, by decide +kernel⟩
theorem sc_Lettersu_equ : FnScope ["self", "other"] ["self", "other"] (defScope s_Lettersu_equ) := ⟨rfl, rfl, rfl, by decide +kernel, rfl, by decide +kernel, by decide +kernel⟩
theorem sc_Historyu_initu : FnScope ["self", "letters", "beginning", "runs", "ahead", "joined", "letter", "count"] ["self", "letters", "beginning", "runs", "ahead"] (defScope s_Historyu_initu) := ⟨rfl, rfl, rfl, by decide +kernel, rfl, by decide +kernel, by decide +kernel⟩
theorem sc_Historyu_equ : FnScope ["self", "other"] ["self", "other"] (defScope s_Historyu_equ) := ⟨rfl, rfl, rfl, by decide +kernel, rfl, by decide +kernel, by decide +kernel⟩
theorem sc_Machineu_initu : FnScope ["self", "letters", "rows", "answers", "new", "found", "row"] ["self", "letters", "rows", "answers", "new", "found"] (defScope s_Machineu_initu) := ⟨rfl, rfl, rfl, by decide +kernel, rfl, by decide +kernel, by decide +kernel⟩
theorem sc_Machine_moves : FnScope ["self", "row", "letter", "state"] ["self"] (defScope s_Machine_moves) := ⟨rfl, rfl, rfl, by decide +kernel, rfl, by decide +kernel, by decide +kernel⟩
theorem sc_Machine_start : FnScope ["self", "beginning"] ["self", "beginning"] (defScope s_Machine_start) := ⟨rfl, rfl, rfl, by decide +kernel, rfl, by decide +kernel, by decide +kernel⟩
theorem sc_Machine_state : FnScope ["self", "history"] ["self", "history"] (defScope s_Machine_state) := ⟨rfl, rfl, rfl, by decide +kernel, rfl, by decide +kernel, by decide +kernel⟩
theorem sc_Machineu_callu : FnScope ["self", "history"] ["self", "history"] (defScope s_Machineu_callu) := ⟨rfl, rfl, rfl, by decide +kernel, rfl, by decide +kernel, by decide +kernel⟩
theorem sc_Machine_apart : FnScope ["self", "other", "mine", "others", "starts", "beginning", "found", "queue", "key", "place", "word", "letter", "target"] ["self", "other"] (defScope s_Machine_apart) := ⟨rfl, rfl, rfl, by decide +kernel, rfl, by decide +kernel, by decide +kernel⟩
theorem sc_History_spelled : FnScope ["cls", "letters", "beginning", "word", "index", "letter"] ["cls", "letters", "beginning", "word"] (defScope s_History_spelled) := ⟨rfl, rfl, rfl, by decide +kernel, rfl, by decide +kernel, by decide +kernel⟩
def dd_is_list : He.DefD := ⟨("is_list", none), "is_list", "is_list", defArgs s_is_list, defBody s_is_list, defScope s_is_list, [], []⟩
def dd_is_integer : He.DefD := ⟨("is_integer", none), "is_integer", "is_integer", defArgs s_is_integer, defBody s_is_integer, defScope s_is_integer, [], []⟩
def dd_is_word : He.DefD := ⟨("is_word", none), "is_word", "is_word", defArgs s_is_word, defBody s_is_word, defScope s_is_word, [], []⟩
def dd_is_beginning : He.DefD := ⟨("is_beginning", none), "is_beginning", "is_beginning", defArgs s_is_beginning, defBody s_is_beginning, defScope s_is_beginning, [], []⟩
def dd_is_letter : He.DefD := ⟨("is_letter", none), "is_letter", "is_letter", defArgs s_is_letter, defBody s_is_letter, defScope s_is_letter, [], []⟩
def dd_need_beginning : He.DefD := ⟨("need_beginning", none), "need_beginning", "need_beginning", defArgs s_need_beginning, defBody s_need_beginning, defScope s_need_beginning, [], []⟩
def dd_need_runs : He.DefD := ⟨("need_runs", none), "need_runs", "need_runs", defArgs s_need_runs, defBody s_need_runs, defScope s_need_runs, [], []⟩
def dd_join_runs : He.DefD := ⟨("join_runs", none), "join_runs", "join_runs", defArgs s_join_runs, defBody s_join_runs, defScope s_join_runs, [], []⟩
def dd_moved : He.DefD := ⟨("moved", none), "moved", "moved", defArgs s_moved, defBody s_moved, defScope s_moved, [], []⟩
def dd_run_moved : He.DefD := ⟨("run_moved", none), "run_moved", "run_moved", defArgs s_run_moved, defBody s_run_moved, defScope s_run_moved, [], []⟩
def dd_runs_moved : He.DefD := ⟨("runs_moved", none), "runs_moved", "runs_moved", defArgs s_runs_moved, defBody s_runs_moved, defScope s_runs_moved, [], []⟩
def dd_is_state : He.DefD := ⟨("is_state", none), "is_state", "is_state", defArgs s_is_state, defBody s_is_state, defScope s_is_state, [], []⟩
def dd_need_same : He.DefD := ⟨("need_same", none), "need_same", "need_same", defArgs s_need_same, defBody s_need_same, defScope s_need_same, [], []⟩
def dd_need_states : He.DefD := ⟨("need_states", none), "need_states", "need_states", defArgs s_need_states, defBody s_need_states, defScope s_need_states, [], []⟩
def dd_law_pen : He.DefD := ⟨("_law_pen", none), "_law_pen", "_law_pen", defArgs s_law_pen, defBody s_law_pen, defScope s_law_pen, [], []⟩
def dd_law_draw : He.DefD := ⟨("_law_draw", none), "_law_draw", "_law_draw", defArgs s_law_draw, defBody s_law_draw, defScope s_law_draw, [], []⟩
def dd_law_pick : He.DefD := ⟨("_law_pick", none), "_law_pick", "_law_pick", defArgs s_law_pick, defBody s_law_pick, defScope s_law_pick, [], []⟩
def dd_law_shuffled : He.DefD := ⟨("_law_shuffled", none), "_law_shuffled", "_law_shuffled", defArgs s_law_shuffled, defBody s_law_shuffled, defScope s_law_shuffled, [], []⟩
def dd_law_words : He.DefD := ⟨("_law_words", none), "_law_words", "_law_words", defArgs s_law_words, defBody s_law_words, defScope s_law_words, [], []⟩
def dd_law_letters : He.DefD := ⟨("_law_letters", none), "_law_letters", "_law_letters", defArgs s_law_letters, defBody s_law_letters, defScope s_law_letters, [], []⟩
def dd_law_machine : He.DefD := ⟨("_law_machine", none), "_law_machine", "_law_machine", defArgs s_law_machine, defBody s_law_machine, defScope s_law_machine, [], []⟩
def dd_law_spelled : He.DefD := ⟨("_law_spelled", none), "_law_spelled", "_law_spelled", defArgs s_law_spelled, defBody s_law_spelled, defScope s_law_spelled, [], []⟩
def dd_law_history : He.DefD := ⟨("_law_history", none), "_law_history", "_law_history", defArgs s_law_history, defBody s_law_history, defScope s_law_history, [], []⟩
def dd_law_program : He.DefD := ⟨("_law_program", none), "_law_program", "_law_program", defArgs s_law_program, defBody s_law_program, defScope s_law_program, [], []⟩
def dd_law_answering : He.DefD := ⟨("_law_answering", none), "_law_answering", "_law_answering", defArgs s_law_answering, defBody s_law_answering, defScope s_law_answering, [], []⟩
def dd_law_changed : He.DefD := ⟨("_law_changed", none), "_law_changed", "_law_changed", defArgs s_law_changed, defBody s_law_changed, defScope s_law_changed, [], []⟩
def dd_law_first : He.DefD := ⟨("_law_first", none), "_law_first", "_law_first", defArgs s_law_first, defBody s_law_first, defScope s_law_first, [], []⟩
def dd_law_is_refused : He.DefD := ⟨("_law_is_refused", none), "_law_is_refused", "_law_is_refused", defArgs s_law_is_refused, defBody s_law_is_refused, defScope s_law_is_refused, [], []⟩
def dd_law : He.DefD := ⟨("law", none), "law", "law", defArgs s_law, defBody s_law, defScope s_law, [], []⟩
def dd_Lettersu_initu : He.DefD := ⟨("Letters", some "__init__"), "__init__", "Letters.__init__", defArgs s_Lettersu_initu, defBody s_Lettersu_initu, defScope s_Lettersu_initu, [], []⟩
def dd_Lettersu_containsu : He.DefD := ⟨("Letters", some "__contains__"), "__contains__", "Letters.__contains__", defArgs s_Lettersu_containsu, defBody s_Lettersu_containsu, defScope s_Lettersu_containsu, [], []⟩
def dd_Lettersu_lenu : He.DefD := ⟨("Letters", some "__len__"), "__len__", "Letters.__len__", defArgs s_Lettersu_lenu, defBody s_Lettersu_lenu, defScope s_Lettersu_lenu, [], []⟩
def dd_Lettersu_equ : He.DefD := ⟨("Letters", some "__eq__"), "__eq__", "Letters.__eq__", defArgs s_Lettersu_equ, defBody s_Lettersu_equ, defScope s_Lettersu_equ, [], []⟩
def dd_Historyu_initu : He.DefD := ⟨("History", some "__init__"), "__init__", "History.__init__", defArgs s_Historyu_initu, defBody s_Historyu_initu, defScope s_Historyu_initu, [.adr (He.dflAt ("History", some "__init__") 0)], []⟩
def dd_Historyu_equ : He.DefD := ⟨("History", some "__eq__"), "__eq__", "History.__eq__", defArgs s_Historyu_equ, defBody s_Historyu_equ, defScope s_Historyu_equ, [], []⟩
def dd_Machineu_initu : He.DefD := ⟨("Machine", some "__init__"), "__init__", "Machine.__init__", defArgs s_Machineu_initu, defBody s_Machineu_initu, defScope s_Machineu_initu, [], [("new", .int 0), ("found", .int 0)]⟩
def dd_Machine_moves : He.DefD := ⟨("Machine", some "moves"), "moves", "Machine.moves", defArgs s_Machine_moves, defBody s_Machine_moves, defScope s_Machine_moves, [], []⟩
def dd_Machine_start : He.DefD := ⟨("Machine", some "start"), "start", "Machine.start", defArgs s_Machine_start, defBody s_Machine_start, defScope s_Machine_start, [], []⟩
def dd_Machine_state : He.DefD := ⟨("Machine", some "state"), "state", "Machine.state", defArgs s_Machine_state, defBody s_Machine_state, defScope s_Machine_state, [], []⟩
def dd_Machineu_callu : He.DefD := ⟨("Machine", some "__call__"), "__call__", "Machine.__call__", defArgs s_Machineu_callu, defBody s_Machineu_callu, defScope s_Machineu_callu, [], []⟩
def dd_Machine_apart : He.DefD := ⟨("Machine", some "apart"), "apart", "Machine.apart", defArgs s_Machine_apart, defBody s_Machine_apart, defScope s_Machine_apart, [], []⟩
def fn : List He.DefD := [dd_is_list, dd_is_integer, dd_is_word, dd_is_beginning, dd_is_letter, dd_need_beginning, dd_need_runs, dd_join_runs, dd_moved, dd_run_moved, dd_runs_moved, dd_is_state, dd_need_same, dd_need_states, dd_law_pen, dd_law_draw, dd_law_pick, dd_law_shuffled, dd_law_words, dd_law_letters, dd_law_machine, dd_law_spelled, dd_law_history, dd_law_program, dd_law_answering, dd_law_changed, dd_law_first, dd_law_is_refused, dd_law, dd_Lettersu_initu, dd_Lettersu_containsu, dd_Lettersu_lenu, dd_Lettersu_equ, dd_Historyu_initu, dd_Historyu_equ, dd_Machineu_initu, dd_Machine_moves, dd_Machine_start, dd_Machine_state, dd_Machineu_callu, dd_Machine_apart]
def fa1 : List He.Fa := [.glo "is_list", .glo "is_integer", .glo "is_word", .glo "is_beginning", .glo "is_letter", .glo "need_beginning", .glo "need_runs", .glo "join_runs", .glo "moved", .glo "run_moved", .glo "runs_moved", .glo "is_state", .glo "need_same", .glo "need_states", .glo "_law_pen", .glo "_law_draw", .glo "_law_pick", .glo "_law_shuffled", .glo "_law_words", .glo "_law_letters", .glo "_law_machine", .glo "_law_spelled", .glo "_law_history", .glo "_law_program", .glo "_law_answering", .glo "_law_changed", .glo "_law_first", .glo "_law_is_refused", .glo "law", .glo "Letters"]
def fa2 : List He.Fa := [.glo "History", .glo "Machine", .glo "OtherLetters", .glo "BEGINNINGS", .free "len", .free "isinstance", .free "list", .free "tuple", .free "int", .free "bool", .free "str", .free "all", .free "sum", .free "enumerate", .free "zip", .free "range", .free "abs", .int "MOST_LETTERS" 12, .int "MOST_RUNS" 400, .int "MOST_COUNT" 1000000000000000000000000000000, .int "MOST_WORD" 2000, .int "MOST_STATES" 40, .str "SMALL" "abcdefghijklmnopqrstuvwxyz", .str "SIGNS" "abcdefghijklmnopqrstuvwxyz0123456789", .cls "Letters", .cls "History", .cls "Machine", .noat "Letters" "words", .noat "History" "letters", .noat "History" "beginning"]
def fa3 : List He.Fa := [.noat "History" "runs", .noat "History" "size", .noat "History" "last", .noat "Machine" "letters", .noat "Machine" "rows", .noat "Machine" "answers", .noat "Machine" "new", .noat "Machine" "found", .meth "Letters" "__contains__", .meth "Letters" "__len__", .meth "Letters" "__eq__", .meth "History" "__eq__", .meth "Machine" "moves", .meth "Machine" "start", .meth "Machine" "state", .meth "Machine" "__call__", .meth "Machine" "apart", .mkr "Letters", .mkr "History", .mkr "Machine", .exc "OtherLetters", .exm "OtherLetters" "OtherLetters" true]
def fa : List He.Fa := fa1 ++ (fa2 ++ fa3)
abbrev CL (K : PySem.W.Frag) : Addr := He.ga K "Letters"
abbrev CH (K : PySem.W.Frag) : Addr := He.ga K "History"
abbrev CM (K : PySem.W.Frag) : Addr := He.ga K "Machine"
abbrev CO (K : PySem.W.Frag) : Addr := He.ga K "OtherLetters"
/-- the classmethod's record and its def -/
def cmR (K : PySem.W.Frag) : Addr := He.ma K (CH K) "spelled"
def cmG (K : PySem.W.Frag) : Addr := match PySem.W.recIn K (cmR K) "classmethod" with
  | some (.ref g :: _) => g
  | _ => 0
def fnAtW (K : PySem.W.Frag) (a : Addr) : He.FnW := match K.lookup a with
  | some ⟨_, _, .func fd, _⟩ => some (fd.name, fd.qualname, fd.params, fd.body, fd.scope, fd.globals, fd.closure, fd.builtins)
  | _ => none
def fnAtB (K : PySem.W.Frag) (a : Addr) (q : Str) : Bool := match K.lookup a with
  | some ⟨_, _, .func fd, _⟩ => PySem.W.codeIn K fd.code q && (match fd.defaults with
    | .none => true
    | _ => false) && PySem.W.keepIn K (.ref a)
  | _ => false
def cmB (K : PySem.W.Frag) : Bool := match PySem.W.recIn K (cmR K) "classmethod" with
  | some (.ref _ :: _) => true
  | _ => false
def cmAtB (K : PySem.W.Frag) : Bool := match PySem.W.findCls K (.ref (CH K)) (.type "type") "spelled" with
  | some (.get (.builtin n) (.ref p) .none (.ref c)) => decide (n = "classmethod.__get__") && (decide (p = cmR K) && decide (c = CH K))
  | _ => false
def clsB (K : PySem.W.Frag) (C : Addr) : Bool := decide (PySem.W.findIn K (.ref C) "__class__" = some (some (.builtin "object.__class__"))) && decide (PySem.W.mroIn K C (.type "object") = some true)
def mcB (K : PySem.W.Frag) : Bool := decide (PySem.W.readsIn K (CH K) (.type "type") = true) && decide (PySem.W.specialIn K (.ref (CH K)) "__getattribute__" = some (some (.builtin "type.__getattribute__")))
def exL : List (PySem.W.Frag → Bool) := [
  fun K => He.tupB K "BEGINNINGS" [.str "new", .str "found"],
  fun K => eqNoB K (CL K) (He.ma K (CL K) "__eq__"),
  fun K => eqNoB K (CH K) (He.ma K (CH K) "__eq__"),
  fun K => PySem.W.notFirst K (CL K) (.ref (CL K)),
  fun K => PySem.W.notFirst K (CH K) (.ref (CH K)),
  fun K => decide (PySem.W.kitOne K (.ref (CL K)) (.ref (CL K)) = some true),
  fun K => decide (PySem.W.kitOne K (.ref (CH K)) (.ref (CH K)) = some true),
  fun K => clsB K (CL K),
  fun K => clsB K (CH K),
  fun K => decide (PySem.W.specialIn K (.builtin "object.__class__") "__get__" = some (some (.builtin "getset_descriptor.__get__"))),
  fun K => decide (PySem.W.takesIn K (.builtin "object.__class__") = some true),
  fun K => mcB K,
  fun K => cmAtB K,
  fun K => cmB K,
  fun K => PySem.W.fnIn K (cmG K),
  fun K => fnAtB K (cmG K) "History.spelled",
  fun K => decide (He.dflAt ("History", some "__init__") 0 K = He.dflAt ("History", some "__init__") 0 K)]
def exB (K : PySem.W.Frag) : Bool := exL.all fun f => f K
def cmV : He.FnW := some ("spelled", "History.spelled", defArgs s_History_spelled, .stmts (defBody s_History_spelled), defScope s_History_spelled, mainGlobals, [], builtinsNs)
/-- what the walk asks of the head's heap -/
structure Tx (K : PySem.W.Frag) (mg : Str → Option Value) : Prop where
  X : ∃ h : Heap, K.In h ∧ h.Ns mainGlobals mg
  c : He.SaysD fa fn K
  ex : exB K = true
  cm : fnAtW K (cmG K) = cmV
section
variable {K : PySem.W.Frag} {mg : Str → Option Value}
theorem Tx.exAt (T : Tx K mg) (i : Nat) {f : PySem.W.Frag → Bool} (h : exL[i]? = some f := by rfl) : f K = true := List.all_eq_true.mp T.ex f (List.mem_of_getElem? h)
theorem Tx.g_is_list (T : Tx K mg) : mg ("is_list" : Str) = some (.ref (He.ga K "is_list")) := let ⟨_, X, G⟩ := T.X; He.glo_ok X G (T.c.fact 0 (f := .glo "is_list") rfl)
theorem Tx.g_is_integer (T : Tx K mg) : mg ("is_integer" : Str) = some (.ref (He.ga K "is_integer")) := let ⟨_, X, G⟩ := T.X; He.glo_ok X G (T.c.fact 1 (f := .glo "is_integer") rfl)
theorem Tx.g_is_word (T : Tx K mg) : mg ("is_word" : Str) = some (.ref (He.ga K "is_word")) := let ⟨_, X, G⟩ := T.X; He.glo_ok X G (T.c.fact 2 (f := .glo "is_word") rfl)
theorem Tx.g_is_beginning (T : Tx K mg) : mg ("is_beginning" : Str) = some (.ref (He.ga K "is_beginning")) := let ⟨_, X, G⟩ := T.X; He.glo_ok X G (T.c.fact 3 (f := .glo "is_beginning") rfl)
theorem Tx.g_is_letter (T : Tx K mg) : mg ("is_letter" : Str) = some (.ref (He.ga K "is_letter")) := let ⟨_, X, G⟩ := T.X; He.glo_ok X G (T.c.fact 4 (f := .glo "is_letter") rfl)
theorem Tx.g_need_beginning (T : Tx K mg) : mg ("need_beginning" : Str) = some (.ref (He.ga K "need_beginning")) := let ⟨_, X, G⟩ := T.X; He.glo_ok X G (T.c.fact 5 (f := .glo "need_beginning") rfl)
theorem Tx.g_need_runs (T : Tx K mg) : mg ("need_runs" : Str) = some (.ref (He.ga K "need_runs")) := let ⟨_, X, G⟩ := T.X; He.glo_ok X G (T.c.fact 6 (f := .glo "need_runs") rfl)
theorem Tx.g_join_runs (T : Tx K mg) : mg ("join_runs" : Str) = some (.ref (He.ga K "join_runs")) := let ⟨_, X, G⟩ := T.X; He.glo_ok X G (T.c.fact 7 (f := .glo "join_runs") rfl)
theorem Tx.g_moved (T : Tx K mg) : mg ("moved" : Str) = some (.ref (He.ga K "moved")) := let ⟨_, X, G⟩ := T.X; He.glo_ok X G (T.c.fact 8 (f := .glo "moved") rfl)
theorem Tx.g_run_moved (T : Tx K mg) : mg ("run_moved" : Str) = some (.ref (He.ga K "run_moved")) := let ⟨_, X, G⟩ := T.X; He.glo_ok X G (T.c.fact 9 (f := .glo "run_moved") rfl)
theorem Tx.g_runs_moved (T : Tx K mg) : mg ("runs_moved" : Str) = some (.ref (He.ga K "runs_moved")) := let ⟨_, X, G⟩ := T.X; He.glo_ok X G (T.c.fact 10 (f := .glo "runs_moved") rfl)
theorem Tx.g_is_state (T : Tx K mg) : mg ("is_state" : Str) = some (.ref (He.ga K "is_state")) := let ⟨_, X, G⟩ := T.X; He.glo_ok X G (T.c.fact 11 (f := .glo "is_state") rfl)
theorem Tx.g_need_same (T : Tx K mg) : mg ("need_same" : Str) = some (.ref (He.ga K "need_same")) := let ⟨_, X, G⟩ := T.X; He.glo_ok X G (T.c.fact 12 (f := .glo "need_same") rfl)
theorem Tx.g_need_states (T : Tx K mg) : mg ("need_states" : Str) = some (.ref (He.ga K "need_states")) := let ⟨_, X, G⟩ := T.X; He.glo_ok X G (T.c.fact 13 (f := .glo "need_states") rfl)
theorem Tx.g_law_pen (T : Tx K mg) : mg ("_law_pen" : Str) = some (.ref (He.ga K "_law_pen")) := let ⟨_, X, G⟩ := T.X; He.glo_ok X G (T.c.fact 14 (f := .glo "_law_pen") rfl)
theorem Tx.g_law_draw (T : Tx K mg) : mg ("_law_draw" : Str) = some (.ref (He.ga K "_law_draw")) := let ⟨_, X, G⟩ := T.X; He.glo_ok X G (T.c.fact 15 (f := .glo "_law_draw") rfl)
theorem Tx.g_law_pick (T : Tx K mg) : mg ("_law_pick" : Str) = some (.ref (He.ga K "_law_pick")) := let ⟨_, X, G⟩ := T.X; He.glo_ok X G (T.c.fact 16 (f := .glo "_law_pick") rfl)
theorem Tx.g_law_shuffled (T : Tx K mg) : mg ("_law_shuffled" : Str) = some (.ref (He.ga K "_law_shuffled")) := let ⟨_, X, G⟩ := T.X; He.glo_ok X G (T.c.fact 17 (f := .glo "_law_shuffled") rfl)
theorem Tx.g_law_words (T : Tx K mg) : mg ("_law_words" : Str) = some (.ref (He.ga K "_law_words")) := let ⟨_, X, G⟩ := T.X; He.glo_ok X G (T.c.fact 18 (f := .glo "_law_words") rfl)
theorem Tx.g_law_letters (T : Tx K mg) : mg ("_law_letters" : Str) = some (.ref (He.ga K "_law_letters")) := let ⟨_, X, G⟩ := T.X; He.glo_ok X G (T.c.fact 19 (f := .glo "_law_letters") rfl)
theorem Tx.g_law_machine (T : Tx K mg) : mg ("_law_machine" : Str) = some (.ref (He.ga K "_law_machine")) := let ⟨_, X, G⟩ := T.X; He.glo_ok X G (T.c.fact 20 (f := .glo "_law_machine") rfl)
theorem Tx.g_law_spelled (T : Tx K mg) : mg ("_law_spelled" : Str) = some (.ref (He.ga K "_law_spelled")) := let ⟨_, X, G⟩ := T.X; He.glo_ok X G (T.c.fact 21 (f := .glo "_law_spelled") rfl)
theorem Tx.g_law_history (T : Tx K mg) : mg ("_law_history" : Str) = some (.ref (He.ga K "_law_history")) := let ⟨_, X, G⟩ := T.X; He.glo_ok X G (T.c.fact 22 (f := .glo "_law_history") rfl)
theorem Tx.g_law_program (T : Tx K mg) : mg ("_law_program" : Str) = some (.ref (He.ga K "_law_program")) := let ⟨_, X, G⟩ := T.X; He.glo_ok X G (T.c.fact 23 (f := .glo "_law_program") rfl)
theorem Tx.g_law_answering (T : Tx K mg) : mg ("_law_answering" : Str) = some (.ref (He.ga K "_law_answering")) := let ⟨_, X, G⟩ := T.X; He.glo_ok X G (T.c.fact 24 (f := .glo "_law_answering") rfl)
theorem Tx.g_law_changed (T : Tx K mg) : mg ("_law_changed" : Str) = some (.ref (He.ga K "_law_changed")) := let ⟨_, X, G⟩ := T.X; He.glo_ok X G (T.c.fact 25 (f := .glo "_law_changed") rfl)
theorem Tx.g_law_first (T : Tx K mg) : mg ("_law_first" : Str) = some (.ref (He.ga K "_law_first")) := let ⟨_, X, G⟩ := T.X; He.glo_ok X G (T.c.fact 26 (f := .glo "_law_first") rfl)
theorem Tx.g_law_is_refused (T : Tx K mg) : mg ("_law_is_refused" : Str) = some (.ref (He.ga K "_law_is_refused")) := let ⟨_, X, G⟩ := T.X; He.glo_ok X G (T.c.fact 27 (f := .glo "_law_is_refused") rfl)
theorem Tx.g_law (T : Tx K mg) : mg ("law" : Str) = some (.ref (He.ga K "law")) := let ⟨_, X, G⟩ := T.X; He.glo_ok X G (T.c.fact 28 (f := .glo "law") rfl)
theorem Tx.g_Letters (T : Tx K mg) : mg ("Letters" : Str) = some (.ref (He.ga K "Letters")) := let ⟨_, X, G⟩ := T.X; He.glo_ok X G (T.c.fact 29 (f := .glo "Letters") rfl)
theorem Tx.g_History (T : Tx K mg) : mg ("History" : Str) = some (.ref (He.ga K "History")) := let ⟨_, X, G⟩ := T.X; He.glo_ok X G (T.c.fact 30 (f := .glo "History") rfl)
theorem Tx.g_Machine (T : Tx K mg) : mg ("Machine" : Str) = some (.ref (He.ga K "Machine")) := let ⟨_, X, G⟩ := T.X; He.glo_ok X G (T.c.fact 31 (f := .glo "Machine") rfl)
theorem Tx.g_OtherLetters (T : Tx K mg) : mg ("OtherLetters" : Str) = some (.ref (He.ga K "OtherLetters")) := let ⟨_, X, G⟩ := T.X; He.glo_ok X G (T.c.fact 32 (f := .glo "OtherLetters") rfl)
theorem Tx.g_BEGINNINGS (T : Tx K mg) : mg ("BEGINNINGS" : Str) = some (.ref (He.ga K "BEGINNINGS")) := let ⟨_, X, G⟩ := T.X; He.glo_ok X G (T.c.fact 33 (f := .glo "BEGINNINGS") rfl)
theorem Tx.n_len (T : Tx K mg) : mg ("len" : Str) = none := let ⟨_, X, G⟩ := T.X; He.free_ok X G (T.c.fact 34 (f := .free "len") rfl)
theorem Tx.n_isinstance (T : Tx K mg) : mg ("isinstance" : Str) = none := let ⟨_, X, G⟩ := T.X; He.free_ok X G (T.c.fact 35 (f := .free "isinstance") rfl)
theorem Tx.n_list (T : Tx K mg) : mg ("list" : Str) = none := let ⟨_, X, G⟩ := T.X; He.free_ok X G (T.c.fact 36 (f := .free "list") rfl)
theorem Tx.n_tuple (T : Tx K mg) : mg ("tuple" : Str) = none := let ⟨_, X, G⟩ := T.X; He.free_ok X G (T.c.fact 37 (f := .free "tuple") rfl)
theorem Tx.n_int (T : Tx K mg) : mg ("int" : Str) = none := let ⟨_, X, G⟩ := T.X; He.free_ok X G (T.c.fact 38 (f := .free "int") rfl)
theorem Tx.n_bool (T : Tx K mg) : mg ("bool" : Str) = none := let ⟨_, X, G⟩ := T.X; He.free_ok X G (T.c.fact 39 (f := .free "bool") rfl)
theorem Tx.n_str (T : Tx K mg) : mg ("str" : Str) = none := let ⟨_, X, G⟩ := T.X; He.free_ok X G (T.c.fact 40 (f := .free "str") rfl)
theorem Tx.n_all (T : Tx K mg) : mg ("all" : Str) = none := let ⟨_, X, G⟩ := T.X; He.free_ok X G (T.c.fact 41 (f := .free "all") rfl)
theorem Tx.n_sum (T : Tx K mg) : mg ("sum" : Str) = none := let ⟨_, X, G⟩ := T.X; He.free_ok X G (T.c.fact 42 (f := .free "sum") rfl)
theorem Tx.n_enumerate (T : Tx K mg) : mg ("enumerate" : Str) = none := let ⟨_, X, G⟩ := T.X; He.free_ok X G (T.c.fact 43 (f := .free "enumerate") rfl)
theorem Tx.n_zip (T : Tx K mg) : mg ("zip" : Str) = none := let ⟨_, X, G⟩ := T.X; He.free_ok X G (T.c.fact 44 (f := .free "zip") rfl)
theorem Tx.n_range (T : Tx K mg) : mg ("range" : Str) = none := let ⟨_, X, G⟩ := T.X; He.free_ok X G (T.c.fact 45 (f := .free "range") rfl)
theorem Tx.n_abs (T : Tx K mg) : mg ("abs" : Str) = none := let ⟨_, X, G⟩ := T.X; He.free_ok X G (T.c.fact 46 (f := .free "abs") rfl)
theorem Tx.c_MOST_LETTERS (T : Tx K mg) : ∃ t, mg ("MOST_LETTERS" : Str) = some (.int 12 t) := let ⟨_, X, G⟩ := T.X; He.int_ok X G (T.c.fact 47 (f := .int "MOST_LETTERS" 12) rfl)
theorem Tx.c_MOST_RUNS (T : Tx K mg) : ∃ t, mg ("MOST_RUNS" : Str) = some (.int 400 t) := let ⟨_, X, G⟩ := T.X; He.int_ok X G (T.c.fact 48 (f := .int "MOST_RUNS" 400) rfl)
theorem Tx.c_MOST_COUNT (T : Tx K mg) : ∃ t, mg ("MOST_COUNT" : Str) = some (.int 1000000000000000000000000000000 t) := let ⟨_, X, G⟩ := T.X; He.int_ok X G (T.c.fact 49 (f := .int "MOST_COUNT" 1000000000000000000000000000000) rfl)
theorem Tx.c_MOST_WORD (T : Tx K mg) : ∃ t, mg ("MOST_WORD" : Str) = some (.int 2000 t) := let ⟨_, X, G⟩ := T.X; He.int_ok X G (T.c.fact 50 (f := .int "MOST_WORD" 2000) rfl)
theorem Tx.c_MOST_STATES (T : Tx K mg) : ∃ t, mg ("MOST_STATES" : Str) = some (.int 40 t) := let ⟨_, X, G⟩ := T.X; He.int_ok X G (T.c.fact 51 (f := .int "MOST_STATES" 40) rfl)
theorem Tx.c_SMALL (T : Tx K mg) : ∃ t, mg ("SMALL" : Str) = some (.str "abcdefghijklmnopqrstuvwxyz" t) := let ⟨_, X, G⟩ := T.X; He.str_ok X G (T.c.fact 52 (f := .str "SMALL" "abcdefghijklmnopqrstuvwxyz") rfl)
theorem Tx.c_SIGNS (T : Tx K mg) : ∃ t, mg ("SIGNS" : Str) = some (.str "abcdefghijklmnopqrstuvwxyz0123456789" t) := let ⟨_, X, G⟩ := T.X; He.str_ok X G (T.c.fact 53 (f := .str "SIGNS" "abcdefghijklmnopqrstuvwxyz0123456789") rfl)
theorem Tx.cl_Letters (T : Tx K mg) : Cls K (He.ga K "Letters") := He.cls_ok (T.c.fact 54 (f := .cls "Letters") rfl)
theorem Tx.cl_History (T : Tx K mg) : Cls K (He.ga K "History") := He.cls_ok (T.c.fact 55 (f := .cls "History") rfl)
theorem Tx.cl_Machine (T : Tx K mg) : Cls K (He.ga K "Machine") := He.cls_ok (T.c.fact 56 (f := .cls "Machine") rfl)
theorem Tx.na_Letters_words (T : Tx K mg) : NoAttr K (He.ga K "Letters") "words" := He.noat_ok (T.c.fact 57 (f := .noat "Letters" "words") rfl)
theorem Tx.na_History_letters (T : Tx K mg) : NoAttr K (He.ga K "History") "letters" := He.noat_ok (T.c.fact 58 (f := .noat "History" "letters") rfl)
theorem Tx.na_History_beginning (T : Tx K mg) : NoAttr K (He.ga K "History") "beginning" := He.noat_ok (T.c.fact 59 (f := .noat "History" "beginning") rfl)
theorem Tx.na_History_runs (T : Tx K mg) : NoAttr K (He.ga K "History") "runs" := He.noat_ok (T.c.fact 60 (f := .noat "History" "runs") rfl)
theorem Tx.na_History_size (T : Tx K mg) : NoAttr K (He.ga K "History") "size" := He.noat_ok (T.c.fact 61 (f := .noat "History" "size") rfl)
theorem Tx.na_History_last (T : Tx K mg) : NoAttr K (He.ga K "History") "last" := He.noat_ok (T.c.fact 62 (f := .noat "History" "last") rfl)
theorem Tx.na_Machine_letters (T : Tx K mg) : NoAttr K (He.ga K "Machine") "letters" := He.noat_ok (T.c.fact 63 (f := .noat "Machine" "letters") rfl)
theorem Tx.na_Machine_rows (T : Tx K mg) : NoAttr K (He.ga K "Machine") "rows" := He.noat_ok (T.c.fact 64 (f := .noat "Machine" "rows") rfl)
theorem Tx.na_Machine_answers (T : Tx K mg) : NoAttr K (He.ga K "Machine") "answers" := He.noat_ok (T.c.fact 65 (f := .noat "Machine" "answers") rfl)
theorem Tx.na_Machine_new (T : Tx K mg) : NoAttr K (He.ga K "Machine") "new" := He.noat_ok (T.c.fact 66 (f := .noat "Machine" "new") rfl)
theorem Tx.na_Machine_found (T : Tx K mg) : NoAttr K (He.ga K "Machine") "found" := He.noat_ok (T.c.fact 67 (f := .noat "Machine" "found") rfl)
theorem Tx.m_Lettersu_containsu (T : Tx K mg) : Meth K (He.ga K "Letters") "__contains__" (He.ma K (He.ga K "Letters") "__contains__") := He.meth_ok (T.c.fact 68 (f := .meth "Letters" "__contains__") rfl)
theorem Tx.m_Lettersu_lenu (T : Tx K mg) : Meth K (He.ga K "Letters") "__len__" (He.ma K (He.ga K "Letters") "__len__") := He.meth_ok (T.c.fact 69 (f := .meth "Letters" "__len__") rfl)
theorem Tx.m_Lettersu_equ (T : Tx K mg) : Meth K (He.ga K "Letters") "__eq__" (He.ma K (He.ga K "Letters") "__eq__") := He.meth_ok (T.c.fact 70 (f := .meth "Letters" "__eq__") rfl)
theorem Tx.m_Historyu_equ (T : Tx K mg) : Meth K (He.ga K "History") "__eq__" (He.ma K (He.ga K "History") "__eq__") := He.meth_ok (T.c.fact 71 (f := .meth "History" "__eq__") rfl)
theorem Tx.m_Machine_moves (T : Tx K mg) : Meth K (He.ga K "Machine") "moves" (He.ma K (He.ga K "Machine") "moves") := He.meth_ok (T.c.fact 72 (f := .meth "Machine" "moves") rfl)
theorem Tx.m_Machine_start (T : Tx K mg) : Meth K (He.ga K "Machine") "start" (He.ma K (He.ga K "Machine") "start") := He.meth_ok (T.c.fact 73 (f := .meth "Machine" "start") rfl)
theorem Tx.m_Machine_state (T : Tx K mg) : Meth K (He.ga K "Machine") "state" (He.ma K (He.ga K "Machine") "state") := He.meth_ok (T.c.fact 74 (f := .meth "Machine" "state") rfl)
theorem Tx.m_Machineu_callu (T : Tx K mg) : Meth K (He.ga K "Machine") "__call__" (He.ma K (He.ga K "Machine") "__call__") := He.meth_ok (T.c.fact 75 (f := .meth "Machine" "__call__") rfl)
theorem Tx.m_Machine_apart (T : Tx K mg) : Meth K (He.ga K "Machine") "apart" (He.ma K (He.ga K "Machine") "apart") := He.meth_ok (T.c.fact 76 (f := .meth "Machine" "apart") rfl)
theorem Tx.mk_Letters (T : Tx K mg) : Mk K (He.ga K "Letters") (He.ma K (He.ga K "Letters") "__init__") := He.mkr_ok (T.c.fact 77 (f := .mkr "Letters") rfl)
theorem Tx.mk_History (T : Tx K mg) : Mk K (He.ga K "History") (He.ma K (He.ga K "History") "__init__") := He.mkr_ok (T.c.fact 78 (f := .mkr "History") rfl)
theorem Tx.mk_Machine (T : Tx K mg) : Mk K (He.ga K "Machine") (He.ma K (He.ga K "Machine") "__init__") := He.mkr_ok (T.c.fact 79 (f := .mkr "Machine") rfl)
theorem Tx.exc (T : Tx K mg) : PySem.W.excIn K (CO K) He.veBase "ValueError.__new__" = true ∧ PySem.W.keepIn K (.ref (CO K)) = true ∧ PySem.W.subIn K (.ref (CO K)) (.type "BaseException") = some true ∧ PySem.W.typeIn K (.ref (CO K)) = some (.type "type") := He.exc_ok (x := "OtherLetters") (T.c.fact 80 (f := .exc "OtherLetters") rfl)
theorem Tx.exm (T : Tx K mg) : PySem.W.exmOne K (.ref (CO K)) (.ref (CO K)) = some true := He.exm_ok (x := "OtherLetters") (y := "OtherLetters") (b := true) (T.c.fact 81 (f := .exm "OtherLetters" "OtherLetters" true) rfl)
theorem Tx.d_is_list (T : Tx K mg) : ∃ fd, FunD K "is_list" "is_list" (defArgs s_is_list) (defBody s_is_list) (defScope s_is_list) [] [] (He.ga K "is_list") fd := T.c.def_ 0 (d := dd_is_list) rfl
theorem Tx.d_is_integer (T : Tx K mg) : ∃ fd, FunD K "is_integer" "is_integer" (defArgs s_is_integer) (defBody s_is_integer) (defScope s_is_integer) [] [] (He.ga K "is_integer") fd := T.c.def_ 1 (d := dd_is_integer) rfl
theorem Tx.d_is_word (T : Tx K mg) : ∃ fd, FunD K "is_word" "is_word" (defArgs s_is_word) (defBody s_is_word) (defScope s_is_word) [] [] (He.ga K "is_word") fd := T.c.def_ 2 (d := dd_is_word) rfl
theorem Tx.d_is_beginning (T : Tx K mg) : ∃ fd, FunD K "is_beginning" "is_beginning" (defArgs s_is_beginning) (defBody s_is_beginning) (defScope s_is_beginning) [] [] (He.ga K "is_beginning") fd := T.c.def_ 3 (d := dd_is_beginning) rfl
theorem Tx.d_is_letter (T : Tx K mg) : ∃ fd, FunD K "is_letter" "is_letter" (defArgs s_is_letter) (defBody s_is_letter) (defScope s_is_letter) [] [] (He.ga K "is_letter") fd := T.c.def_ 4 (d := dd_is_letter) rfl
theorem Tx.d_need_beginning (T : Tx K mg) : ∃ fd, FunD K "need_beginning" "need_beginning" (defArgs s_need_beginning) (defBody s_need_beginning) (defScope s_need_beginning) [] [] (He.ga K "need_beginning") fd := T.c.def_ 5 (d := dd_need_beginning) rfl
theorem Tx.d_need_runs (T : Tx K mg) : ∃ fd, FunD K "need_runs" "need_runs" (defArgs s_need_runs) (defBody s_need_runs) (defScope s_need_runs) [] [] (He.ga K "need_runs") fd := T.c.def_ 6 (d := dd_need_runs) rfl
theorem Tx.d_join_runs (T : Tx K mg) : ∃ fd, FunD K "join_runs" "join_runs" (defArgs s_join_runs) (defBody s_join_runs) (defScope s_join_runs) [] [] (He.ga K "join_runs") fd := T.c.def_ 7 (d := dd_join_runs) rfl
theorem Tx.d_moved (T : Tx K mg) : ∃ fd, FunD K "moved" "moved" (defArgs s_moved) (defBody s_moved) (defScope s_moved) [] [] (He.ga K "moved") fd := T.c.def_ 8 (d := dd_moved) rfl
theorem Tx.d_run_moved (T : Tx K mg) : ∃ fd, FunD K "run_moved" "run_moved" (defArgs s_run_moved) (defBody s_run_moved) (defScope s_run_moved) [] [] (He.ga K "run_moved") fd := T.c.def_ 9 (d := dd_run_moved) rfl
theorem Tx.d_runs_moved (T : Tx K mg) : ∃ fd, FunD K "runs_moved" "runs_moved" (defArgs s_runs_moved) (defBody s_runs_moved) (defScope s_runs_moved) [] [] (He.ga K "runs_moved") fd := T.c.def_ 10 (d := dd_runs_moved) rfl
theorem Tx.d_is_state (T : Tx K mg) : ∃ fd, FunD K "is_state" "is_state" (defArgs s_is_state) (defBody s_is_state) (defScope s_is_state) [] [] (He.ga K "is_state") fd := T.c.def_ 11 (d := dd_is_state) rfl
theorem Tx.d_need_same (T : Tx K mg) : ∃ fd, FunD K "need_same" "need_same" (defArgs s_need_same) (defBody s_need_same) (defScope s_need_same) [] [] (He.ga K "need_same") fd := T.c.def_ 12 (d := dd_need_same) rfl
theorem Tx.d_need_states (T : Tx K mg) : ∃ fd, FunD K "need_states" "need_states" (defArgs s_need_states) (defBody s_need_states) (defScope s_need_states) [] [] (He.ga K "need_states") fd := T.c.def_ 13 (d := dd_need_states) rfl
theorem Tx.d_law_pen (T : Tx K mg) : ∃ fd, FunD K "_law_pen" "_law_pen" (defArgs s_law_pen) (defBody s_law_pen) (defScope s_law_pen) [] [] (He.ga K "_law_pen") fd := T.c.def_ 14 (d := dd_law_pen) rfl
theorem Tx.d_law_draw (T : Tx K mg) : ∃ fd, FunD K "_law_draw" "_law_draw" (defArgs s_law_draw) (defBody s_law_draw) (defScope s_law_draw) [] [] (He.ga K "_law_draw") fd := T.c.def_ 15 (d := dd_law_draw) rfl
theorem Tx.d_law_pick (T : Tx K mg) : ∃ fd, FunD K "_law_pick" "_law_pick" (defArgs s_law_pick) (defBody s_law_pick) (defScope s_law_pick) [] [] (He.ga K "_law_pick") fd := T.c.def_ 16 (d := dd_law_pick) rfl
theorem Tx.d_law_shuffled (T : Tx K mg) : ∃ fd, FunD K "_law_shuffled" "_law_shuffled" (defArgs s_law_shuffled) (defBody s_law_shuffled) (defScope s_law_shuffled) [] [] (He.ga K "_law_shuffled") fd := T.c.def_ 17 (d := dd_law_shuffled) rfl
theorem Tx.d_law_words (T : Tx K mg) : ∃ fd, FunD K "_law_words" "_law_words" (defArgs s_law_words) (defBody s_law_words) (defScope s_law_words) [] [] (He.ga K "_law_words") fd := T.c.def_ 18 (d := dd_law_words) rfl
theorem Tx.d_law_letters (T : Tx K mg) : ∃ fd, FunD K "_law_letters" "_law_letters" (defArgs s_law_letters) (defBody s_law_letters) (defScope s_law_letters) [] [] (He.ga K "_law_letters") fd := T.c.def_ 19 (d := dd_law_letters) rfl
theorem Tx.d_law_machine (T : Tx K mg) : ∃ fd, FunD K "_law_machine" "_law_machine" (defArgs s_law_machine) (defBody s_law_machine) (defScope s_law_machine) [] [] (He.ga K "_law_machine") fd := T.c.def_ 20 (d := dd_law_machine) rfl
theorem Tx.d_law_spelled (T : Tx K mg) : ∃ fd, FunD K "_law_spelled" "_law_spelled" (defArgs s_law_spelled) (defBody s_law_spelled) (defScope s_law_spelled) [] [] (He.ga K "_law_spelled") fd := T.c.def_ 21 (d := dd_law_spelled) rfl
theorem Tx.d_law_history (T : Tx K mg) : ∃ fd, FunD K "_law_history" "_law_history" (defArgs s_law_history) (defBody s_law_history) (defScope s_law_history) [] [] (He.ga K "_law_history") fd := T.c.def_ 22 (d := dd_law_history) rfl
theorem Tx.d_law_program (T : Tx K mg) : ∃ fd, FunD K "_law_program" "_law_program" (defArgs s_law_program) (defBody s_law_program) (defScope s_law_program) [] [] (He.ga K "_law_program") fd := T.c.def_ 23 (d := dd_law_program) rfl
theorem Tx.d_law_answering (T : Tx K mg) : ∃ fd, FunD K "_law_answering" "_law_answering" (defArgs s_law_answering) (defBody s_law_answering) (defScope s_law_answering) [] [] (He.ga K "_law_answering") fd := T.c.def_ 24 (d := dd_law_answering) rfl
theorem Tx.d_law_changed (T : Tx K mg) : ∃ fd, FunD K "_law_changed" "_law_changed" (defArgs s_law_changed) (defBody s_law_changed) (defScope s_law_changed) [] [] (He.ga K "_law_changed") fd := T.c.def_ 25 (d := dd_law_changed) rfl
theorem Tx.d_law_first (T : Tx K mg) : ∃ fd, FunD K "_law_first" "_law_first" (defArgs s_law_first) (defBody s_law_first) (defScope s_law_first) [] [] (He.ga K "_law_first") fd := T.c.def_ 26 (d := dd_law_first) rfl
theorem Tx.d_law_is_refused (T : Tx K mg) : ∃ fd, FunD K "_law_is_refused" "_law_is_refused" (defArgs s_law_is_refused) (defBody s_law_is_refused) (defScope s_law_is_refused) [] [] (He.ga K "_law_is_refused") fd := T.c.def_ 27 (d := dd_law_is_refused) rfl
theorem Tx.d_law (T : Tx K mg) : ∃ fd, FunD K "law" "law" (defArgs s_law) (defBody s_law) (defScope s_law) [] [] (He.ga K "law") fd := T.c.def_ 28 (d := dd_law) rfl
theorem Tx.d_Lettersu_initu (T : Tx K mg) : ∃ fd, FunD K "__init__" "Letters.__init__" (defArgs s_Lettersu_initu) (defBody s_Lettersu_initu) (defScope s_Lettersu_initu) [] [] (He.ma K (He.ga K "Letters") "__init__") fd := T.c.def_ 29 (d := dd_Lettersu_initu) rfl
theorem Tx.d_Lettersu_containsu (T : Tx K mg) : ∃ fd, FunD K "__contains__" "Letters.__contains__" (defArgs s_Lettersu_containsu) (defBody s_Lettersu_containsu) (defScope s_Lettersu_containsu) [] [] (He.ma K (He.ga K "Letters") "__contains__") fd := T.c.def_ 30 (d := dd_Lettersu_containsu) rfl
theorem Tx.d_Lettersu_lenu (T : Tx K mg) : ∃ fd, FunD K "__len__" "Letters.__len__" (defArgs s_Lettersu_lenu) (defBody s_Lettersu_lenu) (defScope s_Lettersu_lenu) [] [] (He.ma K (He.ga K "Letters") "__len__") fd := T.c.def_ 31 (d := dd_Lettersu_lenu) rfl
theorem Tx.d_Lettersu_equ (T : Tx K mg) : ∃ fd, FunD K "__eq__" "Letters.__eq__" (defArgs s_Lettersu_equ) (defBody s_Lettersu_equ) (defScope s_Lettersu_equ) [] [] (He.ma K (He.ga K "Letters") "__eq__") fd := T.c.def_ 32 (d := dd_Lettersu_equ) rfl
theorem Tx.d_Historyu_initu (T : Tx K mg) : ∃ fd, FunD K "__init__" "History.__init__" (defArgs s_Historyu_initu) (defBody s_Historyu_initu) (defScope s_Historyu_initu) [.ref (He.dflAt ("History", some "__init__") 0 K)] [] (He.ma K (He.ga K "History") "__init__") fd := T.c.def_ 33 (d := dd_Historyu_initu) rfl
theorem Tx.d_Historyu_equ (T : Tx K mg) : ∃ fd, FunD K "__eq__" "History.__eq__" (defArgs s_Historyu_equ) (defBody s_Historyu_equ) (defScope s_Historyu_equ) [] [] (He.ma K (He.ga K "History") "__eq__") fd := T.c.def_ 34 (d := dd_Historyu_equ) rfl
theorem Tx.d_Machineu_initu (T : Tx K mg) : ∃ fd, FunD K "__init__" "Machine.__init__" (defArgs s_Machineu_initu) (defBody s_Machineu_initu) (defScope s_Machineu_initu) [] [("new", .int 0), ("found", .int 0)] (He.ma K (He.ga K "Machine") "__init__") fd := T.c.def_ 35 (d := dd_Machineu_initu) rfl
theorem Tx.d_Machine_moves (T : Tx K mg) : ∃ fd, FunD K "moves" "Machine.moves" (defArgs s_Machine_moves) (defBody s_Machine_moves) (defScope s_Machine_moves) [] [] (He.ma K (He.ga K "Machine") "moves") fd := T.c.def_ 36 (d := dd_Machine_moves) rfl
theorem Tx.d_Machine_start (T : Tx K mg) : ∃ fd, FunD K "start" "Machine.start" (defArgs s_Machine_start) (defBody s_Machine_start) (defScope s_Machine_start) [] [] (He.ma K (He.ga K "Machine") "start") fd := T.c.def_ 37 (d := dd_Machine_start) rfl
theorem Tx.d_Machine_state (T : Tx K mg) : ∃ fd, FunD K "state" "Machine.state" (defArgs s_Machine_state) (defBody s_Machine_state) (defScope s_Machine_state) [] [] (He.ma K (He.ga K "Machine") "state") fd := T.c.def_ 38 (d := dd_Machine_state) rfl
theorem Tx.d_Machineu_callu (T : Tx K mg) : ∃ fd, FunD K "__call__" "Machine.__call__" (defArgs s_Machineu_callu) (defBody s_Machineu_callu) (defScope s_Machineu_callu) [] [] (He.ma K (He.ga K "Machine") "__call__") fd := T.c.def_ 39 (d := dd_Machineu_callu) rfl
theorem Tx.d_Machine_apart (T : Tx K mg) : ∃ fd, FunD K "apart" "Machine.apart" (defArgs s_Machine_apart) (defBody s_Machine_apart) (defScope s_Machine_apart) [] [] (He.ma K (He.ga K "Machine") "apart") fd := T.c.def_ 40 (d := dd_Machine_apart) rfl
end
end K5

namespace K5
open PySem PySem.Spec PyProof.Rows L2
section
variable {X : Cx} {x : Str} {pos : Pos}
theorem pe_globI {i : Int} (hm : ∃ t, X.mg x = some (.int i t)) (hg : Gl X x) (hd : (x == ("__debug__" : Str)) = false := by decide) : PE X (.Name x pos) (tC (.int i)) := let ⟨t, h⟩ := hm; pe_glob hg h ⟨t, rfl⟩ hd
theorem pe_globS {z : Str} (hm : ∃ t, X.mg x = some (.str z t)) (hg : Gl X x) (hd : (x == ("__debug__" : Str)) = false := by decide) : PE X (.Name x pos) (tC (.str z)) := let ⟨t, h⟩ := hm; pe_glob hg h ⟨t, rfl⟩ hd
theorem pe_globR {a : Addr} (hm : X.mg x = some (.ref a)) (hg : Gl X x) (hd : (x == ("__debug__" : Str)) = false := by decide) : PE X (.Name x pos) (tC (.ref a)) := pe_glob hg hm rfl hd
end
/-- all but the pen at p stays -/
def KeepP (p : Addr) (H H' : Hp) : Prop := ∀ b o, b ≠ p → H b = some o → H' b = some o
theorem KeepP.of {p : Addr} {H H' : Hp} (s : Same H H') : KeepP p H H' := fun b o _ e => s b o e
theorem KeepP.refl {p : Addr} {H : Hp} : KeepP p H H := fun _ _ _ e => e
theorem KeepP.trans {p : Addr} {H H1 H2 : Hp} (a : KeepP p H H1) (b : KeepP p H1 H2) : KeepP p H H2 := fun c o n e => b c o n (a c o n e)
theorem Same.up1 {H : Hp} {a : Addr} {o : HO} (h : H a = none) : Same H (upd H a o) := fun b u e => by rw [upd_ne (ne_of_none e h)]; exact e
theorem ifT {b : Bool} {A B : Prop} (e : b = true) (h : A) : if b = true then A else B := by rw [if_pos e]; exact h
theorem ifF {b : Bool} {A B : Prop} (e : b = false) (h : B) : if b = true then A else B := by rw [if_neg (by rw [e]; decide)]; exact h
theorem nott {b : Bool} (h : b = false) : (!b) = true := by rw [h]; rfl
theorem notf {b : Bool} (h : b = true) : (!b) = false := by rw [h]; rfl
theorem dT {p : Prop} [Decidable p] (h : p) : decide p = true := decide_eq_true h
theorem dF {p : Prop} [Decidable p] (h : ¬p) : decide p = false := decide_eq_false h
theorem Same.seqT {K : PySem.W.Frag} {H H' : Hp} {a : Addr} {xs : List V} (e : Same H H') (h : H a = some (.tup xs)) : SqT K H' a xs := SqT.of (e _ _ h)
theorem Same.seqL {K : PySem.W.Frag} {H H' : Hp} {a : Addr} {xs : List V} (e : Same H H') (h : H a = some (.lst xs)) : SqL K H' a xs := SqL.of (e _ _ h)
theorem Same.up2 {H H1 : Hp} {a : Addr} {o : HO} (s : Same H H1) (h : H a = none) : Same H (upd H1 a o) := fun b u e => by rw [upd_ne (ne_of_none e h)]; exact s b u e
theorem ix0 {α : Type} {xs : List α} {x : α} (h : xs[0]? = some x) : atI xs 0 = some x := atI_nat (j := 0) h
theorem ix1 {α : Type} {xs : List α} {x : α} (h : xs[1]? = some x) : atI xs 1 = some x := atI_nat (j := 1) h
theorem ix2 {α : Type} {xs : List α} {x : α} (h : xs[2]? = some x) : atI xs 2 = some x := atI_nat (j := 2) h
end K5

namespace K5
open PySem PySem.Spec PyProof.Rows L2
theorem walk_enumT {K : PySem.W.Frag} {a : Addr} {xs : List V} : Walk (IteT K a) xs.length (fun H => SqT K H a xs) (YPair (fun i => some (.int (i : Nat))) (fun i => xs[i]?)) := by
  refine ⟨fun i _ hi q => ⟨xs, xs[i], q, by simp [hi]⟩, fun _ q => ⟨xs, q, rfl⟩, fun i H v H' _ q y => ?_⟩
  obtain ⟨T, x, h1, h2, h3, h4⟩ := y
  exact ⟨T, .int (i : Nat), x, h1, h2, h3, rfl, h4 xs q⟩
theorem walk_zipM {K : PySem.W.Frag} {a b : Addr} {xs ys : List V} (hn : xs.length = ys.length) : Walk (ItzM K a b) xs.length (fun H => SqT K H a xs ∧ SqL K H b ys) (YPair (fun i => xs[i]?) (fun i => ys[i]?)) := by
  refine ⟨fun i _ hi q => ?_, fun _ q => ⟨xs, ys, q.1, q.2, rfl, hn.symm⟩, fun i H v H' _ q y => ?_⟩
  · have h2 : i < ys.length := by omega
    exact ⟨xs, ys, xs[i], ys[i], q.1, q.2, by simp [hi], by simp [h2]⟩
  · obtain ⟨T, x, z, h1, h2, h3, h4, h5⟩ := y
    exact ⟨T, x, z, h1, h2, h3, h4 xs q.1, h5 ys q.2⟩
theorem walk_zipT {K : PySem.W.Frag} {a b : Addr} {xs ys : List V} (hn : xs.length = ys.length) : Walk (RZ.ItzT K a b) xs.length (fun H => SqT K H a xs ∧ SqT K H b ys) (YPair (fun i => xs[i]?) (fun i => ys[i]?)) := by
  refine ⟨fun i _ hi q => ?_, fun _ q => ⟨xs, ys, q.1, q.2, Or.inl (Nat.le_refl _)⟩, fun i H v H' _ q y => ?_⟩
  · have h2 : i < ys.length := by omega
    exact ⟨xs, ys, xs[i], ys[i], q.1, q.2, by simp [hi], by simp [h2]⟩
  · obtain ⟨T, x, z, h1, h2, h3, h4, h5⟩ := y
    exact ⟨T, x, z, h1, h2, h3, h4 xs q.1, h5 ys q.2⟩
def sp_is_list : Sp := fun vs H Q _ => ∃ a, vs = [.ref a] ∧ ((∃ xs, H a = some (.lst xs)) ∨ ∃ xs, H a = some (.tup xs)) ∧ ∀ H', Same H H' → Q (.bl true) H'
def sp_is_integer : Sp := fun vs H Q _ => ∃ i : Int, vs = [.int i] ∧ Q (.bl true) H
def sp_is_beginning : Sp := fun vs H Q _ => ∃ z : Str, vs = [.str z] ∧ Q (.bl (decide (z = "new" ∨ z = "found"))) H
/-- a word: one to twelve signs, the first a small letter, all signs letters or digits -/
def isSmall (c : Nat) : Bool := 97 ≤ c && c ≤ 122
def isSign (c : Nat) : Bool := isSmall c || (48 ≤ c && c ≤ 57)
def WordL (l : List Nat) : Prop := 1 ≤ l.length ∧ l.length ≤ 12 ∧ (∀ c, l[0]? = some c → isSmall c = true) ∧ ∀ c ∈ l, isSign c = true
def sp_is_word : Sp := fun vs H Q _ => ∃ z : Str, vs = [.str z] ∧ WordL z.cps.toList ∧ ∀ H', Same H H' → Q (.bl true) H'
theorem G_is_list {P : Program} {w : World} {K : PySem.W.Frag} {mg : Str → Option Value} {base : Heap} (T : Tx K mg) : FnG P w K mg base 1 "is_list" (sp_is_list) :=
  fnG_of T.g_is_list T.d_is_list sc_is_list (fun vs H Q E h => by
    obtain ⟨a, rfl, hs, k⟩ := h
    rfl) (fun _ _ _ _ _ _ us hl => match us, hl with | [_], _ => rfl) fun cdv A outer s H vs Q E hr h => by
    obtain ⟨a, rfl, hs, k⟩ := h
    have hu := hu_of hr
    refine ⟨_, (pss_one (ps_ret (pe_callB call_isiT rfl T.n_isinstance (by decide +kernel) (pa_cons (pv 0) (pa_cons (pe_tup (pa_cons (pe_bltn (v := .ty "list") (u := .type "list") rfl T.n_list (by decide +kernel) rfl) (pa_cons (pe_bltn (v := .ty "tuple") (u := .type "tuple") rfl T.n_tuple (by decide +kernel) rfl) pa_nil))) pa_nil))))), ?_⟩
    refine ⟨_, rfl, Nat.le_of_ble_eq_true rfl, fun p hp => ?_⟩
    have ne : ∀ {o}, H a = some o → a ≠ p := fun e => ne_of_none e hp
    rcases hs with ⟨xs, e⟩ | ⟨xs, e⟩
    · exact ⟨_, p, _, .type "list", [.type "list", .type "tuple"], true, rfl, upd_same, .cons (.ty _) (.cons (.ty _) .nil), .base (.lst (by rw [upd_ne (ne e)]; exact e)), kitAny_cons (b := true) (kit_ty (by decide +kernel)) (fun z => by cases z) (fun _ => rfl), k _ (Same.up1 hp)⟩
    · exact ⟨_, p, _, .type "tuple", [.type "list", .type "tuple"], true, rfl, upd_same, .cons (.ty _) (.cons (.ty _) .nil), .base (.tup (by rw [upd_ne (ne e)]; exact e)), kitAny_cons (b := false) (kit_ty (by decide +kernel)) (fun _ => kitAny_cons (b := true) (kit_ty (by decide +kernel)) (fun z => by cases z) (fun _ => rfl)) (fun z => by cases z), k _ (Same.up1 hp)⟩
theorem G_is_integer {P : Program} {w : World} {K : PySem.W.Frag} {mg : Str → Option Value} {base : Heap} (T : Tx K mg) : FnG P w K mg base 1 "is_integer" (sp_is_integer) :=
  fnG_of T.g_is_integer T.d_is_integer sc_is_integer (fun vs H Q E h => by
    obtain ⟨i, rfl, k⟩ := h
    rfl) (fun _ _ _ _ _ _ us hl => match us, hl with | [_], _ => rfl) fun cdv A outer s H vs Q E hr h => by
    obtain ⟨i, rfl, k⟩ := h
    have hu := hu_of hr
    refine ⟨_, (pss_one (ps_ret (pe_and (pe_callB call_isi rfl T.n_isinstance (by decide +kernel) (pa_cons (pv 0) (pa_cons (pe_bltn (v := .ty "int") (u := .type "int") rfl T.n_int (by decide +kernel) rfl) pa_nil))) (pe_one (pe_not (pe_callB call_isi rfl T.n_isinstance (by decide +kernel) (pa_cons (pv 0) (pa_cons (pe_bltn (v := .ty "bool") (u := .type "bool") rfl T.n_bool (by decide +kernel) rfl) pa_nil)))))))), ?_⟩
    exact ⟨_, rfl, _, _, .type "int", .type "int", true, rfl, .ty _, .base (.int _), kit_ty (by decide +kernel), true, rfl, _, rfl, _, _, .type "int", .type "bool", false, rfl, .ty _, .base (.int _), kit_ty (by decide +kernel), false, rfl, k⟩
theorem G_is_beginning {P : Program} {w : World} {K : PySem.W.Frag} {mg : Str → Option Value} {base : Heap} (T : Tx K mg) : FnG P w K mg base 1 "is_beginning" (sp_is_beginning) :=
  fnG_of T.g_is_beginning T.d_is_beginning sc_is_beginning (fun vs H Q E h => by
    obtain ⟨z, rfl, k⟩ := h
    rfl) (fun _ _ _ _ _ _ us hl => match us, hl with | [_], _ => rfl) fun cdv A outer s H vs Q E hr h => by
    obtain ⟨z, rfl, k⟩ := h
    have hu := hu_of hr
    refine ⟨_, (pss_one (ps_ret (pe_and (pe_callB call_isi rfl T.n_isinstance (by decide +kernel) (pa_cons (pv 0) (pa_cons (pe_bltn (v := .ty "str") (u := .type "str") rfl T.n_str (by decide +kernel) rfl) pa_nil))) (pe_one (pe_cmpR op_in_seq (pv 0) (pe_globR T.g_BEGINNINGS rfl) rfl))))), ?_⟩
    have hB : SqT K H (He.ga K "BEGINNINGS") [.str "new", .str "found"] := He.tupB_ok (vs := [.str "new", .str "found"]) (T.exAt 0) H
    refine ⟨_, rfl, _, _, .type "str", .type "str", true, rfl, .ty _, .base (.str _), kit_ty (by decide +kernel), true, rfl, _, rfl, _, _, rfl, .inr hB, rfl, rfl, ?_⟩
    have e : inV (.str z) [.str "new", .str "found"] = decide (z = "new" ∨ z = "found") := by
      unfold inV
      rw [List.any_cons, List.any_cons, List.any_nil, Bool.or_false]
      show (("new" : Str) == z || ("found" : Str) == z) = _
      rw [Bool.eq_iff_iff]
      simp only [Bool.or_eq_true, beq_iff_eq, decide_eq_true_eq]
      exact ⟨fun q => q.imp Eq.symm Eq.symm, fun q => q.imp Eq.symm Eq.symm⟩
    show Q (.bl (inV (.str z) [.str "new", .str "found"])) H
    rw [e]
    exact k
theorem occSmall : ∀ c, c < 128 → isSmall c = true → (Builtin.Str.occurrences "abcdefghijklmnopqrstuvwxyz" ⟨#[c]⟩ 0 ("abcdefghijklmnopqrstuvwxyz" : Str).length 1).isEmpty = false := by decide +kernel
theorem occSign : ∀ c, c < 128 → isSign c = true → (Builtin.Str.occurrences "abcdefghijklmnopqrstuvwxyz0123456789" ⟨#[c]⟩ 0 ("abcdefghijklmnopqrstuvwxyz0123456789" : Str).length 1).isEmpty = false := by decide +kernel
theorem small_lt {c : Nat} (h : isSmall c = true) : c < 128 := by
  unfold isSmall at h
  simp only [Bool.and_eq_true, decide_eq_true_eq] at h
  omega
theorem sign_lt {c : Nat} (h : isSign c = true) : c < 128 := by
  unfold isSign isSmall at h
  simp only [Bool.and_eq_true, Bool.or_eq_true, decide_eq_true_eq] at h
  omega
theorem G_is_word {P : Program} {w : World} {K : PySem.W.Frag} {mg : Str → Option Value} {base : Heap} (T : Tx K mg) : FnG P w K mg base 2 "is_word" (sp_is_word) :=
  fnG_of T.g_is_word T.d_is_word sc_is_word (fun vs H Q E h => by
    obtain ⟨z, rfl, hz, k⟩ := h
    rfl) (fun _ _ _ _ _ _ us hl => match us, hl with | [_], _ => rfl) fun cdv A outer s H vs Q E hr h => by
    obtain ⟨z, rfl, hz, k⟩ := h
    have hu := hu_of hr
    refine ⟨_, (pss_cons (ps_if (PW.pt (pw_or (pt_not (pt_val (pe_callB call_isi rfl T.n_isinstance (by decide +kernel) (pa_cons (pv 0) (pa_cons (pe_bltn (v := .ty "str") (u := .type "str") rfl T.n_str (by decide +kernel) rfl) pa_nil))))) (pw_or1 (pt_not (pt_chain op_le op_le pe_int (pe_callB call_len_str rfl T.n_len (by decide +kernel) (pa_cons (pv 0) pa_nil)) pe_int))))) (pss_one (ps_ret pe_bl)) pss_nil)
      (pss_one (ps_ret (pe_and (pe_cmpR op_in_str (pe_ix ix_str (pv 0) pe_int (fun _ _ => rfl)) (pe_globS T.c_SMALL rfl) rfl) (pe_one (pe_callB (cr_all rfl) rfl T.n_all (by decide +kernel) (pa_cons (pe_lc (own := [("sign", 1)]) (g := gName 1) rfl sc_is_word.nd (pi_str (pv 0)) (blkOk_by rfl) (fun _ _ _ _ _ => (pg_name (i := 1) sc_is_word.nd rfl (by first | exact Or.inl rfl | exact Or.inr rfl))) (fun _ _ _ _ _ => pts_nil) (fun _ _ _ _ _ => (pe_cmpR op_in_str (pv 1) (pe_globS T.c_SIGNS rfl) rfl))) pa_nil))))))), ?_⟩
    obtain ⟨h1, h2, h3, h4⟩ := hz
    have hl : z.cps.toList.length = z.length := by simp [PySem.Str.length]
    have hsz : z.length ≤ sizeLine := by rw [← hl]; exact Nat.le_trans h2 (Nat.le_of_ble_eq_true rfl)
    refine ⟨_, rfl, _, _, .type "str", .type "str", true, rfl, .ty _, .base (.str _), kit_ty (by decide +kernel), true, rfl, ifF rfl ?_⟩
    refine ⟨_, rfl, z, rfl, hsz, _, _, rfl, rfl, _, rfl, ifT (dT (by omega)) ⟨_, _, rfl, rfl, _, rfl, ifF (notf (dT (by omega))) ?_⟩⟩
    obtain ⟨c, hc⟩ : ∃ c, z.cps.toList[0]? = some c := ⟨_, List.getElem?_eq_getElem (by omega)⟩
    refine ⟨_, rfl, z, 0, c, rfl, rfl, hsz, ix0 hc, _, _, rfl, rfl, _, rfl, ifT (nott (occSmall c (small_lt (h3 c hc)) (h3 c hc))) ?_⟩
    refine ⟨_, rfl, z, rfl, fun D hD => lc_it walk_str (fun i H' => Same H H' ∧ H' D = some (.lst (List.replicate i (.bl true)))) ⟨Same.up1 hD, upd_same⟩ (fun _ _ _ _ => trivial) ?_ ?_⟩
    · rintro i x H1 H2 hi ⟨s1, e1⟩ ⟨rfl, c, hc, rfl⟩
      have hm : isSign c = true := h4 c (by rw [← Array.getElem?_toList] at hc; exact List.mem_of_getElem? hc)
      refine ⟨rfl, _, rfl, _, _, rfl, rfl, _, e1, by rw [List.length_replicate]; exact Nat.lt_of_lt_of_le (by show i < z.length; exact hi) hsz, ?_, ?_⟩
      · exact fun b o e => by rw [upd_ne (fun q => by rw [q, hD] at e; cases e)]; exact s1 b o e
      · rw [upd_same, occSign c (sign_lt hm) hm, List.replicate_succ']
        rfl
    · rintro H1 ⟨s1, e1⟩
      refine ⟨D, List.replicate z.cps.size true, rfl, SqL.of (by rw [e1, List.map_replicate]), ?_⟩
      have e : (List.replicate z.cps.size true).all id = true := by simp
      rw [e]
      exact k _ s1
end K5


namespace K5
open PySem PySem.Spec PyProof.Rows L2
/-! data: strs, ints, pairs; equality of deep data -/
theorem dpStrs {K : PySem.W.Frag} {H : Hp} : ∀ ws : List Str, DpAll K H (ws.map V.str) (ws.map PyData.str)
  | [] => .nil
  | w :: ws => .cons (.str w) (dpStrs ws)
theorem eqvStrs : ∀ ws us : List Str, PyData.eqvAll (ws.map PyData.str) (us.map PyData.str) = decide (ws = us)
  | [], [] => rfl
  | [], _ :: _ => rfl
  | _ :: _, [] => rfl
  | w :: ws, u :: us => by
    show (w == u && PyData.eqvAll (ws.map PyData.str) (us.map PyData.str)) = _
    rw [eqvStrs ws us, Bool.eq_iff_iff]
    simp
theorem canStrs : ∀ ws : List Str, (∀ w ∈ ws, PyData.strOk w = true) → PyData.canLayAll0 (ws.map PyData.str) = true
  | [], _ => rfl
  | w :: ws, h => by
    show (PyData.strOk w && PyData.canLayAll0 (ws.map PyData.str)) = true
    rw [h w (List.mem_cons_self ..), canStrs ws fun u hu => h u (List.mem_cons_of_mem _ hu)]
    rfl
theorem depthStrs : ∀ ws : List Str, PyData.depthAll (ws.map PyData.str) = 0
  | [] => rfl
  | w :: ws => by
    show max 0 (PyData.depthAll (ws.map PyData.str)) = 0
    rw [depthStrs ws]
    rfl
theorem shapedStrs {ws : List Str} (h : ∀ w ∈ ws, PyData.strOk w = true) : SeqAt.shaped (.tuple (ws.map PyData.str)) = true := by
  show (PyData.canLayAll0 (ws.map PyData.str) && decide (PyData.depthAll (ws.map PyData.str) + 1 ≤ 64)) = true
  rw [canStrs ws h, depthStrs]
  rfl
/-- pairs of a text and a number -/
def dRun (r : Str × Int) : PyData := .tuple [.str r.1, .int r.2]
theorem eqvRuns : ∀ ws us : List (Str × Int), PyData.eqvAll (ws.map dRun) (us.map dRun) = decide (ws = us)
  | [], [] => rfl
  | [], _ :: _ => rfl
  | _ :: _, [] => rfl
  | w :: ws, u :: us => by
    show ((w.1 == u.1 && (w.2 == u.2 && true)) && PyData.eqvAll (ws.map dRun) (us.map dRun)) = _
    rw [eqvRuns ws us, Bool.eq_iff_iff]
    obtain ⟨w1, w2⟩ := w
    obtain ⟨u1, u2⟩ := u
    simp
theorem canRuns : ∀ ws : List (Str × Int), (∀ w ∈ ws, PyData.strOk w.1 = true) → PyData.canLayAll0 (ws.map dRun) = true
  | [], _ => rfl
  | w :: ws, h => by
    show ((PyData.strOk w.1 && (true && true)) && PyData.canLayAll0 (ws.map dRun)) = true
    rw [h w (List.mem_cons_self ..), canRuns ws fun u hu => h u (List.mem_cons_of_mem _ hu)]
    rfl
theorem depthRuns : ∀ ws : List (Str × Int), PyData.depthAll (ws.map dRun) ≤ 1
  | [] => Nat.zero_le _
  | w :: ws => by
    show max 1 (PyData.depthAll (ws.map dRun)) ≤ 1
    have := depthRuns ws
    omega
theorem shapedRuns {ws : List (Str × Int)} (h : ∀ w ∈ ws, PyData.strOk w.1 = true) : SeqAt.shaped (.tuple (ws.map dRun)) = true := by
  show (PyData.canLayAll0 (ws.map dRun) && decide (PyData.depthAll (ws.map dRun) + 1 ≤ 64)) = true
  rw [canRuns ws h, Bool.true_and]
  have := depthRuns ws
  exact decide_eq_true (by omega)
/-- pairs of numbers -/
def dPair (r : Int × Int) : PyData := .tuple [.int r.1, .int r.2]
theorem eqvPair (w u : Int × Int) : PyData.eqv (dPair w) (dPair u) = decide (w = u) := by
  show (w.1 == u.1 && (w.2 == u.2 && true)) = _
  rw [Bool.eq_iff_iff]
  obtain ⟨w1, w2⟩ := w
  obtain ⟨u1, u2⟩ := u
  simp
theorem canPairs : ∀ ws : List (Int × Int), PyData.canLayAll0 (ws.map dPair) = true
  | [] => rfl
  | w :: ws => by
    show ((true && (true && true)) && PyData.canLayAll0 (ws.map dPair)) = true
    rw [canPairs ws]
    rfl
theorem depthPairs : ∀ ws : List (Int × Int), PyData.depthAll (ws.map dPair) ≤ 1
  | [] => Nat.zero_le _
  | w :: ws => by
    show max 1 (PyData.depthAll (ws.map dPair)) ≤ 1
    have := depthPairs ws
    omega
theorem shapedPairs (ws : List (Int × Int)) : SeqAt.shaped (.list (ws.map dPair)) = true := by
  show (PyData.canLayAll0 (ws.map dPair) && decide (PyData.depthAll (ws.map dPair) + 1 ≤ 64)) = true
  rw [canPairs ws, Bool.true_and]
  have := depthPairs ws
  exact decide_eq_true (by omega)
theorem anyPair (w : Int × Int) (ws : List (Int × Int)) : ((ws.map dPair).any fun z => PyData.eqv z (dPair w)) = decide (w ∈ ws) := by
  rw [Bool.eq_iff_iff, List.any_eq_true]
  simp only [List.mem_map, decide_eq_true_eq]
  constructor
  · rintro ⟨_, ⟨u, hu, rfl⟩, h⟩
    rw [eqvPair, decide_eq_true_eq] at h
    rw [← h]; exact hu
  · intro h
    exact ⟨_, ⟨w, h, rfl⟩, by rw [eqvPair]; exact decide_eq_true rfl⟩
/-- a text of the list, by in -/
theorem inStr (z : Str) : ∀ ws : List Str, inV (.str z) (ws.map V.str) = decide (z ∈ ws)
  | [] => rfl
  | w :: ws => by
    show (w == z || inV (.str z) (ws.map V.str)) = _
    rw [inStr z ws, Bool.eq_iff_iff]
    simp only [Bool.or_eq_true, beq_iff_eq, decide_eq_true_eq, List.mem_cons]
    exact ⟨fun h => h.imp Eq.symm id, fun h => h.imp Eq.symm id⟩
theorem flatStrs : ∀ ws : List Str, (ws.map V.str).all flatV = true
  | [] => rfl
  | w :: ws => by
    show (true && (ws.map V.str).all flatV) = true
    rw [flatStrs ws]
    rfl
end K5

namespace K5
open PySem PySem.Spec PyProof.Rows L2
/-- neither "new" nor "found" -/
def NB (z : Str) : Prop := z ≠ "new" ∧ z ≠ "found"
/-- a letter: a word, or a word behind the mark -/
def LetterS (z : Str) : Prop := (WordL z.cps.toList ∧ NB z) ∨ ∃ w : Str, z.cps.toList = 126 :: w.cps.toList ∧ WordL w.cps.toList ∧ NB w
/-- a Letters object at a -/
def LetO (K : PySem.W.Frag) (H : Hp) (a : Addr) (ws : List Str) : Prop := ∃ dx t, H a = some (.ins (CL K) dx [("words", .ref t)]) ∧ H t = some (.tup (ws.map V.str)) ∧ ws.Nodup ∧ ws.length ≤ 12 ∧ ∀ z ∈ ws, LetterS z
def sp_is_letter : Sp := fun vs H Q _ => ∃ z : Str, vs = [.str z] ∧ LetterS z ∧ ∀ H', Same H H' → Q (.bl true) H'
def sp_Letters_uinitu (K : PySem.W.Frag) : Sp := fun vs H Q _ => ∃ (a l dx : Addr) (ws : List Str), vs = [.ref a, .ref l] ∧ H a = some (.ins (CL K) dx []) ∧ H l = some (.lst (ws.map V.str)) ∧ a ≠ l ∧ ws.Nodup ∧ 1 ≤ ws.length ∧ ws.length ≤ 12 ∧ (∀ z ∈ ws, LetterS z) ∧
  ∀ H', (∀ b o, b ≠ a → H b = some o → H' b = some o) → LetO K H' a ws → Q .non H'
def sp_Letters_ucontainsu (K : PySem.W.Frag) : Sp := fun vs H Q _ => ∃ (a : Addr) (z : Str) (ws : List Str), vs = [.ref a, .str z] ∧ LetO K H a ws ∧ Q (.bl (decide (z ∈ ws))) H
def sp_Letters_ulenu (K : PySem.W.Frag) : Sp := fun vs H Q _ => ∃ (a : Addr) (ws : List Str), vs = [.ref a] ∧ LetO K H a ws ∧ Q (.int ws.length) H
def sp_Letters_uequ (K : PySem.W.Frag) : Sp := fun vs H Q _ => ∃ (a b : Addr) (ws us : List Str), vs = [.ref a, .ref b] ∧ LetO K H a ws ∧ LetO K H b us ∧ Q (.bl (decide (ws = us))) H
theorem sign_ok {l : List Nat} (h : ∀ c ∈ l, isSign c = true) : ∀ c ∈ l, c < 0x110000 := fun c hc => Nat.lt_trans (sign_lt (h c hc)) (by decide)
theorem strOk_of {z : Str} (h : ∀ c ∈ z.cps.toList, c < 0x110000) : PyData.strOk z = true := by
  unfold PyData.strOk
  rw [Array.all_eq_true']
  intro c hc
  exact decide_eq_true (h c (by simpa using hc))
theorem WordL.ok {z : Str} (h : WordL z.cps.toList) : PyData.strOk z = true := strOk_of (sign_ok h.2.2.2)
theorem LetterS.ok {z : Str} (h : LetterS z) : PyData.strOk z = true := by
  rcases h with ⟨h, _⟩ | ⟨w, e, h, _⟩
  · exact h.ok
  · refine strOk_of fun c hc => ?_
    rw [e] at hc
    rcases List.mem_cons.mp hc with rfl | hc
    · decide
    · exact sign_ok h.2.2.2 c hc
theorem LetterS.size {z : Str} (h : LetterS z) : 1 ≤ z.length ∧ z.length ≤ 13 := by
  have e : z.length = z.cps.toList.length := by simp [PySem.Str.length]
  rw [e]
  rcases h with ⟨h, _⟩ | ⟨w, e, h, _⟩
  · exact ⟨h.1, Nat.le_succ_of_le h.2.1⟩
  · rw [e]
    exact ⟨Nat.succ_le_succ (Nat.zero_le _), Nat.succ_le_succ h.2.1⟩
theorem str_ext {z w : Str} (h : z.cps.toList = w.cps.toList) : z = w := by
  obtain ⟨⟨l⟩⟩ := z
  obtain ⟨⟨m⟩⟩ := w
  simp at h
  rw [h]
theorem cut01 {z : Str} {c : Nat} {l : List Nat} (h : z.cps.toList = c :: l) : cutS z none (some 1) = ⟨#[c]⟩ := by
  have hl : z.length = l.length + 1 := by
    show z.cps.size = _
    rw [← Array.length_toList, h, List.length_cons]
  unfold cutS
  rw [HT.sIx_none, h, hl, show HT.sIx (l.length + 1) (l.length + 1) (some 1) = 1 from by rw [show (1 : Int) = ((1 : Nat) : Int) from rfl, HT.sIx_nat]; omega]
  rfl
theorem cut1 {z w : Str} {c : Nat} (h : z.cps.toList = c :: w.cps.toList) : cutS z (some 1) none = w := by
  have hl : z.length = w.cps.toList.length + 1 := by
    show z.cps.size = _
    rw [← Array.length_toList, h, List.length_cons]
  unfold cutS
  rw [HT.sIx_none, h, hl, show HT.sIx (w.cps.toList.length + 1) 0 (some 1) = 1 from by rw [show (1 : Int) = ((1 : Nat) : Int) from rfl, HT.sIx_nat]; omega]
  apply str_ext
  simp [← Array.length_toList]
theorem cutTake {xs : List V} {i : Nat} (h : i ≤ xs.length) : cutV xs none (some (i : Int)) = xs.take i := by
  unfold cutV
  rw [HT.sIx_none, HT.sIx_nat, Nat.min_eq_left h]
  simp
theorem notin_take {α : Type} {xs : List α} {i : Nat} {x : α} (nd : xs.Nodup) (h : xs[i]? = some x) : x ∉ xs.take i := fun hm => by
  obtain ⟨j, hj⟩ := List.mem_iff_getElem?.mp hm
  rw [List.getElem?_take] at hj
  by_cases hji : j < i
  · rw [if_pos hji] at hj
    obtain ⟨h1, e1⟩ := List.getElem?_eq_some_iff.mp hj
    obtain ⟨h2, e2⟩ := List.getElem?_eq_some_iff.mp h
    exact absurd (e1.trans e2.symm) (List.pairwise_iff_getElem.mp nd j i h1 h2 hji)
  · rw [if_neg hji] at hj
    cases hj
theorem map_get {α : Type} {f : α → V} {xs : List α} {i : Nat} {v : V} (h : (xs.map f)[i]? = some v) : ∃ x, xs[i]? = some x ∧ v = f x := by
  rw [List.getElem?_map] at h
  cases e : xs[i]? with
  | none => rw [e] at h; cases h
  | some x => rw [e] at h; exact ⟨x, rfl, (Option.some.inj h).symm⟩
theorem tyIns {K : PySem.W.Frag} {mg : Str → Option Value} (T : Tx K mg) {H : Hp} {a C dx : Addr} {fs : List (Str × V)} (e : H a = some (.ins C dx fs)) (c : Cls K C) (q : clsB K C = true) : TyX K H (.ref a) (.ref C) := by
  unfold clsB at q
  obtain ⟨q1, q2⟩ := He.ba q
  exact .base (.ins e c (of_decide_eq_true q1) (of_decide_eq_true (T.exAt 9)) (of_decide_eq_true (T.exAt 10)) (of_decide_eq_true q2))
theorem G_is_letter {P : Program} {w : World} {K : PySem.W.Frag} {mg : Str → Option Value} {base : Heap} (T : Tx K mg) : FnG P w K mg base 3 "is_letter" (sp_is_letter) :=
  fnG_of T.g_is_letter T.d_is_letter sc_is_letter (fun vs H Q E h => by
    obtain ⟨z, rfl, hz, k⟩ := h
    rfl) (fun _ _ _ _ _ _ us hl => match us, hl with | [_], _ => rfl) fun cdv A outer s H vs Q E hr h => by
    obtain ⟨z, rfl, hz, k⟩ := h
    have hu := hu_of hr
    refine ⟨_, (pss_cons (ps_if (pt_not (pt_val (pe_callB call_isi rfl T.n_isinstance (by decide +kernel) (pa_cons (pv 0) (pa_cons (pe_bltn (v := .ty "str") (u := .type "str") rfl T.n_str (by decide +kernel) rfl) pa_nil))))) (pss_one (ps_ret pe_bl)) pss_nil)
      (pss_cons (ps_set (i := 1) sc_is_letter.nd rfl (by first | exact Or.inl rfl | exact Or.inr rfl) (pe_ifExp (pt_cmpR op_eq (pe_slice sl_str (pv 0) po_none (po_some pe_int)) pe_str (nomark _)) (pe_slice sl_str (pv 0) (po_some pe_int) po_none) (pv 0)))
      (pss_one (ps_ret (pe_and (pe_callG (G_is_word T) (hr.mono (by decide)) rfl passL (pa_cons (pv 1) pa_nil)) (pe_one (pe_not (pe_callG (G_is_beginning T) (hr.mono (by decide)) rfl passL (pa_cons (pv 1) pa_nil))))))))), ?_⟩
    have hsz : z.length ≤ sizeLine := Nat.le_trans hz.size.2 (Nat.le_of_ble_eq_true rfl)
    refine ⟨_, rfl, _, _, .type "str", .type "str", true, rfl, .ty _, .base (.str _), kit_ty (by decide +kernel), true, rfl, ifF rfl ?_⟩
    refine ⟨_, rfl, _, rfl, z, rfl, hsz, rfl, _, rfl, ?_⟩
    rcases hz with ⟨h, hb⟩ | ⟨w, e, h, hb⟩
    · obtain ⟨c, hc⟩ : ∃ c, z.cps.toList[0]? = some c := ⟨_, List.getElem?_eq_getElem (by have := h.1; omega)⟩
      obtain ⟨c', l, e⟩ : ∃ c' l, z.cps.toList = c' :: l := by
        cases e : z.cps.toList with
        | nil => rw [e] at hc; cases hc
        | cons c' l => exact ⟨c', l, rfl⟩
      have ec : c' = c := by rw [e] at hc; exact Option.some.inj hc
      have n126 : c' ≠ 126 := fun q => by
        have := h.2.2.1 c hc
        rw [← ec, q] at this
        cases this
      refine ifF (dF fun q => ?_) ⟨_, rfl, ?_⟩
      · rw [cut01 e] at q
        have q2 : (⟨#[c']⟩ : Str) = ("~" : Str) := V.str.inj q
        have q3 : (⟨#[c']⟩ : Str) = ⟨#[126]⟩ := q2.trans (by decide +kernel)
        simp at q3
        exact n126 q3
      · refine ⟨_, rfl, z, rfl, h, fun H2 s2 => ⟨true, rfl, ifT rfl ⟨_, rfl, z, rfl, _, rfl, ?_⟩⟩⟩
        rw [dF (fun h => h.elim hb.1 hb.2)]
        exact k _ s2
    · refine ifT (dT ?_) ⟨_, rfl, _, rfl, z, rfl, hsz, ?_⟩
      · rw [cut01 e]
        exact congrArg V.str (by decide +kernel)
      · rw [cut1 e]
        refine ⟨_, rfl, w, rfl, h, fun H2 s2 => ⟨true, rfl, ifT rfl ⟨_, rfl, w, rfl, _, rfl, ?_⟩⟩⟩
        rw [dF (fun h => h.elim hb.1 hb.2)]
        exact k _ s2
theorem G_Lettersu_initu {P : Program} {w : World} {K : PySem.W.Frag} {mg : Str → Option Value} {base : Heap} (T : Tx K mg) : FnR P w K mg base (L2.CX P w) 4 (He.ma K (He.ga K "Letters") "__init__") (sp_Letters_uinitu K) :=
  fnR_of T.d_Lettersu_initu sc_Lettersu_initu (fun vs H Q E h => by
    obtain ⟨a, l, dx, ws, rfl, ha, hl, ne, nd, h1, h2, hw, k⟩ := h
    rfl) (fun _ _ _ _ _ _ us hl => match us, hl with | [_, _], _ => rfl) fun cdv A outer s H vs Q E hr h => by
    obtain ⟨a, l, dx, ws, rfl, ha, hl, ne, nd, h1, h2, hw, k⟩ := h
    have hu := hu_of hr
    refine ⟨_, (pss_cons (ps_if (pt_cmpR op_gt (pe_callB call_len_seq rfl T.n_len (by decide +kernel) (pa_cons (pv 1) pa_nil)) (pe_globI T.c_MOST_LETTERS rfl) (nomark _)) (pss_one ps_never) pss_nil)
      (pss_cons (ps_if (pt_cmpR op_eq (pe_callB call_len_seq rfl T.n_len (by decide +kernel) (pa_cons (pv 1) pa_nil)) pe_int (nomark _)) (pss_one ps_never) pss_nil)
      (pss_cons (ps_for (passes_of rfl) rfl (pi_enumA rfl T.n_enumerate (pa_cons (pv 1) pa_nil)) (pg_tup rfl (pgs_cons (pg_name (i := 2) sc_Lettersu_initu.nd rfl (by first | exact Or.inl rfl | exact Or.inr rfl)) (pgs_cons (pg_name (i := 3) sc_Lettersu_initu.nd rfl (by first | exact Or.inl rfl | exact Or.inr rfl)) pgs_nil))) (pss_one (ps_if (PW.pt (pw_or (pt_not (pt_val (pe_callG (G_is_letter T) (hr.mono (by decide)) rfl passL (pa_cons (pv 3) pa_nil)))) (pw_or1 (pt_cmpR op_in_seq (pv 3) (pe_slice sl_list (pv 1) po_none (po_some (pv 2))) rfl)))) (pss_one ps_never) pss_nil)))
      (pss_one (ps_fld (pv 0) (pe_callTy call_tuple_of rfl T.n_tuple (by decide +kernel) (pa_cons (pv 1) pa_nil)) rfl))))), ?_⟩
    have hlen : (ws.map V.str).length = ws.length := List.length_map _
    refine ⟨_, rfl, _, _, rfl, .inl (SqL.of hl), _, _, rfl, rfl, _, rfl, ifF (dF (by rw [hlen]; omega)) ?_⟩
    refine ⟨_, rfl, _, _, rfl, .inl (SqL.of hl), rfl, _, rfl, ifF (dF (by rw [hlen]; intro q; have := V.int.inj q; omega)) ?_⟩
    refine ⟨_, rfl, _, _, rfl, .inl ⟨SqL.of hl, for_it walk_enum (fun i σ H' => ∃ v2 v3, σ = [some (.ref a), some (.ref l), v2, v3] ∧ Same H H') ⟨_, _, rfl, Same.refl H⟩ (fun i σ H' _ ⟨_, _, _, s1⟩ => Same.seqL s1 hl) ?_ ?_⟩⟩
    · rintro i x σ H1 H2 hi ⟨v2, v3, rfl, s1⟩ ⟨t, x1, x2, rfl, ht, rfl, e1, e2⟩
      cases e1
      obtain ⟨z, hz, rfl⟩ := map_get e2
      have s2 : Same H (upd H1 t (.tup [.int (i : Nat), .str z])) := Same.up2 s1 (Same.free s1 ht)
      refine ⟨t, _, rfl, SqT.of upd_same, rfl, _, _, rfl, _, _, rfl, rfl, ?_⟩
      refine ⟨_, rfl, z, rfl, hw z (List.mem_of_getElem? hz), fun H3 s3 => ⟨true, rfl, ifF rfl ?_⟩⟩
      have s4 := Same.trans s2 s3
      refine ⟨_, rfl, _, rfl, _, rfl, _, rfl, _, _, rfl, Same.seqL s4 hl, fun p hp => ⟨_, _, rfl, .inl (SqL.of upd_same), rfl, ?_, _, rfl, ifF ?_ ⟨_, _, rfl, Same.up2 s4 (Same.free s4 hp)⟩⟩⟩
      · rw [cutTake (by omega), ← List.map_take]
        exact flatStrs _
      · rw [cutTake (by omega), ← List.map_take]
        exact (inStr z (ws.take i)).trans (dF (notin_take nd hz))
    · rintro σ H1 ⟨v2, v3, rfl, s1⟩
      refine ⟨_, rfl, _, _, rfl, .inl ⟨Same.seqL s1 hl, fun t ht => ?_⟩⟩
      have hat : a ≠ t := ne_of_none (s1 _ _ ha) ht
      refine ⟨_, rfl, a, _, dx, [], rfl, by rw [upd_ne hat]; exact s1 _ _ ha, T.cl_Letters, T.na_Letters_words, (by show 0 < 1000; decide), ?_⟩
      refine k _ (fun b o nb e => ?_) ⟨dx, t, upd_same, by rw [upd_ne (Ne.symm hat), upd_same], nd, h2, hw⟩
      rw [upd_ne nb, upd_ne (ne_of_none (s1 _ _ e) ht)]
      exact s1 _ _ e
theorem M_Letters {P : Program} {w : World} {K : PySem.W.Frag} {mg : Str → Option Value} {base : Heap} (T : Tx K mg) : MkG P w K mg base 4 "Letters" (He.ga K "Letters") (sp_Letters_uinitu K) := ⟨_, T.g_Letters, T.mk_Letters, G_Lettersu_initu T⟩
theorem G_Lettersu_containsu {P : Program} {w : World} {K : PySem.W.Frag} {mg : Str → Option Value} {base : Heap} (T : Tx K mg) : FnR P w K mg base (L2.CX P w) 1 (He.ma K (He.ga K "Letters") "__contains__") (sp_Letters_ucontainsu K) :=
  fnR_of T.d_Lettersu_containsu sc_Lettersu_containsu (fun vs H Q E h => by
    obtain ⟨a, z, ws, rfl, ⟨dx, t, ha, ht, nd, hl, hw⟩, k⟩ := h
    rfl) (fun _ _ _ _ _ _ us hl => match us, hl with | [_, _], _ => rfl) fun cdv A outer s H vs Q E hr h => by
    obtain ⟨a, z, ws, rfl, ⟨dx, t, ha, ht, nd, hl, hw⟩, k⟩ := h
    have hu := hu_of hr
    refine ⟨_, (pss_one (ps_ret (pe_and (pe_callB call_isi rfl T.n_isinstance (by decide +kernel) (pa_cons (pv 1) (pa_cons (pe_bltn (v := .ty "str") (u := .type "str") rfl T.n_str (by decide +kernel) rfl) pa_nil))) (pe_one (pe_cmpR op_in_seq (pv 1) (pe_fld (pv 0) rfl) rfl))))), ?_⟩
    refine ⟨_, rfl, _, _, .type "str", .type "str", true, rfl, .ty _, .base (.str _), kit_ty (by decide +kernel), true, rfl, ifT rfl ?_⟩
    refine ⟨_, rfl, _, rfl, _, _, _, _, _, rfl, ha, T.cl_Letters, T.na_Letters_words, rfl, _, _, rfl, .inr (SqT.of ht), rfl, flatStrs ws, ?_⟩
    show Q (.bl (inV (.str z) (ws.map V.str))) H
    rw [inStr]
    exact k
theorem MG_Lettersu_containsu {P : Program} {w : World} {K : PySem.W.Frag} {mg : Str → Option Value} {base : Heap} (T : Tx K mg) : MtG P w K mg base 1 (He.ga K "Letters") "__contains__" (sp_Letters_ucontainsu K) := ⟨_, T.m_Lettersu_containsu, G_Lettersu_containsu T⟩
theorem G_Lettersu_lenu {P : Program} {w : World} {K : PySem.W.Frag} {mg : Str → Option Value} {base : Heap} (T : Tx K mg) : FnR P w K mg base (L2.CX P w) 1 (He.ma K (He.ga K "Letters") "__len__") (sp_Letters_ulenu K) :=
  fnR_of T.d_Lettersu_lenu sc_Lettersu_lenu (fun vs H Q E h => by
    obtain ⟨a, ws, rfl, ⟨dx, t, ha, ht, nd, hl, hw⟩, k⟩ := h
    rfl) (fun _ _ _ _ _ _ us hl => match us, hl with | [_], _ => rfl) fun cdv A outer s H vs Q E hr h => by
    obtain ⟨a, ws, rfl, ⟨dx, t, ha, ht, nd, hl, hw⟩, k⟩ := h
    have hu := hu_of hr
    refine ⟨_, (pss_one (ps_ret (pe_callB call_len_seq rfl T.n_len (by decide +kernel) (pa_cons (pe_fld (pv 0) rfl) pa_nil)))), ?_⟩
    refine ⟨_, rfl, _, _, _, _, _, rfl, ha, T.cl_Letters, T.na_Letters_words, rfl, _, _, rfl, .inr (SqT.of ht), ?_⟩
    show Q (.int ((ws.map V.str).length : Nat)) H
    rw [List.length_map]
    exact k
theorem MG_Lettersu_lenu {P : Program} {w : World} {K : PySem.W.Frag} {mg : Str → Option Value} {base : Heap} (T : Tx K mg) : MtG P w K mg base 1 (He.ga K "Letters") "__len__" (sp_Letters_ulenu K) := ⟨_, T.m_Lettersu_lenu, G_Lettersu_lenu T⟩
theorem G_Lettersu_equ {P : Program} {w : World} {K : PySem.W.Frag} {mg : Str → Option Value} {base : Heap} (T : Tx K mg) : FnR P w K mg base (L2.CX P w) 1 (He.ma K (He.ga K "Letters") "__eq__") (sp_Letters_uequ K) :=
  fnR_of T.d_Lettersu_equ sc_Lettersu_equ (fun vs H Q E h => by
    obtain ⟨a, b, ws, us, rfl, ⟨dx, t, ha, ht, nd, hl, hw⟩, ⟨dx2, t2, ha2, ht2, nd2, hl2, hw2⟩, k⟩ := h
    rfl) (fun _ _ _ _ _ _ us hl => match us, hl with | [_, _], _ => rfl) fun cdv A outer s H vs Q E hr h => by
    obtain ⟨a, b, ws, us, rfl, ⟨dx, t, ha, ht, nd, hl, hw⟩, ⟨dx2, t2, ha2, ht2, nd2, hl2, hw2⟩, k⟩ := h
    have hu := hu_of hr
    refine ⟨_, (pss_one (ps_ret (pe_and (pe_callB call_isi rfl T.n_isinstance (by decide +kernel) (pa_cons (pv 1) (pa_cons (pe_globR T.g_Letters rfl) pa_nil))) (pe_one (pe_cmpR (op_eqD hr.units) (pe_fld (pv 0) rfl) (pe_fld (pv 1) rfl) (nomark _)))))), ?_⟩
    refine ⟨_, rfl, _, _, _, _, true, rfl, .own _, tyIns T ha2 T.cl_Letters (T.exAt 7), of_decide_eq_true (T.exAt 5), true, rfl, ifT rfl ?_⟩
    refine ⟨_, rfl, _, _, _, _, _, rfl, ha, T.cl_Letters, T.na_Letters_words, rfl, _, rfl, _, _, _, _, _, rfl, ha2, T.cl_Letters, T.na_Letters_words, rfl, _, _, .tup (SqT.of ht) (dpStrs ws), .tup (SqT.of ht2) (dpStrs us), shapedStrs fun w h => (hw w h).ok, shapedStrs fun w h => (hw2 w h).ok, ?_⟩
    show Q (.bl (PyData.eqvAll (ws.map PyData.str) (us.map PyData.str))) H
    rw [eqvStrs]
    exact k
theorem MG_Lettersu_equ {P : Program} {w : World} {K : PySem.W.Frag} {mg : Str → Option Value} {base : Heap} (T : Tx K mg) : MtG P w K mg base 1 (He.ga K "Letters") "__eq__" (sp_Letters_uequ K) := ⟨_, T.m_Lettersu_equ, G_Lettersu_equ T⟩
end K5


namespace K5
open PySem PySem.Spec PyProof.Rows L2
def sp_is_state : Sp := fun vs H Q _ => ∃ i m : Int, vs = [.int i, .int m] ∧ Q (.bl (decide (0 ≤ i ∧ i < m))) H
def sp_need_same (K : PySem.W.Frag) : Sp := fun vs H Q E => ∃ (a b Ca Cb da db La Lb : Addr) (fa fb : List (Str × V)) (ws us : List Str), vs = [.ref a, .ref b] ∧ (H a = some (.ins Ca da fa) ∧ Cls K Ca ∧ NoAttr K Ca "letters" ∧ fa.lookup ("letters" : Str) = some (.ref La)) ∧
  (H b = some (.ins Cb db fb) ∧ Cls K Cb ∧ NoAttr K Cb "letters" ∧ fb.lookup ("letters" : Str) = some (.ref Lb)) ∧ LetO K H La ws ∧ LetO K H Lb us ∧ (ws = us → Q .non H) ∧ (ws ≠ us → E (.ref (CO K)) none H)
def sp_need_beginning : Sp := fun vs H Q _ => ∃ z : Str, vs = [.str z] ∧ (z = "new" ∨ z = "found") ∧ Q .non H
/-- the list of row dicts of a machine: at each state below n, each letter of ls leads to δ s z -/
def MovO (H : Hp) (m : Addr) (n : Nat) (ls : List Str) (δ : Nat → Str → Nat) : Prop := ∃ ds : List Addr, H m = some (.lst (ds.map V.ref)) ∧ ds.length = n ∧ ∀ i d, ds[i]? = some d → ∃ kvs : List (Key × V), H d = some (.dK kvs) ∧ ∀ z ∈ ls, valV kvs (.inr z) = some (.int (δ i z : Nat))
theorem MovO.same {H H' : Hp} {m : Addr} {n : Nat} {ls : List Str} {δ : Nat → Str → Nat} (h : MovO H m n ls δ) (s : Same H H') : MovO H' m n ls δ := by
  obtain ⟨ds, h1, h2, h3⟩ := h
  refine ⟨ds, s _ _ h1, h2, fun i d hd => ?_⟩
  obtain ⟨kvs, e1, e2⟩ := h3 i d hd
  exact ⟨kvs, s _ _ e1, e2⟩
def sp_moved : Sp := fun vs H Q _ => ∃ (m : Addr) (n : Nat) (ls : List Str) (δ : Nat → Str → Nat) (s : Nat) (z : Str), vs = [.ref m, .int (s : Nat), .str z] ∧ MovO H m n ls δ ∧ s < n ∧ z ∈ ls ∧ Q (.int (δ s z : Nat)) H
def itn (f : Nat → Nat) : Nat → Nat → Nat
  | 0, s => s
  | k + 1, s => itn f k (f s)
def sp_run_moved : Sp := fun vs H Q _ => ∃ (m : Addr) (n : Nat) (ls : List Str) (δ : Nat → Str → Nat) (s k : Nat) (z : Str), vs = [.ref m, .int (s : Nat), .str z, .int (k : Nat)] ∧ MovO H m n ls δ ∧ s < n ∧ z ∈ ls ∧ (∀ i, i < n → δ i z < n) ∧ k ≤ 1000 ∧
  ∀ H', Same H H' → Q (.int (itn (fun i => δ i z) k s : Nat)) H'
/-- a list or tuple of pairs -/
def RunA (H : Hp) (tr : List (Addr × (Str × Int))) : Prop := ∀ x ∈ tr, H x.1 = some (.tup [.str x.2.1, .int x.2.2])
def refA (tr : List (Addr × (Str × Int))) : List V := tr.map fun x => V.ref x.1
def walkR (δ : Nat → Str → Nat) : List (Str × Nat) → Nat → Nat
  | [], s => s
  | r :: rs, s => walkR δ rs (itn (fun i => δ i r.1) r.2 s)
def sp_runs_moved : Sp := fun vs H Q _ => ∃ (m t : Addr) (n : Nat) (ls : List Str) (δ : Nat → Str → Nat) (s : Nat) (tr : List (Addr × (Str × Int))) (rs : List (Str × Nat)), vs = [.ref m, .int (s : Nat), .ref t] ∧ MovO H m n ls δ ∧ s < n ∧ (∀ i, i < n → ∀ z ∈ ls, δ i z < n) ∧
  H t = some (.tup (refA tr)) ∧ RunA H tr ∧ tr.map (·.2) = rs.map (fun r => (r.1, (r.2 : Int))) ∧ (∀ r ∈ rs, r.1 ∈ ls ∧ r.2 ≤ 1000) ∧ ∀ H', Same H H' → Q (.int (walkR δ rs s : Nat)) H'
theorem raisesO {X : Cx} (h : PySem.W.subIn X.K (.ref (CO X.K)) (.type "BaseException") = some true ∧ PySem.W.typeIn X.K (.ref (CO X.K)) = some (.type "type")) : Raises X (.ref (CO X.K)) := raises_own h.1 h.2
theorem G_is_state {P : Program} {w : World} {K : PySem.W.Frag} {mg : Str → Option Value} {base : Heap} (T : Tx K mg) : FnG P w K mg base 2 "is_state" (sp_is_state) :=
  fnG_of T.g_is_state T.d_is_state sc_is_state (fun vs H Q E h => by
    obtain ⟨i, m, rfl, k⟩ := h
    rfl) (fun _ _ _ _ _ _ us hl => match us, hl with | [_, _], _ => rfl) fun cdv A outer s H vs Q E hr h => by
    obtain ⟨i, m, rfl, k⟩ := h
    have hu := hu_of hr
    refine ⟨_, (pss_one (ps_ret (pe_and (pe_callG (G_is_integer T) (hr.mono (by decide)) rfl passL (pa_cons (pv 0) pa_nil)) (pe_one (pe_chain op_le op_lt pe_int (pv 0) (pv 1)))))), ?_⟩
    refine ⟨_, rfl, i, rfl, true, rfl, ifT rfl ⟨_, rfl, _, _, rfl, rfl, _, rfl, ite2 (fun h => ⟨_, rfl, _, _, rfl, rfl, ?_⟩) (fun h => ?_)⟩⟩
    · have h0 : (0 : Int) ≤ i := of_decide_eq_true h
      show Q (.bl (decide (i < m))) H
      have e : decide (i < m) = decide (0 ≤ i ∧ i < m) := by simp [h0]
      rw [e]
      exact k
    · have h0 : ¬ (0 : Int) ≤ i := fun q => h (decide_eq_true q)
      have e : decide (0 ≤ i ∧ i < m) = false := dF fun q => h0 q.1
      rw [e] at k
      exact k
theorem G_need_beginning {P : Program} {w : World} {K : PySem.W.Frag} {mg : Str → Option Value} {base : Heap} (T : Tx K mg) : FnG P w K mg base 2 "need_beginning" (sp_need_beginning) :=
  fnG_of T.g_need_beginning T.d_need_beginning sc_need_beginning (fun vs H Q E h => by
    obtain ⟨z, rfl, hz, k⟩ := h
    rfl) (fun _ _ _ _ _ _ us hl => match us, hl with | [_], _ => rfl) fun cdv A outer s H vs Q E hr h => by
    obtain ⟨z, rfl, hz, k⟩ := h
    have hu := hu_of hr
    refine ⟨_, (pss_one (ps_if (pt_not (pt_val (pe_callG (G_is_beginning T) (hr.mono (by decide)) rfl passL (pa_cons (pv 0) pa_nil)))) (pss_one ps_never) pss_nil)), ?_⟩
    refine ⟨_, rfl, z, rfl, true, ?_, ifF rfl k⟩
    rw [dT hz]
theorem G_need_same {P : Program} {w : World} {K : PySem.W.Frag} {mg : Str → Option Value} {base : Heap} (T : Tx K mg) : FnG P w K mg base 3 "need_same" (sp_need_same K) :=
  fnG_of T.g_need_same T.d_need_same sc_need_same (fun vs H Q E h => by
    obtain ⟨a, b, Ca, Cb, da, db, La, Lb, fa, fb, ws, us, rfl, ⟨ha, ca, na, la⟩, ⟨hb, cb, nb, lb⟩, oa, ob, k1, k2⟩ := h
    rfl) (fun _ _ _ _ _ _ us hl => match us, hl with | [_, _], _ => rfl) fun cdv A outer s H vs Q E hr h => by
    obtain ⟨a, b, Ca, Cb, da, db, La, Lb, fa, fb, ws, us, rfl, ⟨ha, ca, na, la⟩, ⟨hb, cb, nb, lb⟩, oa, ob, k1, k2⟩ := h
    have hu := hu_of hr
    refine ⟨_, (pss_one (ps_if (pt_cmpR (op_neOwn ⟨_, T.exAt 1, T.m_Lettersu_equ.fn, G_Lettersu_equ T⟩ hr passL) (pe_fld (pv 0) rfl) (pe_fld (pv 1) rfl) (nomark _)) (pss_one (ps_raise rfl (takes_of rfl rfl rfl rfl) (pmk_own0 PySem.F.excBase_ValueError T.exc.1 T.g_OtherLetters T.exc.2.1 (raisesO T.exc.2.2) rfl))) pss_nil)), ?_⟩
    refine ⟨_, rfl, _, _, _, _, _, rfl, ha, ca, na, la, _, rfl, _, _, _, _, _, rfl, hb, cb, nb, lb, ?_⟩
    obtain ⟨dx, t, e1, _⟩ := id oa
    obtain ⟨dx2, t2, e2, _⟩ := id ob
    refine ⟨_, _, _, _, _, _, rfl, rfl, e1, e2, La, Lb, ws, us, rfl, oa, ob, _, rfl, _, rfl, ?_⟩
    by_cases h : ws = us
    · exact ifF (notf (dT h)) (k1 h)
    · exact ifT (nott (dF h)) (k2 h)
theorem G_moved {P : Program} {w : World} {K : PySem.W.Frag} {mg : Str → Option Value} {base : Heap} (T : Tx K mg) : FnG P w K mg base 1 "moved" (sp_moved) :=
  fnG_of T.g_moved T.d_moved sc_moved (fun vs H Q E h => by
    obtain ⟨m, n, ls, δ, s, z, rfl, ⟨ds, h1, h2, h3⟩, hs, hz, k⟩ := h
    rfl) (fun _ _ _ _ _ _ us hl => match us, hl with | [_, _, _], _ => rfl) fun cdv A outer s H vs Q E hr h => by
    obtain ⟨m, n, ls, δ, s, z, rfl, ⟨ds, h1, h2, h3⟩, hs, hz, k⟩ := h
    have hu := hu_of hr
    refine ⟨_, (pss_one (ps_ret (pe_ifExp (pt_cmpR op_ge (pv 1) pe_int (nomark _)) (pe_dget2 hu (pe_ix ix_list (pv 0) (pv 1) (fun _ _ => rfl)) (pv 2) (pe_un un_neg pe_int) ⟨rfl, rfl, rfl, rfl⟩) (pe_un un_neg pe_int)))), ?_⟩
    have hd : ds[s]? = some ds[s] := List.getElem?_eq_getElem (by omega)
    obtain ⟨kvs, e1, e2⟩ := h3 s _ hd
    have hd2 : (ds.map V.ref)[s]? = some (.ref ds[s]) := by rw [List.getElem?_map, hd]; rfl
    refine ⟨_, rfl, _, _, rfl, rfl, _, rfl, ifT (dT (Int.natCast_nonneg s)) ⟨_, rfl, _, rfl, _, _, _, _, rfl, rfl, SqL.of h1, atI_nat hd2, _, rfl, .inl ⟨kvs, .inl e1⟩, _, rfl, _, rfl, _, DGet.k (k := .inr z) e1, ?_⟩⟩
    rw [e2 z hz]
    exact k
theorem putK_len {κ : Type} [DecidableEq κ] (kvs : List (κ × V)) (k : κ) (v : V) : (putK kvs k v).length ≤ kvs.length + 1 := by
  unfold putK
  split
  · rw [List.length_map]; exact Nat.le_succ _
  · rw [List.length_append]; exact Nat.le_refl _
theorem itn_add (f : Nat → Nat) (b : Nat) : ∀ a s, itn f (a + b) s = itn f b (itn f a s)
  | 0, s => by rw [Nat.zero_add]; rfl
  | a + 1, s => by
    rw [Nat.succ_add]
    exact itn_add f b a (f s)
theorem itn_succ (f : Nat → Nat) (k s : Nat) : itn f (k + 1) s = f (itn f k s) := itn_add f 1 k s
theorem itn_lt {f : Nat → Nat} {n : Nat} (h : ∀ i, i < n → f i < n) : ∀ k s, s < n → itn f k s < n
  | 0, _, hs => hs
  | k + 1, s, hs => itn_lt h k (f s) (h s hs)
theorem itn_mul {f : Nat → Nat} {p x : Nat} (h : itn f p x = x) : ∀ q, itn f (p * q) x = x
  | 0 => rfl
  | q + 1 => by rw [Nat.mul_succ, itn_add, itn_mul h q, h]
theorem itn_cycle {f : Nat → Nat} {s i j m : Nat} (hij : i < j) (h : itn f i s = itn f j s) : itn f (j + m) s = itn f (i + m % (j - i)) s := by
  have hp : itn f (j - i) (itn f i s) = itn f i s := by
    rw [← itn_add, show i + (j - i) = j by omega, h]
  have e : itn f (j + m) s = itn f m (itn f i s) := by rw [itn_add, h]
  have e2 : itn f (i + m % (j - i)) s = itn f (m % (j - i)) (itn f i s) := by rw [itn_add]
  have e3 : itn f m (itn f i s) = itn f (m % (j - i)) (itn f ((j - i) * (m / (j - i))) (itn f i s)) := by
    calc itn f m (itn f i s) = itn f ((j - i) * (m / (j - i)) + m % (j - i)) (itn f i s) := by rw [Nat.div_add_mod]
      _ = _ := itn_add _ _ _ _
  rw [e, e2, e3, itn_mul hp]
theorem fmod_nat (a b : Nat) : (a : Int).fmod (b : Int) = ((a % b : Nat) : Int) := by
  rw [Int.fmod_eq_emod_of_nonneg _ (Int.natCast_nonneg b)]
  rfl
theorem G_run_moved {P : Program} {w : World} {K : PySem.W.Frag} {mg : Str → Option Value} {base : Heap} (T : Tx K mg) : FnG P w K mg base 2 "run_moved" (sp_run_moved) :=
  fnG_of T.g_run_moved T.d_run_moved sc_run_moved (fun vs H Q E h => by
    obtain ⟨m, n, ls, δ, s, k, z, rfl, hm, hs, hz, hd, hk, q⟩ := h
    rfl) (fun _ _ _ _ _ _ us hl => match us, hl with | [_, _, _, _], _ => rfl) fun cdv A outer s H vs Q E hr h => by
    obtain ⟨m, n, ls, δ, s, k, z, rfl, hm, hs, hz, hd, hk, q⟩ := h
    have hu := hu_of hr
    refine ⟨_, (pss_cons (ps_set (i := 4) sc_run_moved.nd rfl (by first | exact Or.inl rfl | exact Or.inr rfl) (pe_lst pa_nil))
      (pss_cons (ps_set (i := 5) sc_run_moved.nd rfl (by first | exact Or.inl rfl | exact Or.inr rfl) pe_dnewK)
      (pss_cons (ps_set (i := 6) sc_run_moved.nd rfl (by first | exact Or.inl rfl | exact Or.inr rfl) (pv 1))
      (pss_cons (ps_set (i := 7) sc_run_moved.nd rfl (by first | exact Or.inl rfl | exact Or.inr rfl) (pv 3))
      (pss_cons (ps_while (passes_of rfl) (PW.pt (pw_and (pt_cmpR op_ge (pv 6) pe_int (nomark _)) (pw_and (pt_cmpR op_gt (pv 7) pe_int (nomark _)) (pw_and1 (pt_cmp (pc_dnotin hu (pv 6) (pv 5))))))) (pss_cons (ps_dput hu (pv 5) (pv 6) (pe_callB call_len_seq rfl T.n_len (by decide +kernel) (pa_cons (pv 4) pa_nil)) rfl)
        (pss_cons (ps_expr (pe_bm PySem.F.plainAttrs_list PySem.F.slot_list_append PySem.F.type_list_append mt_append (pv 4) (pa_cons (pv 6) pa_nil)))
        (pss_cons (ps_set (i := 6) sc_run_moved.nd rfl (by first | exact Or.inl rfl | exact Or.inr rfl) (pe_callG (G_moved T) (hr.mono (by decide)) rfl passL (pa_cons (pv 0) (pa_cons (pv 6) (pa_cons (pv 2) pa_nil)))))
        (pss_one (ps_set (i := 7) sc_run_moved.nd rfl (by first | exact Or.inl rfl | exact Or.inr rfl) (pe_op op_sub (pv 7) pe_int)))))))
      (pss_cons (ps_if (PW.pt (pw_or (pt_cmpR op_lt (pv 6) pe_int (nomark _)) (pw_or1 (pt_cmpR op_eq (pv 7) pe_int (nomark _))))) (pss_one (ps_ret (pv 6))) pss_nil)
      (pss_cons (ps_set (i := 8) sc_run_moved.nd rfl (by first | exact Or.inl rfl | exact Or.inr rfl) (pe_dget hu (pv 5) (pv 6) (fun _ _ => rfl)))
      (pss_one (ps_ret (pe_ix ix_list (pv 4) (pe_op op_add (pv 8) (pe_op op_modN (pv 7) (pe_op op_sub (pe_callB call_len_seq rfl T.n_len (by decide +kernel) (pa_cons (pv 4) pa_nil)) (pv 8)))) (fun _ _ => rfl))))))))))), ?_⟩
    generalize hf : (fun i => δ i z) = f at *
    have hf' : ∀ i, δ i z = f i := fun i => by rw [← hf]
    have hfn : ∀ i, i < n → f i < n := fun i hi => by rw [← hf']; exact hd i hi
    refine ⟨Nat.zero_le _, fun l hl p hp => ⟨_, rfl, _, rfl, fun r σ H1 => ∃ (j : Nat) (kvs : List (Key × V)) (v8 : Option V), j + r = k ∧ σ = [some (.ref m), some (.int (s : Nat)), some (.str z), some (.int (k : Nat)), some (.ref l), some (.ref p), some (.int (itn f j s : Nat)), some (.int (r : Nat)), v8] ∧ Same H H1 ∧ H1 l = some (.lst ((List.range j).map fun i => V.int (itn f i s : Nat))) ∧ H1 p = some (.dK kvs) ∧ kvs.length ≤ j ∧ (∀ i, i < j → valV kvs (.inl (itn f i s : Nat)) = some (.int (i : Nat))) ∧ ∀ x v, valV kvs (.inl x) = some v → ∃ i, i < j ∧ x = (itn f i s : Nat), ⟨k, 0, [], none, Nat.zero_add k, rfl, ?_, ?_, ?_, Nat.le_refl _, fun i hi => absurd hi (Nat.not_lt_zero i), fun x v e => by rw [valV_nil] at e; cases e⟩, ?_⟩⟩
    have lp : l ≠ p := fun e => by rw [e, upd_same] at hp; cases hp
    · exact Same.up2 (Same.up1 hl) (by rw [upd_ne (Ne.symm lp)] at hp; exact hp)
    have lp : l ≠ p := fun e => by rw [e, upd_same] at hp; cases hp
    · rw [upd_ne lp, upd_same]; rfl
    · exact upd_same
    have lp : l ≠ p := fun e => by rw [e, upd_same] at hp; cases hp
    have hp0 : H p = none := by rw [upd_ne (Ne.symm lp)] at hp; exact hp
    rintro r σ H1 ⟨j, kvs, v8, hjr, rfl, s1, e1, e2, hkl, ha, hb⟩
    have hlen : ((List.range j).map fun i => V.int (itn f i s : Nat)).length = j := by rw [List.length_map, List.length_range]
    have hin : ∀ i, i < j → ((List.range j).map fun i => V.int (itn f i s : Nat))[i]? = some (V.int (itn f i s : Nat)) := fun i hi => by rw [List.getElem?_map, List.getElem?_range hi]; rfl
    refine ⟨_, rfl, _, _, rfl, rfl, _, rfl, ifT (dT (Int.natCast_nonneg _)) ⟨_, rfl, _, _, rfl, rfl, _, rfl, ?_⟩⟩
    by_cases h0 : r = 0
    · subst h0
      refine ifF (dF (by omega)) (ifF rfl ⟨_, rfl, _, _, rfl, rfl, _, rfl, ifF (dF (by omega)) ⟨_, rfl, rfl, _, rfl, ifT (dT rfl) ⟨_, rfl, ?_⟩⟩⟩)
      have ejk : j = k := hjr
      rw [ejk]
      exact q _ s1
    · refine ifT (dT (by omega)) ⟨_, rfl, _, rfl, p, valV kvs (.inl (itn f j s : Nat)), rfl, DGet.k (k := .inl _) e2, _, rfl, ?_⟩
      cases hv : valV kvs (.inl (itn f j s : Nat)) with
      | some v =>
        obtain ⟨i0, hi0, ex⟩ := hb _ _ hv
        have ex2 : itn f i0 s = itn f j s := (Int.ofNat.inj ex).symm
        have hv2 : v = .int (i0 : Nat) := by
          have := ha i0 hi0
          rw [ex2, hv] at this
          exact Option.some.inj this
        subst hv2
        refine ifF rfl ⟨_, rfl, _, _, rfl, rfl, _, rfl, ifF (dF (by omega)) ⟨_, rfl, rfl, _, rfl, ifF (dF (fun e => by have := V.int.inj e; omega)) ⟨_, rfl, _, rfl, _, .int (i0 : Nat), rfl, ?_, _, rfl, _, rfl, _, rfl, _, rfl, _, _, rfl, .inl (SqL.of e1), _, rfl, _, _, rfl, rfl, _, _, rfl, rfl, ?_, _, _, rfl, rfl, _, _, _, _, rfl, rfl, SqL.of e1, ?_, q _ s1⟩⟩⟩
        · rw [← hv]; exact DGet.k (k := .inl _) e2
        · rw [hlen]; omega
        · rw [hlen]
          have e3 : ((j : Nat) : Int) - ((i0 : Nat) : Int) = ((j - i0 : Nat) : Int) := by omega
          have hmod : r % (j - i0) < j - i0 := Nat.mod_lt _ (by omega)
          rw [e3, fmod_nat]
          have e4 : ((i0 : Nat) : Int) + ((r % (j - i0) : Nat) : Int) = ((i0 + r % (j - i0) : Nat) : Int) := by omega
          rw [e4]
          have e5 := hin (i0 + r % (j - i0)) (by omega)
          rw [← itn_cycle hi0 ex2, hjr] at e5
          exact atI_nat e5
      | none =>
        obtain ⟨r', rfl⟩ : ∃ r', r = r' + 1 := ⟨r - 1, by omega⟩
        have hsz : j < sizeLine := Nat.lt_of_lt_of_le (show j < 1001 by omega) (Nat.le_of_ble_eq_true rfl)
        have lp1 : H1 l ≠ none := by rw [e1]; exact fun z => by cases z
        refine ifT rfl ⟨_, fun σ' H' h => ⟨r', Nat.lt_succ_self _, h⟩, ?_⟩
        refine ⟨_, rfl, _, _, rfl, .inl (SqL.of e1), _, rfl, _, rfl, _, _, rfl, DPut.k (k := .inl _) e2 (Nat.lt_of_le_of_lt hkl hsz), _, rfl, .inl ⟨rfl, _, SqL.of (by rw [upd_ne lp]; exact e1)⟩, _, rfl, _, _, _, rfl, rfl, by rw [upd_ne lp]; exact e1, by rw [hlen]; exact hsz, ?_⟩
        have s2 : Same H (upd (upd H1 p (.dK (putK kvs (.inl (itn f j s : Nat)) (.int (((List.range j).map fun i => V.int (itn f i s : Nat)).length : Nat))))) l (.lst (((List.range j).map fun i => V.int (itn f i s : Nat)) ++ [.int (itn f j s : Nat)]))) := Same.up2 (Same.up2 s1 hp0) hl
        refine ⟨_, rfl, _, rfl, _, rfl, m, n, ls, δ, itn f j s, z, rfl, MovO.same hm s2, itn_lt hfn j s hs, hz, _, rfl, _, _, rfl, rfl, j + 1, _, v8, by omega, ?_, s2, ?_, by rw [upd_ne (Ne.symm lp), upd_same], ?_, ?_, ?_⟩
        · rw [itn_succ, hf']
          have e3 : ((r' + 1 : Nat) : Int) - 1 = (r' : Int) := by omega
          rw [← e3]
          rfl
        · rw [upd_same, List.range_succ, List.map_append]
          rfl
        · exact Nat.le_trans (putK_len _ _ _) (Nat.succ_le_succ hkl)
        · intro i hi
          rw [valV_put]
          by_cases hij : i = j
          · rw [hij, if_pos rfl, hlen]
          · have hlt : i < j := by omega
            have hne : ¬ ((.inl ((itn f i s : Nat) : Int) : Key) = .inl ((itn f j s : Nat) : Int)) := fun e => by
              have e6 := ha i hlt
              rw [e, hv] at e6
              cases e6
            rw [if_neg hne]
            exact ha i hlt
        · intro x v e
          rw [valV_put] at e
          by_cases hx : (.inl x : Key) = .inl ((itn f j s : Nat) : Int)
          · exact ⟨j, Nat.lt_succ_self _, Sum.inl.inj hx⟩
          · rw [if_neg hx] at e
            obtain ⟨i, hi, ei⟩ := hb x v e
            exact ⟨i, Nat.lt_succ_of_lt hi, ei⟩
theorem G_runs_moved {P : Program} {w : World} {K : PySem.W.Frag} {mg : Str → Option Value} {base : Heap} (T : Tx K mg) : FnG P w K mg base 3 "runs_moved" (sp_runs_moved) :=
  fnG_of T.g_runs_moved T.d_runs_moved sc_runs_moved (fun vs H Q E h => by
    obtain ⟨m, t, n, ls, δ, s, tr, rs, rfl, hm, hs, hd, ht, ha, hr2, hq, q⟩ := h
    rfl) (fun _ _ _ _ _ _ us hl => match us, hl with | [_, _, _], _ => rfl) fun cdv A outer s H vs Q E hr h => by
    obtain ⟨m, t, n, ls, δ, s, tr, rs, rfl, hm, hs, hd, ht, ha, hr2, hq, q⟩ := h
    have hu := hu_of hr
    refine ⟨_, (pss_cons (ps_set (i := 3) sc_runs_moved.nd rfl (by first | exact Or.inl rfl | exact Or.inr rfl) (pv 1))
      (pss_cons (ps_for (passes_of rfl) rfl (pi_tup (pv 2)) (pg_tup rfl (pgs_cons (pg_name (i := 4) sc_runs_moved.nd rfl (by first | exact Or.inl rfl | exact Or.inr rfl)) (pgs_cons (pg_name (i := 5) sc_runs_moved.nd rfl (by first | exact Or.inl rfl | exact Or.inr rfl)) pgs_nil))) (pss_one (ps_set (i := 3) sc_runs_moved.nd rfl (by first | exact Or.inl rfl | exact Or.inr rfl) (pe_callG (G_run_moved T) (hr.mono (by decide)) rfl passL (pa_cons (pv 0) (pa_cons (pv 3) (pa_cons (pv 4) (pa_cons (pv 5) pa_nil))))))))
      (pss_one (ps_ret (pv 3))))), ?_⟩
    have hlen : tr.length = rs.length := by
      have := congrArg List.length hr2
      simpa using this
    refine ⟨_, rfl, _, rfl, t, rfl, ⟨_, SqT.of ht⟩, for_it (walk_tup (xs := refA tr)) (fun i σ H1 => Same H H1 ∧ ∃ v4 v5, σ = [some (.ref m), some (.int (s : Nat)), some (.ref t), some (.int (walkR δ (rs.take i) s : Nat)), v4, v5]) ⟨Same.refl H, _, _, rfl⟩ (fun i σ H1 _ h => Same.seqT h.1 ht) ?_ ?_⟩
    · rintro i x σ H1 H2 hi ⟨s1, v4, v5, rfl⟩ ⟨rfl, hx⟩
      obtain ⟨y, hy, rfl⟩ := map_get hx
      have hmem := List.mem_of_getElem? hy
      have hri : i < rs.length := by rw [← hlen]; exact (List.getElem?_eq_some_iff.mp hy).1
      have hrg : rs[i]? = some rs[i] := List.getElem?_eq_getElem hri
      obtain ⟨h1, h2⟩ := hq _ (List.mem_of_getElem? hrg)
      have e1 : y.2 = ((rs[i]).1, ((rs[i]).2 : Int)) := by
        have e : (tr.map (·.2))[i]? = (rs.map (fun r => (r.1, (r.2 : Int))))[i]? := by rw [hr2]
        rw [List.getElem?_map, List.getElem?_map, hy, hrg] at e
        exact Option.some.inj e
      have e2 := ha y hmem
      rw [e1] at e2
      have hlt : ∀ k, walkR δ (rs.take k) s < n := by
        have : ∀ (l : List (Str × Nat)), (∀ r ∈ l, r.1 ∈ ls) → ∀ s, s < n → walkR δ l s < n := by
          intro l
          induction l with
          | nil => intro _ s h; exact h
          | cons r l ih => intro h s hs; exact ih (fun r hr => h r (List.mem_cons_of_mem _ hr)) _ (itn_lt (fun i hi => hd i hi _ (h r (List.mem_cons_self ..))) _ _ hs)
        exact fun k => this _ (fun r hr => (hq r (List.mem_of_mem_take hr)).1) s hs
      have e3 : walkR δ (rs.take (i + 1)) s = itn (fun j => δ j (rs[i]).1) (rs[i]).2 (walkR δ (rs.take i) s) := by
        have app : ∀ (l l' : List (Str × Nat)) s, walkR δ (l ++ l') s = walkR δ l' (walkR δ l s) := by
          intro l
          induction l with
          | nil => intros; rfl
          | cons r l ih => intro l' s; exact ih l' _
        rw [List.take_succ_eq_append_getElem hri, app]
        rfl
      refine ⟨_, _, rfl, SqT.of (s1 _ _ e2), rfl, _, _, rfl, _, _, rfl, rfl, ?_⟩
      refine ⟨_, rfl, _, rfl, _, rfl, _, rfl, m, n, ls, δ, _, _, _, rfl, MovO.same hm s1, hlt i, h1, fun j hj => hd j hj _ h1, h2, fun H3 s3 => ⟨Same.trans s1 s3, some (.str (rs[i]).1), some (.int ((rs[i]).2 : Int)), by rw [e3]; rfl⟩⟩
    · rintro σ H1 ⟨s1, v4, v5, rfl⟩
      refine ⟨_, rfl, ?_⟩
      have e : (refA tr).length = rs.length := by rw [← hlen]; exact List.length_map _
      rw [e, List.take_length]
      exact q _ s1
end K5


namespace K5
open PySem PySem.Spec PyProof.Rows L2
def joinS (f : List (Str × Int)) (r : Str × Int) : List (Str × Int) := match f.getLast? with
  | some q => if q.1 = r.1 then f.dropLast ++ [(r.1, q.2 + r.2)] else f ++ [r]
  | none => f ++ [r]
def joinR (rs : List (Str × Int)) : List (Str × Int) := rs.foldl joinS []
theorem joinR_snoc (rs : List (Str × Int)) (r : Str × Int) : joinR (rs ++ [r]) = joinS (joinR rs) r := by
  unfold joinR
  rw [List.foldl_append]
  rfl
/-- a History at h -/
def HisO (K : PySem.W.Frag) (H : Hp) (h L : Addr) (b : Str) (rs : List (Str × Int)) : Prop := ∃ (dx t : Addr) (tr : List (Addr × (Str × Int))) (sz : Int) (la : Str),
  H h = some (.ins (CH K) dx [("letters", .ref L), ("beginning", .str b), ("runs", .ref t), ("size", .int sz), ("last", .str la)]) ∧ H t = some (.tup (refA tr)) ∧ RunA H tr ∧ tr.map (·.2) = rs ∧ ∀ x ∈ tr, PyData.strOk x.2.1 = true
def sp_need_runs (K : PySem.W.Frag) : Sp := fun vs H Q _ => ∃ L t, vs = [.ref L, .ref t] ∧ H t = some (.tup []) ∧ ∀ H', Same H H' → Q .non H'
def sp_join_runs : Sp := fun vs H Q _ => ∃ (l : Addr) (tr : List (Addr × (Str × Int))), vs = [.ref l] ∧ H l = some (.lst (refA tr)) ∧ RunA H tr ∧ tr.length ≤ 1000 ∧ (∀ x ∈ tr, PyData.strOk x.2.1 = true) ∧
  ∀ H' t tr', Same H H' → H' t = some (.tup (refA tr')) → RunA H' tr' → tr'.map (·.2) = joinR (tr.map (·.2)) → tr'.length ≤ tr.length → (∀ x ∈ tr', PyData.strOk x.2.1 = true) → Q (.ref t) H'
theorem dpRuns {K : PySem.W.Frag} {H : Hp} : ∀ tr : List (Addr × (Str × Int)), RunA H tr → DpAll K H (refA tr) ((tr.map (·.2)).map dRun)
  | [], _ => .nil
  | x :: tr, h => .cons (.tup (SqT.of (h x (List.mem_cons_self ..))) (.cons (.str _) (.cons (.int _) .nil))) (dpRuns tr fun y hy => h y (List.mem_cons_of_mem _ hy))
theorem shapedRunL {ws : List (Str × Int)} (h : ∀ w ∈ ws, PyData.strOk w.1 = true) : SeqAt.shaped (.list (ws.map dRun)) = true := shapedRuns h
theorem ixm1 {α : Type} {xs : List α} {x : α} : atI (xs ++ [x]) (-1) = some x := by
  have e : ixN (xs ++ [x]).length (-1) = some xs.length := by
    unfold ixN
    rw [List.length_append]
    simp
    constructor <;> omega
  unfold atI
  rw [e]
  simp
theorem ixNm1 {n : Nat} : ixN (n + 1) (-1) = some n := by
  unfold ixN
  simp
  constructor <;> omega
theorem G_need_runs {P : Program} {w : World} {K : PySem.W.Frag} {mg : Str → Option Value} {base : Heap} (T : Tx K mg) : FnG P w K mg base 2 "need_runs" (sp_need_runs K) :=
  fnG_of T.g_need_runs T.d_need_runs sc_need_runs (fun vs H Q E h => by
    obtain ⟨L, t, rfl, ht, k⟩ := h
    rfl) (fun _ _ _ _ _ _ us hl => match us, hl with | [_, _], _ => rfl) fun cdv A outer s H vs Q E hr h => by
    obtain ⟨L, t, rfl, ht, k⟩ := h
    have hu := hu_of hr
    refine ⟨_, (pss_one (ps_for (passes_of rfl) rfl (pi_enumA rfl T.n_enumerate (pa_cons (pv 1) pa_nil)) (pg_tup rfl (pgs_cons (pg_name (i := 2) sc_need_runs.nd rfl (by first | exact Or.inl rfl | exact Or.inr rfl)) (pgs_cons (pg_name (i := 3) sc_need_runs.nd rfl (by first | exact Or.inl rfl | exact Or.inr rfl)) pgs_nil))) (pss_cons (ps_if (PW.pt (pw_or (pt_not (pt_val (pe_callG (G_is_list T) (hr.mono (by decide)) rfl passL (pa_cons (pv 3) pa_nil)))) (pw_or1 (pt_cmpR op_ne (pe_callB call_len_seq rfl T.n_len (by decide +kernel) (pa_cons (pv 3) pa_nil)) pe_int (nomark _))))) (pss_one ps_never) pss_nil)
        (pss_cons (ps_if (pt_cmpR (op_notinOwn (MG_Lettersu_containsu T) (hr.mono (by decide)) passL) (pe_ix ix_tup (pv 3) pe_int (fun _ _ => rfl)) (pv 0) rfl) (pss_one ps_never) pss_nil)
        (pss_one (ps_if (PW.pt (pw_or (pt_not (pt_val (pe_callG (G_is_integer T) (hr.mono (by decide)) rfl passL (pa_cons (pe_ix ix_tup (pv 3) pe_int (fun _ _ => rfl)) pa_nil)))) (pw_or1 (pt_not (pt_chain op_le op_le pe_int (pe_ix ix_tup (pv 3) pe_int (fun _ _ => rfl)) (pe_globI T.c_MOST_COUNT rfl)))))) (pss_one ps_never) pss_nil)))))), ?_⟩
    refine ⟨_, rfl, _, _, rfl, .inr ⟨SqT.of ht, for_it walk_enumT (fun i σ H1 => H1 = H) rfl (fun i σ H1 _ e => e ▸ SqT.of ht) ?_ ?_⟩⟩
    · rintro i x σ H1 H2 hi _ _
      exact absurd hi (Nat.not_lt_zero i)
    · rintro σ H1 rfl
      exact k _ (Same.refl _)
theorem G_join_runs {P : Program} {w : World} {K : PySem.W.Frag} {mg : Str → Option Value} {base : Heap} (T : Tx K mg) : FnG P w K mg base 1 "join_runs" (sp_join_runs) :=
  fnG_of T.g_join_runs T.d_join_runs sc_join_runs (fun vs H Q E h => by
    obtain ⟨l, tr, rfl, hl, ha, hlen, hok, q⟩ := h
    rfl) (fun _ _ _ _ _ _ us hl => match us, hl with | [_], _ => rfl) fun cdv A outer s H vs Q E hr h => by
    obtain ⟨l, tr, rfl, hl, ha, hlen, hok, q⟩ := h
    have hu := hu_of hr
    refine ⟨_, (pss_cons (ps_set (i := 1) sc_join_runs.nd rfl (by first | exact Or.inl rfl | exact Or.inr rfl) (pe_lst pa_nil))
      (pss_cons (ps_for (passes_of rfl) rfl (pi_list (pv 0)) (pg_tup rfl (pgs_cons (pg_name (i := 2) sc_join_runs.nd rfl (by first | exact Or.inl rfl | exact Or.inr rfl)) (pgs_cons (pg_name (i := 3) sc_join_runs.nd rfl (by first | exact Or.inl rfl | exact Or.inr rfl)) pgs_nil))) (pss_one (ps_if (PW.pt (pw_and (pt_cmpR (op_neD hr.units) (pv 1) (pe_lst pa_nil) (nomark _)) (pw_and1 (pt_cmpR op_eq (pe_ix ix_tup (pe_ix ix_list (pv 1) (pe_un un_neg pe_int) (fun _ _ => rfl)) pe_int (fun _ _ => rfl)) (pv 2) (nomark _))))) (pss_one (ps_asg (pe_tup (pa_cons (pv 2) (pa_cons (pe_op op_add (pe_ix ix_tup (pe_ix ix_list (pv 1) (pe_un un_neg pe_int) (fun _ _ => rfl)) pe_int (fun _ _ => rfl)) (pv 3)) pa_nil))) (pg_sub (pv 1) (pe_un un_neg pe_int) set_list))) (pss_one (ps_expr (pe_bm PySem.F.plainAttrs_list PySem.F.slot_list_append PySem.F.type_list_append mt_append (pv 1) (pa_cons (pe_tup (pa_cons (pv 2) (pa_cons (pv 3) pa_nil))) pa_nil)))))))
      (pss_one (ps_ret (pe_callTy call_tuple_of rfl T.n_tuple (by decide +kernel) (pa_cons (pv 1) pa_nil)))))), ?_⟩
    refine ⟨Nat.zero_le _, fun f hf => ⟨_, rfl, l, rfl, ⟨refA tr, SqL.of (by rw [upd_ne (ne_of_none hl hf)]; exact hl)⟩, for_it (walk_list (xs := refA tr)) (fun i σ H1 => Same H H1 ∧ ∃ tr' v2 v3, σ = [some (.ref l), some (.ref f), v2, v3] ∧ H1 f = some (.lst (refA tr')) ∧ RunA H1 tr' ∧ tr'.map (·.2) = joinR ((tr.take i).map (·.2)) ∧ tr'.length ≤ i ∧ ∀ x ∈ tr', PyData.strOk x.2.1 = true) ⟨Same.up1 hf, [], _, _, rfl, upd_same, (fun x hx => by cases hx), rfl, Nat.le_refl _, fun x hx => by cases hx⟩ (fun i σ H1 _ h => Same.seqL h.1 hl) ?_ ?_⟩⟩
    · rintro i x σ H1 H2 hi ⟨s1, tr', v2, v3, rfl, hf1, hr1, ej, htl, hok2⟩ ⟨rfl, hx⟩
      obtain ⟨y, hy, rfl⟩ := map_get hx
      have hmem := List.mem_of_getElem? hy
      have hri : i < tr.length := (List.getElem?_eq_some_iff.mp hy).1
      have e2 := s1 _ _ (ha y hmem)
      have hj : joinR ((tr.take (i + 1)).map (·.2)) = joinS (joinR ((tr.take i).map (·.2))) y.2 := by
        rw [List.take_succ_eq_append_getElem hri, List.map_append]
        have e : tr[i] = y := by
          have := List.getElem?_eq_getElem hri
          rw [hy] at this
          exact (Option.some.inj this).symm
        rw [e]
        exact joinR_snoc _ _
      have hsz : i < sizeLine := Nat.lt_of_lt_of_le (show i < 1001 by omega) (Nat.le_of_ble_eq_true rfl)
      refine ⟨_, _, rfl, SqT.of e2, rfl, _, _, rfl, _, _, rfl, rfl, ?_⟩
      refine ⟨_, rfl, Nat.zero_le _, fun p hp => ?_⟩
      have e4 : upd H2 p (.lst []) f = some (.lst (refA tr')) := by rw [upd_ne (ne_of_none hf1 hp)]; exact hf1
      have s4 : Same H (upd H2 p (.lst [])) := Same.up2 s1 (Same.free s1 hp)
      have hr4 : RunA (upd H2 p (.lst [])) tr' := fun x hx => by rw [upd_ne (ne_of_none (hr1 x hx) hp)]; exact hr1 x hx
      refine ⟨_, _, .lst (SqL.of e4) (dpRuns tr' hr4), .lst (SqL.of upd_same) .nil, shapedRunL (fun w hw => by obtain ⟨x, hx, rfl⟩ := List.mem_map.mp hw; exact hok2 x hx), rfl, _, rfl, ?_⟩
      have hlt : (refA tr').length = tr'.length := List.length_map _
      rcases List.eq_nil_or_concat tr' with rfl | ⟨init, x, rfl⟩
      · refine ifF rfl (ifF rfl ?_)
        refine ⟨_, rfl, .inl ⟨rfl, _, SqL.of e4⟩, _, rfl, _, rfl, Nat.le_of_ble_eq_true rfl, fun u hu2 => ⟨_, _, _, rfl, rfl, (by rw [upd_ne (ne_of_none e4 hu2)]; exact e4), (Nat.lt_of_le_of_lt (Nat.le_trans (Nat.le_of_eq (List.length_map _)) htl) hsz), ?_⟩⟩
        have nfu : f ≠ u := ne_of_none e4 hu2
        have s5 : Same H (upd (upd (upd H2 p (.lst [])) u (.tup [.str y.2.1, .int y.2.2])) f (.lst (refA ([] : List (Addr × (Str × Int))) ++ [V.ref u]))) := Same.up2 (Same.up2 s4 (Same.free s4 hu2)) hf
        refine ⟨s5, ([] : List (Addr × (Str × Int))) ++ [(u, y.2)], _, _, rfl, ?_, ?_, ?_, ?_, ?_⟩
        · rw [upd_same]; simp [refA]
        · intro x hx2
          rcases List.mem_append.mp hx2 with hx2 | hx2
          · have e6 := hr4 x hx2
            rw [upd_ne (ne_of e6 e4 (by intro q; cases q)), upd_ne (ne_of_none e6 hu2)]
            exact e6
          · rw [List.mem_singleton.mp hx2, upd_ne (Ne.symm nfu), upd_same]
        · rw [hj, ← ej]
          exact Eq.trans List.map_append (rfl).symm
        · rw [List.length_append]; exact Nat.succ_le_succ htl
        · intro x hx2
          rcases List.mem_append.mp hx2 with hx2 | hx2
          · exact hok2 x hx2
          · rw [List.mem_singleton.mp hx2]; exact hok y hmem
      · rw [List.concat_eq_append] at *
        refine ifT ?_ ⟨_, rfl, _, rfl, _, _, _, _, rfl, rfl, SqL.of e4, (by unfold refA; rw [List.map_append]; exact ixm1), _, _, _, _, rfl, rfl, SqT.of (hr4 x (List.mem_append_right _ (List.mem_singleton.mpr rfl))), ix0 rfl, _, rfl, rfl, _, rfl, ?_⟩
        · show (!PyData.eqvAll (((init ++ [x]).map (·.2)).map dRun) []) = true
          rw [List.map_append, List.map_append]
          cases init <;> rfl
        by_cases hxy : x.2.1 = y.2.1
        · have hgl : (init.map (·.2) ++ [x.2]).getLast? = some x.2 := by simp
          have hjs : joinS ((init ++ [x]).map (·.2)) y.2 = init.map (·.2) ++ [(y.2.1, x.2.2 + y.2.2)] := by
            rw [List.map_append]
            show joinS (init.map (·.2) ++ [x.2]) y.2 = _
            unfold joinS
            rw [hgl]
            show (if x.2.1 = y.2.1 then _ else _) = _
            rw [if_pos hxy, List.dropLast_concat]
          refine ifT (dT (by rw [hxy])) ?_
          have hrl : refA (init ++ [x]) = refA init ++ [V.ref x.1] := by unfold refA; rw [List.map_append]; rfl
          refine ⟨_, rfl, _, rfl, _, rfl, _, _, _, _, rfl, rfl, SqL.of e4, (by rw [hrl]; exact ixm1), _, _, _, _, rfl, rfl, SqT.of (hr4 x (List.mem_append_right _ (List.mem_singleton.mpr rfl))), ix1 rfl, _, rfl, _, _, rfl, rfl, Nat.le_of_ble_eq_true rfl, fun u hu2 => ⟨_, rfl, _, rfl, _, _, _, init.length, rfl, rfl, (by rw [upd_ne (ne_of_none e4 hu2)]; exact e4), (by rw [hrl, List.length_append]; unfold refA; rw [List.length_map]; exact ixNm1), ?_⟩⟩
          have nfu : f ≠ u := ne_of_none e4 hu2
          refine ⟨Same.up2 (Same.up2 s4 (Same.free s4 hu2)) hf, init ++ [(u, (y.2.1, x.2.2 + y.2.2))], _, _, rfl, ?_, ?_, ?_, ?_, ?_⟩
          · rw [upd_same, hrl]
            unfold refA
            rw [List.map_append, List.set_append_right _ _ (by rw [List.length_map]; exact Nat.le_refl _), List.length_map, Nat.sub_self]
            rfl
          · intro x' hx2
            rcases List.mem_append.mp hx2 with hx2 | hx2
            · have e6 := hr4 x' (List.mem_append_left _ hx2)
              rw [upd_ne (ne_of e6 e4 (by intro q; cases q)), upd_ne (ne_of_none e6 hu2)]
              exact e6
            · rw [List.mem_singleton.mp hx2, upd_ne (Ne.symm nfu), upd_same]
          · rw [hj, ← ej, hjs, List.map_append]
            rfl
          · rw [List.length_append] at htl ⊢; exact Nat.le_succ_of_le htl
          · intro x' hx2
            rcases List.mem_append.mp hx2 with hx2 | hx2
            · exact hok2 x' (List.mem_append_left _ hx2)
            · rw [List.mem_singleton.mp hx2]; exact hok y hmem
        · have hgl : (init.map (·.2) ++ [x.2]).getLast? = some x.2 := by simp
          have hjs : joinS ((init ++ [x]).map (·.2)) y.2 = (init ++ [x]).map (·.2) ++ [y.2] := by
            rw [List.map_append]
            show joinS (init.map (·.2) ++ [x.2]) y.2 = _
            unfold joinS
            rw [hgl]
            show (if x.2.1 = y.2.1 then _ else _) = _
            rw [if_neg hxy]
            rfl
          refine ifF (dF (fun e => hxy (V.str.inj e))) ?_
          refine ⟨_, rfl, .inl ⟨rfl, _, SqL.of e4⟩, _, rfl, _, rfl, Nat.le_of_ble_eq_true rfl, fun u hu2 => ⟨_, _, _, rfl, rfl, (by rw [upd_ne (ne_of_none e4 hu2)]; exact e4), (Nat.lt_of_le_of_lt (Nat.le_trans (Nat.le_of_eq (List.length_map _)) htl) hsz), ?_⟩⟩
          have nfu : f ≠ u := ne_of_none e4 hu2
          have s5 : Same H (upd (upd (upd H2 p (.lst [])) u (.tup [.str y.2.1, .int y.2.2])) f (.lst (refA (init ++ [x]) ++ [V.ref u]))) := Same.up2 (Same.up2 s4 (Same.free s4 hu2)) hf
          refine ⟨s5, (init ++ [x]) ++ [(u, y.2)], _, _, rfl, ?_, ?_, ?_, ?_, ?_⟩
          · rw [upd_same]; simp [refA]
          · intro x hx2
            rcases List.mem_append.mp hx2 with hx2 | hx2
            · have e6 := hr4 x hx2
              rw [upd_ne (ne_of e6 e4 (by intro q; cases q)), upd_ne (ne_of_none e6 hu2)]
              exact e6
            · rw [List.mem_singleton.mp hx2, upd_ne (Ne.symm nfu), upd_same]
          · rw [hj, ← ej]
            exact Eq.trans List.map_append (hjs).symm
          · rw [List.length_append]; exact Nat.succ_le_succ htl
          · intro x hx2
            rcases List.mem_append.mp hx2 with hx2 | hx2
            · exact hok2 x hx2
            · rw [List.mem_singleton.mp hx2]; exact hok y hmem
    · rintro σ H1 ⟨s1, tr', v2, v3, rfl, hf1, hr1, ej, htl, hok2⟩
      have e : (refA tr).length = tr.length := List.length_map _
      rw [e, List.take_length] at ej
      rw [e] at htl
      refine ⟨_, rfl, _, _, rfl, .inl ⟨SqL.of hf1, fun t ht => ?_⟩⟩
      refine q _ t tr' (Same.up2 s1 (Same.free s1 ht)) upd_same (fun x hx => ?_) ej htl hok2
      rw [upd_ne (ne_of_none (hr1 x hx) ht)]
      exact hr1 x hx
end K5


namespace K5
open PySem PySem.Spec PyProof.Rows L2
section
variable {P : Program} {w : World} {K : PySem.W.Frag} {mg : Str → Option Value} {base : Heap} {x qual : Str} {params : Arguments} {body : List Stmt} {scope : Scope} {f : Addr} {N ps : List Str} {k : Nat} {sp : Sp} {dvs : List V} {kws : List (Str × V)}
theorem fnOk_of (D : ∃ fd, FunD K x qual params body scope dvs kws f fd) (S : FnScope N ps scope) (len : ∀ vs H Q E, sp vs H Q E → vs.length = ps.length)
    (hbody : ∀ (cdv : Value) (A : Around) (outer : List Env) (s : Shared) (H : Hp) (vs : List V) (Q : VK) (E : XK), Room k (A.deeper (envOfC qual scope s.heap.objs.size f cdv)) → sp vs H Q E →
      ∃ t, PSs (cxOf (L2.CX P w) P w K mg base N qual scope f cdv A outer s H E) body t ∧ t { nx := fun _ H' => Q .non H', rt := Q } (start N vs) H) : ∃ fd, FunD K x qual params body scope dvs kws f fd ∧ FnOk P w K mg base (L2.CX P w) (k + 1) f fd ps sp := by
  obtain ⟨fd, F⟩ := D
  exact ⟨fd, F, F.ok S len hbody⟩
/-- every keyword-only parameter is written: what stands in kwdefaults is not asked -/
theorem kbindsP {fd : FuncData} (F : FunD K x qual params body scope dvs kws f fd) (n : Nat) (ks : List Str) (g : {α : Type} → List α → List α → List α → List α) (hd : dvs ≠ [])
    (hrel : ∀ {vs ds zs : List V} {us its ws : List Value}, Vals vs us → Vals ds its → Vals zs ws → Vals (g vs ds zs) (g us its ws))
    (h : ∀ (T : Addr) (kV doc pm : Value) (an : Option Addr) (cdv ct : Value) (us its ws : List Value), us.length = n → its.length = dvs.length → ws.length = ks.length →
      ∃ j, bindArgs (PySem.W.fnOf x qual params body scope (.ref T) kV doc pm an cdv ct) ⟨us, ks.zip ws⟩ = seqItems? (.ref T) >>= j ∧ j (some its.toArray) = pure (ps.zip (g us its ws))) :
    ∃ its : List Value, KBn K fd ps n ks (fun us ws => g us its ws) (fun vs zs => g vs dvs zs) := by
  obtain ⟨oc, od, dV, kV, doc, pm, an, cdv, ct, osl, rfl, lk, hcd, hD, hK⟩ := F.ex
  rcases hD with ⟨e, _⟩ | ⟨_, T, o, its, m, rfl, lT, oT, rT⟩
  · exact absurd e hd
  · refine ⟨its, ⟨fun s us ws X l1 l2 => ?_, fun r1 r2 => hrel r1 rT r2⟩⟩
    obtain ⟨j, e1, e2⟩ := h T kV doc pm an cdv ct us its ws l1 rT.length.symm l2
    refine BindsTo.of_looks fun M => ?_
    rw [e1]
    exact looks_items X lT oT (.of_pure e2)
end
theorem Tx.d_cm {K : PySem.W.Frag} {mg : Str → Option Value} (T : Tx K mg) : ∃ fd, FunD K "spelled" "History.spelled" (defArgs s_History_spelled) (defBody s_History_spelled) (defScope s_History_spelled) [] [] (cmG K) fd := by
  have h1 := T.cm
  have h2 : fnAtB K (cmG K) "History.spelled" = true := T.exAt 15
  unfold fnAtW at h1
  unfold fnAtB at h2
  cases q : K.lookup (cmG K) with
  | none =>
    rw [q] at h2
    cases h2
  | some o =>
    rw [q] at h1 h2
    obtain ⟨oc, od, dt, osl⟩ := o
    cases dt with
    | func fd =>
      have h3 : (PySem.W.codeIn K fd.code "History.spelled" && (match fd.defaults with
        | .none => true
        | _ => false) && PySem.W.keepIn K (.ref (cmG K))) = true := h2
      obtain ⟨h4, h5⟩ := He.ba h3
      obtain ⟨h6, h7⟩ := He.ba h4
      have h8 : (fd.name, fd.qualname, fd.params, fd.body, fd.scope, fd.globals, fd.closure, fd.builtins) = (("spelled" : Str), ("History.spelled" : Str), defArgs s_History_spelled, FuncBody.stmts (defBody s_History_spelled), defScope s_History_spelled, mainGlobals, ([] : List (Str × Addr)), builtinsNs) := Option.some.inj h1
      obtain ⟨n1, n2, n3, n4, n5, n6, n7, n8, n9, n10, n11, n12, n13, n14, n15⟩ := fd
      simp only [Prod.mk.injEq] at h8
      obtain ⟨g1, g2, g3, g4, g5, g6, g7, g8⟩ := h8
      subst g1 g2 g3 g4 g5 g6 g7 g8
      have h9 : n8 = Value.none := by
        cases n8 with
        | none => rfl
        | _ => exact absurd (show false = true from h7) (by decide)
      subst h9
      exact ⟨_, ⟨oc, od, .none, n9, n10, n11, n12, n13, n14, osl, rfl, q, h6, .inl ⟨rfl, rfl⟩, .inl rfl⟩, h5⟩
    | _ => cases h2
def sp_Historyu_initu (K : PySem.W.Frag) : Sp := fun vs H Q _ => ∃ (a L t0 l dx : Addr) (b : Str) (tr : List (Addr × (Str × Int))), vs = [.ref a, .ref L, .str b, .ref t0, .ref l] ∧ H a = some (.ins (CH K) dx []) ∧ (b = "new" ∨ b = "found") ∧ H t0 = some (.tup []) ∧ H l = some (.lst (refA tr)) ∧ RunA H tr ∧
  tr.length ≤ 200 ∧ (∀ x ∈ tr, PyData.strOk x.2.1 = true) ∧ ∀ H', (∀ c o, c ≠ a → H c = some o → H' c = some o) → HisO K H' a L b (joinR (tr.map (·.2))) → Q .non H'
theorem G_Historyu_initu {P : Program} {w : World} {K : PySem.W.Frag} {mg : Str → Option Value} {base : Heap} (T : Tx K mg) : ∃ fd, FunD K "__init__" "History.__init__" (defArgs s_Historyu_initu) (defBody s_Historyu_initu) (defScope s_Historyu_initu) [.ref (He.dflAt ("History", some "__init__") 0 K)] [] (He.ma K (He.ga K "History") "__init__") fd ∧ FnOk P w K mg base (L2.CX P w) 3 (He.ma K (He.ga K "History") "__init__") fd ["self", "letters", "beginning", "runs", "ahead"] (sp_Historyu_initu K) :=
  fnOk_of T.d_Historyu_initu sc_Historyu_initu (fun vs H Q E h => by
    obtain ⟨a, L, t0, l, dx, b, tr, rfl, ha, hb, h0, hl, hr1, hlen, hok, q⟩ := h
    rfl) fun cdv A outer s H vs Q E hr h => by
    obtain ⟨a, L, t0, l, dx, b, tr, rfl, ha, hb, h0, hl, hr1, hlen, hok, q⟩ := h
    have hu := hu_of hr
    refine ⟨_, (pss_cons (ps_expr (pe_callG (G_need_beginning T) (hr.mono (by decide)) rfl passL (pa_cons (pv 2) pa_nil)))
      (pss_cons (ps_expr (pe_callG (G_need_runs T) (hr.mono (by decide)) rfl passL (pa_cons (pv 1) (pa_cons (pv 3) pa_nil))))
      (pss_cons (ps_set (i := 5) sc_Historyu_initu.nd rfl (by first | exact Or.inl rfl | exact Or.inr rfl) (pe_callG (G_join_runs T) (hr.mono (by decide)) rfl passL (pa_cons (pe_lst (StX.pa_star (pv 4) (StX.pa_star (pv 3) pa_nil))) pa_nil)))
      (pss_cons (ps_if (pt_cmpR op_gt (pe_callB call_len_seq rfl T.n_len (by decide +kernel) (pa_cons (pv 5) pa_nil)) (pe_globI T.c_MOST_RUNS rfl) (nomark _)) (pss_one ps_never) pss_nil)
      (pss_cons (ps_fld (pv 0) (pv 1) rfl)
      (pss_cons (ps_fld (pv 0) (pv 2) rfl)
      (pss_cons (ps_fld (pv 0) (pv 5) rfl)
      (pss_cons (ps_fld (pv 0) (pe_callB (cr_sum rfl) rfl T.n_sum (by decide +kernel) (pa_cons (pe_lc (own := [("letter", 6), ("count", 7)]) (g := gTup K 2 (gCons (gName 6) (gCons (gName 7) gNil))) rfl sc_Historyu_initu.nd (pi_tup (pv 5)) (blkOk_by rfl) (fun _ _ _ _ _ => (pg_tup rfl (pgs_cons (pg_name (i := 6) sc_Historyu_initu.nd rfl (by first | exact Or.inl rfl | exact Or.inr rfl)) (pgs_cons (pg_name (i := 7) sc_Historyu_initu.nd rfl (by first | exact Or.inl rfl | exact Or.inr rfl)) pgs_nil)))) (fun _ _ _ _ _ => pts_nil) (fun _ _ _ _ _ => (pv 7))) pa_nil)) rfl)
      (pss_one (ps_fld (pv 0) (pe_ifExp (pt_cmpR (op_neD hr.units) (pv 5) (pe_tup pa_nil) (nomark _)) (pe_ix ix_tup (pe_ix ix_tup (pv 5) (pe_un un_neg pe_int) (fun _ _ => rfl)) pe_int (fun _ _ => rfl)) (pv 2)) rfl)))))))))), ?_⟩
    refine ⟨_, rfl, b, rfl, hb, _, rfl, _, rfl, L, t0, rfl, h0, fun H1 s1 => ?_⟩
    have hrl : (refA tr).length = tr.length := List.length_map _
    refine ⟨_, rfl, _, _, rfl, .inr (Same.seqL s1 hl), _, rfl, _, _, rfl, .inl (Same.seqT s1 h0), ?_, fun l2 hl2 => ?_⟩
    · rw [List.append_nil, List.append_nil, hrl]
      exact Nat.le_trans hlen (Nat.le_of_ble_eq_true rfl)
    refine ⟨l2, tr, rfl, by rw [upd_same, List.append_nil, List.append_nil], fun x hx => by rw [upd_ne (ne_of_none (s1 _ _ (hr1 x hx)) hl2)]; exact s1 _ _ (hr1 x hx), Nat.le_trans hlen (by decide), hok, fun H2 t tr' s2 ht hr2 hj hl3 hok3 => ?_⟩
    have s3 : Same H H2 := Same.trans (Same.up2 s1 (Same.free s1 hl2)) s2
    have hrl2 : (refA tr').length = tr'.length := List.length_map _
    have hat : a ≠ t := ne_of (s3 _ _ ha) ht (by intro z; cases z)
    refine ⟨_, rfl, _, _, rfl, .inr (SqT.of ht), _, _, rfl, rfl, _, rfl, ifF (dF (by rw [hrl2]; omega)) ?_⟩
    refine ⟨_, rfl, _, rfl, a, _, dx, [], rfl, s3 _ _ ha, T.cl_History, T.na_History_letters, (by show 0 < 1000; decide), ?_⟩
    refine ⟨_, rfl, _, rfl, a, _, dx, _, rfl, upd_same, T.cl_History, T.na_History_beginning, (by show 1 < 1000; decide), ?_⟩
    refine ⟨_, rfl, _, rfl, a, _, dx, _, rfl, upd_same, T.cl_History, T.na_History_runs, (by show 2 < 1000; decide), ?_⟩
    have upds : ∀ (fs fs' fs'' : List (Str × V)) (c : Addr), c ≠ a → upd (upd (upd H2 a (.ins (CH K) dx fs)) a (.ins (CH K) dx fs')) a (.ins (CH K) dx fs'') c = H2 c := fun _ _ _ c nc => by rw [upd_ne nc, upd_ne nc, upd_ne nc]
    refine ⟨_, rfl, t, rfl, ⟨_, SqT.of (by rw [upds _ _ _ _ (Ne.symm hat)]; exact ht)⟩, fun D hD => lc_it (walk_tup (xs := refA tr')) (fun i H4 => Same (upd (upd (upd H2 a (.ins (CH K) dx (putF "letters" (.ref L) []))) a (.ins (CH K) dx (putF "beginning" (.str b) (putF "letters" (.ref L) [])))) a (.ins (CH K) dx (putF "runs" (.ref t) (putF "beginning" (.str b) (putF "letters" (.ref L) []))))) H4 ∧ H4 D = some (.lst (((tr'.take i).map fun x => x.2.2).map V.int))) ⟨Same.up1 hD, upd_same⟩ (fun i H4 _ h => SqT.of (h.1 _ _ (by rw [upds _ _ _ _ (Ne.symm hat)]; exact ht))) ?_ ?_⟩
    · rintro i x H4 H5 hi ⟨s4, e4⟩ ⟨rfl, hx⟩
      obtain ⟨y, hy, rfl⟩ := map_get hx
      have hmem := List.mem_of_getElem? hy
      have hri : i < tr'.length := (List.getElem?_eq_some_iff.mp hy).1
      have e6 := hr2 y hmem
      have nya : y.1 ≠ a := Ne.symm (ne_of (s3 _ _ ha) e6 (by intro z; cases z))
      have e5 : H5 y.1 = some (.tup [.str y.2.1, .int y.2.2]) := s4 _ _ (by rw [upds _ _ _ _ nya]; exact e6)
      have hDn : H D = none := by
        cases e : H D with
        | none => rfl
        | some o =>
          have hDa : D ≠ a := fun z => by rw [z, upd_same] at hD; cases hD
          rw [upds _ _ _ _ hDa, s3 _ _ e] at hD
          cases hD
      refine ⟨_, _, rfl, SqT.of e5, rfl, _, _, rfl, _, _, rfl, rfl, rfl, _, rfl, _, e4, ?_, Same.up2 s4 hD, ?_⟩
      · rw [List.length_map, List.length_map]
        exact Nat.lt_of_le_of_lt (List.length_take_le _ _) (Nat.lt_of_lt_of_le (show i < 1001 by omega) (Nat.le_of_ble_eq_true rfl))
      · have e : tr'[i] = y := by
          have := List.getElem?_eq_getElem hri
          rw [hy] at this
          exact (Option.some.inj this).symm
        rw [upd_same, List.take_succ_eq_append_getElem hri, e]
        simp
    rintro H4 ⟨s4, e4⟩
    have ha4 := s4 _ _ upd_same
    have hk4 : ∀ c o, c ≠ a → H c = some o → H4 c = some o := fun c o nc e => s4 _ _ (by rw [upds _ _ _ _ nc]; exact s3 _ _ e)
    have ht4 : H4 t = some (.tup (refA tr')) := s4 _ _ (by rw [upds _ _ _ _ (Ne.symm hat)]; exact ht)
    have hr4 : RunA H4 tr' := fun x hx => s4 _ _ (by rw [upds _ _ _ _ (Ne.symm (ne_of (s3 _ _ ha) (hr2 x hx) (by intro z; cases z)))]; exact hr2 x hx)
    refine ⟨_, _, rfl, SqL.of e4, _, rfl, a, _, dx, _, rfl, ha4, T.cl_History, T.na_History_size, (by show 3 < 1000; decide), ?_⟩
    generalize hH5 : upd H4 a _ = H5
    have ea5 : H5 a = some (.ins (CH K) dx [("letters", .ref L), ("beginning", .str b), ("runs", .ref t), ("size", .int ((tr'.take (refA tr').length).map fun x => x.2.2).sum)]) := by rw [← hH5, upd_same]; rfl
    have ek5 : ∀ c, c ≠ a → H5 c = H4 c := fun c nc => by rw [← hH5, upd_ne nc]
    clear hH5
    have nra : ∀ x ∈ tr', x.1 ≠ a := fun x hx => Ne.symm (ne_of (s3 _ _ ha) (hr2 x hx) (by intro z; cases z))
    have hr5 : RunA H5 tr' := fun x hx => by rw [ek5 _ (nra x hx)]; exact hr4 x hx
    have ht5 : H5 t = some (.tup (refA tr')) := by rw [ek5 _ (Ne.symm hat)]; exact ht4
    refine ⟨_, rfl, Nat.zero_le _, fun p hp => ?_⟩
    have hpa : a ≠ p := ne_of_none ea5 hp
    have s6 : Same H5 (upd H5 p (.tup [])) := Same.up1 hp
    have hr6 : RunA (upd H5 p (.tup [])) tr' := fun x hx => s6 _ _ (hr5 x hx)
    have ht6 := s6 _ _ ht5
    have ea6 := s6 _ _ ea5
    have e6 : (upd H5 p (.tup [])) p = some (.tup []) := upd_same
    generalize hH6 : upd H5 p (.tup []) = H6 at *
    have fin : ∀ la : Str, HisO K (upd H6 a (.ins (CH K) dx [("letters", .ref L), ("beginning", .str b), ("runs", .ref t), ("size", .int ((tr'.take (refA tr').length).map fun x => x.2.2).sum), ("last", .str la)])) a L b (joinR (tr.map (·.2))) := fun la =>
      ⟨dx, t, tr', _, la, upd_same, by rw [upd_ne (Ne.symm hat)]; exact ht6, fun x hx => by rw [upd_ne (nra x hx)]; exact hr6 x hx, hj, hok3⟩
    have fink : ∀ o, ∀ c u, c ≠ a → H c = some u → upd H6 a o c = some u := fun o c u nc e => by
      rw [upd_ne nc]
      exact s6 _ _ (by rw [ek5 _ nc]; exact hk4 _ _ nc e)
    refine ⟨_, _, .tup (SqT.of ht6) (dpRuns tr' hr6), .tup (SqT.of e6) .nil, shapedRuns (fun w hw => by obtain ⟨x, hx, rfl⟩ := List.mem_map.mp hw; exact hok3 x hx), rfl, _, rfl, ?_⟩
    rcases List.eq_nil_or_concat tr' with rfl | ⟨init, x, rfl⟩
    · exact ifF rfl ⟨_, rfl, _, rfl, a, _, dx, _, rfl, ea6, T.cl_History, T.na_History_last, (by show 4 < 1000; decide), q _ (fink _) (fin b)⟩
    · have hrx : refA (init.concat x) = refA init ++ [V.ref x.1] := by rw [List.concat_eq_append]; unfold refA; rw [List.map_append]; rfl
      refine ifT ?_ ⟨_, rfl, _, rfl, _, _, _, _, rfl, rfl, SqT.of ht6, (by rw [hrx]; exact ixm1), _, _, _, _, rfl, rfl, SqT.of (hr6 x (by rw [List.concat_eq_append]; exact List.mem_append_right _ (List.mem_singleton.mpr rfl))), ix0 rfl, _, rfl, a, _, dx, _, rfl, ea6, T.cl_History, T.na_History_last, (by show 4 < 1000; decide), q _ (fink _) (fin x.2.1)⟩
      show (!PyData.eqvAll (((init.concat x).map (·.2)).map dRun) []) = true
      rw [List.concat_eq_append, List.map_append, List.map_append]
      cases init <;> rfl
end K5


namespace K5
open PySem PySem.Spec PyProof.Rows L2
def sp_Historyu_equ (K : PySem.W.Frag) : Sp := fun vs H Q _ => ∃ (a b La Lb : Addr) (ws us : List Str) (b1 b2 : Str) (r1 r2 : List (Str × Int)), vs = [.ref a, .ref b] ∧ HisO K H a La b1 r1 ∧ HisO K H b Lb b2 r2 ∧ LetO K H La ws ∧ LetO K H Lb us ∧ Q (.bl (decide (ws = us ∧ b1 = b2 ∧ r1 = r2))) H
def sp_spelled (K : PySem.W.Frag) : Sp := fun vs H Q _ => ∃ (L t : Addr) (b : Str) (ws us : List Str), vs = [.ref (CH K), .ref L, .str b, .ref t] ∧ LetO K H L ws ∧ (b = "new" ∨ b = "found") ∧ H t = some (.tup (us.map V.str)) ∧ (∀ u ∈ us, u ∈ ws) ∧ us.length ≤ 200 ∧
  ∀ h H', Same H H' → HisO K H' h L b (joinR (us.map fun u => (u, 1))) → Q (.ref h) H'
theorem G_Historyu_equ {P : Program} {w : World} {K : PySem.W.Frag} {mg : Str → Option Value} {base : Heap} (T : Tx K mg) : FnR P w K mg base (L2.CX P w) 3 (He.ma K (He.ga K "History") "__eq__") (sp_Historyu_equ K) :=
  fnR_of T.d_Historyu_equ sc_Historyu_equ (fun vs H Q E h => by
    obtain ⟨a, b, La, Lb, ws, us, b1, b2, r1, r2, rfl, ⟨d1, t1, tr1, s1, l1, ha, ht1, hr1, e1, ok1⟩, ⟨d2, t2, tr2, s2, l2, hb, ht2, hr2, e2, ok2⟩, oa, ob, q⟩ := h
    rfl) (fun _ _ _ _ _ _ us hl => match us, hl with | [_, _], _ => rfl) fun cdv A outer s H vs Q E hr h => by
    obtain ⟨a, b, La, Lb, ws, us, b1, b2, r1, r2, rfl, ⟨d1, t1, tr1, s1, l1, ha, ht1, hr1, e1, ok1⟩, ⟨d2, t2, tr2, s2, l2, hb, ht2, hr2, e2, ok2⟩, oa, ob, q⟩ := h
    have hu := hu_of hr
    refine ⟨_, (pss_cons (ps_if (pt_not (pt_val (pe_callB call_isi rfl T.n_isinstance (by decide +kernel) (pa_cons (pv 1) (pa_cons (pe_globR T.g_History rfl) pa_nil))))) (pss_one (ps_ret pe_bl)) pss_nil)
      (pss_one (ps_ret (pe_and (pe_cmpR (op_eqOwn (MG_Lettersu_equ T) (hr.mono (by decide)) (T.exAt 3) passL) (pe_fld (pv 0) rfl) (pe_fld (pv 1) rfl) (nomark _)) (pe_and (pe_cmpR op_eq (pe_fld (pv 0) rfl) (pe_fld (pv 1) rfl) (nomark _)) (pe_one (pe_cmpR (op_eqD hr.units) (pe_fld (pv 0) rfl) (pe_fld (pv 1) rfl) (nomark _)))))))), ?_⟩
    obtain ⟨dx, t, la, _⟩ := id oa
    obtain ⟨dx2, t', lb, _⟩ := id ob
    refine ⟨_, rfl, _, _, _, _, true, rfl, .own _, tyIns T hb T.cl_History (T.exAt 8), of_decide_eq_true (T.exAt 6), true, rfl, ifF rfl ?_⟩
    refine ⟨_, rfl, _, _, _, _, _, rfl, ha, T.cl_History, T.na_History_letters, rfl, _, rfl, _, _, _, _, _, rfl, hb, T.cl_History, T.na_History_letters, rfl, _, _, _, _, _, _, rfl, rfl, la, lb, _, _, ws, us, rfl, oa, ob, _, rfl, _, rfl, ?_⟩
    refine ite2 (fun h => ?_) (fun h => ?_)
    · refine ⟨_, rfl, _, _, _, _, _, rfl, ha, T.cl_History, T.na_History_beginning, rfl, _, rfl, _, _, _, _, _, rfl, hb, T.cl_History, T.na_History_beginning, rfl, rfl, _, rfl, ?_⟩
      refine ite2 (fun h2 => ?_) (fun h2 => ?_)
      · refine ⟨_, rfl, _, _, _, _, _, rfl, ha, T.cl_History, T.na_History_runs, rfl, _, rfl, _, _, _, _, _, rfl, hb, T.cl_History, T.na_History_runs, rfl, _, _, .tup (SqT.of ht1) (dpRuns tr1 hr1), .tup (SqT.of ht2) (dpRuns tr2 hr2), shapedRuns (fun w hw => by obtain ⟨x, hx, rfl⟩ := List.mem_map.mp hw; exact ok1 x hx), shapedRuns (fun w hw => by obtain ⟨x, hx, rfl⟩ := List.mem_map.mp hw; exact ok2 x hx), ?_⟩
        show Q (.bl (PyData.eqvAll ((tr1.map (·.2)).map dRun) ((tr2.map (·.2)).map dRun))) H
        rw [eqvRuns, e1, e2]
        have h3 : ws = us := of_decide_eq_true h
        have h4 : b1 = b2 := V.str.inj (of_decide_eq_true h2)
        simp only [h3, h4, true_and] at q
        exact q
      · have h4 : ¬ b1 = b2 := fun z => h2 (decide_eq_true (by rw [z]))
        rw [dF (fun z => h4 z.2.1)] at q
        exact q
    · have h3 : ¬ ws = us := fun z => h (decide_eq_true z)
      rw [dF (fun z => h3 z.1)] at q
      exact q
theorem MG_Historyu_equ {P : Program} {w : World} {K : PySem.W.Frag} {mg : Str → Option Value} {base : Heap} (T : Tx K mg) : MtG P w K mg base 3 (He.ga K "History") "__eq__" (sp_Historyu_equ K) := ⟨_, T.m_Historyu_equ, G_Historyu_equ T⟩
theorem G_History_spelled {P : Program} {w : World} {K : PySem.W.Frag} {mg : Str → Option Value} {base : Heap} (T : Tx K mg) : FnR P w K mg base (L2.CX P w) 5 (cmG K) (sp_spelled K) :=
  fnR_of T.d_cm sc_History_spelled (fun vs H Q E h => by
    obtain ⟨L, t, b, ws, us, rfl, oL, hb, ht, hin, hlen, q⟩ := h
    rfl) (fun _ _ _ _ _ _ us hl => match us, hl with | [_, _, _, _], _ => rfl) fun cdv A outer s H vs Q E hr h => by
    obtain ⟨L, t, b, ws, us, rfl, oL, hb, ht, hin, hlen, q⟩ := h
    have hu := hu_of hr
    obtain ⟨fdH, FH, GH⟩ := G_Historyu_initu (P := P) (w := w) (base := base) T
    obtain ⟨its, KB⟩ := kbindsP (ps := ["self", "letters", "beginning", "runs", "ahead"]) FH 4 ["ahead"] (fun us its ws => us ++ ws) (by simp) (fun r1 _ r3 => r1.append r3) (fun _ _ _ _ _ _ _ us its ws h1 h2 h3 => match us, its, ws, h1, h2, h3 with | [_, _, _, _], [_], [_], _, _, _ => ⟨_, rfl, rfl⟩)
    refine ⟨_, (pss_cons (ps_expr (pe_callG (G_need_beginning T) (hr.mono (by decide)) rfl passL (pa_cons (pv 2) pa_nil)))
      (pss_cons (ps_for (passes_of rfl) rfl (pi_enumA rfl T.n_enumerate (pa_cons (pv 3) pa_nil)) (pg_tup rfl (pgs_cons (pg_name (i := 4) sc_History_spelled.nd rfl (by first | exact Or.inl rfl | exact Or.inr rfl)) (pgs_cons (pg_name (i := 5) sc_History_spelled.nd rfl (by first | exact Or.inl rfl | exact Or.inr rfl)) pgs_nil))) (pss_one (ps_if (pt_cmpR (op_notinOwn (MG_Lettersu_containsu T) (hr.mono (by decide)) passL) (pv 5) (pv 1) rfl) (pss_one ps_never) pss_nil)))
      (pss_one (ps_ret (pe_makeKV (i := 0) T.mk_History GH (hr.mono (by decide)) rfl (Or.inl rfl) KB passL (pa_cons (pv 1) (pa_cons (pv 2) (pa_cons (pe_tup pa_nil) pa_nil))) (pk_cons (pe_lc (own := [("letter", 5)]) (g := gName 5) rfl sc_History_spelled.nd (pi_tup (pv 3)) (blkOk_by rfl) (fun _ _ _ _ _ => (pg_name (i := 5) sc_History_spelled.nd rfl (by first | exact Or.inl rfl | exact Or.inr rfl))) (fun _ _ _ _ _ => pts_nil) (fun _ _ _ _ _ => (pe_tup (pa_cons (pv 5) (pa_cons pe_int pa_nil))))) pk_nil)))))), ?_⟩
    obtain ⟨dL, tL, eL, eT, nd, h12, hw⟩ := id oL
    have oLs : ∀ {H'}, Same H H' → LetO K H' L ws := fun s => ⟨dL, tL, s _ _ eL, s _ _ eT, nd, h12, hw⟩
    have hul : (us.map V.str).length = us.length := List.length_map _
    refine ⟨_, rfl, b, rfl, hb, ?_⟩
    refine ⟨_, rfl, _, _, rfl, .inr ⟨SqT.of ht, for_it walk_enumT (fun i σ H' => ∃ v4 v5, σ = [some (.ref (CH K)), some (.ref L), some (.str b), some (.ref t), v4, v5] ∧ Same H H') ⟨_, _, rfl, Same.refl H⟩ (fun i σ H' _ ⟨_, _, _, s1⟩ => Same.seqT s1 ht) ?_ ?_⟩⟩
    · rintro i x σ H1 H2 hi ⟨v4, v5, rfl, s1⟩ ⟨u, x1, x2, rfl, hu2, rfl, e1, e2⟩
      cases e1
      obtain ⟨z, hz, rfl⟩ := map_get e2
      have s2 : Same H (upd H1 u (.tup [.int (i : Nat), .str z])) := Same.up2 s1 (Same.free s1 hu2)
      refine ⟨u, _, rfl, SqT.of upd_same, rfl, _, _, rfl, _, _, rfl, rfl, ?_⟩
      refine ⟨_, rfl, _, rfl, _, _, _, rfl, s2 _ _ eL, L, z, ws, rfl, oLs s2, _, rfl, _, rfl, ifF ?_ ⟨_, _, rfl, s2⟩⟩
      rw [dT (hin z (List.mem_of_getElem? hz))]
      rfl
    rintro σ H1 ⟨v4, v5, rfl, s1⟩
    refine ⟨rfl, _, rfl, _, rfl, Nat.zero_le _, fun p hp => ?_⟩
    have s2 : Same H (upd H1 p (.tup [])) := Same.up2 s1 (Same.free s1 hp)
    have ep : (upd H1 p (.tup [])) p = some (.tup []) := upd_same
    generalize upd H1 p (.tup []) = H2 at *
    refine ⟨_, rfl, t, rfl, ⟨_, Same.seqT s2 ht⟩, fun D hD => lc_it (walk_tup (xs := us.map V.str)) (fun i H4 => Same H2 H4 ∧ ∃ tr : List (Addr × (Str × Int)), H4 D = some (.lst (refA tr)) ∧ RunA H4 tr ∧ tr.map (·.2) = (us.take i).map fun u => (u, 1)) ⟨Same.up1 hD, [], upd_same, (fun x hx => by cases hx), rfl⟩ (fun i H4 _ h => Same.seqT h.1 (s2 _ _ ht)) ?_ ?_⟩
    · rintro i x H4 H5 hi ⟨s4, tr, e4, r4, ej⟩ ⟨rfl, hx⟩
      obtain ⟨z, hz, rfl⟩ := map_get hx
      have hi2 : i < us.length := (List.getElem?_eq_some_iff.mp hz).1
      have hz2 : us[i] = z := (List.getElem?_eq_some_iff.mp hz).2
      have htl : tr.length = i := by
        have := congrArg List.length ej
        rw [List.length_map, List.length_map, List.length_take] at this
        omega
      refine ⟨rfl, _, rfl, Nat.le_of_ble_eq_true rfl, fun u hu2 => ⟨refA tr, ?_, ?_, Same.up2 (Same.up2 s4 (Same.free s4 hu2)) hD, tr ++ [(u, (z, 1))], ?_, ?_, ?_⟩⟩
      · rw [upd_ne (ne_of_none e4 hu2)]
        exact e4
      · unfold refA
        rw [List.length_map, htl]
        exact Nat.lt_of_lt_of_le (show i < 1001 by omega) (Nat.le_of_ble_eq_true rfl)
      · rw [upd_same]
        simp [refA]
      · intro x hx2
        rcases List.mem_append.mp hx2 with hx2 | hx2
        · have e6 := r4 x hx2
          rw [upd_ne (ne_of e6 e4 (by intro q; cases q)), upd_ne (ne_of_none e6 hu2)]
          exact e6
        · rw [List.mem_singleton.mp hx2, upd_ne (Ne.symm (ne_of_none e4 hu2)), upd_same]
      · rw [List.map_append, ej, List.take_succ_eq_append_getElem hi2, List.map_append, hz2]
        rfl
    rintro H4 ⟨s4, tr, e4, r4, ej⟩
    rw [hul, List.take_length] at ej
    have s5 := Same.trans s2 s4
    have htl : tr.length = us.length := by
      have := congrArg List.length ej
      rwa [List.length_map, List.length_map] at this
    refine ⟨rfl, rfl, fun x dx hx hdx nx => ?_⟩
    have s6 : Same H4 (upd (upd H4 dx (.own x)) x (.ins (CH K) dx [])) := Same.up2 (Same.up1 hdx) hx
    refine ⟨x, L, p, D, dx, b, tr, rfl, upd_same, hb, s6 _ _ (s4 _ _ ep), s6 _ _ e4, fun y hy => s6 _ _ (r4 y hy), by omega, fun y hy => ?_, fun H7 k7 o7 => ⟨rfl, q x H7 (fun c o e => ?_) ?_⟩⟩
    · have h1 : y.2 ∈ tr.map (·.2) := List.mem_map.mpr ⟨y, hy, rfl⟩
      rw [ej] at h1
      obtain ⟨u, hu2, e⟩ := List.mem_map.mp h1
      rw [← e]
      exact (hw u (hin u hu2)).ok
    · have hcx : c ≠ x := ne_of_none (s5 _ _ e) hx
      exact k7 _ _ hcx (s6 _ _ (s5 _ _ e))
    · rw [ej] at o7
      exact o7
end K5


namespace K5
open PySem PySem.Spec PyProof.Rows L2
theorem pi_or {X : Cx} {tg e : Expr} {w1 w2 : TI} (h1 : PI X tg e w1) (h2 : PI X tg e w2) : PI X tg e (fun σ H R => w1 σ H R ∨ w2 σ H R) :=
  ⟨fun pins s σ H R I h => h.elim (fun q => h1.run pins s σ H R I q) (fun q => h2.run pins s σ H R I q)⟩
/-- a dict comprehension over a walk -/
theorem dc_it {J : It} {n : Nat} {G : Hp → Prop} {Y : Nat → Hp → V → Hp → Prop} (w : Walk J n G Y) {g : TG} {tt : TT} {tk tv : TE} {vs : List Nat} {σ : L2.St} {H1 : Hp} {D : Addr} {Qd : Hp → Prop} (Pv : Nat → Hp → Prop) (h0 : Pv 0 (upd H1 D (.dK []))) (hG : ∀ i H, i ≤ n → Pv i H → G H)
    (hs : ∀ i x H H', i < n → Pv i H → Y i H x H' → g x (wipe σ vs) H' fun σ2 H2 => wipe σ2 vs = wipe σ vs ∧ tt σ2 H2 fun b H3 =>
      if b = true then tk σ2 H3 fun y H4 => tv σ2 H4 fun z H5 => ∃ kvs k, y = kV k ∧ H5 D = some (.dK kvs) ∧ kvs.length < sizeLine ∧ Pv (i + 1) (upd H5 D (.dK (putK kvs k z))) else Pv (i + 1) H3) (hd : ∀ H, Pv n H → Qd H) :
    ∃ W : Nat → Nat → Hp → Prop, (∃ m, W 0 m (upd H1 D (.dK []))) ∧ ∀ i m H, W i m H →
      (J.stop i H ∧ Qd H) ∨ (J.go i H ∧ ∃ Nx : Hp → Prop, (∀ H', Nx H' → ∃ m', m' < m ∧ W (i + 1) m' H') ∧ ∀ x H', J.yld i H x H' → g x (wipe σ vs) H' fun σ2 H2 => wipe σ2 vs = wipe σ vs ∧ tt σ2 H2 fun b H3 =>
        if b = true then tk σ2 H3 fun y H4 => tv σ2 H4 fun z H5 => ∃ kvs k, y = kV k ∧ H5 D = some (.dK kvs) ∧ kvs.length < sizeLine ∧ Nx (upd H5 D (.dK (putK kvs k z))) else Nx H3) := by
  refine ⟨fun i m H => m = n - i ∧ i ≤ n ∧ Pv i H, ⟨n, by simp, Nat.zero_le _, h0⟩, ?_⟩
  rintro i m H ⟨rfl, hi, p⟩
  have q := hG i H hi p
  by_cases hlt : i < n
  · exact .inr ⟨w.goes i H hlt q, Pv (i + 1), fun H' p' => ⟨n - (i + 1), by omega, rfl, hlt, p'⟩, fun x H' y => hs i x H H' hlt p (w.yields i H x H' hlt q y)⟩
  · have e : i = n := by omega
    subst e
    exact .inl ⟨w.stops H q, hd H p⟩
/-! in a comprehension's block: the written part by name -/
section
variable {X : Cx} {K : PySem.W.Frag}
def rLenS (K : PySem.W.Frag) : List V → Hp → VK → Prop := fun xs H Q => ∃ p ys, xs = [.ref p] ∧ (SqL K H p ys ∨ SqT K H p ys) ∧ Q (.int ys.length) H
theorem call_len_seqK (h : X.K = K) : CallR X (.builtin "len") (rLenS K) := by subst h; exact call_len_seq
theorem ix_listK (h : X.K = K) : IxR X (rIxL K) := by subst h; exact ix_list
theorem ix_tupK (h : X.K = K) : IxR X (rIxT K) := by subst h; exact ix_tup
theorem pe_fldK {o : Expr} {f : Str} {pos : Pos} {ta : TE} (h : X.K = K) (he : PE X o ta) (hb : attributeBase o f X.env (eval o X.env) = eval o X.env := by rfl) : PE X (.Attribute o f pos) (tFld K ta f) := by subst h; exact pe_fld he hb
def rTupOf (K : PySem.W.Frag) : List V → Hp → VK → Prop := fun xs H Q => ∃ p ys, xs = [.ref p] ∧ ((SqL K H p ys ∧ ∀ l, H l = none → Q (.ref l) (upd H l (.tup ys))) ∨ (SqT K H p ys ∧ Q (.ref p) H))
def rLstOf (K : PySem.W.Frag) : List V → Hp → VK → Prop := fun xs H Q => ∃ p ys, xs = [.ref p] ∧ (SqL K H p ys ∨ SqT K H p ys) ∧ ∀ l, H l = none → Q (.ref l) (upd H l (.lst ys))
theorem call_tuple_ofK (h : X.K = K) : CallR X (.type "tuple") (rTupOf K) := by subst h; exact call_tuple_of
theorem call_list_ofK (h : X.K = K) : CallR X (.type "list") (rLstOf K) := by subst h; exact call_list_of
theorem cr_allK (h : X.K = K) (hc : X.calm = true) : CallR X (.builtin "all") (rAll K) := by subst h; exact cr_all hc
end
end K5

namespace K5
open PySem PySem.Spec PyProof.Rows L2
def nats (l : List Nat) : List V := l.map fun k => V.int (k : Nat)
def refR (rr : List (Addr × List Nat)) : List V := rr.map fun x => V.ref x.1
/-- rows that are lists | tuples -/
def RowL (H : Hp) (rr : List (Addr × List Nat)) : Prop := ∀ x ∈ rr, H x.1 = some (.lst (nats x.2))
def RowT (H : Hp) (rr : List (Addr × List Nat)) : Prop := ∀ x ∈ rr, H x.1 = some (.tup (nats x.2))
/-- rows and answers that a machine over ws takes -/
def GoodM (nl : Nat) (rows : List (List Nat)) (ans : List Str) : Prop := 1 ≤ rows.length ∧ rows.length ≤ 40 ∧ (∀ r ∈ rows, r.length = nl ∧ ∀ k ∈ r, k < rows.length) ∧ ans.length = rows.length ∧ ∀ z ∈ ans, WordL z.cps.toList
/-- both lists, or both tuples -/
def RA (H : Hp) (r a : Addr) (xs ys : List V) : Prop := (H r = some (.lst xs) ∧ H a = some (.lst ys)) ∨ (H r = some (.tup xs) ∧ H a = some (.tup ys))
def sp_need_states (K : PySem.W.Frag) : Sp := fun vs H Q _ => ∃ (L r a : Addr) (ws : List Str) (rr : List (Addr × List Nat)) (ans : List Str), vs = [.ref L, .ref r, .ref a] ∧ LetO K H L ws ∧ RA H r a (refR rr) (ans.map V.str) ∧ RowL H rr ∧ GoodM ws.length (rr.map (·.2)) ans ∧ ∀ H', Same H H' → Q .non H'
theorem RA.one {K : PySem.W.Frag} {H : Hp} {r a : Addr} {xs ys : List V} (h : RA H r a xs ys) : SqL K H r xs ∨ SqT K H r xs := h.imp (fun q => SqL.of q.1) fun q => SqT.of q.1
theorem RA.two {K : PySem.W.Frag} {H : Hp} {r a : Addr} {xs ys : List V} (h : RA H r a xs ys) : SqL K H a ys ∨ SqT K H a ys := h.imp (fun q => SqL.of q.2) fun q => SqT.of q.2
theorem RA.same {H H' : Hp} {r a : Addr} {xs ys : List V} (h : RA H r a xs ys) (s : Same H H') : RA H' r a xs ys := h.imp (fun q => ⟨s _ _ q.1, s _ _ q.2⟩) fun q => ⟨s _ _ q.1, s _ _ q.2⟩
theorem LetO.same {K : PySem.W.Frag} {H H' : Hp} {L : Addr} {ws : List Str} (h : LetO K H L ws) (s : Same H H') : LetO K H' L ws := let ⟨dL, tL, eL, eT, r⟩ := h; ⟨dL, tL, s _ _ eL, s _ _ eT, r⟩
theorem all_true {n : Nat} : (List.replicate n true).all id = true := by simp
theorem G_need_states {P : Program} {w : World} {K : PySem.W.Frag} {mg : Str → Option Value} {base : Heap} (T : Tx K mg) : FnG P w K mg base 4 "need_states" (sp_need_states K) :=
  fnG_of T.g_need_states T.d_need_states sc_need_states (fun vs H Q E h => by
    obtain ⟨L, r, a, ws, rr, ans, rfl, oL, hra, hrow, ⟨g1, g2, g3, g4, g5⟩, q⟩ := h
    rfl) (fun _ _ _ _ _ _ us hl => match us, hl with | [_, _, _], _ => rfl) fun cdv A outer s H vs Q E hr h => by
    obtain ⟨L, r, a, ws, rr, ans, rfl, oL, hra, hrow, ⟨g1, g2, g3, g4, g5⟩, q⟩ := h
    have hu := hu_of hr
    refine ⟨_, (pss_cons (ps_if (pt_not (pt_chain op_le op_le pe_int (pe_callB call_len_seq rfl T.n_len (show bootBuiltins "len" = some (.builtin "len") by decide +kernel) (pa_cons (pv 1) pa_nil)) (pe_globI T.c_MOST_STATES rfl))) (pss_one ps_never) pss_nil)
      (pss_cons (ps_for (passes_of rfl) rfl (pi_enumA rfl T.n_enumerate (pa_cons (pv 1) pa_nil)) (pg_tup rfl (pgs_cons (pg_name (i := 3) sc_need_states.nd rfl (by first | exact Or.inl rfl | exact Or.inr rfl)) (pgs_cons (pg_name (i := 4) sc_need_states.nd rfl (by first | exact Or.inl rfl | exact Or.inr rfl)) pgs_nil))) (pss_one (ps_if (PW.pt (pw_or (pt_not (pt_val (pe_callG (G_is_list T) (hr.mono (by decide)) rfl passL (pa_cons (pv 4) pa_nil)))) (pw_or (pt_cmpR op_ne (pe_callB call_len_seq rfl T.n_len (show bootBuiltins "len" = some (.builtin "len") by decide +kernel) (pa_cons (pv 4) pa_nil)) (pe_callB (call_lenOwn (MG_Lettersu_lenu T) (hr.mono (by decide)) passL) rfl T.n_len (show bootBuiltins "len" = some (.builtin "len") by decide +kernel) (pa_cons (pv 0) pa_nil)) (nomark _)) (pw_or1 (pt_not (pt_val (pe_callB (cr_all rfl) rfl T.n_all (show bootBuiltins "all" = some (.builtin "all") by decide +kernel) (pa_cons (pe_lc (own := [("state", 6)]) (g := gName 6) rfl sc_need_states.nd (pi_list (pv 4)) (blkOk_by rfl) (fun _ _ _ _ _ => (pg_name (i := 6) sc_need_states.nd rfl (by first | exact Or.inl rfl | exact Or.inr rfl))) (fun _ _ _ _ _ => pts_nil) (fun _ _ _ _ _ => (pe_callG (G_is_state T) (hr.mono (by decide)) rfl passL (pa_cons (pv 6) (pa_cons (pe_callB (call_len_seqK (K := K) rfl) rfl T.n_len (show bootBuiltins "len" = some (.builtin "len") by decide +kernel) (pa_cons (pv 1) pa_nil)) pa_nil))))) pa_nil)))))))) (pss_one ps_never) pss_nil)))
      (pss_cons (ps_if (pt_cmpR op_ne (pe_callB call_len_seq rfl T.n_len (show bootBuiltins "len" = some (.builtin "len") by decide +kernel) (pa_cons (pv 2) pa_nil)) (pe_callB call_len_seq rfl T.n_len (show bootBuiltins "len" = some (.builtin "len") by decide +kernel) (pa_cons (pv 1) pa_nil)) (nomark _)) (pss_one ps_never) pss_nil)
      (pss_one (ps_for (passes_of rfl) rfl (pi_enumA rfl T.n_enumerate (pa_cons (pv 2) pa_nil)) (pg_tup rfl (pgs_cons (pg_name (i := 3) sc_need_states.nd rfl (by first | exact Or.inl rfl | exact Or.inr rfl)) (pgs_cons (pg_name (i := 5) sc_need_states.nd rfl (by first | exact Or.inl rfl | exact Or.inr rfl)) pgs_nil))) (pss_one (ps_if (pt_not (pt_val (pe_callG (G_is_word T) (hr.mono (by decide)) rfl passL (pa_cons (pv 5) pa_nil)))) (pss_one ps_never) pss_nil))))))), ?_⟩
    rw [List.length_map] at g1 g2 g3 g4
    have hrl : (refR rr).length = rr.length := List.length_map _
    have hal : (ans.map V.str).length = ans.length := List.length_map _
    obtain ⟨dL, tL, eL, _⟩ := id oL
    refine ⟨_, rfl, _, _, rfl, hra.one, _, _, rfl, rfl, _, rfl, ifT (dT (by rw [hrl]; omega)) ⟨_, _, rfl, rfl, _, rfl, ifF (notf (dT (by rw [hrl]; omega))) ?_⟩⟩
    rcases id hra with ⟨h1, h2⟩ | ⟨h1, h2⟩
    all_goals
      refine ⟨_, rfl, r, refR rr, rfl, ?_⟩
      first
        | refine .inl ⟨SqL.of h1, for_it walk_enum (fun i σ H' => ∃ v3 v4, σ = [some (.ref L), some (.ref r), some (.ref a), v3, v4, none, none] ∧ Same H H') ⟨_, _, rfl, Same.refl H⟩ (fun i σ H' _ ⟨_, _, _, s1⟩ => Same.seqL s1 h1) ?_ ?_⟩
        | refine .inr ⟨SqT.of h1, for_it walk_enumT (fun i σ H' => ∃ v3 v4, σ = [some (.ref L), some (.ref r), some (.ref a), v3, v4, none, none] ∧ Same H H') ⟨_, _, rfl, Same.refl H⟩ (fun i σ H' _ ⟨_, _, _, s1⟩ => Same.seqT s1 h1) ?_ ?_⟩
      · rintro i x σ H1 H2 hi ⟨v3, v4, rfl, s1⟩ ⟨t, x1, x2, rfl, ht, rfl, e1, e2⟩
        cases e1
        obtain ⟨y, hy, rfl⟩ := map_get e2
        have hmem := List.mem_of_getElem? hy
        have s2 : Same H (upd H1 t (.tup [.int (i : Nat), .ref y.1])) := Same.up2 s1 (Same.free s1 ht)
        obtain ⟨k1, k2⟩ := g3 y.2 (List.mem_map.mpr ⟨y, hmem, rfl⟩)
        have hrw := hrow y hmem
        refine ⟨t, _, rfl, SqT.of upd_same, rfl, _, _, rfl, _, _, rfl, rfl, ?_⟩
        generalize upd H1 t _ = H3 at *
        refine ⟨_, rfl, y.1, rfl, .inl ⟨_, s2 _ _ hrw⟩, fun H4 s4 => ⟨true, rfl, ifF rfl ?_⟩⟩
        have s5 := Same.trans s2 s4
        have hnl : (nats y.2).length = y.2.length := List.length_map _
        refine ⟨_, rfl, _, _, rfl, .inl (Same.seqL s5 hrw), _, rfl, L, dL, _, rfl, s5 _ _ eL, L, ws, rfl, oL.same s5, _, rfl, Int.natCast_nonneg _, ?_, rfl, _, rfl, ifF ?_ ?_⟩
        · have := oL.choose_spec.choose_spec.2.2.2.1
          have : ws.length ≤ 12 := this
          omega
        · rw [hnl, k1]
          exact notf (dT rfl)
        refine ⟨_, rfl, y.1, rfl, ⟨_, Same.seqL s5 hrw⟩, fun D hD => lc_it (walk_list (xs := nats y.2)) (fun i H5 => Same H H5 ∧ H5 D = some (.lst (List.replicate i (.bl true)))) ⟨Same.up2 s5 (Same.free s5 hD), upd_same⟩ (fun i H5 _ h => Same.seqL h.1 hrw) ?_ ?_⟩
        · rintro i x H5 H6 hi ⟨s6, e6⟩ ⟨rfl, hx⟩
          obtain ⟨z, hz, rfl⟩ := map_get hx
          have hzl := k2 z (List.mem_of_getElem? hz)
          refine ⟨rfl, _, rfl, _, rfl, _, _, rfl, (hra.same s6).one, _, _, rfl, ?_⟩
          rw [dT (by rw [hrl]; omega)]
          refine ⟨_, e6, ?_, ?_, ?_⟩
          · rw [List.length_replicate]
            have : i < y.2.length := by rw [← hnl]; exact hi
            have h12 : ws.length ≤ 12 := oL.choose_spec.choose_spec.2.2.2.1
            exact Nat.lt_of_lt_of_le (show i < 100 by omega) (Nat.le_of_ble_eq_true rfl)
          · exact Same.up2 s6 (Same.free s5 hD)
          · rw [upd_same, List.replicate_succ']
        · rintro H5 ⟨s6, e6⟩
          refine ⟨D, List.replicate y.2.length true, rfl, SqL.of (by rw [e6, hnl, List.map_replicate]), _, rfl, ?_⟩
          rw [all_true]
          exact ifF rfl ⟨_, _, rfl, s6⟩
      · rintro σ H1 ⟨v3, v4, rfl, s1⟩
        refine ⟨_, rfl, _, _, rfl, (hra.same s1).two, _, rfl, _, _, rfl, (hra.same s1).one, rfl, _, rfl, ifF ?_ ?_⟩
        · rw [hal, hrl, g4]
          exact notf (dT rfl)
        refine ⟨_, rfl, a, ans.map V.str, rfl, ?_⟩
        first
          | refine .inl ⟨Same.seqL s1 h2, for_it walk_enum (fun i σ H' => ∃ v3 v4 v5, σ = [some (.ref L), some (.ref r), some (.ref a), v3, v4, v5, none] ∧ Same H H') ⟨_, _, _, rfl, s1⟩ (fun i σ H' _ ⟨_, _, _, _, s1⟩ => Same.seqL s1 h2) ?_ ?_⟩
          | refine .inr ⟨Same.seqT s1 h2, for_it walk_enumT (fun i σ H' => ∃ v3 v4 v5, σ = [some (.ref L), some (.ref r), some (.ref a), v3, v4, v5, none] ∧ Same H H') ⟨_, _, _, rfl, s1⟩ (fun i σ H' _ ⟨_, _, _, _, s1⟩ => Same.seqT s1 h2) ?_ ?_⟩
        · rintro i x σ H1 H2 hi ⟨v3, v4, v5, rfl, s1⟩ ⟨t, x1, x2, rfl, ht, rfl, e1, e2⟩
          cases e1
          obtain ⟨z, hz, rfl⟩ := map_get e2
          have s2 : Same H (upd H1 t (.tup [.int (i : Nat), .str z])) := Same.up2 s1 (Same.free s1 ht)
          refine ⟨t, _, rfl, SqT.of upd_same, rfl, _, _, rfl, _, _, rfl, rfl, ?_⟩
          exact ⟨_, rfl, z, rfl, g5 z (List.mem_of_getElem? hz), fun H4 s4 => ⟨true, rfl, ifF rfl ⟨_, _, _, rfl, Same.trans s2 s4⟩⟩⟩
        · rintro σ H1 ⟨v3, v4, v5, rfl, s1⟩
          exact q _ s1
end K5


namespace K5
open PySem PySem.Spec PyProof.Rows L2
/-- a Machine at m -/
def MacO (K : PySem.W.Frag) (H : Hp) (m L : Addr) (rows : List (List Nat)) (ans : List Str) (new found : Nat) : Prop := ∃ (dx tR tA : Addr) (rr : List (Addr × List Nat)),
  H m = some (.ins (CM K) dx [("letters", .ref L), ("rows", .ref tR), ("answers", .ref tA), ("new", .int (new : Nat)), ("found", .int (found : Nat))]) ∧ H tR = some (.tup (refR rr)) ∧ RowT H rr ∧ rr.map (·.2) = rows ∧ H tA = some (.tup (ans.map V.str))
theorem MacO.same {K : PySem.W.Frag} {H H' : Hp} {m L : Addr} {rows : List (List Nat)} {ans : List Str} {new found : Nat} (h : MacO K H m L rows ans new found) (s : Same H H') : MacO K H' m L rows ans new found :=
  let ⟨dx, tR, tA, rr, a, b, c, d, e⟩ := h
  ⟨dx, tR, tA, rr, s _ _ a, s _ _ b, fun x hx => s _ _ (c x hx), d, s _ _ e⟩
def sp_Machineu_initu (K : PySem.W.Frag) : Sp := fun vs H Q _ => ∃ (m L r a dx : Addr) (ws : List Str) (rr : List (Addr × List Nat)) (ans : List Str) (new found : Nat), vs = [.ref m, .ref L, .ref r, .ref a, .int (new : Nat), .int (found : Nat)] ∧ H m = some (.ins (CM K) dx []) ∧ LetO K H L ws ∧ RA H r a (refR rr) (ans.map V.str) ∧ RowL H rr ∧
  GoodM ws.length (rr.map (·.2)) ans ∧ new < rr.length ∧ found < rr.length ∧ ∀ H', (∀ c o, c ≠ m → H c = some o → H' c = some o) → MacO K H' m L (rr.map (·.2)) ans new found → Q .non H'
theorem upd_keep {H H1 : Hp} {m : Addr} {o : HO} (h : upd H m o = H1) : ∀ c, c ≠ m → H1 c = H c := fun c nc => by rw [← h, upd_ne nc]
theorem G_Machineu_initu {P : Program} {w : World} {K : PySem.W.Frag} {mg : Str → Option Value} {base : Heap} (T : Tx K mg) : ∃ fd, FunD K "__init__" "Machine.__init__" (defArgs s_Machineu_initu) (defBody s_Machineu_initu) (defScope s_Machineu_initu) [] [("new", .int 0), ("found", .int 0)] (He.ma K (He.ga K "Machine") "__init__") fd ∧ FnOk P w K mg base (L2.CX P w) 5 (He.ma K (He.ga K "Machine") "__init__") fd ["self", "letters", "rows", "answers", "new", "found"] (sp_Machineu_initu K) :=
  fnOk_of T.d_Machineu_initu sc_Machineu_initu (fun vs H Q E h => by
    obtain ⟨m, L, r, a, dx, ws, rr, ans, new, found, rfl, hm, oL, hra, hrow, hg, hn, hf, q⟩ := h
    rfl) fun cdv A outer s H vs Q E hr h => by
    obtain ⟨m, L, r, a, dx, ws, rr, ans, new, found, rfl, hm, oL, hra, hrow, hg, hn, hf, q⟩ := h
    have hu := hu_of hr
    refine ⟨_, (pss_cons (ps_expr (pe_callG (G_need_states T) (hr.mono (by decide)) rfl passL (pa_cons (pv 1) (pa_cons (pv 2) (pa_cons (pv 3) pa_nil)))))
      (pss_cons (ps_if (pt_not (pt_val (pe_callG (G_is_state T) (hr.mono (by decide)) rfl passL (pa_cons (pv 4) (pa_cons (pe_callB call_len_seq rfl T.n_len (show bootBuiltins "len" = some (.builtin "len") by decide +kernel) (pa_cons (pv 2) pa_nil)) pa_nil))))) (pss_one ps_never) pss_nil)
      (pss_cons (ps_if (pt_not (pt_val (pe_callG (G_is_state T) (hr.mono (by decide)) rfl passL (pa_cons (pv 5) (pa_cons (pe_callB call_len_seq rfl T.n_len (show bootBuiltins "len" = some (.builtin "len") by decide +kernel) (pa_cons (pv 2) pa_nil)) pa_nil))))) (pss_one ps_never) pss_nil)
      (pss_cons (ps_fld (pv 0) (pv 1) rfl)
      (pss_cons (ps_fld (pv 0) (pe_callTy call_tuple_of rfl T.n_tuple (show bootBuiltins "tuple" = some (.type "tuple") by decide +kernel) (pa_cons (pe_lc (own := [("row", 6)]) (g := gName 6) rfl sc_Machineu_initu.nd (pi_or (pi_list (pv 2)) (pi_tup (pv 2))) (blkOk_by rfl) (fun _ _ _ _ _ => (pg_name (i := 6) sc_Machineu_initu.nd rfl (by first | exact Or.inl rfl | exact Or.inr rfl))) (fun _ _ _ _ _ => pts_nil) (fun _ _ _ _ _ => (pe_callTy (call_tuple_ofK (K := K) rfl) rfl T.n_tuple (show bootBuiltins "tuple" = some (.type "tuple") by decide +kernel) (pa_cons (pv 6) pa_nil)))) pa_nil)) rfl)
      (pss_cons (ps_fld (pv 0) (pe_callTy call_tuple_of rfl T.n_tuple (show bootBuiltins "tuple" = some (.type "tuple") by decide +kernel) (pa_cons (pv 3) pa_nil)) rfl)
      (pss_cons (ps_fld (pv 0) (pv 4) rfl)
      (pss_one (ps_fld (pv 0) (pv 5) rfl))))))))), ?_⟩
    have hrl : (refR rr).length = rr.length := List.length_map _
    refine ⟨_, rfl, _, rfl, _, rfl, L, r, a, ws, rr, ans, rfl, oL, hra, hrow, hg, fun H1 s1 => ?_⟩
    have hg' := hg
    obtain ⟨g1, g2, g3, g4, g5⟩ := hg
    rw [List.length_map] at g1 g2 g3 g4
    have hra1 := hra.same s1
    refine ⟨_, rfl, _, rfl, _, _, rfl, hra1.one, _, _, rfl, true, ?_, ifF rfl ?_⟩
    · rw [dT (by rw [hrl]; omega)]
    refine ⟨_, rfl, _, rfl, _, _, rfl, hra1.one, _, _, rfl, true, ?_, ifF rfl ?_⟩
    · rw [dT (by rw [hrl]; omega)]
    refine ⟨_, rfl, _, rfl, m, _, dx, [], rfl, s1 _ _ hm, T.cl_Machine, T.na_Machine_letters, (by show 0 < 1000; decide), ?_⟩
    generalize hH2 : upd H1 m _ = H2
    have em2 : H2 m = some (.ins (CM K) dx [("letters", .ref L)]) := by rw [← hH2, upd_same]; rfl
    have ek2 := upd_keep hH2
    clear hH2
    have hrow2 : ∀ x ∈ rr, H2 x.1 = some (.lst (nats x.2)) := fun x hx => by rw [ek2 _ (Ne.symm (ne_of hm (hrow x hx) (by intro z; cases z)))]; exact s1 _ _ (hrow x hx)
    have hra2 : RA H2 r a (refR rr) (ans.map V.str) := by
      rcases hra1 with ⟨h1, h2⟩ | ⟨h1, h2⟩
      · exact .inl ⟨by rw [ek2 _ (Ne.symm (ne_of (s1 _ _ hm) h1 (by intro z; cases z)))]; exact h1, by rw [ek2 _ (Ne.symm (ne_of (s1 _ _ hm) h2 (by intro z; cases z)))]; exact h2⟩
      · exact .inr ⟨by rw [ek2 _ (Ne.symm (ne_of (s1 _ _ hm) h1 (by intro z; cases z)))]; exact h1, by rw [ek2 _ (Ne.symm (ne_of (s1 _ _ hm) h2 (by intro z; cases z)))]; exact h2⟩
    have hk2 : ∀ c o, c ≠ m → H c = some o → H2 c = some o := fun c o nc e => by rw [ek2 _ nc]; exact s1 _ _ e
    rcases id hra2 with ⟨h1, h2⟩ | ⟨h1, h2⟩
    all_goals
      first
        | refine .inl ⟨_, rfl, r, rfl, ⟨_, SqL.of h1⟩, fun D hD => lc_it (walk_list (xs := refR rr)) (fun i H3 => Same H2 H3 ∧ ∃ rt : List (Addr × List Nat), H3 D = some (.lst (refR rt)) ∧ RowT H3 rt ∧ rt.map (·.2) = (rr.take i).map (·.2)) ⟨Same.up1 hD, [], upd_same, (fun x hx => by cases hx), rfl⟩ (fun i H3 _ h => Same.seqL h.1 h1) ?_ ?_⟩
        | refine .inr ⟨_, rfl, r, rfl, ⟨_, SqT.of h1⟩, fun D hD => lc_it (walk_tup (xs := refR rr)) (fun i H3 => Same H2 H3 ∧ ∃ rt : List (Addr × List Nat), H3 D = some (.lst (refR rt)) ∧ RowT H3 rt ∧ rt.map (·.2) = (rr.take i).map (·.2)) ⟨Same.up1 hD, [], upd_same, (fun x hx => by cases hx), rfl⟩ (fun i H3 _ h => Same.seqT h.1 h1) ?_ ?_⟩
      · rintro i x H3 H4 hi ⟨s3, rt, e3, t3, ej⟩ ⟨rfl, hx⟩
        obtain ⟨y, hy, rfl⟩ := map_get hx
        have hmem := List.mem_of_getElem? hy
        have hi2 : i < rr.length := by rw [← hrl]; exact hi
        have hyi : rr[i] = y := (List.getElem?_eq_some_iff.mp hy).2
        have htl : rt.length = i := by
          have := congrArg List.length ej
          rw [List.length_map, List.length_map, List.length_take] at this
          omega
        refine ⟨rfl, _, rfl, _, _, rfl, .inl ⟨Same.seqL s3 (hrow2 y hmem), fun u hu2 => ⟨refR rt, ?_, ?_, Same.up2 (Same.up2 s3 (Same.free s3 hu2)) hD, rt ++ [(u, y.2)], ?_, ?_, ?_⟩⟩⟩
        · rw [upd_ne (ne_of_none e3 hu2)]; exact e3
        · unfold refR
          rw [List.length_map, htl]
          exact Nat.lt_of_lt_of_le (show i < 100 by omega) (Nat.le_of_ble_eq_true rfl)
        · rw [upd_same]; simp [refR]
        · intro x hx2
          rcases List.mem_append.mp hx2 with hx2 | hx2
          · have e6 := t3 x hx2
            rw [upd_ne (ne_of e6 e3 (by intro q; cases q)), upd_ne (ne_of_none e6 hu2)]
            exact e6
          · rw [List.mem_singleton.mp hx2, upd_ne (Ne.symm (ne_of_none e3 hu2)), upd_same]
        · rw [List.map_append, ej, List.take_succ_eq_append_getElem hi2, List.map_append, hyi]
          rfl
      · rintro H3 ⟨s3, rt, e3, t3, ej⟩
        rw [hrl, List.take_length] at ej
        refine ⟨_, _, rfl, .inl ⟨SqL.of e3, fun tR htR => ?_⟩⟩
        have s4 : Same H2 (upd H3 tR (.tup (refR rt))) := Same.up2 s3 (Same.free s3 htR)
        have eR : (upd H3 tR (.tup (refR rt))) tR = some (.tup (refR rt)) := upd_same
        have t4 : RowT (upd H3 tR (.tup (refR rt))) rt := fun x hx => by rw [upd_ne (ne_of_none (t3 x hx) htR)]; exact t3 x hx
        generalize upd H3 tR (.tup (refR rt)) = H4 at *
        refine ⟨_, rfl, m, _, dx, _, rfl, s4 _ _ em2, T.cl_Machine, T.na_Machine_rows, (by show 1 < 1000; decide), ?_⟩
        generalize hH5 : upd H4 m _ = H5
        have em5 : H5 m = some (.ins (CM K) dx [("letters", .ref L), ("rows", .ref tR)]) := by rw [← hH5, upd_same]; rfl
        have ek5 := upd_keep hH5
        clear hH5
        have ntm : ∀ {c o}, H4 c = some (.tup o) → c ≠ m := fun e => Ne.symm (ne_of (s4 _ _ em2) e (by intro z; cases z))
        have h2' : H5 a = H2 a := by
          rw [ek5 _ (Ne.symm (ne_of em2 h2 (by intro z; cases z))), h2]
          exact s4 _ _ h2
        have fin : ∀ tA H6, Same H5 H6 → H6 tA = some (.tup (ans.map V.str)) → (tSeq (sFld K (tVar 0) (tVar 4) "new") (sFld K (tVar 0) (tVar 5) "found")) { nx := fun _ H' => Q .non H', rt := Q } [some (.ref m), some (.ref L), some (.ref r), some (.ref a), some (.int (new : Nat)), some (.int (found : Nat)), none] (upd H6 m (.ins (CM K) dx (putF "answers" (.ref tA) [("letters", .ref L), ("rows", .ref tR)]))) := by
          intro tA H6 s6 eA
          refine ⟨_, rfl, _, rfl, m, _, dx, _, rfl, upd_same, T.cl_Machine, T.na_Machine_new, (by show 3 < 1000; decide), _, rfl, _, rfl, m, _, dx, _, rfl, upd_same, T.cl_Machine, T.na_Machine_found, (by show 4 < 1000; decide), ?_⟩
          have ntm6 : ∀ {c o}, H6 c = some (.tup o) → c ≠ m := fun e => Ne.symm (ne_of (s6 _ _ em5) e (by intro z; cases z))
          have k6 : ∀ c o, c ≠ m → H4 c = some o → H6 c = some o := fun c o nc e => s6 _ _ (by rw [ek5 _ nc]; exact e)
          refine q _ (fun c o nc e => ?_) ⟨dx, tR, tA, rt, upd_same, ?_, fun x hx => ?_, ej, ?_⟩
          · rw [upd_ne nc, upd_ne nc, upd_ne nc]
            exact k6 _ _ nc (s4 _ _ (hk2 _ _ nc e))
          · rw [upd_ne (ntm eR), upd_ne (ntm eR), upd_ne (ntm eR)]
            exact k6 _ _ (ntm eR) eR
          · have e7 := t4 x hx
            rw [upd_ne (ntm e7), upd_ne (ntm e7), upd_ne (ntm e7)]
            exact k6 _ _ (ntm e7) e7
          · rw [upd_ne (ntm6 eA), upd_ne (ntm6 eA), upd_ne (ntm6 eA)]
            exact eA
        rw [h2] at h2'
        first
          | exact ⟨_, rfl, _, _, rfl, .inl ⟨SqL.of h2', fun tA htA => ⟨_, rfl, m, _, dx, _, rfl, by rw [upd_ne (ne_of_none em5 htA)]; exact em5, T.cl_Machine, T.na_Machine_answers, (by show 2 < 1000; decide), fin tA _ (Same.up1 htA) upd_same⟩⟩⟩
          | exact ⟨_, rfl, _, _, rfl, .inr ⟨SqT.of h2', ⟨_, rfl, m, _, dx, _, rfl, em5, T.cl_Machine, T.na_Machine_answers, (by show 2 < 1000; decide), fin a _ (Same.refl H5) h2'⟩⟩⟩
end K5


namespace K5
open PySem PySem.Spec PyProof.Rows L2
section
variable {X : Cx} {K : PySem.W.Frag} {tg : Expr}
theorem pi_zipAK {e e2 : Expr} {ta : TA} {p pos tpos : Pos} {elts : List Expr} {kk : Nat} (h : X.K = K) (hg : Gl X "zip") (hm : X.mg "zip" = none) (ha : PA X [e, e2] ta)
    (hs : starEach [e, e2] X.env = (false, eval e X.env) :: starEach [e2] X.env := by rfl) (hpl : (backTo pos (starEach [e2] X.env)).any (·.1) = false := by rfl) :
    PI X (.Tuple elts kk tpos) (.Call (.Name "zip" p) [e, e2] [] pos) (RZ.iZipA K ta) := by subst h; exact RZ.pi_zipA hg hm ha hs hpl
theorem pi_listK {e : Expr} {te : TE} (h : X.K = K) (he : PE X e te) (hx : PI X tg e (iList X.K te)) : PI X tg e (iList K te) := by subst h; exact hx
end
end K5

namespace K5
open PySem PySem.Spec PyProof.Rows L2
def δR (ws : List Str) (rows : List (List Nat)) (i : Nat) (z : Str) : Nat := (rows.getD i []).getD (ws.idxOf z) 0
def sp_moves (K : PySem.W.Frag) : Sp := fun vs H Q _ => ∃ (m L : Addr) (ws : List Str) (rows : List (List Nat)) (ans : List Str) (new found : Nat), vs = [.ref m] ∧ MacO K H m L rows ans new found ∧ LetO K H L ws ∧ GoodM ws.length rows ans ∧
  ∀ H' l, Same H H' → MovO H' l rows.length ws (δR ws rows) → Q (.ref l) H'
def sp_start (K : PySem.W.Frag) : Sp := fun vs H Q _ => ∃ (m L : Addr) (b : Str) (rows : List (List Nat)) (ans : List Str) (new found : Nat), vs = [.ref m, .str b] ∧ MacO K H m L rows ans new found ∧ Q (.int (if b = "new" then new else found : Nat)) H
/-- a history of the letters of a machine over the letters ws -/
def Asked (K : PySem.W.Frag) (H : Hp) (m h L L2 : Addr) (ws : List Str) (rows : List (List Nat)) (ans : List Str) (new found : Nat) (b : Str) (rs : List (Str × Nat)) : Prop :=
  MacO K H m L rows ans new found ∧ HisO K H h L2 b (rs.map fun r => (r.1, (r.2 : Int))) ∧ LetO K H L ws ∧ LetO K H L2 ws ∧ GoodM ws.length rows ans ∧ new < rows.length ∧ found < rows.length ∧ ∀ r ∈ rs, r.1 ∈ ws ∧ r.2 ≤ 1000
def endOf (ws : List Str) (rows : List (List Nat)) (new found : Nat) (b : Str) (rs : List (Str × Nat)) : Nat := walkR (δR ws rows) rs (if b = "new" then new else found)
def sp_state (K : PySem.W.Frag) : Sp := fun vs H Q _ => ∃ (m h L L2 : Addr) (ws : List Str) (rows : List (List Nat)) (ans : List Str) (new found : Nat) (b : Str) (rs : List (Str × Nat)), vs = [.ref m, .ref h] ∧ Asked K H m h L L2 ws rows ans new found b rs ∧
  ∀ H', Same H H' → Q (.int (endOf ws rows new found b rs : Nat)) H'
def sp_call (K : PySem.W.Frag) : Sp := fun vs H Q _ => ∃ (m h L L2 : Addr) (ws : List Str) (rows : List (List Nat)) (ans : List Str) (new found : Nat) (b : Str) (rs : List (Str × Nat)), vs = [.ref m, .ref h] ∧ Asked K H m h L L2 ws rows ans new found b rs ∧
  ∀ H', Same H H' → Q (.str (ans.getD (endOf ws rows new found b rs) Str.empty)) H'
theorem idxOf_get {ws : List Str} (nd : ws.Nodup) {j : Nat} {z : Str} (h : ws[j]? = some z) : ws.idxOf z = j := by
  obtain ⟨hj, e⟩ := List.getElem?_eq_some_iff.mp h
  rw [← e]
  exact List.Nodup.idxOf_getElem nd j hj
theorem δR_get {ws : List Str} {rows : List (List Nat)} {i j : Nat} {z : Str} {row : List Nat} {k : Nat} (nd : ws.Nodup) (hi : rows[i]? = some row) (hj : ws[j]? = some z) (hk : row[j]? = some k) : δR ws rows i z = k := by
  have e1 : rows.getD i [] = row := by rw [List.getD_eq_getElem?_getD, hi]; rfl
  unfold δR
  rw [idxOf_get nd hj, e1, List.getD_eq_getElem?_getD, hk]
  rfl
theorem δR_lt {ws : List Str} {rows : List (List Nat)} {ans : List Str} (nd : ws.Nodup) (g : GoodM ws.length rows ans) {i : Nat} (hi : i < rows.length) {z : Str} (hz : z ∈ ws) : δR ws rows i z < rows.length := by
  obtain ⟨j, hj⟩ := List.mem_iff_getElem?.mp hz
  have hr : rows[i]? = some rows[i] := List.getElem?_eq_getElem hi
  obtain ⟨h1, h2⟩ := g.2.2.1 _ (List.mem_of_getElem? hr)
  have hj2 := (List.getElem?_eq_some_iff.mp hj).1
  have hk : (rows[i])[j]? = some (rows[i])[j] := List.getElem?_eq_getElem (by rw [h1]; exact hj2)
  rw [δR_get nd hr hj hk]
  exact h2 _ (List.mem_of_getElem? hk)
theorem G_Machine_moves {P : Program} {w : World} {K : PySem.W.Frag} {mg : Str → Option Value} {base : Heap} (T : Tx K mg) : FnR P w K mg base (L2.CX P w) 2 (He.ma K (He.ga K "Machine") "moves") (sp_moves K) :=
  fnR_of T.d_Machine_moves sc_Machine_moves (fun vs H Q E h => by
    obtain ⟨m, L, ws, rows, ans, new, found, rfl, hM, oL, hg, q⟩ := h
    rfl) (fun _ _ _ _ _ _ us hl => match us, hl with | [_], _ => rfl) fun cdv A outer s H vs Q E hr h => by
    obtain ⟨m, L, ws, rows, ans, new, found, rfl, hM, oL, hg, q⟩ := h
    have hu := hu_of hr
    refine ⟨_, (pss_one (ps_ret (pe_lc (own := [("row", 1)]) (g := gName 1) rfl sc_Machine_moves.nd (pi_tup (pe_fld (pv 0) rfl)) (blkOk_by rfl) (fun _ _ _ _ _ => (pg_name (i := 1) sc_Machine_moves.nd rfl (by first | exact Or.inl rfl | exact Or.inr rfl))) (fun _ _ _ _ _ => pts_nil) (fun _ _ _ _ _ => (pe_dc (own := [("letter", 2), ("state", 3)]) (g := gTup K 2 (gCons (gName 2) (gCons (gName 3) gNil))) rfl sc_Machine_moves.nd (pi_zipAK (K := K) rfl rfl T.n_zip (pa_cons (pe_fldK (K := K) rfl (pe_fldK (K := K) rfl (pv 0) rfl) rfl) (pa_cons (pv 1) pa_nil))) (blkOk_by rfl) (fun _ _ _ _ _ => (pg_tup rfl (pgs_cons (pg_name (i := 2) sc_Machine_moves.nd rfl (by first | exact Or.inl rfl | exact Or.inr rfl)) (pgs_cons (pg_name (i := 3) sc_Machine_moves.nd rfl (by first | exact Or.inl rfl | exact Or.inr rfl)) pgs_nil)))) (fun _ _ _ _ _ => pts_nil) (fun _ _ _ _ _ => (pv 2)) (fun _ _ _ _ _ => (pv 3))))))), ?_⟩
    obtain ⟨dx, tR, tA, rr, em, eR, hT, hrr, eA⟩ := id hM
    obtain ⟨dL, tL, eL, eT, nd, h12, hw⟩ := id oL
    obtain ⟨g1, g2, g3, g4, g5⟩ := id hg
    have hrl : (refR rr).length = rows.length := by rw [← hrr, List.length_map]; exact List.length_map _
    refine ⟨_, rfl, _, _, _, _, _, rfl, em, T.cl_Machine, T.na_Machine_rows, rfl, tR, rfl, ⟨_, SqT.of eR⟩, fun D hD => lc_it (walk_tup (xs := refR rr)) (fun i H1 => Same H H1 ∧ ∃ ds : List Addr, H1 D = some (.lst (ds.map V.ref)) ∧ ds.length = i ∧ ∀ j d, ds[j]? = some d → ∃ kvs : List (Key × V), H1 d = some (.dK kvs) ∧ ∀ z ∈ ws, valV kvs (.inr z) = some (.int (δR ws rows j z : Nat))) ⟨Same.up1 hD, [], upd_same, rfl, fun j d e => by cases e⟩ (fun i H1 _ h => Same.seqT h.1 eR) ?_ ?_⟩
    · rintro i x H1 H2 hi ⟨s1, ds, e1, hl, hk⟩ ⟨rfl, hx⟩
      obtain ⟨y, hy, rfl⟩ := map_get hx
      have hmem := List.mem_of_getElem? hy
      have hyr : rows[i]? = some y.2 := by rw [← hrr, List.getElem?_map, hy]; rfl
      obtain ⟨k1, k2⟩ := g3 y.2 (List.mem_of_getElem? hyr)
      have hi2 : i < rows.length := by rw [← hrl]; exact hi
      refine ⟨rfl, _, rfl, _, _, _, _, _, rfl, s1 _ _ em, T.cl_Machine, T.na_Machine_letters, rfl, _, _, _, _, _, rfl, s1 _ _ eL, T.cl_Letters, T.na_Letters_words, rfl, _, rfl, _, _, _, _, rfl, .inr ⟨Same.seqT s1 eT, Same.seqT s1 (hT y hmem), fun D2 hD2 => dc_it (walk_zipT (by rw [List.length_map]; unfold nats; rw [List.length_map, k1])) (fun j H3 => Same H2 H3 ∧ ∃ kvs : List (Key × V), H3 D2 = some (.dK kvs) ∧ kvs.length ≤ j ∧ ∀ j' z k, j' < j → ws[j']? = some z → y.2[j']? = some k → valV kvs (.inr z) = some (.int (k : Nat))) ⟨Same.up1 hD2, [], upd_same, Nat.le_refl _, fun j' z k h => absurd h (Nat.not_lt_zero _)⟩ (fun j H3 _ h => ⟨Same.seqT h.1 (s1 _ _ eT), Same.seqT h.1 (s1 _ _ (hT y hmem))⟩) ?_ ?_⟩⟩
      · rintro j x H3 H4 hj ⟨s3, kvs, e3, kl, kv⟩ ⟨t, x1, x2, rfl, ht, rfl, e4, e5⟩
        obtain ⟨z, hz, rfl⟩ := map_get e4
        obtain ⟨k, hkk, rfl⟩ := map_get e5
        have hj12 : j < 12 := by
          have := (List.getElem?_eq_some_iff.mp hz).1
          omega
        refine ⟨t, _, rfl, SqT.of upd_same, rfl, _, _, rfl, _, _, rfl, rfl, rfl, _, rfl, _, rfl, kvs, .inr z, rfl, ?_, ?_, Same.up2 (Same.up2 s3 (Same.free s3 ht)) hD2, _, upd_same, Nat.le_trans (putK_len _ _ _) (Nat.succ_le_succ kl), ?_⟩
        · rw [upd_ne (ne_of_none e3 ht)]; exact e3
        · exact Nat.lt_of_le_of_lt kl (Nat.lt_of_lt_of_le hj12 (Nat.le_of_ble_eq_true rfl))
        · intro j' z' k' hj' hz' hk'
          rw [valV_put]
          by_cases hjj : j' = j
          · subst hjj
            rw [hz] at hz'
            rw [hkk] at hk'
            cases hz'
            cases hk'
            rw [if_pos rfl]
          · have hlt : j' < j := by omega
            have hne : ¬ ((.inr z' : Key) = .inr z) := fun e => by
              have e2 := Sum.inr.inj e
              rw [e2] at hz'
              exact hjj ((idxOf_get nd hz').symm.trans (idxOf_get nd hz))
            rw [if_neg hne]
            exact kv j' z' k' hlt hz' hk'
      · rintro H3 ⟨s3, kvs, e3, kl, kv⟩
        have hDn : ∀ {b o}, H2 b = some o → b ≠ D2 := fun e => ne_of_none e hD2
        refine ⟨ds.map V.ref, s3 _ _ e1, ?_, Same.up2 (Same.trans s1 s3) hD, ds ++ [D2], ?_, ?_, ?_⟩
        · rw [List.length_map, hl]
          exact Nat.lt_of_lt_of_le (show i < 41 by omega) (Nat.le_of_ble_eq_true rfl)
        · rw [upd_same]; simp
        · simp [hl]
        · intro j d hd
          have nD : ∀ {kv : List (Key × V)} {b}, H3 b = some (.dK kv) → b ≠ D := fun e => ne_of e (s3 _ _ e1) (by intro z; cases z)
          by_cases hji : j < i
          · rw [List.getElem?_append_left (by omega)] at hd
            obtain ⟨kv2, a1, a2⟩ := hk j d hd
            have a3 := s3 _ _ a1
            exact ⟨kv2, by rw [upd_ne (nD a3)]; exact a3, a2⟩
          · rw [List.getElem?_append_right (by omega)] at hd
            have hj0 : j - ds.length = 0 := by
              have := (List.getElem?_eq_some_iff.mp hd).1
              simp at this
              omega
            rw [hj0] at hd
            have hdD : D2 = d := Option.some.inj hd
            have hji2 : j = i := by omega
            subst hdD hji2
            refine ⟨kvs, by rw [upd_ne (nD e3)]; exact e3, fun z hz => ?_⟩
            obtain ⟨j', hj'⟩ := List.mem_iff_getElem?.mp hz
            have hj2 := (List.getElem?_eq_some_iff.mp hj').1
            have hkk : y.2[j']? = some (y.2)[j'] := List.getElem?_eq_getElem (by rw [k1]; exact hj2)
            rw [δR_get nd hyr hj' hkk]
            exact kv j' z _ (by rw [List.length_map]; exact hj2) hj' hkk
    · rintro H1 ⟨s1, ds, e1, hl, hk⟩
      exact q _ D s1 ⟨ds, e1, by rw [hl, hrl], hk⟩
theorem MG_Machine_moves {P : Program} {w : World} {K : PySem.W.Frag} {mg : Str → Option Value} {base : Heap} (T : Tx K mg) : MtG P w K mg base 2 (He.ga K "Machine") "moves" (sp_moves K) := ⟨_, T.m_Machine_moves, G_Machine_moves T⟩
theorem G_Machine_start {P : Program} {w : World} {K : PySem.W.Frag} {mg : Str → Option Value} {base : Heap} (T : Tx K mg) : FnR P w K mg base (L2.CX P w) 1 (He.ma K (He.ga K "Machine") "start") (sp_start K) :=
  fnR_of T.d_Machine_start sc_Machine_start (fun vs H Q E h => by
    obtain ⟨m, L, b, rows, ans, new, found, rfl, ⟨dx, tR, tA, rr, em, eR, hT, hrr, eA⟩, q⟩ := h
    rfl) (fun _ _ _ _ _ _ us hl => match us, hl with | [_, _], _ => rfl) fun cdv A outer s H vs Q E hr h => by
    obtain ⟨m, L, b, rows, ans, new, found, rfl, ⟨dx, tR, tA, rr, em, eR, hT, hrr, eA⟩, q⟩ := h
    have hu := hu_of hr
    refine ⟨_, (pss_one (ps_ret (pe_ifExp (pt_cmpR op_eq (pv 1) pe_str (nomark _)) (pe_fld (pv 0) rfl) (pe_fld (pv 0) rfl)))), ?_⟩
    refine ⟨_, rfl, rfl, _, rfl, ite2 (fun h => ?_) (fun h => ?_)⟩
    · have hb : b = "new" := V.str.inj (of_decide_eq_true h)
      rw [if_pos hb] at q
      exact ⟨_, rfl, _, _, _, _, _, rfl, em, T.cl_Machine, T.na_Machine_new, rfl, q⟩
    · have hb : ¬ b = "new" := fun z => h (decide_eq_true (by rw [z]))
      rw [if_neg hb] at q
      exact ⟨_, rfl, _, _, _, _, _, rfl, em, T.cl_Machine, T.na_Machine_found, rfl, q⟩
theorem MG_Machine_start {P : Program} {w : World} {K : PySem.W.Frag} {mg : Str → Option Value} {base : Heap} (T : Tx K mg) : MtG P w K mg base 1 (He.ga K "Machine") "start" (sp_start K) := ⟨_, T.m_Machine_start, G_Machine_start T⟩
theorem G_Machine_state {P : Program} {w : World} {K : PySem.W.Frag} {mg : Str → Option Value} {base : Heap} (T : Tx K mg) : FnR P w K mg base (L2.CX P w) 4 (He.ma K (He.ga K "Machine") "state") (sp_state K) :=
  fnR_of T.d_Machine_state sc_Machine_state (fun vs H Q E h => by
    obtain ⟨m, h, L, L2, ws, rows, ans, new, found, b, rs, rfl, ⟨hM, hH, oL, oL2, hg, hn, hf, hrs⟩, q⟩ := h
    rfl) (fun _ _ _ _ _ _ us hl => match us, hl with | [_, _], _ => rfl) fun cdv A outer s H vs Q E hr h => by
    obtain ⟨m, h, L, L2, ws, rows, ans, new, found, b, rs, rfl, ⟨hM, hH, oL, oL2, hg, hn, hf, hrs⟩, q⟩ := h
    have hu := hu_of hr
    refine ⟨_, (pss_cons (ps_expr (pe_callG (G_need_same T) (hr.mono (by decide)) rfl passL (pa_cons (pv 0) (pa_cons (pv 1) pa_nil))))
      (pss_one (ps_ret (pe_callG (G_runs_moved T) (hr.mono (by decide)) rfl passL (pa_cons (pe_methG0 (pv 0) T.cl_Machine (MG_Machine_moves T) (hr.mono (by decide)) passL) (pa_cons (pe_methG (pv 0) T.cl_Machine (MG_Machine_start T) (hr.mono (by decide)) passL (pa_cons (pe_fld (pv 1) rfl) pa_nil)) (pa_cons (pe_fld (pv 1) rfl) pa_nil))))))), ?_⟩
    obtain ⟨dx, tR, tA, rr, em, eR, hT, hrr, eA⟩ := id hM
    obtain ⟨dh, t, tr, sz, la, eh, et, hra, hrj, hok⟩ := id hH
    obtain ⟨dL, tL, eL, eT, nd, h12, hw⟩ := id oL
    refine ⟨_, rfl, _, rfl, m, h, _, _, _, _, L, L2, _, _, ws, ws, rfl, ⟨em, T.cl_Machine, T.na_Machine_letters, rfl⟩, ⟨eh, T.cl_History, T.na_History_letters, rfl⟩, oL, oL2, fun _ => ?_, fun z => absurd rfl z⟩
    refine ⟨_, rfl, m, _, _, rfl, em, rfl, m, L, ws, rows, ans, new, found, rfl, hM, oL, hg, fun H1 l s1 hmov => ?_⟩
    refine ⟨_, rfl, m, _, _, rfl, s1 _ _ em, rfl, _, rfl, _, _, _, _, _, rfl, s1 _ _ eh, T.cl_History, T.na_History_beginning, rfl, m, L, b, rows, ans, new, found, rfl, hM.same s1, ?_⟩
    refine ⟨_, rfl, _, _, _, _, _, rfl, s1 _ _ eh, T.cl_History, T.na_History_runs, rfl, ?_⟩
    refine ⟨l, t, rows.length, ws, δR ws rows, _, tr, rs, rfl, hmov, ?_, fun i hi z hz => δR_lt nd hg hi hz, s1 _ _ et, fun x hx => s1 _ _ (hra x hx), hrj, hrs, fun H2 s2 => q _ (Same.trans s1 s2)⟩
    split
    · exact hn
    · exact hf
theorem MG_Machine_state {P : Program} {w : World} {K : PySem.W.Frag} {mg : Str → Option Value} {base : Heap} (T : Tx K mg) : MtG P w K mg base 4 (He.ga K "Machine") "state" (sp_state K) := ⟨_, T.m_Machine_state, G_Machine_state T⟩
theorem G_Machineu_callu {P : Program} {w : World} {K : PySem.W.Frag} {mg : Str → Option Value} {base : Heap} (T : Tx K mg) : FnR P w K mg base (L2.CX P w) 5 (He.ma K (He.ga K "Machine") "__call__") (sp_call K) :=
  fnR_of T.d_Machineu_callu sc_Machineu_callu (fun vs H Q E h => by
    obtain ⟨m, h, L, L2, ws, rows, ans, new, found, b, rs, rfl, ha, q⟩ := h
    rfl) (fun _ _ _ _ _ _ us hl => match us, hl with | [_, _], _ => rfl) fun cdv A outer s H vs Q E hr h => by
    obtain ⟨m, h, L, L2, ws, rows, ans, new, found, b, rs, rfl, ha, q⟩ := h
    have hu := hu_of hr
    refine ⟨_, (pss_one (ps_ret (pe_ix ix_tup (pe_fld (pv 0) rfl) (pe_methG (pv 0) T.cl_Machine (MG_Machine_state T) (hr.mono (by decide)) passL (pa_cons (pv 1) pa_nil)) (fun _ _ => rfl)))), ?_⟩
    obtain ⟨hM, hH, oL, oL2, hg, hn, hf, hrs⟩ := id ha
    obtain ⟨dx, tR, tA, rr, em, eR, hT, hrr, eA⟩ := id hM
    obtain ⟨dL, tL, eL, eT, nd, h12, hw⟩ := id oL
    refine ⟨_, rfl, _, _, _, _, _, rfl, em, T.cl_Machine, T.na_Machine_answers, rfl, _, rfl, m, _, _, rfl, em, rfl, _, rfl, m, h, L, L2, ws, rows, ans, new, found, b, rs, rfl, ha, fun H1 s1 => ?_⟩
    have hlt : endOf ws rows new found b rs < ans.length := by
      rw [hg.2.2.2.1]
      unfold endOf
      have walk : ∀ (l : List (Str × Nat)), (∀ r ∈ l, r.1 ∈ ws) → ∀ s, s < rows.length → walkR (δR ws rows) l s < rows.length := by
        intro l
        induction l with
        | nil => intro _ s h; exact h
        | cons r l ih => intro h s hs; exact ih (fun r hr => h r (List.mem_cons_of_mem _ hr)) _ (itn_lt (fun i hi => δR_lt nd hg hi (h r (List.mem_cons_self ..))) _ _ hs)
      refine walk rs (fun r hr => (hrs r hr).1) _ ?_
      split
      · exact hn
      · exact hf
    have e1 : ans[endOf ws rows new found b rs]? = some (ans.getD (endOf ws rows new found b rs) Str.empty) := by
      rw [List.getD_eq_getElem?_getD, List.getElem?_eq_getElem hlt]
      rfl
    have e2 : (ans.map V.str)[endOf ws rows new found b rs]? = some (.str (ans.getD (endOf ws rows new found b rs) Str.empty)) := by
      rw [List.getElem?_map, e1]
      rfl
    exact ⟨_, _, _, _, rfl, rfl, Same.seqT s1 eA, atI_nat e2, q _ s1⟩
theorem MG_Machineu_callu {P : Program} {w : World} {K : PySem.W.Frag} {mg : Str → Option Value} {base : Heap} (T : Tx K mg) : MtG P w K mg base 5 (He.ga K "Machine") "__call__" (sp_call K) := ⟨_, T.m_Machineu_callu, G_Machineu_callu T⟩
end K5


namespace K5
open PySem
/-! the walk over pairs of states, in plain Lean -/
abbrev QI := (Nat × Nat) × (Nat × List Nat)
def psh (q : List QI) (x : QI) : List QI := if x.1 ∈ q.map (·.1) then q else q ++ [x]
structure BD where
  d1 : Nat → Nat → Nat
  d2 : Nat → Nat → Nat
  a1 : Nat → Str
  a2 : Nat → Str
  s1 : Nat → Nat
  s2 : Nat → Nat
  nl : Nat
namespace BD
variable (B : BD)
def item (k : Nat) : QI := ((B.s1 k, B.s2 k), k, [])
def ini : List QI := psh (psh [] (B.item 0)) (B.item 1)
def nxt (x : QI) (l : Nat) : QI := ((B.d1 x.1.1 l, B.d2 x.1.2 l), x.2.1, x.2.2 ++ [l])
def part (q : List QI) (x : QI) (n : Nat) : List QI := (List.range n).foldl (fun q l => psh q (B.nxt x l)) q
def bfs : Nat → List QI → Nat → Option (Option (Nat × List Nat))
  | 0, _, _ => none
  | f + 1, q, i => match q[i]? with
    | none => some none
    | some x => if B.a1 x.1.1 = B.a2 x.1.2 then bfs f (B.part q x B.nl) (i + 1) else some (some x.2)
theorem part_succ (q : List QI) (x : QI) (n : Nat) : B.part q x (n + 1) = psh (B.part q x n) (B.nxt x n) := by
  unfold part
  rw [List.range_succ, List.foldl_append]
  rfl
theorem bfs_mono : ∀ (f : Nat) (q : List QI) (i : Nat) (r : Option (Nat × List Nat)) (d : Nat), B.bfs f q i = some r → B.bfs (f + d) q i = some r
  | 0, q, i, r, d, h => by cases h
  | f + 1, q, i, r, d, h => by
    rw [Nat.succ_add]
    unfold bfs at h ⊢
    cases e : q[i]? with
    | none => rw [e] at h; exact h
    | some x =>
      rw [e] at h
      dsimp only at h ⊢
      split at h
      · rename_i hc
        rw [if_pos hc]
        exact bfs_mono f _ _ r d h
      · rename_i hc
        rw [if_neg hc]
        exact h
theorem bfs_det {f f' : Nat} {q : List QI} {i : Nat} {r r' : Option (Nat × List Nat)} (h : B.bfs f q i = some r) (h' : B.bfs f' q i = some r') : r = r' := by
  have e1 := B.bfs_mono f q i r f' h
  have e2 := B.bfs_mono f' q i r' f h'
  rw [Nat.add_comm] at e2
  rw [e1] at e2
  exact Option.some.inj e2
def wk (d : Nat → Nat → Nat) (w : List Nat) (s : Nat) : Nat := w.foldl d s
/-- what holds of the queue -/
structure Inv (n1 n2 : Nat) (q : List QI) : Prop where
  nd : (q.map (·.1)).Nodup
  rng : ∀ x ∈ q, x.1.1 < n1 ∧ x.1.2 < n2 ∧ x.2.1 < 2
  let_ : ∀ x ∈ q, ∀ l ∈ x.2.2, l < B.nl
  len : ∀ (j : Nat) (x : QI), q[j]? = some x → x.2.2.length ≤ j
  wk1 : ∀ x ∈ q, x.1.1 = wk B.d1 x.2.2 (B.s1 x.2.1) ∧ x.1.2 = wk B.d2 x.2.2 (B.s2 x.2.1)
structure Ok (n1 n2 : Nat) : Prop where
  d1 : ∀ i l, i < n1 → l < B.nl → B.d1 i l < n1
  d2 : ∀ i l, i < n2 → l < B.nl → B.d2 i l < n2
  s1 : ∀ k, k < 2 → B.s1 k < n1
  s2 : ∀ k, k < 2 → B.s2 k < n2
variable {B} {n1 n2 : Nat}
theorem Inv.push {q : List QI} (h : B.Inv n1 n2 q) {x : QI} (h1 : x.1.1 < n1 ∧ x.1.2 < n2 ∧ x.2.1 < 2) (h2 : ∀ l ∈ x.2.2, l < B.nl) (h3 : x.2.2.length ≤ q.length) (h4 : x.1.1 = wk B.d1 x.2.2 (B.s1 x.2.1) ∧ x.1.2 = wk B.d2 x.2.2 (B.s2 x.2.1)) : B.Inv n1 n2 (psh q x) := by
  unfold psh
  by_cases hm : x.1 ∈ q.map (·.1)
  · rw [if_pos hm]; exact h
  · rw [if_neg hm]
    have mem : ∀ {y}, y ∈ q ++ [x] → y ∈ q ∨ y = x := fun hy => by
      rcases List.mem_append.mp hy with hy | hy
      · exact .inl hy
      · exact .inr (List.mem_singleton.mp hy)
    refine ⟨?_, fun y hy => ?_, fun y hy => ?_, fun j y hj => ?_, fun y hy => ?_⟩
    · rw [List.map_append, List.nodup_append]
      refine ⟨h.nd, by simp, fun a ha b hb e => ?_⟩
      rw [List.map_singleton, List.mem_singleton] at hb
      exact hm (by rw [← hb, ← e]; exact ha)
    · rcases mem hy with hy | rfl
      · exact h.rng y hy
      · exact h1
    · rcases mem hy with hy | rfl
      · exact h.let_ y hy
      · exact h2
    · by_cases hlt : j < q.length
      · rw [List.getElem?_append_left hlt] at hj
        exact h.len j y hj
      · rw [List.getElem?_append_right (by omega)] at hj
        have hj0 : j - q.length = 0 := by
          have := (List.getElem?_eq_some_iff.mp hj).1
          simp at this
          omega
        rw [hj0] at hj
        rw [← Option.some.inj hj]
        omega
    · rcases mem hy with hy | rfl
      · exact h.wk1 y hy
      · exact h4
theorem psh_len (q : List QI) (x : QI) : q.length ≤ (psh q x).length := by
  unfold psh
  split
  · exact Nat.le_refl _
  · rw [List.length_append]; exact Nat.le_add_right _ _
theorem psh_get {q : List QI} {x y : QI} {i : Nat} (h : q[i]? = some y) : (psh q x)[i]? = some y := by
  unfold psh
  split
  · exact h
  · rw [List.getElem?_append_left (List.getElem?_eq_some_iff.mp h).1]; exact h
theorem part_get {q : List QI} {x y : QI} {i : Nat} (h : q[i]? = some y) : ∀ n, (B.part q x n)[i]? = some y
  | 0 => h
  | n + 1 => by rw [part_succ]; exact psh_get (part_get h n)
theorem part_len {q : List QI} {x : QI} : ∀ n, q.length ≤ (B.part q x n).length
  | 0 => Nat.le_refl _
  | n + 1 => by rw [part_succ]; exact Nat.le_trans (part_len n) (psh_len _ _)
theorem Inv.ini (ok : B.Ok n1 n2) : B.Inv n1 n2 B.ini := by
  have e : B.Inv n1 n2 [] := ⟨List.nodup_nil, (fun x hx => by cases hx), (fun x hx => by cases hx), (fun j x hj => by cases hj), fun x hx => by cases hx⟩
  exact (e.push (x := B.item 0) ⟨ok.s1 0 (by decide), ok.s2 0 (by decide), show (0 : Nat) < 2 by decide⟩ (fun l hl => by cases hl) (Nat.zero_le _) ⟨rfl, rfl⟩).push (x := B.item 1) ⟨ok.s1 1 (by decide), ok.s2 1 (by decide), show (1 : Nat) < 2 by decide⟩ (fun l hl => by cases hl) (Nat.zero_le _) ⟨rfl, rfl⟩
theorem Inv.part {q : List QI} (h : B.Inv n1 n2 q) (ok : B.Ok n1 n2) {i : Nat} {x : QI} (hx : q[i]? = some x) : ∀ n, n ≤ B.nl → B.Inv n1 n2 (B.part q x n)
  | 0, _ => h
  | n + 1, hn => by
    rw [part_succ]
    have hm := List.mem_of_getElem? hx
    obtain ⟨r1, r2, r3⟩ := h.rng x hm
    have hi := (List.getElem?_eq_some_iff.mp hx).1
    refine (Inv.part h ok hx n (Nat.le_of_succ_le hn)).push ⟨ok.d1 _ _ r1 hn, ok.d2 _ _ r2 hn, r3⟩ (fun l hl => ?_) ?_ ?_
    · rcases List.mem_append.mp hl with hl | hl
      · exact h.let_ x hm l hl
      · rw [List.mem_singleton.mp hl]; exact hn
    · have h1 := h.len i x hx
      have h2 := part_len (B := B) (q := q) (x := x) n
      show (x.2.2 ++ [n]).length ≤ _
      rw [List.length_append, List.length_singleton]
      omega
    · obtain ⟨w1, w2⟩ := h.wk1 x hm
      constructor
      · show B.d1 x.1.1 n = wk B.d1 (x.2.2 ++ [n]) (B.s1 x.2.1)
        rw [w1]
        unfold wk
        rw [List.foldl_append]
        rfl
      · show B.d2 x.1.2 n = wk B.d2 (x.2.2 ++ [n]) (B.s2 x.2.1)
        rw [w2]
        unfold wk
        rw [List.foldl_append]
        rfl
theorem nodup_lt : ∀ (n : Nat) (l : List Nat), l.Nodup → (∀ x ∈ l, x < n) → l.length ≤ n
  | 0, l, _, h => by
    cases l with
    | nil => exact Nat.le_refl _
    | cons a l => exact absurd (h a (List.mem_cons_self ..)) (Nat.not_lt_zero _)
  | n + 1, l, nd, h => by
    have h1 : (l.filter (· ≠ n)).length ≤ n := nodup_lt n _ (nd.filter _) fun x hx => by
      obtain ⟨hx1, hx2⟩ := List.mem_filter.mp hx
      have := h x hx1
      have hne : x ≠ n := by simpa using hx2
      omega
    have h2 : l.length ≤ (l.filter (· ≠ n)).length + 1 := by
      clear h1 h
      induction l with
      | nil => exact Nat.zero_le _
      | cons a l ih =>
        have nd' := (List.nodup_cons.mp nd)
        by_cases ha : a = n
        · subst ha
          have e : l.filter (· ≠ a) = l := List.filter_eq_self.mpr fun x hx => by
            have : x ≠ a := fun e => nd'.1 (e ▸ hx)
            simpa using this
          rw [List.filter_cons_of_neg (by simp), e]
          exact Nat.le_refl _
        · rw [List.filter_cons_of_pos (by simpa using ha), List.length_cons, List.length_cons]
          have := ih nd'.2
          omega
    omega
theorem Inv.bound {q : List QI} (h : B.Inv n1 n2 q) : q.length ≤ n1 * n2 := by
  have e : (q.map fun x => x.1.1 * n2 + x.1.2).length ≤ n1 * n2 := by
    refine nodup_lt _ _ ?_ fun y hy => ?_
    · have nd := h.nd
      rw [List.Nodup, List.pairwise_map] at nd ⊢
      refine nd.imp_of_mem fun {a b} ha hb hne he => hne ?_
      obtain ⟨a1, a2, _⟩ := h.rng a ha
      obtain ⟨b1, b2, _⟩ := h.rng b hb
      have hn2 : 0 < n2 := by omega
      have m1 : (a.1.1 * n2 + a.1.2) % n2 = (b.1.1 * n2 + b.1.2) % n2 := by rw [he]
      have m2 : (a.1.1 * n2 + a.1.2) / n2 = (b.1.1 * n2 + b.1.2) / n2 := by rw [he]
      rw [Nat.mul_comm a.1.1, Nat.mul_comm b.1.1, Nat.mul_add_mod, Nat.mul_add_mod, Nat.mod_eq_of_lt a2, Nat.mod_eq_of_lt b2] at m1
      rw [Nat.mul_comm a.1.1, Nat.mul_comm b.1.1, Nat.mul_add_div hn2, Nat.mul_add_div hn2, Nat.div_eq_of_lt a2, Nat.div_eq_of_lt b2] at m2
      exact Prod.ext (by omega) m1
    · obtain ⟨x, hx, rfl⟩ := List.mem_map.mp hy
      obtain ⟨x1, x2, _⟩ := h.rng x hx
      have : (x.1.1 + 1) * n2 ≤ n1 * n2 := Nat.mul_le_mul_right _ x1
      rw [Nat.succ_mul] at this
      show x.1.1 * n2 + x.1.2 < n1 * n2
      omega
  rwa [List.length_map] at e
/-- what is known of a word found -/
theorem bfs_found (ok : B.Ok n1 n2) : ∀ (f : Nat) (q : List QI) (i : Nat) (k : Nat) (w : List Nat), B.Inv n1 n2 q → B.bfs f q i = some (some (k, w)) → k < 2 ∧ (∀ l ∈ w, l < B.nl) ∧ w.length ≤ n1 * n2 ∧ B.a1 (wk B.d1 w (B.s1 k)) ≠ B.a2 (wk B.d2 w (B.s2 k))
  | 0, q, i, k, w, _, h => by cases h
  | f + 1, q, i, k, w, inv, h => by
    unfold bfs at h
    cases e : q[i]? with
    | none => rw [e] at h; cases h
    | some x =>
      rw [e] at h
      dsimp only at h
      split at h
      · exact bfs_found ok f _ _ k w (inv.part ok e B.nl (Nat.le_refl _)) h
      · rename_i hc
        have hx : x.2 = (k, w) := Option.some.inj (Option.some.inj h)
        have hm := List.mem_of_getElem? e
        obtain ⟨w1, w2⟩ := inv.wk1 x hm
        have h3 := (inv.rng x hm).2.2
        have h4 := inv.let_ x hm
        have h5 := inv.len i x e
        have h6 := inv.bound
        have h7 := (List.getElem?_eq_some_iff.mp e).1
        rw [w1, w2] at hc
        rw [hx] at hc h3 h4 h5
        exact ⟨h3, h4, by show w.length ≤ _; have : w.length ≤ i := h5; omega, hc⟩
/-! both exchanged -/
def swap (B : BD) : BD := ⟨B.d2, B.d1, B.a2, B.a1, B.s2, B.s1, B.nl⟩
def sw (x : QI) : QI := ((x.1.2, x.1.1), x.2)
theorem mem_sw {q : List QI} {p : Nat × Nat} : (p.2, p.1) ∈ (q.map sw).map (·.1) ↔ p ∈ q.map (·.1) := by
  simp only [List.map_map, List.mem_map, Function.comp]
  constructor
  · rintro ⟨x, hx, e⟩
    refine ⟨x, hx, ?_⟩
    have e1 : x.1.2 = p.2 := congrArg Prod.fst e
    have e2 : x.1.1 = p.1 := congrArg Prod.snd e
    exact Prod.ext e2 e1
  · rintro ⟨x, hx, rfl⟩
    exact ⟨x, hx, rfl⟩
theorem psh_sw (q : List QI) (x : QI) : psh (q.map sw) (sw x) = (psh q x).map sw := by
  unfold psh
  by_cases h : x.1 ∈ q.map (·.1)
  · rw [if_pos h, if_pos (show (sw x).1 ∈ _ from mem_sw.mpr h)]
  · rw [if_neg h, if_neg (show ¬ (sw x).1 ∈ _ from fun z => h (mem_sw.mp z)), List.map_append]
    rfl
theorem part_sw (B : BD) (q : List QI) (x : QI) : ∀ n, B.swap.part (q.map sw) (sw x) n = (B.part q x n).map sw
  | 0 => rfl
  | n + 1 => by
    rw [part_succ, part_succ, part_sw B q x n]
    exact psh_sw _ (B.nxt x n)
theorem bfs_sw (B : BD) : ∀ (f : Nat) (q : List QI) (i : Nat), B.swap.bfs f (q.map sw) i = B.bfs f q i
  | 0, _, _ => rfl
  | f + 1, q, i => by
    unfold bfs
    rw [List.getElem?_map]
    cases q[i]? with
    | none => rfl
    | some x =>
      show (if B.a2 x.1.2 = B.a1 x.1.1 then B.swap.bfs f (B.swap.part (q.map sw) (sw x) B.nl) (i + 1) else some (some x.2)) = (if B.a1 x.1.1 = B.a2 x.1.2 then B.bfs f (B.part q x B.nl) (i + 1) else some (some x.2))
      rw [part_sw, bfs_sw B f]
      by_cases h : B.a1 x.1.1 = B.a2 x.1.2
      · rw [if_pos h, if_pos h.symm]
      · rw [if_neg h, if_neg fun z => h z.symm]
theorem ini_sw (B : BD) : B.swap.ini = B.ini.map sw := by
  unfold ini
  rw [← psh_sw, ← psh_sw]
  rfl
theorem bfs_swap (B : BD) (f : Nat) : B.swap.bfs f B.swap.ini 0 = B.bfs f B.ini 0 := by rw [ini_sw, bfs_sw]
end BD
end K5

namespace K5
open PySem PySem.Spec PyProof.Rows L2
def bOf (k : Nat) : Str := if k = 0 then "new" else "found"
def wOf (ws : List Str) (w : List Nat) : List Str := w.map fun l => ws.getD l Str.empty
def keyOf (p : Nat × Nat) : List Key := [.inl (p.1 : Nat), .inl (p.2 : Nat)]
def tupP (p : Nat × Nat) : HO := .tup [.int (p.1 : Nat), .int (p.2 : Nat)]
theorem keyOf_inj {p q : Nat × Nat} (h : keyOf p = keyOf q) : p = q := by
  unfold keyOf at h
  have h1 := (List.cons.inj h).1
  have h2 := (List.cons.inj (List.cons.inj h).2).1
  exact Prod.ext (Int.ofNat.inj (Sum.inl.inj h1)) (Int.ofNat.inj (Sum.inl.inj h2))
structure BQ' (H : Hp) (fd qd : Addr) (ws : List Str) (q : List QI) (kvs : List (List Key × V)) (kt : List Addr) : Prop where
  f : H fd = some (.dT kvs)
  fl : kvs.length ≤ q.length
  qq : H qd = some (.lst (kt.map V.ref))
  ql : kt.length = q.length
  key : ∀ (j : Nat) (t : Addr) (x : QI), kt[j]? = some t → q[j]? = some x → H t = some (tupP x.1)
  val : ∀ x ∈ q, ∃ tv tw, valV kvs (keyOf x.1) = some (.ref tv) ∧ H tv = some (.tup [.str (bOf x.2.1), .ref tw]) ∧ H tw = some (.tup ((wOf ws x.2.2).map V.str))
  no : ∀ p : Nat × Nat, p ∉ q.map (·.1) → valV kvs (keyOf p) = none
def BQ (H : Hp) (fd qd : Addr) (ws : List Str) (q : List QI) : Prop := ∃ kvs kt, BQ' H fd qd ws q kvs kt
theorem BQ'.same {H H' : Hp} {fd qd : Addr} {ws : List Str} {q : List QI} {kvs : List (List Key × V)} {kt : List Addr} (h : BQ' H fd qd ws q kvs kt) (s : Same H H') : BQ' H' fd qd ws q kvs kt :=
  ⟨s _ _ h.f, h.fl, s _ _ h.qq, h.ql, fun j t x a b => s _ _ (h.key j t x a b), fun x hx => let ⟨tv, tw, a, b, c⟩ := h.val x hx; ⟨tv, tw, a, s _ _ b, s _ _ c⟩, h.no⟩
theorem BQ.same {H H' : Hp} {fd qd : Addr} {ws : List Str} {q : List QI} (h : BQ H fd qd ws q) (s : Same H H') : BQ H' fd qd ws q := let ⟨kvs, kt, h⟩ := h; ⟨kvs, kt, h.same s⟩
theorem BQ.nil {H : Hp} {fd qd : Addr} {ws : List Str} (h1 : H fd = some (.dT [])) (h2 : H qd = some (.lst [])) : BQ H fd qd ws [] :=
  ⟨[], [], h1, Nat.le_refl _, h2, rfl, (fun j t x a => by cases a), (fun x hx => by cases hx), fun p _ => rfl⟩
theorem BQ'.push {H : Hp} {fd qd tk tv tw : Addr} {ws : List Str} {q : List QI} {kvs : List (List Key × V)} {kt : List Addr} {x : QI} (h : BQ' H fd qd ws q kvs kt) (hn : x.1 ∉ q.map (·.1)) (ek : H tk = some (tupP x.1))
    (ev : H tv = some (.tup [.str (bOf x.2.1), .ref tw])) (ew : H tw = some (.tup ((wOf ws x.2.2).map V.str))) : BQ (upd (upd H fd (.dT (putK kvs (keyOf x.1) (.ref tv)))) qd (.lst (kt.map V.ref ++ [.ref tk]))) fd qd ws (psh q x) := by
  have nfq : fd ≠ qd := ne_of h.f h.qq (by intro z; cases z)
  have nt : ∀ {t : Addr} {xs : List V}, H t = some (.tup xs) → (upd (upd H fd (.dT (putK kvs (keyOf x.1) (.ref tv)))) qd (.lst (kt.map V.ref ++ [.ref tk]))) t = some (.tup xs) := fun {t xs} e => by
    rw [upd_ne (ne_of e h.qq (by intro z; cases z)), upd_ne (ne_of e h.f (by intro z; cases z))]
    exact e
  have e : psh q x = q ++ [x] := by unfold psh; rw [if_neg hn]
  rw [e]
  refine ⟨putK kvs (keyOf x.1) (.ref tv), kt ++ [tk], ?_, ?_, ?_, ?_, ?_, ?_, ?_⟩
  · rw [upd_ne nfq, upd_same]
  · rw [List.length_append]
    exact Nat.le_trans (putK_len _ _ _) (Nat.succ_le_succ h.fl)
  · rw [upd_same, List.map_append]
    rfl
  · rw [List.length_append, List.length_append, h.ql]
    rfl
  · intro j t y hj hy
    by_cases hlt : j < q.length
    · rw [List.getElem?_append_left hlt] at hy
      rw [List.getElem?_append_left (by rw [h.ql]; exact hlt)] at hj
      exact nt (h.key j t y hj hy)
    · rw [List.getElem?_append_right (by omega)] at hy
      rw [List.getElem?_append_right (by rw [h.ql]; omega), h.ql] at hj
      have hj0 : j - q.length = 0 := by
        have := (List.getElem?_eq_some_iff.mp hy).1
        simp at this
        omega
      rw [hj0] at hj hy
      rw [← Option.some.inj hj, ← Option.some.inj hy]
      exact nt ek
  · intro y hy
    rcases List.mem_append.mp hy with hy | hy
    · obtain ⟨tv', tw', a, b, c⟩ := h.val y hy
      have hne : ¬ keyOf y.1 = keyOf x.1 := fun z => hn (by rw [← keyOf_inj z]; exact List.mem_map.mpr ⟨y, hy, rfl⟩)
      refine ⟨tv', tw', ?_, nt b, nt c⟩
      rw [valV_put, if_neg hne]
      exact a
    · rw [List.mem_singleton.mp hy]
      refine ⟨tv, tw, ?_, nt ev, nt ew⟩
      rw [valV_put, if_pos rfl]
  · intro p hp
    rw [List.map_append] at hp
    have h1 : p ∉ q.map (·.1) := fun z => hp (List.mem_append_left _ z)
    have h2 : ¬ keyOf p = keyOf x.1 := fun z => hp (List.mem_append_right _ (by rw [keyOf_inj z]; simp))
    rw [valV_put, if_neg h2]
    exact h.no p h1
theorem psh_old {q : List QI} {x : QI} (h : x.1 ∈ q.map (·.1)) : psh q x = q := by unfold psh; rw [if_pos h]
theorem BQ'.in_ {H : Hp} {fd qd : Addr} {ws : List Str} {q : List QI} {kvs : List (List Key × V)} {kt : List Addr} (h : BQ' H fd qd ws q kvs kt) {p : Nat × Nat} (hp : p ∈ q.map (·.1)) : ∃ v, valV kvs (keyOf p) = some v := by
  obtain ⟨x, hx, rfl⟩ := List.mem_map.mp hp
  obtain ⟨tv, tw, a, _⟩ := h.val x hx
  exact ⟨_, a⟩
end K5

namespace K5
open PySem PySem.Spec PyProof.Rows L2
theorem Tx.cread {K : PySem.W.Frag} {mg : Str → Option Value} (T : Tx K mg) : ClX.CRead K (CH K) (.type "type") := by
  have h : mcB K = true := T.exAt 11
  unfold mcB at h
  obtain ⟨h1, h2⟩ := He.ba h
  exact ⟨of_decide_eq_true h1, of_decide_eq_true h2⟩
theorem Tx.cmet {K : PySem.W.Frag} {mg : Str → Option Value} (T : Tx K mg) : ClX.CMet K (CH K) (.type "type") "spelled" (cmR K) (cmG K) := by
  have h : cmAtB K = true := T.exAt 12
  have h2 : cmB K = true := T.exAt 13
  refine ⟨?_, ?_, T.exAt 14⟩
  · unfold cmAtB at h
    split at h
    · rename_i n p c e
      obtain ⟨e1, e2⟩ := He.ba h
      obtain ⟨e3, e4⟩ := He.ba e2
      rw [e, of_decide_eq_true e1, of_decide_eq_true e3, of_decide_eq_true e4]
    · cases h
  · unfold cmB at h2
    unfold cmG
    split at h2
    · rename_i g rest e
      exact ⟨rest, by rw [e]⟩
    · cases h2
def dN (rows : List (List Nat)) (i l : Nat) : Nat := (rows.getD i []).getD l 0
def sN (new found k : Nat) : Nat := if k = 0 then new else found
def bdOf (nl : Nat) (rows1 : List (List Nat)) (ans1 : List Str) (n1 f1 : Nat) (rows2 : List (List Nat)) (ans2 : List Str) (n2 f2 : Nat) : BD :=
  ⟨dN rows1, dN rows2, fun i => ans1.getD i Str.empty, fun i => ans2.getD i Str.empty, sN n1 f1, sN n2 f2, nl⟩
def sp_apart (K : PySem.W.Frag) : Sp := fun vs H Q E => ∃ (m1 m2 L1 L2 : Addr) (ws1 ws2 : List Str) (rows1 rows2 : List (List Nat)) (ans1 ans2 : List Str) (n1 f1 n2 f2 : Nat), vs = [.ref m1, .ref m2] ∧ MacO K H m1 L1 rows1 ans1 n1 f1 ∧ MacO K H m2 L2 rows2 ans2 n2 f2 ∧ LetO K H L1 ws1 ∧ LetO K H L2 ws2 ∧
  (GoodM ws1.length rows1 ans1 ∧ n1 < rows1.length ∧ f1 < rows1.length ∧ rows1.length ≤ 10) ∧ (ws1 = ws2 → GoodM ws2.length rows2 ans2 ∧ n2 < rows2.length ∧ f2 < rows2.length ∧ rows2.length ≤ 10) ∧ (ws1 ≠ ws2 → E (.ref (CO K)) none H) ∧
  (ws1 = ws2 → ∀ (f : Nat) (r : Option (Nat × List Nat)), (bdOf ws1.length rows1 ans1 n1 f1 rows2 ans2 n2 f2).bfs f (bdOf ws1.length rows1 ans1 n1 f1 rows2 ans2 n2 f2).ini 0 = some r → ∀ H', Same H H' →
    (r = none → Q .non H') ∧ ∀ k w, r = some (k, w) → ∀ h, HisO K H' h L1 (bOf k) (joinR ((wOf ws1 w).map fun u => (u, 1))) → Q (.ref h) H')
theorem δR_dN {ws : List Str} (nd : ws.Nodup) {l : Nat} {z : Str} (h : ws[l]? = some z) (rows : List (List Nat)) (i : Nat) : δR ws rows i z = dN rows i l := by
  unfold δR dN
  rw [idxOf_get nd h]
theorem dN_lt {nl : Nat} {rows : List (List Nat)} {ans : List Str} (g : GoodM nl rows ans) {i l : Nat} (hi : i < rows.length) (hl : l < nl) : dN rows i l < rows.length := by
  have hr : rows[i]? = some rows[i] := List.getElem?_eq_getElem hi
  obtain ⟨h1, h2⟩ := g.2.2.1 _ (List.mem_of_getElem? hr)
  have hk : (rows[i])[l]? = some (rows[i])[l] := List.getElem?_eq_getElem (by rw [h1]; exact hl)
  have e1 : rows.getD i [] = rows[i] := by rw [List.getD_eq_getElem?_getD, hr]; rfl
  have e2 : (rows[i]).getD l 0 = (rows[i])[l] := by rw [List.getD_eq_getElem?_getD, hk]; rfl
  unfold dN
  rw [e1, e2]
  exact h2 _ (List.mem_of_getElem? hk)
theorem sN_lt {n f k m : Nat} (h1 : n < m) (h2 : f < m) : sN n f k < m := by
  unfold sN
  split
  · exact h1
  · exact h2
theorem bdOk {nl : Nat} {rows1 rows2 : List (List Nat)} {ans1 ans2 : List Str} {n1 f1 n2 f2 : Nat} (g1 : GoodM nl rows1 ans1) (g2 : GoodM nl rows2 ans2) (a1 : n1 < rows1.length) (b1 : f1 < rows1.length) (a2 : n2 < rows2.length) (b2 : f2 < rows2.length) :
    (bdOf nl rows1 ans1 n1 f1 rows2 ans2 n2 f2).Ok rows1.length rows2.length :=
  ⟨fun i l hi hl => dN_lt g1 hi hl, fun i l hi hl => dN_lt g2 hi hl, fun k _ => sN_lt a1 b1, fun k _ => sN_lt a2 b2⟩
theorem ansAt {ans : List Str} {i : Nat} (h : i < ans.length) : (ans.map V.str)[i]? = some (.str (ans.getD i Str.empty)) := by
  rw [List.getElem?_map, List.getD_eq_getElem?_getD, List.getElem?_eq_getElem h]
  rfl
theorem wsAt {ws : List Str} {l : Nat} {z : Str} (h : ws[l]? = some z) : ws.getD l Str.empty = z := by
  rw [List.getD_eq_getElem?_getD, h]
  rfl
theorem bOf_ok (k : Nat) : bOf k = "new" ∨ bOf k = "found" := by
  unfold bOf
  split
  · exact .inl rfl
  · exact .inr rfl
theorem start_bOf {n f k : Nat} : (if bOf k = "new" then n else f) = sN n f k := by
  unfold bOf sN
  by_cases h : k = 0
  · rw [if_pos h, if_pos h, if_pos rfl]
  · rw [if_neg h, if_neg h, if_neg (by decide +kernel)]
theorem G_Machine_apart {P : Program} {w : World} {K : PySem.W.Frag} {mg : Str → Option Value} {base : Heap} (T : Tx K mg) : FnR P w K mg base (L2.CX P w) 6 (He.ma K (He.ga K "Machine") "apart") (sp_apart K) :=
  fnR_of T.d_Machine_apart sc_Machine_apart (fun vs H Q E h => by
    obtain ⟨m1, m2, L1, L2, ws1, ws2, rows1, rows2, ans1, ans2, n1, f1, n2, f2, rfl, hM1, hM2, oL1, oL2, ⟨hg1, hn1, hf1, hs1⟩, hg2, q1, q2⟩ := h
    rfl) (fun _ _ _ _ _ _ us hl => match us, hl with | [_, _], _ => rfl) fun cdv A outer s H vs Q E hr h => by
    obtain ⟨m1, m2, L1, L2, ws1, ws2, rows1, rows2, ans1, ans2, n1, f1, n2, f2, rfl, hM1, hM2, oL1, oL2, ⟨hg1, hn1, hf1, hs1⟩, hg2, q1, q2⟩ := h
    have hu := hu_of hr
    refine ⟨_, (pss_cons (ps_expr (pe_callG (G_need_same T) (hr.mono (by decide)) rfl (passes_call (takes_of rfl rfl rfl rfl) fun _ _ _ _ h => h) (pa_cons (pv 0) (pa_cons (pv 1) pa_nil))))
      (pss_cons (ps_par (i := 2) (j := 3) rfl sc_Machine_apart.nd rfl rfl (by decide) rfl rfl (pa_cons (pe_methG0 (pv 0) T.cl_Machine (MG_Machine_moves T) (hr.mono (by decide)) passL) (pa_cons (pe_methG0 (pv 1) T.cl_Machine (MG_Machine_moves T) (hr.mono (by decide)) passL) pa_nil)) rfl)
      (pss_cons (ps_setLc (i := 4) (own := [("beginning", 5)]) (g := gName 5) rfl sc_Machine_apart.nd rfl rfl (sw_true rfl rfl rfl (by decide +kernel)) (pi_tup (pe_tup (pa_cons pe_str (pa_cons pe_str pa_nil)))) (blkOk_by rfl) (fun _ _ _ _ _ => (pg_name (i := 5) sc_Machine_apart.nd rfl (by first | exact Or.inl rfl | exact Or.inr rfl))) (fun _ _ _ _ _ => pts_nil) (fun _ _ _ _ _ => (pe_tup (pa_cons (pe_methG (pv 0) T.cl_Machine (MG_Machine_start T) (hr.mono (by decide)) passL (pa_cons (pv 5) pa_nil)) (pa_cons (pe_methG (pv 1) T.cl_Machine (MG_Machine_start T) (hr.mono (by decide)) passL (pa_cons (pv 5) pa_nil)) pa_nil)))))
      (pss_cons (ps_par (i := 6) (j := 7) rfl sc_Machine_apart.nd rfl rfl (by decide) rfl rfl (pa_cons pe_dnewT (pa_cons (pe_lst pa_nil) pa_nil)) rfl)
      (pss_cons (ps_for (passes_of rfl) rfl (pi_zipM rfl T.n_zip (pa_cons (pe_tup (pa_cons pe_str (pa_cons pe_str pa_nil))) (pa_cons (pv 4) pa_nil))) (pg_tup rfl (pgs_cons (pg_name (i := 5) sc_Machine_apart.nd rfl (by first | exact Or.inl rfl | exact Or.inr rfl)) (pgs_cons (pg_name (i := 8) sc_Machine_apart.nd rfl (by first | exact Or.inl rfl | exact Or.inr rfl)) pgs_nil))) (pss_one (ps_if (pt_cmp (pc_dnotin hu (pv 8) (pv 6))) (pss_cons (ps_dput hu (pv 6) (pv 8) (pe_tup (pa_cons (pv 5) (pa_cons (pe_tup pa_nil) pa_nil))) rfl)
          (pss_one (ps_expr (pe_bm PySem.F.plainAttrs_list PySem.F.slot_list_append PySem.F.type_list_append mt_append (pv 7) (pa_cons (pv 8) pa_nil))))) pss_nil)))
      (pss_cons (ps_set (i := 9) sc_Machine_apart.nd rfl (by first | exact Or.inl rfl | exact Or.inr rfl) pe_int)
      (pss_cons (ps_while (passes_of rfl) (pt_cmpR op_lt (pv 9) (pe_callB call_len_seq rfl T.n_len (show bootBuiltins "len" = some (.builtin "len") by decide +kernel) (pa_cons (pv 7) pa_nil)) (nomark _)) (pss_cons (ps_set (i := 8) sc_Machine_apart.nd rfl (by first | exact Or.inl rfl | exact Or.inr rfl) (pe_ix ix_list (pv 7) (pv 9) (fun _ _ => rfl)))
        (pss_cons (ps_asg (pe_dget hu (pv 6) (pv 8) (fun _ _ => rfl)) (pg_tup rfl (pgs_cons (pg_name (i := 5) sc_Machine_apart.nd rfl (by first | exact Or.inl rfl | exact Or.inr rfl)) (pgs_cons (pg_name (i := 10) sc_Machine_apart.nd rfl (by first | exact Or.inl rfl | exact Or.inr rfl)) pgs_nil))))
        (pss_cons (ps_set (i := 9) sc_Machine_apart.nd rfl (by first | exact Or.inl rfl | exact Or.inr rfl) (pe_op op_add (pv 9) pe_int))
        (pss_cons (ps_if (pt_cmpR op_ne (pe_ix ix_tup (pe_fld (pv 0) rfl) (pe_ix ix_tup (pv 8) pe_int (fun _ _ => rfl)) (fun _ _ => rfl)) (pe_ix ix_tup (pe_fld (pv 1) rfl) (pe_ix ix_tup (pv 8) pe_int (fun _ _ => rfl)) (fun _ _ => rfl)) (nomark _)) (pss_one (ps_ret (ClX.pe_cmeth (pe_globR T.g_History rfl) T.cread T.cmet (G_History_spelled T) (hr.mono (by decide)) passL (pa_cons (pe_fld (pv 0) rfl) (pa_cons (pv 5) (pa_cons (pv 10) pa_nil)))))) pss_nil)
        (pss_one (ps_for (passes_of rfl) rfl (pi_tup (pe_fld (pe_fld (pv 0) rfl) rfl)) (pg_name (i := 11) sc_Machine_apart.nd rfl (by first | exact Or.inl rfl | exact Or.inr rfl)) (pss_cons (ps_set (i := 12) sc_Machine_apart.nd rfl (by first | exact Or.inl rfl | exact Or.inr rfl) (pe_tup (pa_cons (pe_dget hu (pe_ix ix_list (pv 2) (pe_ix ix_tup (pv 8) pe_int (fun _ _ => rfl)) (fun _ _ => rfl)) (pv 11) (fun _ _ => rfl)) (pa_cons (pe_dget hu (pe_ix ix_list (pv 3) (pe_ix ix_tup (pv 8) pe_int (fun _ _ => rfl)) (fun _ _ => rfl)) (pv 11) (fun _ _ => rfl)) pa_nil))))
          (pss_one (ps_if (pt_cmp (pc_dnotin hu (pv 12) (pv 6))) (pss_cons (ps_dput hu (pv 6) (pv 12) (pe_tup (pa_cons (pv 5) (pa_cons (pe_op op_catA (pv 10) (pe_tup (pa_cons (pv 11) pa_nil))) pa_nil))) rfl)
            (pss_one (ps_expr (pe_bm PySem.F.plainAttrs_list PySem.F.slot_list_append PySem.F.type_list_append mt_append (pv 7) (pa_cons (pv 12) pa_nil))))) pss_nil))))))))))
      (pss_one (ps_ret pe_non))))))))), ?_⟩
    obtain ⟨dx1, tR1, tA1, rr1, em1, eR1, hT1, hrr1, eA1⟩ := id hM1
    obtain ⟨dx2, tR2, tA2, rr2, em2, eR2, hT2, hrr2, eA2⟩ := id hM2
    obtain ⟨dL1, tL1, eL1, eT1, nd1, h112, hw1⟩ := id oL1
    refine ⟨_, rfl, _, rfl, m1, m2, _, _, _, _, L1, L2, _, _, ws1, ws2, rfl, ⟨em1, T.cl_Machine, T.na_Machine_letters, rfl⟩, ⟨em2, T.cl_Machine, T.na_Machine_letters, rfl⟩, oL1, oL2, fun hws => ?_, q1⟩
    have q2 := q2 hws
    obtain ⟨hg2, hn2, hf2, hs2⟩ := hg2 hws
    rw [← hws] at hg2
    generalize hB : bdOf ws1.length rows1 ans1 n1 f1 rows2 ans2 n2 f2 = B at q2
    have okB : B.Ok rows1.length rows2.length := by rw [← hB]; exact bdOk hg1 hg2 hn1 hf1 hn2 hf2
    refine ⟨_, rfl, m1, _, _, rfl, em1, rfl, m1, L1, ws1, rows1, ans1, n1, f1, rfl, hM1, oL1, hg1, fun H1 l1 s1 mv1 => ?_⟩
    refine ⟨_, rfl, m2, _, _, rfl, s1 _ _ em2, rfl, m2, L2, ws2, rows2, ans2, n2, f2, rfl, hM2.same s1, oL2.same s1, hws ▸ hg2, fun H2 l2 s2 mv2 => ⟨_, _, rfl, ?_⟩⟩
    rw [← hws] at mv2
    have mv1 := mv1.same s2
    have s3 := Same.trans s1 s2
    -- starts
    refine ⟨Nat.le_of_ble_eq_true rfl, fun t0 ht0 => ?_⟩
    have s4 : Same H2 (upd H2 t0 (.tup [.str "new", .str "found"])) := Same.up1 ht0
    have et0 : (upd H2 t0 (.tup [.str "new", .str "found"])) t0 = some (.tup [.str "new", .str "found"]) := upd_same
    generalize upd H2 t0 _ = H3 at *
    have s5 := Same.trans s3 s4
    have bAt : ∀ {i : Nat} {x : V}, ([V.str "new", V.str "found"] : List V)[i]? = some x → i < 2 ∧ x = .str (bOf i) := fun {i x} h => by
      match i, h with
      | 0, h => exact ⟨by decide, (Option.some.inj h).symm⟩
      | 1, h => exact ⟨by decide, (Option.some.inj h).symm⟩
      | i + 2, h => cases h
    refine ⟨_, rfl, ⟨_, SqT.of et0⟩, fun S hS => lc_it (walk_tup (xs := [.str "new", .str "found"])) (fun i H4 => Same H3 H4 ∧ ∃ ks : List Addr, H4 S = some (.lst (ks.map V.ref)) ∧ ks.length = i ∧ ∀ j k, ks[j]? = some k → H4 k = some (tupP (sN n1 f1 j, sN n2 f2 j))) ⟨Same.up1 hS, [], upd_same, rfl, fun j k e => by cases e⟩ (fun i H4 _ h => Same.seqT h.1 et0) ?_ ?_⟩
    · rintro i x H4 H5 hi ⟨s6, ks, e6, kl, kk⟩ ⟨rfl, hx⟩
      obtain ⟨hi2, rfl⟩ := bAt hx
      have s7 := Same.trans s5 s6
      refine ⟨rfl, _, rfl, m1, _, _, rfl, s7 _ _ em1, rfl, _, rfl, m1, L1, bOf i, rows1, ans1, n1, f1, rfl, hM1.same s7, _, rfl, m2, _, _, rfl, s7 _ _ em2, rfl, _, rfl, m2, L2, bOf i, rows2, ans2, n2, f2, rfl, hM2.same s7, Nat.le_of_ble_eq_true rfl, fun u hu => ⟨ks.map V.ref, ?_, ?_, ?_, ks ++ [u], ?_, ?_, ?_⟩⟩
      · rw [upd_ne (ne_of_none e6 hu)]; exact e6
      · rw [List.length_map, kl]; exact Nat.lt_of_lt_of_le hi2 (Nat.le_of_ble_eq_true rfl)
      · exact Same.up2 (Same.up2 s6 (Same.free s6 hu)) hS
      · rw [upd_same, List.map_append]; rfl
      · rw [List.length_append, kl]; rfl
      · intro j k hj
        have nu : (upd (upd H5 u (.tup [.int (if bOf i = "new" then n1 else f1 : Nat), .int (if bOf i = "new" then n2 else f2 : Nat)])) S (.lst (ks.map V.ref ++ [.ref u]))) u = some (tupP (sN n1 f1 i, sN n2 f2 i)) := by
          rw [upd_ne (Ne.symm (ne_of_none e6 hu)), upd_same, start_bOf, start_bOf]
          rfl
        by_cases hlt : j < i
        · rw [List.getElem?_append_left (by omega)] at hj
          have e7 := kk j k hj
          rw [upd_ne (ne_of e7 e6 (by intro z; cases z)), upd_ne (ne_of_none e7 hu)]
          exact e7
        · rw [List.getElem?_append_right (by omega)] at hj
          have hj0 : j - ks.length = 0 := by
            have := (List.getElem?_eq_some_iff.mp hj).1
            simp at this
            omega
          rw [hj0] at hj
          have hji : j = i := by omega
          rw [← Option.some.inj hj, hji]
          exact nu
    rintro H4 ⟨s6, ks, e6, kl, kk⟩
    have s7 := Same.trans s5 s6
    -- found, queue
    intro fd hfd
    refine ⟨Nat.zero_le _, fun qd hqd => ⟨_, _, rfl, ?_⟩⟩
    have nfq : fd ≠ qd := fun z => by rw [← z, upd_same] at hqd; cases hqd
    have hqd4 : H4 qd = none := by rw [upd_ne (Ne.symm nfq)] at hqd; exact hqd
    have s8 : Same H4 (upd (upd H4 fd (.dT [])) qd (.lst [])) := Same.up2 (Same.up1 hfd) hqd4
    have b8 : BQ (upd (upd H4 fd (.dT [])) qd (.lst [])) fd qd ws1 [] := BQ.nil (by rw [upd_ne nfq, upd_same]) upd_same
    generalize upd (upd H4 fd (.dT [])) qd (.lst []) = H5 at *
    refine ⟨Nat.le_of_ble_eq_true rfl, fun t1 ht1 => ?_⟩
    have s9 : Same H5 (upd H5 t1 (.tup [.str "new", .str "found"])) := Same.up1 ht1
    have et1 : (upd H5 t1 (.tup [.str "new", .str "found"])) t1 = some (.tup [.str "new", .str "found"]) := upd_same
    generalize upd H5 t1 _ = H6 at *
    have sA := Same.trans s8 s9
    have b9 := b8.same s9
    have hSn : ([V.str "new", V.str "found"] : List V).length = (ks.map V.ref).length := by rw [List.length_map, kl]
    have hfdS : ∀ {H' : Hp}, Same H4 H' → H' S = some (.lst (ks.map V.ref)) := fun s => s _ _ e6
    refine ⟨_, rfl, _, _, _, _, rfl, SqT.of et1, SqL.of (hfdS sA), for_it (walk_zipM hSn) (fun i σ H' => ∃ v5 v8, σ = [some (.ref m1), some (.ref m2), some (.ref l1), some (.ref l2), some (.ref S), v5, some (.ref fd), some (.ref qd), v8, none, none, none, none] ∧ Same H4 H' ∧ BQ H' fd qd ws1 (((List.range i).map B.item).foldl psh []) ∧ H' t1 = some (.tup [.str "new", .str "found"])) ⟨_, _, rfl, sA, b9, et1⟩ (fun i σ H' _ ⟨_, _, _, s, _, e⟩ => ⟨SqT.of e, SqL.of (hfdS s)⟩) ?_ ?_⟩
    · rintro i x σ H7 H8 hi ⟨v5, v8, rfl, sB, ⟨kvs, kt, bq⟩, et⟩ ⟨t, x1, x2, rfl, ht, rfl, e1, e2⟩
      obtain ⟨hi2, rfl⟩ := bAt e1
      obtain ⟨k, hk, rfl⟩ := map_get e2
      have sC : Same H7 (upd H7 t (.tup [.str (bOf i), .ref k])) := Same.up1 ht
      have et2 : (upd H7 t (.tup [.str (bOf i), .ref k])) t = some (.tup [.str (bOf i), .ref k]) := upd_same
      generalize upd H7 t _ = H8 at *
      have bq := bq.same sC
      have ekk : H8 k = some (tupP (sN n1 f1 i, sN n2 f2 i)) := sC _ _ (sB _ _ (kk i k hk))
      have hit : B.item i = ((sN n1 f1 i, sN n2 f2 i), i, []) := by rw [← hB]; rfl
      have hsucc : (((List.range (i + 1)).map B.item).foldl psh []) = psh (((List.range i).map B.item).foldl psh []) (B.item i) := by
        rw [List.range_succ, List.map_append, List.foldl_append]
        rfl
      refine ⟨t, _, rfl, SqT.of et2, rfl, _, _, rfl, _, _, rfl, rfl, ?_⟩
      refine ⟨_, rfl, _, rfl, fd, _, rfl, DGet.t (k := keyOf (sN n1 f1 i, sN n2 f2 i)) bq.f ekk, _, rfl, ?_⟩
      by_cases hm : (sN n1 f1 i, sN n2 f2 i) ∈ (((List.range i).map B.item).foldl psh []).map (·.1)
      · obtain ⟨v, hv⟩ := bq.in_ hm
        rw [hv]
        refine ifF rfl ⟨_, _, rfl, sB.trans sC, ?_, sC _ _ et⟩
        rw [hsucc, psh_old (by rw [hit]; exact hm)]
        exact ⟨kvs, kt, bq⟩
      · rw [bq.no _ hm]
        refine ifT rfl ⟨_, rfl, Nat.zero_le _, fun tw htw => ⟨Nat.le_of_ble_eq_true rfl, fun tv htv => ?_⟩⟩
        have sD : Same H8 (upd (upd H8 tw (.tup [])) tv (.tup [.str (bOf i), .ref tw])) := (Same.up1 htw).trans (Same.up1 htv)
        have etw : (upd (upd H8 tw (.tup [])) tv (.tup [.str (bOf i), .ref tw])) tw = some (.tup []) := by
          rw [upd_ne (fun z => by rw [← z, upd_same] at htv; cases htv), upd_same]
        have etv : (upd (upd H8 tw (.tup [])) tv (.tup [.str (bOf i), .ref tw])) tv = some (.tup [.str (bOf i), .ref tw]) := upd_same
        generalize upd (upd H8 tw (.tup [])) tv _ = H9 at *
        have bq := bq.same sD
        have hql : kvs.length < sizeLine := Nat.lt_of_le_of_lt bq.fl (by
          have : (((List.range i).map B.item).foldl psh []).length ≤ i := by
            have gen : ∀ (l : List QI) (q : List QI), (l.foldl psh q).length ≤ q.length + l.length := by
              intro l
              induction l with
              | nil => intro q; exact Nat.le_refl _
              | cons a l ih =>
                intro q
                have h1 := ih (psh q a)
                have h2 : (psh q a).length ≤ q.length + 1 := by
                  unfold psh
                  split
                  · exact Nat.le_succ _
                  · rw [List.length_append]; exact Nat.le_refl _
                show (l.foldl psh (psh q a)).length ≤ _
                rw [List.length_cons]
                omega
            have := gen ((List.range i).map B.item) []
            simpa using this
          exact Nat.lt_of_lt_of_le (show _ < 3 by omega) (Nat.le_of_ble_eq_true rfl))
        have hqk : kt.length < sizeLine := by
          have : kt.length ≤ i := by
            rw [bq.ql]
            have gen : ∀ (l : List QI) (q : List QI), (l.foldl psh q).length ≤ q.length + l.length := by
              intro l
              induction l with
              | nil => intro q; exact Nat.le_refl _
              | cons a l ih =>
                intro q
                have h1 := ih (psh q a)
                have h2 : (psh q a).length ≤ q.length + 1 := by
                  unfold psh
                  split
                  · exact Nat.le_succ _
                  · rw [List.length_append]; exact Nat.le_refl _
                show (l.foldl psh (psh q a)).length ≤ _
                rw [List.length_cons]
                omega
            have := gen ((List.range i).map B.item) []
            simpa using this
          exact Nat.lt_of_lt_of_le (show _ < 3 by omega) (Nat.le_of_ble_eq_true rfl)
        refine ⟨_, rfl, _, rfl, fd, _, rfl, DPut.t (k := keyOf (sN n1 f1 i, sN n2 f2 i)) bq.f (sD _ _ ekk) hql, ?_⟩
        refine ⟨_, rfl, .inl ⟨rfl, _, SqL.of (by rw [upd_ne (Ne.symm nfq)]; exact bq.qq)⟩, _, rfl, _, _, _, rfl, rfl, by rw [upd_ne (Ne.symm nfq)]; exact bq.qq, by rw [List.length_map]; exact hqk, ?_⟩
        have bn := BQ'.push (x := B.item i) (tk := k) (tv := tv) (tw := tw) bq (by rw [hit]; exact hm) (by rw [hit]; exact sD _ _ ekk) (by rw [hit]; exact etv) (by rw [hit]; exact etw)
        rw [hit] at bn
        refine ⟨_, _, rfl, ?_, ?_, ?_⟩
        · exact Same.up2 (Same.up2 ((sB.trans sC).trans sD) hfd) hqd4
        · rw [hsucc, hit]; exact bn
        · rw [upd_ne (ne_of (sD _ _ (sC _ _ et)) bq.qq (by intro z; cases z)), upd_ne (ne_of (sD _ _ (sC _ _ et)) bq.f (by intro z; cases z))]
          exact sD _ _ (sC _ _ et)
    rintro σ H7 ⟨v5, v8, rfl, sB, bq, et⟩
    have bq : BQ H7 fd qd ws1 B.ini := bq
    clear et
    have hnl : B.nl = ws1.length := by rw [← hB]; rfl
    have hNN : rows1.length * rows2.length ≤ 100 := Nat.mul_le_mul hs1 hs2
    have ha1 : ∀ i, B.a1 i = ans1.getD i Str.empty := fun i => by rw [← hB]; rfl
    have ha2 : ∀ i, B.a2 i = ans2.getD i Str.empty := fun i => by rw [← hB]; rfl
    have hd1 : ∀ i l, B.d1 i l = dN rows1 i l := fun i l => by rw [← hB]; rfl
    have hd2 : ∀ i l, B.d2 i l = dN rows2 i l := fun i l => by rw [← hB]; rfl
    have inv0 : B.Inv rows1.length rows2.length B.ini := BD.Inv.ini okB
    refine ⟨fun r σ H' => ∃ (q : List QI) (i : Nat) (v5 v8 v10 v11 v12 : Option V), i + r = rows1.length * rows2.length ∧ σ = [some (.ref m1), some (.ref m2), some (.ref l1), some (.ref l2), some (.ref S), v5, some (.ref fd), some (.ref qd), v8, some (.int (i : Nat)), v10, v11, v12] ∧ B.Inv rows1.length rows2.length q ∧ (∀ f, B.bfs (i + f) B.ini 0 = B.bfs f q i) ∧ Same H4 H' ∧ BQ H' fd qd ws1 q ∧ i ≤ q.length, ⟨rows1.length * rows2.length, B.ini, 0, v5, v8, none, none, none, Nat.zero_add _, rfl, inv0, fun f => by rw [Nat.zero_add], sB, bq, Nat.zero_le _⟩, ?_⟩
    rintro r σ H8 ⟨q, i, v5, v8, v10, v11, v12, hir, rfl, inv, hbfs, sB, ⟨kvs, kt, bq⟩, hiq⟩
    have hqN := inv.bound
    have hktl : (kt.map V.ref).length = q.length := by rw [List.length_map, bq.ql]
    refine ⟨_, rfl, _, rfl, _, _, rfl, .inl (SqL.of bq.qq), _, _, rfl, rfl, _, rfl, ?_⟩
    have s8 := Same.trans s7 sB
    by_cases hlt : i < q.length
    · obtain ⟨r', rfl⟩ : ∃ r', r = r' + 1 := ⟨r - 1, by omega⟩
      refine ifT (dT (by rw [hktl]; omega)) ⟨_, fun σ' H' h => ⟨r', Nat.lt_succ_self _, h⟩, ?_⟩
      obtain ⟨x, hx⟩ : ∃ x, q[i]? = some x := ⟨_, List.getElem?_eq_getElem hlt⟩
      have hxm := List.mem_of_getElem? hx
      obtain ⟨t, ht⟩ : ∃ t, kt[i]? = some t := ⟨_, List.getElem?_eq_getElem (by rw [bq.ql]; exact hlt)⟩
      have ht2 : (kt.map V.ref)[i]? = some (.ref t) := by rw [List.getElem?_map, ht]; rfl
      have ekey := bq.key i t x ht hx
      obtain ⟨tv, tw, ev, etv, etw⟩ := bq.val x hxm
      obtain ⟨rg1, rg2, rg3⟩ := inv.rng x hxm
      have hl1 : x.1.1 < ans1.length := by rw [hg1.2.2.2.1]; exact rg1
      have hl2 : x.1.2 < ans2.length := by rw [hg2.2.2.2.1]; exact rg2
      refine ⟨_, rfl, _, rfl, _, _, _, _, rfl, rfl, SqL.of bq.qq, atI_nat ht2, ?_⟩
      refine ⟨_, rfl, _, rfl, fd, .ref tv, rfl, (by rw [← ev]; exact DGet.t (k := keyOf x.1) bq.f ekey), _, _, rfl, SqT.of etv, rfl, _, _, rfl, _, _, rfl, rfl, ?_⟩
      refine ⟨_, rfl, _, _, rfl, rfl, ?_⟩
      refine ⟨_, rfl, _, _, _, _, _, rfl, s8 _ _ em1, T.cl_Machine, T.na_Machine_answers, rfl, _, rfl, _, _, _, _, rfl, rfl, SqT.of ekey, ix0 rfl, _, _, _, _, rfl, rfl, SqT.of (s8 _ _ eA1), atI_nat (ansAt hl1), ?_⟩
      refine ⟨_, rfl, _, _, _, _, _, rfl, s8 _ _ em2, T.cl_Machine, T.na_Machine_answers, rfl, _, rfl, _, _, _, _, rfl, rfl, SqT.of ekey, ix1 rfl, _, _, _, _, rfl, rfl, SqT.of (s8 _ _ eA2), atI_nat (ansAt hl2), rfl, _, rfl, ?_⟩
      by_cases hans : ans1.getD x.1.1 Str.empty = ans2.getD x.1.2 Str.empty
      · refine ifF (notf (dT (by rw [hans]))) ?_
        have hstep : ∀ f, B.bfs (i + 1 + f) B.ini 0 = B.bfs f (B.part q x B.nl) (i + 1) := fun f => by
          rw [show i + 1 + f = i + (f + 1) by omega, hbfs]
          conv => lhs; unfold BD.bfs
          rw [hx]
          show (if B.a1 x.1.1 = B.a2 x.1.2 then _ else _) = _
          rw [if_pos (by rw [ha1, ha2]; exact hans)]
        refine ⟨_, rfl, _, _, _, _, _, rfl, s8 _ _ em1, T.cl_Machine, T.na_Machine_letters, rfl, _, _, _, _, _, rfl, s8 _ _ eL1, T.cl_Letters, T.na_Letters_words, rfl, tL1, rfl, ⟨_, Same.seqT s8 eT1⟩, for_it (walk_tup (xs := ws1.map V.str)) (fun j σ H' => ∃ v11 v12, σ = [some (.ref m1), some (.ref m2), some (.ref l1), some (.ref l2), some (.ref S), some (.str (bOf x.2.1)), some (.ref fd), some (.ref qd), some (.ref t), some (.int ((i : Nat) + 1)), some (.ref tw), v11, v12] ∧ Same H4 H' ∧ BQ H' fd qd ws1 (B.part q x j) ∧ H' t = some (tupP x.1) ∧ H' tw = some (.tup ((wOf ws1 x.2.2).map V.str))) ⟨_, _, rfl, sB, ⟨kvs, kt, bq⟩, ekey, etw⟩ (fun j σ H' _ ⟨_, _, _, s, _⟩ => Same.seqT (Same.trans s7 s) eT1) ?_ ?_⟩
        · rintro j y σ H9 H10 hj ⟨v11, v12, rfl, sF, ⟨kvs2, kt2, bq⟩, et, etw⟩ ⟨rfl, hy⟩
          obtain ⟨z, hz, rfl⟩ := map_get hy
          have hzm := List.mem_of_getElem? hz
          have hjl : j < ws1.length := (List.getElem?_eq_some_iff.mp hz).1
          have sG := Same.trans s7 sF
          have invj := inv.part okB hx j (by rw [hnl]; omega)
          have hpl : (B.part q x j).length < sizeLine := Nat.lt_of_lt_of_le (show _ < 101 by have := invj.bound; omega) (Nat.le_of_ble_eq_true rfl)
          obtain ⟨ds1, g1, g2, g3⟩ := mv1
          obtain ⟨ds2, k1, k2, k3⟩ := mv2
          have sH : Same H2 H10 := Same.trans (Same.trans s4 s6) sF
          have hdd1 : ds1[x.1.1]? = some ds1[x.1.1] := List.getElem?_eq_getElem (by omega)
          have hdd2 : ds2[x.1.2]? = some ds2[x.1.2] := List.getElem?_eq_getElem (by omega)
          obtain ⟨kv1, p1, p2⟩ := g3 _ _ hdd1
          obtain ⟨kv2, r1, r2⟩ := k3 _ _ hdd2
          have hdm1 : (ds1.map V.ref)[x.1.1]? = some (.ref ds1[x.1.1]) := by rw [List.getElem?_map, hdd1]; rfl
          have hdm2 : (ds2.map V.ref)[x.1.2]? = some (.ref ds2[x.1.2]) := by rw [List.getElem?_map, hdd2]; rfl
          have eq1 : valV kv1 (.inr z) = some (.int (B.d1 x.1.1 j : Nat)) := by rw [p2 z hzm, δR_dN nd1 hz, hd1]
          have eq2 : valV kv2 (.inr z) = some (.int (B.d2 x.1.2 j : Nat)) := by rw [r2 z hzm, δR_dN nd1 hz, hd2]
          refine ⟨_, rfl, _, rfl, _, _, _, _, rfl, rfl, SqT.of et, ix0 rfl, _, _, _, _, rfl, rfl, Same.seqL sH g1, atI_nat hdm1, _, rfl, _, .int (B.d1 x.1.1 j : Nat), rfl, (by rw [← eq1]; exact DGet.k (k := .inr z) (sH _ _ p1)), ?_⟩
          refine ⟨_, rfl, _, rfl, _, _, _, _, rfl, rfl, SqT.of et, ix1 rfl, _, _, _, _, rfl, rfl, Same.seqL sH k1, atI_nat hdm2, _, rfl, _, .int (B.d2 x.1.2 j : Nat), rfl, (by rw [← eq2]; exact DGet.k (k := .inr z) (sH _ _ r1)), Nat.le_of_ble_eq_true rfl, fun u hu => ?_⟩
          have sU : Same H10 (upd H10 u (.tup [.int (B.d1 x.1.1 j : Nat), .int (B.d2 x.1.2 j : Nat)])) := Same.up1 hu
          have eu : (upd H10 u (.tup [.int (B.d1 x.1.1 j : Nat), .int (B.d2 x.1.2 j : Nat)])) u = some (tupP (B.nxt x j).1) := upd_same
          generalize upd H10 u _ = H11 at *
          have bq := bq.same sU
          refine ⟨_, rfl, _, rfl, fd, _, rfl, DGet.t (k := keyOf (B.nxt x j).1) bq.f eu, _, rfl, ?_⟩
          by_cases hm : (B.nxt x j).1 ∈ (B.part q x j).map (·.1)
          · obtain ⟨v, hv⟩ := bq.in_ hm
            rw [hv]
            refine ifF rfl ⟨_, _, rfl, sF.trans sU, ?_, sU _ _ et, sU _ _ etw⟩
            rw [BD.part_succ, psh_old hm]
            exact ⟨kvs2, kt2, bq⟩
          · rw [bq.no _ hm]
            have hwn : (wOf ws1 (B.nxt x j).2.2).map V.str = (wOf ws1 x.2.2).map V.str ++ [.str z] := by
              show (wOf ws1 (x.2.2 ++ [j])).map V.str = _
              unfold wOf
              rw [List.map_append, List.map_append]
              show _ ++ [V.str (ws1.getD j Str.empty)] = _
              rw [wsAt hz]
            have hwl : ((wOf ws1 x.2.2).map V.str).length ≤ 100 := by
              unfold wOf
              rw [List.length_map, List.length_map]
              have := inv.len i x hx
              omega
            refine ifT rfl ⟨_, rfl, _, rfl, _, rfl, Nat.le_of_ble_eq_true rfl, fun t2 ht2 => ⟨_, _, _, _, rfl, rfl, SqT.of (by rw [upd_ne (ne_of_none (sU _ _ etw) ht2)]; exact sU _ _ etw), SqT.of upd_same, ?_, ?_, ?_, ?_⟩⟩
            · show ((wOf ws1 x.2.2).map V.str).length + 1 ≤ sizeLine
              exact Nat.le_trans (show _ ≤ 101 by omega) (Nat.le_of_ble_eq_true rfl)
            · intro hxs
              have sX : Same H11 (upd H11 t2 (.tup [.str z])) := Same.up1 ht2
              have etn : (upd H11 t2 (.tup [.str z])) t2 = some (.tup ((wOf ws1 x.2.2).map V.str ++ [.str z])) := by rw [upd_same, hxs]; rfl
              generalize upd H11 t2 _ = H12 at *
              refine ⟨Nat.le_of_ble_eq_true rfl, fun tv htv => ?_⟩
              have etv : (upd H12 tv (.tup [.str (bOf x.2.1), .ref t2])) tv = some (.tup [.str (bOf x.2.1), .ref t2]) := upd_same
              have sY : Same H12 (upd H12 tv (.tup [.str (bOf x.2.1), .ref t2])) := Same.up1 htv
              generalize upd H12 tv _ = HY at *
              have etn2 := sY _ _ etn
              have sZ := sX.trans sY
              have bq := bq.same sZ
              have hkl : kt2.length < sizeLine := by rw [bq.ql]; exact hpl
              refine ⟨_, rfl, _, rfl, fd, _, rfl, DPut.t (k := keyOf (B.nxt x j).1) bq.f (sZ _ _ eu) (Nat.lt_of_le_of_lt bq.fl hpl), ?_⟩
              refine ⟨_, rfl, .inl ⟨rfl, _, SqL.of (by rw [upd_ne (Ne.symm nfq)]; exact bq.qq)⟩, _, rfl, _, _, _, rfl, rfl, by rw [upd_ne (Ne.symm nfq)]; exact bq.qq, by rw [List.length_map]; exact hkl, ?_⟩
              have bn := BQ'.push (x := B.nxt x j) (tk := u) (tv := tv) (tw := t2) bq hm (sZ _ _ eu) etv (by rw [hwn]; exact etn2)
              have ett := sZ _ _ (sU _ _ et)
              have etw2 := sZ _ _ (sU _ _ etw)
              refine ⟨_, _, rfl, ?_, ?_, ?_, ?_⟩
              · exact Same.up2 (Same.up2 ((sF.trans sU).trans sZ) hfd) hqd4
              · rw [BD.part_succ]; exact bn
              · rw [upd_ne (ne_of ett bq.qq (by intro z; cases z)), upd_ne (ne_of ett bq.f (by intro z; cases z))]; exact ett
              · rw [upd_ne (ne_of etw2 bq.qq (by intro z; cases z)), upd_ne (ne_of etw2 bq.f (by intro z; cases z))]; exact etw2
            · intro _ z
              cases z
            · intro _ _ t3 ht3
              have sX : Same H11 (upd (upd H11 t2 (.tup [.str z])) t3 (.tup ((wOf ws1 x.2.2).map V.str ++ [.str z]))) := (Same.up1 ht2).trans (Same.up1 ht3)
              have etn : (upd (upd H11 t2 (.tup [.str z])) t3 (.tup ((wOf ws1 x.2.2).map V.str ++ [.str z]))) t3 = some (.tup ((wOf ws1 x.2.2).map V.str ++ [.str z])) := upd_same
              generalize upd (upd H11 t2 (.tup [.str z])) t3 _ = H12 at *
              refine ⟨Nat.le_of_ble_eq_true rfl, fun tv htv => ?_⟩
              have etv : (upd H12 tv (.tup [.str (bOf x.2.1), .ref t3])) tv = some (.tup [.str (bOf x.2.1), .ref t3]) := upd_same
              have sY : Same H12 (upd H12 tv (.tup [.str (bOf x.2.1), .ref t3])) := Same.up1 htv
              generalize upd H12 tv _ = HY at *
              have etn2 := sY _ _ etn
              have sZ := sX.trans sY
              have bq := bq.same sZ
              have hkl : kt2.length < sizeLine := by rw [bq.ql]; exact hpl
              refine ⟨_, rfl, _, rfl, fd, _, rfl, DPut.t (k := keyOf (B.nxt x j).1) bq.f (sZ _ _ eu) (Nat.lt_of_le_of_lt bq.fl hpl), ?_⟩
              refine ⟨_, rfl, .inl ⟨rfl, _, SqL.of (by rw [upd_ne (Ne.symm nfq)]; exact bq.qq)⟩, _, rfl, _, _, _, rfl, rfl, by rw [upd_ne (Ne.symm nfq)]; exact bq.qq, by rw [List.length_map]; exact hkl, ?_⟩
              have bn := BQ'.push (x := B.nxt x j) (tk := u) (tv := tv) (tw := t3) bq hm (sZ _ _ eu) etv (by rw [hwn]; exact etn2)
              have ett := sZ _ _ (sU _ _ et)
              have etw2 := sZ _ _ (sU _ _ etw)
              refine ⟨_, _, rfl, ?_, ?_, ?_, ?_⟩
              · exact Same.up2 (Same.up2 ((sF.trans sU).trans sZ) hfd) hqd4
              · rw [BD.part_succ]; exact bn
              · rw [upd_ne (ne_of ett bq.qq (by intro z; cases z)), upd_ne (ne_of ett bq.f (by intro z; cases z))]; exact ett
              · rw [upd_ne (ne_of etw2 bq.qq (by intro z; cases z)), upd_ne (ne_of etw2 bq.f (by intro z; cases z))]; exact etw2
        · rintro σ H9 ⟨v11, v12, rfl, sF, bq', _, _⟩
          rw [List.length_map, ← hnl] at bq'
          exact ⟨_, i + 1, _, _, _, v11, v12, by omega, rfl, inv.part okB hx B.nl (Nat.le_refl _), hstep, sF, bq', Nat.le_trans hlt (BD.part_len _)⟩
      · have hres : B.bfs (i + 1) B.ini 0 = some (some x.2) := by
          rw [hbfs]
          unfold BD.bfs
          rw [hx]
          show (if B.a1 x.1.1 = B.a2 x.1.2 then _ else _) = _
          rw [if_neg (by rw [ha1, ha2]; exact hans)]
        refine ifT (nott (dF (fun z => hans (V.str.inj z)))) ⟨rfl, _, rfl, _, _, _, _, _, rfl, s8 _ _ em1, T.cl_Machine, T.na_Machine_letters, rfl, _, rfl, _, rfl, L1, tw, bOf x.2.1, ws1, wOf ws1 x.2.2, rfl, oL1.same s8, bOf_ok _, etw, ?_, ?_, fun h H' s' hh => (q2 _ _ hres H' (Same.trans s8 s')).2 _ _ rfl h hh⟩
        · intro u hu
          obtain ⟨l, hl, rfl⟩ := List.mem_map.mp hu
          have hll : l < ws1.length := by rw [← hnl]; exact inv.let_ x hxm l hl
          rw [wsAt (List.getElem?_eq_getElem hll)]
          exact List.getElem_mem hll
        · unfold wOf
          rw [List.length_map]
          have := inv.len i x hx
          omega
    · have hie : i = q.length := by omega
      refine ifF (dF (by rw [hktl]; omega)) ?_
      have hres : B.bfs (i + 1) B.ini 0 = some none := by
        rw [hbfs]
        unfold BD.bfs
        rw [List.getElem?_eq_none (by omega)]
      exact (q2 _ _ hres _ s8).1 rfl
theorem MG_Machine_apart {P : Program} {w : World} {K : PySem.W.Frag} {mg : Str → Option Value} {base : Heap} (T : Tx K mg) : MtG P w K mg base 6 (He.ga K "Machine") "apart" (sp_apart K) := ⟨_, T.m_Machine_apart, G_Machine_apart T⟩
end K5


namespace K5
open PySem PySem.Spec PyProof.Rows L2
def penL (c : Addr) (b l : Int) : List (Key × V) := [(.inr "cells", .ref c), (.inr "begun", .int b), (.inr "left", .int l)]
/-- the pen at p, of which at most n draws were made -/
def Pen (H : Hp) (p c : Addr) (n : Nat) : Prop := ∃ (cells : List Int) (b : Nat) (l : Int), H p = some (.dK (penL c (b : Nat) l)) ∧ H c = some (.lst (cells.map V.int)) ∧ cells.length ≤ 63 ∧ b ≤ n ∧ 0 ≤ l
theorem Pen.mono {H : Hp} {p c : Addr} {n m : Nat} (h : Pen H p c n) (l : n ≤ m) : Pen H p c m := let ⟨cells, b, z, h1, h2, h3, h4, h5⟩ := h; ⟨cells, b, z, h1, h2, h3, Nat.le_trans h4 l, h5⟩
theorem Pen.keep {H H' : Hp} {p c : Addr} {n : Nat} (h : Pen H p c n) (s : KeepP p H H') (e : H' p = H p) : Pen H' p c n :=
  let ⟨cells, b, z, h1, h2, h3⟩ := h
  ⟨cells, b, z, e.trans h1, s c _ (ne_of h2 h1 (by intro z; cases z)) h2, h3⟩
theorem Pen.at_ {H : Hp} {p c : Addr} {n : Nat} (h : Pen H p c n) : ∃ kvs cs, H p = some (.dK kvs) ∧ H c = some (.lst cs) := let ⟨cells, b, z, h1, h2, _⟩ := h; ⟨_, _, h1, h2⟩
theorem Pen.same {H H' : Hp} {p c : Addr} {n : Nat} (h : Pen H p c n) (s : Same H H') : Pen H' p c n := let ⟨cells, b, z, h1, h2, h3⟩ := h; ⟨cells, b, z, s _ _ h1, s _ _ h2, h3⟩
theorem sbc : ¬ (("cells" : Str) = "begun") := by decide +kernel
theorem slc : ¬ (("cells" : Str) = "left") := by decide +kernel
theorem slb : ¬ (("begun" : Str) = "left") := by decide +kernel
theorem nbc : ¬ ((.inr "cells" : Key) = .inr "begun") := fun e => sbc (Sum.inr.inj e)
theorem nlc : ¬ ((.inr "cells" : Key) = .inr "left") := fun e => slc (Sum.inr.inj e)
theorem nlb : ¬ ((.inr "begun" : Key) = .inr "left") := fun e => slb (Sum.inr.inj e)
theorem pen_c (c : Addr) (b l : Int) : valV (penL c b l) (.inr "cells") = some (.ref c) := valV_pos rfl
theorem pen_b (c : Addr) (b l : Int) : valV (penL c b l) (.inr "begun") = some (.int b) := by
  unfold penL
  rw [valV_neg nbc, valV_pos rfl]
theorem pen_l (c : Addr) (b l : Int) : valV (penL c b l) (.inr "left") = some (.int l) := by
  unfold penL
  rw [valV_neg nlc, valV_neg nlb, valV_pos rfl]
theorem put_l (c : Addr) (b l z : Int) : putK (penL c b l) (.inr "left") (.int z) = penL c b z := by
  unfold penL putK
  simp [slc, slb]
theorem put_b (c : Addr) (b l z : Int) : putK (penL c b l) (.inr "begun") (.int z) = penL c z l := by
  unfold penL putK
  have h : ¬ (("left" : Str) = "begun") := fun e => slb e.symm
  simp [sbc, h]
def sp_law_draw : Sp := fun vs H Q _ => ∃ (p c : Addr) (m : Nat) (n : Nat), vs = [.ref p, .int (m : Nat)] ∧ 0 < m ∧ m < 1073741824 ∧ Pen H p c n ∧ n < 2 ^ 40 ∧ ∀ (r : Nat) H', r < m → Pen H' p c (n + 1) → KeepP p H H' → Q (.int (r : Nat)) H'
theorem fm_nat (x : Int) {m : Nat} (h : 0 < m) : ∃ r : Nat, r < m ∧ x.fmod (m : Int) = (r : Int) := by
  have hp : (0 : Int) < (m : Int) := by omega
  have h1 := Int.fmod_nonneg_of_pos x hp
  have h2 := Int.fmod_lt_of_pos x hp
  exact ⟨(x.fmod (m : Int)).toNat, by omega, by omega⟩
theorem fm_pos (x : Int) {k : Int} (h : 0 < k) : 0 ≤ x.fmod k ∧ x.fmod k < k := ⟨Int.fmod_nonneg_of_pos x h, Int.fmod_lt_of_pos x h⟩
theorem fd_nn {x : Int} {m : Nat} (h : 0 ≤ x) : 0 ≤ x.fdiv (m : Int) := Int.fdiv_nonneg h (Int.natCast_nonneg m)
theorem cpow18 : CPow 10 18 := by refine ⟨by decide, by decide, by decide⟩
theorem G_law_draw {P : Program} {w : World} {K : PySem.W.Frag} {mg : Str → Option Value} {base : Heap} (T : Tx K mg) : FnG P w K mg base 1 "_law_draw" (sp_law_draw) :=
  fnG_of T.g_law_draw T.d_law_draw sc_law_draw (fun vs H Q E h => by
    obtain ⟨p, c, m, n, rfl, hm0, hm, ⟨cells, b, l, hp, hc, hcl, hbn, hl0⟩, hn, q⟩ := h
    rfl) (fun _ _ _ _ _ _ us hl => match us, hl with | [_, _], _ => rfl) fun cdv A outer s H vs Q E hr h => by
    obtain ⟨p, c, m, n, rfl, hm0, hm, ⟨cells, b, l, hp, hc, hcl, hbn, hl0⟩, hn, q⟩ := h
    have hu := hu_of hr
    refine ⟨_, (pss_cons (ps_if (pt_cmpR op_gt (pe_dget hu (pv 0) pe_str (fun _ _ => rfl)) pe_int (nomark _)) (pss_cons (ps_set (i := 2) sc_law_draw.nd rfl (by first | exact Or.inl rfl | exact Or.inr rfl) (pe_op op_modN (pe_callTy call_int1 rfl T.n_int (show bootBuiltins "int" = some (.type "int") by decide +kernel) (pa_cons (pe_dget hu (pv 0) pe_str (fun _ _ => rfl)) pa_nil)) (pv 1)))
        (pss_cons (ps_dput hu (pv 0) pe_str (pe_op op_fdivN (pe_dget hu (pv 0) pe_str (fun _ _ => rfl)) (pv 1)) rfl)
        (pss_one (ps_ret (pv 2))))) pss_nil)
      (pss_cons (ps_par (i := 3) (j := 4) rfl sc_law_draw.nd rfl rfl (by decide) rfl rfl (pa_cons (pe_dget hu (pv 0) pe_str (fun _ _ => rfl)) (pa_cons (pe_callB call_len_seq rfl T.n_len (show bootBuiltins "len" = some (.builtin "len") by decide +kernel) (pa_cons (pe_dget hu (pv 0) pe_str (fun _ _ => rfl)) pa_nil)) pa_nil)) rfl)
      (pss_cons (ps_dput hu (pv 0) pe_str (pe_op op_add (pv 3) pe_int) rfl)
      (pss_cons (ps_set (i := 5) sc_law_draw.nd rfl (by first | exact Or.inl rfl | exact Or.inr rfl) (pe_ifExp (pt_cmpR op_gt (pv 4) pe_int (nomark _)) (pe_ix ix_list (pe_dget hu (pv 0) pe_str (fun _ _ => rfl)) (pe_op op_modN (pe_callTy call_int1 rfl T.n_int (show bootBuiltins "int" = some (.type "int") by decide +kernel) (pa_cons (pv 3) pa_nil)) (pv 4)) (fun _ _ => rfl)) (pe_op op_add (pe_op op_mul pe_int (pv 3)) pe_int)))
      (pss_cons (ps_if (PW.pt (pw_and (pt_cmpR op_lt (pv 3) (pv 4) (nomark _)) (pw_and1 (pt_cmpR op_ge (pe_callB call_abs rfl T.n_abs (show bootBuiltins "abs" = some (.builtin "abs") by decide +kernel) (pa_cons (pv 5) pa_nil)) (pe_op op_pow pe_int pe_int) (nomark _))))) (pss_cons (ps_dput hu (pv 0) pe_str (pe_op op_fdivN (pe_op op_sub (pe_callB call_abs rfl T.n_abs (show bootBuiltins "abs" = some (.builtin "abs") by decide +kernel) (pa_cons (pv 5) pa_nil)) (pe_op op_pow pe_int pe_int)) (pv 1)) rfl)
        (pss_one (ps_ret (pe_op op_modN (pe_callTy call_int1 rfl T.n_int (show bootBuiltins "int" = some (.type "int") by decide +kernel) (pa_cons (pe_op op_sub (pe_callB call_abs rfl T.n_abs (show bootBuiltins "abs" = some (.builtin "abs") by decide +kernel) (pa_cons (pv 5) pa_nil)) (pe_op op_pow pe_int pe_int)) pa_nil)) (pv 1))))) pss_nil)
      (pss_cons (ps_set (i := 6) sc_law_draw.nd rfl (by first | exact Or.inl rfl | exact Or.inr rfl) (pe_op op_modN (pe_callTy call_int1 rfl T.n_int (show bootBuiltins "int" = some (.type "int") by decide +kernel) (pa_cons (pe_op op_add (pe_op op_add (pe_op op_add (pe_op op_mul (pe_op op_modN (pe_callTy call_int1 rfl T.n_int (show bootBuiltins "int" = some (.type "int") by decide +kernel) (pa_cons (pv 5) pa_nil)) pe_int) pe_int) (pe_op op_mul (pe_op op_mul pe_int (pv 3)) (pv 3))) (pe_op op_mul pe_int (pv 3))) pe_int) pa_nil)) pe_int))
      (pss_cons (ps_set (i := 6) sc_law_draw.nd rfl (by first | exact Or.inl rfl | exact Or.inr rfl) (pe_op op_modN (pe_callTy call_int1 rfl T.n_int (show bootBuiltins "int" = some (.type "int") by decide +kernel) (pa_cons (pe_op op_add (pe_op op_add (pe_op op_mul (pv 6) (pv 6)) (pe_op op_mul pe_int (pv 6))) (pe_op op_mul pe_int (pv 3))) pa_nil)) pe_int))
      (pss_one (ps_ret (pe_op op_modN (pe_callTy call_int1 rfl T.n_int (show bootBuiltins "int" = some (.type "int") by decide +kernel) (pa_cons (pe_op op_fdivN (pe_op op_modN (pe_callTy call_int1 rfl T.n_int (show bootBuiltins "int" = some (.type "int") by decide +kernel) (pa_cons (pe_op op_mul (pv 6) (pe_op op_add (pv 6) pe_int)) pa_nil)) pe_int) pe_int) pa_nil)) (pv 1))))))))))), ?_⟩
    have gl : DGet H p (.str "left") (some (.int l)) := by rw [← pen_l c (b : Nat) l]; exact DGet.k (k := .inr "left") hp
    have gb : DGet H p (.str "begun") (some (.int (b : Nat))) := by rw [← pen_b c (b : Nat) l]; exact DGet.k (k := .inr "begun") hp
    have gc : DGet H p (.str "cells") (some (.ref c)) := by rw [← pen_c c (b : Nat) l]; exact DGet.k (k := .inr "cells") hp
    have hcp : c ≠ p := ne_of hc hp (by intro z; cases z)
    have hm' : (m : Int) ≠ 0 := by omega
    have hlen : ∀ b l, (penL c b l).length < sizeLine := fun b l => Nat.lt_of_lt_of_le (show 3 < 4 by decide) (Nat.le_of_ble_eq_true rfl)
    have hdv : CDivN l (m : Int) := ⟨hm', by omega⟩
    refine ⟨_, rfl, p, .int l, rfl, gl, _, _, rfl, rfl, _, rfl, ?_⟩
    by_cases hl : 0 < l
    · obtain ⟨r, hr1, hr2⟩ := fm_nat l hm0
      refine ifT (dT hl) ⟨_, rfl, p, .int l, rfl, gl, .inl ⟨_, rfl, _, rfl, _, _, rfl, rfl, hm', ?_⟩⟩
      refine ⟨_, rfl, p, .int l, rfl, gl, _, rfl, _, _, rfl, rfl, ⟨hm', by omega⟩, _, rfl, p, _, rfl, DPut.k (k := .inr "left") hp (hlen _ _), _, rfl, ?_⟩
      rw [put_l]
      show Q (.int (l.fmod (m : Int))) _
      rw [hr2]
      exact q r _ hr1 ⟨cells, b, _, upd_same, by rw [upd_ne hcp]; exact hc, hcl, Nat.le_succ_of_le hbn, fd_nn hl0⟩ (fun x o nx e => by rw [upd_ne nx]; exact e)
    refine ifF (dF hl) ⟨_, rfl, p, .int (b : Nat), rfl, gb, _, rfl, p, .ref c, rfl, gc, _, _, rfl, .inl (SqL.of hc), _, _, rfl, ?_⟩
    refine ⟨_, rfl, _, _, rfl, rfl, _, rfl, p, _, rfl, DPut.k (k := .inr "begun") hp (hlen _ _), ?_⟩
    rw [put_b]
    have ep : (upd H p (.dK (penL c ((b : Nat) + 1) l))) p = some (.dK (penL c ((b : Nat) + 1) l)) := upd_same
    have hc1 : (upd H p (.dK (penL c ((b : Nat) + 1) l))) c = some (.lst (cells.map V.int)) := by rw [upd_ne hcp]; exact hc
    have kp : KeepP p H (upd H p (.dK (penL c ((b : Nat) + 1) l))) := fun x o nx e => by rw [upd_ne nx]; exact e
    generalize upd H p _ = H1 at *
    have gc1 : DGet H1 p (.str "cells") (some (.ref c)) := by rw [← pen_c c ((b : Nat) + 1) l]; exact DGet.k (k := .inr "cells") ep
    have hcl2 : (cells.map V.int).length = cells.length := List.length_map _
    have pen1 : ∀ l', 0 ≤ l' → ∀ H', H' p = some (.dK (penL c ((b : Nat) + 1) l')) → H' c = some (.lst (cells.map V.int)) → Pen H' p c (n + 1) := fun l' h' H' e1 e2 => ⟨cells, b + 1, l', e1, e2, hcl, Nat.succ_le_succ hbn, h'⟩
    have hb40 : (b : Int) < 2 ^ 40 := by omega
    have cm : ∀ i : Int, CMul i (b : Nat) := fun i => .inr ⟨by omega, by omega⟩
    refine ⟨_, rfl, _, _, rfl, rfl, _, rfl, ?_⟩
    rcases Nat.eq_zero_or_pos cells.length with h0 | h0
    · refine ifF (dF (by rw [hcl2]; omega)) ⟨_, rfl, _, _, rfl, rfl, cm 61, _, _, rfl, rfl, ?_⟩
      dsimp only
      generalize (61 * ((b : Nat) : Int) + 37) = z
      refine ⟨_, rfl, _, rfl, _, _, rfl, rfl, _, rfl, ite2 (fun _ => ⟨_, rfl, _, rfl, _, _, rfl, rfl, cpow18, _, _, rfl, rfl, _, rfl, ite2 (fun h2 => ?_) (fun _ => ?_)⟩) (fun _ => ifF rfl ?_)⟩
      · have h18 : (0 : Int) ≤ (if z < 0 then -z else z) - 10 ^ (18 : Int).toNat := by
          exact Int.sub_nonneg_of_le (of_decide_eq_true h2)
        obtain ⟨r, hr1, hr2⟩ := fm_nat ((if z < 0 then -z else z) - 10 ^ (18 : Int).toNat) hm0
        refine ⟨_, rfl, _, rfl, _, _, rfl, rfl, cpow18, _, _, rfl, rfl, _, rfl, _, _, rfl, rfl, ⟨hm', by omega⟩, _, rfl, p, _, rfl, DPut.k (k := .inr "left") ep (hlen _ _), ?_⟩
        rw [put_l]
        refine ⟨_, rfl, _, rfl, _, _, rfl, rfl, cpow18, _, _, rfl, rfl, .inl ⟨_, rfl, _, rfl, _, _, rfl, rfl, hm', ?_⟩⟩
        show Q (.int (Int.fmod ((if z < 0 then -z else z) - 10 ^ (18 : Int).toNat) (m : Int))) _
        rw [hr2]
        exact q r _ hr1 (pen1 _ (fd_nn h18) _ upd_same (by rw [upd_ne hcp]; exact hc1)) (fun x o nx e => by rw [upd_ne nx]; exact kp x o nx e)
      all_goals
        refine ⟨_, rfl, .inl ⟨_, rfl, _, _, rfl, rfl, (show (4294967087 : Int) ≠ 0 by decide), _, _, rfl, rfl, .inr (show -(2 ^ 64) < (45757 : Int) ∧ (45757 : Int) < 2 ^ 64 by decide), _, rfl, _, _, rfl, rfl, cm _, _, rfl, _, _, rfl, rfl, cm _, _, _, rfl, rfl, _, rfl, _, _, rfl, rfl, cm _, _, _, rfl, rfl, _, _, rfl, rfl, .inl ⟨_, rfl, _, _, rfl, rfl, (show (4294967111 : Int) ≠ 0 by decide), ?_⟩⟩⟩
        obtain ⟨y0, y1⟩ := fm_pos (z.fmod 4294967087 * 45757 + 39119 * ((b : Nat) : Int) * ((b : Nat) : Int) + 907 * ((b : Nat) : Int) + 23) (k := 4294967111) (by decide)
        dsimp only
        generalize Int.fmod (z.fmod 4294967087 * 45757 + 39119 * ((b : Nat) : Int) * ((b : Nat) : Int) + 907 * ((b : Nat) : Int) + 23) 4294967111 = y at *
        refine ⟨_, rfl, _, rfl, _, _, rfl, rfl, .inl ⟨by omega, by omega⟩, _, rfl, _, _, rfl, rfl, .inr ⟨by omega, by omega⟩, _, _, rfl, rfl, _, rfl, _, _, rfl, rfl, cm _, _, _, rfl, rfl, .inl ⟨_, rfl, _, _, rfl, rfl, (show (4294967029 : Int) ≠ 0 by decide), ?_⟩⟩
        obtain ⟨x0, x1⟩ := fm_pos (y * y + 28657 * y + 31 * ((b : Nat) : Int)) (k := 4294967029) (by decide)
        dsimp only
        generalize Int.fmod (y * y + 28657 * y + 31 * ((b : Nat) : Int)) 4294967029 = x at *
        refine ⟨_, rfl, _, rfl, _, _, rfl, rfl, _, _, rfl, rfl, .inl ⟨by omega, by omega⟩, .inl ⟨_, rfl, _, _, rfl, rfl, (show (4294966997 : Int) ≠ 0 by decide), _, _, rfl, rfl, (show (128 : Int) ≠ 0 ∧ (128 : Int).natAbs < 1073741824 by decide), .inl ⟨_, rfl, _, rfl, _, _, rfl, rfl, hm', ?_⟩⟩⟩
        obtain ⟨r, hr1, hr2⟩ := fm_nat (((x * (x + 51239)).fmod 4294966997).fdiv 128) hm0
        show Q (.int (Int.fmod (((x * (x + 51239)).fmod 4294966997).fdiv 128) (m : Int))) _
        rw [hr2]
        exact q r _ hr1 (pen1 _ hl0 _ ep hc1) kp
    · have hsz : (((cells.map V.int).length : Nat) : Int) ≠ 0 := by rw [hcl2]; omega
      obtain ⟨j, hj1, hj2⟩ := fm_nat (b : Nat) h0
      have hcj : (cells.map V.int)[j]? = some (.int (cells[j])) := by rw [List.getElem?_map, List.getElem?_eq_getElem hj1]; rfl
      refine ifT (dT (by rw [hcl2]; omega)) ⟨_, rfl, p, .ref c, rfl, gc1, _, rfl, .inl ⟨_, rfl, _, rfl, _, _, rfl, rfl, hsz, _, _, _, _, rfl, rfl, SqL.of hc1, (by rw [hcl2, hj2]; exact atI_nat hcj), ?_⟩⟩
      dsimp only
      generalize cells[j] = z
      refine ⟨_, rfl, _, rfl, _, _, rfl, rfl, _, rfl, ite2 (fun _ => ⟨_, rfl, _, rfl, _, _, rfl, rfl, cpow18, _, _, rfl, rfl, _, rfl, ite2 (fun h2 => ?_) (fun _ => ?_)⟩) (fun _ => ifF rfl ?_)⟩
      · have h18 : (0 : Int) ≤ (if z < 0 then -z else z) - 10 ^ (18 : Int).toNat := by
          exact Int.sub_nonneg_of_le (of_decide_eq_true h2)
        obtain ⟨r, hr1, hr2⟩ := fm_nat ((if z < 0 then -z else z) - 10 ^ (18 : Int).toNat) hm0
        refine ⟨_, rfl, _, rfl, _, _, rfl, rfl, cpow18, _, _, rfl, rfl, _, rfl, _, _, rfl, rfl, ⟨hm', by omega⟩, _, rfl, p, _, rfl, DPut.k (k := .inr "left") ep (hlen _ _), ?_⟩
        rw [put_l]
        refine ⟨_, rfl, _, rfl, _, _, rfl, rfl, cpow18, _, _, rfl, rfl, .inl ⟨_, rfl, _, rfl, _, _, rfl, rfl, hm', ?_⟩⟩
        show Q (.int (Int.fmod ((if z < 0 then -z else z) - 10 ^ (18 : Int).toNat) (m : Int))) _
        rw [hr2]
        exact q r _ hr1 (pen1 _ (fd_nn h18) _ upd_same (by rw [upd_ne hcp]; exact hc1)) (fun x o nx e => by rw [upd_ne nx]; exact kp x o nx e)
      all_goals
        refine ⟨_, rfl, .inl ⟨_, rfl, _, _, rfl, rfl, (show (4294967087 : Int) ≠ 0 by decide), _, _, rfl, rfl, .inr (show -(2 ^ 64) < (45757 : Int) ∧ (45757 : Int) < 2 ^ 64 by decide), _, rfl, _, _, rfl, rfl, cm _, _, rfl, _, _, rfl, rfl, cm _, _, _, rfl, rfl, _, rfl, _, _, rfl, rfl, cm _, _, _, rfl, rfl, _, _, rfl, rfl, .inl ⟨_, rfl, _, _, rfl, rfl, (show (4294967111 : Int) ≠ 0 by decide), ?_⟩⟩⟩
        obtain ⟨y0, y1⟩ := fm_pos (z.fmod 4294967087 * 45757 + 39119 * ((b : Nat) : Int) * ((b : Nat) : Int) + 907 * ((b : Nat) : Int) + 23) (k := 4294967111) (by decide)
        dsimp only
        generalize Int.fmod (z.fmod 4294967087 * 45757 + 39119 * ((b : Nat) : Int) * ((b : Nat) : Int) + 907 * ((b : Nat) : Int) + 23) 4294967111 = y at *
        refine ⟨_, rfl, _, rfl, _, _, rfl, rfl, .inl ⟨by omega, by omega⟩, _, rfl, _, _, rfl, rfl, .inr ⟨by omega, by omega⟩, _, _, rfl, rfl, _, rfl, _, _, rfl, rfl, cm _, _, _, rfl, rfl, .inl ⟨_, rfl, _, _, rfl, rfl, (show (4294967029 : Int) ≠ 0 by decide), ?_⟩⟩
        obtain ⟨x0, x1⟩ := fm_pos (y * y + 28657 * y + 31 * ((b : Nat) : Int)) (k := 4294967029) (by decide)
        dsimp only
        generalize Int.fmod (y * y + 28657 * y + 31 * ((b : Nat) : Int)) 4294967029 = x at *
        refine ⟨_, rfl, _, rfl, _, _, rfl, rfl, _, _, rfl, rfl, .inl ⟨by omega, by omega⟩, .inl ⟨_, rfl, _, _, rfl, rfl, (show (4294966997 : Int) ≠ 0 by decide), _, _, rfl, rfl, (show (128 : Int) ≠ 0 ∧ (128 : Int).natAbs < 1073741824 by decide), .inl ⟨_, rfl, _, rfl, _, _, rfl, rfl, hm', ?_⟩⟩⟩
        obtain ⟨r, hr1, hr2⟩ := fm_nat (((x * (x + 51239)).fmod 4294966997).fdiv 128) hm0
        show Q (.int (Int.fmod (((x * (x + 51239)).fmod 4294966997).fdiv 128) (m : Int))) _
        rw [hr2]
        exact q r _ hr1 (pen1 _ hl0 _ ep hc1) kp
end K5


namespace K5
open PySem PySem.Spec PyProof.Rows L2
def sp_law_penK (K : PySem.W.Frag) : Sp := fun vs H Q _ => ∃ (a : Addr) (ns : List Int), vs = [.ref a] ∧ SqL K H a (ns.map V.int) ∧ ns.length ≤ 63 ∧ ∀ H' p, Same H H' → H p = none → (∃ c, Pen H' p c 0) → Q (.ref p) H'
def sp_law_pick : Sp := fun vs H Q _ => ∃ (p c : Addr) (x : V) (n : Nat), vs = [.ref p, x] ∧ Pen H p c n ∧ n < 2 ^ 40 ∧
  ((∃ a xs, x = .ref a ∧ H a = some (.lst xs) ∧ 1 ≤ xs.length ∧ xs.length ≤ 1000 ∧ ∀ v H', v ∈ xs → Pen H' p c (n + 1) → KeepP p H H' → Q v H') ∨
   (∃ z : Str, x = .str z ∧ 1 ≤ z.length ∧ z.length ≤ 1000 ∧ ∀ ch H', ch ∈ z.cps.toList → Pen H' p c (n + 1) → KeepP p H H' → Q (.str ⟨#[ch]⟩) H'))
def sp_law_shuffled : Sp := fun vs H Q _ => ∃ (p c a : Addr) (ws : List Str) (n : Nat), vs = [.ref p, .ref a] ∧ Pen H p c n ∧ n + ws.length < 2 ^ 40 ∧ H a = some (.lst (ws.map V.str)) ∧ ws.length ≤ 100 ∧ (∀ u ∈ ws, PyData.strOk u = true) ∧
  ∀ (H' : Hp) (l : Addr) (us : List Str), KeepP p H H' → Pen H' p c (n + ws.length) → H' l = some (.lst (us.map V.str)) → l ≠ p → us.Perm ws → Q (.ref l) H'
theorem merge_pen (c : Addr) (b l : Int) : mergeK [] (penL c b l) = penL c b l := by
  unfold mergeK penL
  have h1 : ¬ (("begun" : Str) = "cells") := fun e => sbc e.symm
  have h2 : ¬ (("left" : Str) = "cells") := fun e => slc e.symm
  have h3 : ¬ (("left" : Str) = "begun") := fun e => slb e.symm
  simp [putK, sbc, slc, slb]
theorem perm_erase {α : Type} : ∀ {l : List α} {k : Nat} (h : k < l.length), (([l[k]] : List α) ++ l.eraseIdx k).Perm l
  | [], k, h => absurd h (Nat.not_lt_zero _)
  | a :: l, 0, h => List.Perm.refl _
  | a :: l, k + 1, h => by
    have hk : k < l.length := Nat.lt_of_succ_lt_succ h
    have ih := perm_erase (l := l) (k := k) hk
    show (l[k] :: a :: l.eraseIdx k).Perm (a :: l)
    exact (List.Perm.swap a l[k] _).trans (List.Perm.cons a ih)
theorem map_erase {α β : Type} (f : α → β) : ∀ (l : List α) (k : Nat), (l.map f).eraseIdx k = (l.eraseIdx k).map f
  | [], _ => rfl
  | a :: l, 0 => rfl
  | a :: l, k + 1 => by
    show f a :: (l.map f).eraseIdx k = f a :: (l.eraseIdx k).map f
    rw [map_erase f l k]
theorem seqIx {k n : Nat} (h : k < n) : seqIndex? (k : Int) n = some k := by
  unfold seqIndex?
  simp
  omega
theorem eqvNil (ls : List Str) : PyData.eqvAll (ls.map PyData.str) [] = decide (ls = []) := by
  cases ls <;> rfl
theorem G_law_pen {P : Program} {w : World} {K : PySem.W.Frag} {mg : Str → Option Value} {base : Heap} (T : Tx K mg) : FnG P w K mg base 1 "_law_pen" (sp_law_penK K) :=
  fnG_of T.g_law_pen T.d_law_pen sc_law_pen (fun vs H Q E h => by
    obtain ⟨a, ns, rfl, ha, hl, q⟩ := h
    rfl) (fun _ _ _ _ _ _ us hl => match us, hl with | [_], _ => rfl) fun cdv A outer s H vs Q E hr h => by
    obtain ⟨a, ns, rfl, ha, hl, q⟩ := h
    have hu := hu_of hr
    refine ⟨_, (pss_one (ps_ret (pe_disp (pps_cons pe_str (pe_callTy call_list_of rfl T.n_list (show bootBuiltins "list" = some (.type "list") by decide +kernel) (pa_cons (pe_slice sl_list (pv 0) po_none (po_some pe_int)) pa_nil)) (pps_cons pe_str pe_int (pps_cons pe_str pe_int pps_nil))) (by rfl) (by rfl) (fun z => by cases z) (by decide)))), ?_⟩
    intro p hp
    have s1 : Same H (upd H p (.dK [])) := Same.up1 hp
    have ep : (upd H p (.dK [])) p = some (.dK []) := upd_same
    generalize upd H p (.dK []) = H1 at *
    refine ⟨_, rfl, _, rfl, _, _, rfl, Same.seq s1 ha, fun u hu => ⟨_, _, rfl, .inl (SqL.of upd_same), fun c hc => ⟨?_, penL c 0 0, rfl, Nat.le_of_ble_eq_true rfl, ?_⟩⟩⟩
    all_goals
      have s2 : Same H1 (upd (upd H1 u (.lst (cutV (ns.map V.int) none (some 63)))) c (.lst (cutV (ns.map V.int) none (some 63)))) := (Same.up1 hu).trans (Same.up1 hc)
      have ec : (upd (upd H1 u (.lst (cutV (ns.map V.int) none (some 63)))) c (.lst (cutV (ns.map V.int) none (some 63)))) c = some (.lst (cutV (ns.map V.int) none (some 63))) := upd_same
      generalize upd (upd H1 u (.lst (cutV (ns.map V.int) none (some 63)))) c _ = H2 at *
    · exact s2 _ _ ep
    · rw [merge_pen]
      have hcp : c ≠ p := Ne.symm (ne_of (s2 _ _ ep) ec (by intro z; cases z))
      refine q _ p (Same.up2 (Same.trans s1 s2) hp) hp ⟨c, ns.take (HT.sIx (ns.map V.int).length (ns.map V.int).length (some 63)), 0, 0, upd_same, ?_, ?_, Nat.le_refl _, Int.le_refl _⟩
      · rw [upd_ne hcp, ec]
        unfold cutV
        rw [HT.sIx_none, List.drop_zero, Nat.sub_zero, ← List.map_take]
      · exact Nat.le_trans (List.length_take_le' _ _) hl
theorem G_law_pick {P : Program} {w : World} {K : PySem.W.Frag} {mg : Str → Option Value} {base : Heap} (T : Tx K mg) : FnG P w K mg base 2 "_law_pick" (sp_law_pick) :=
  fnG_of T.g_law_pick T.d_law_pick sc_law_pick (fun vs H Q E h => by
    obtain ⟨p, c, x, n, rfl, hp, hn, hx⟩ := h
    rfl) (fun _ _ _ _ _ _ us hl => match us, hl with | [_, _], _ => rfl) fun cdv A outer s H vs Q E hr h => by
    obtain ⟨p, c, x, n, rfl, hp, hn, hx⟩ := h
    have hu := hu_of hr
    refine ⟨_, (pss_one (ps_ret (pe_ix ix_seq (pv 1) (pe_callG (G_law_draw T) (hr.mono (by decide)) rfl passL (pa_cons (pv 0) (pa_cons (pe_callB call_len rfl T.n_len (show bootBuiltins "len" = some (.builtin "len") by decide +kernel) (pa_cons (pv 1) pa_nil)) pa_nil))) (fun _ _ => rfl)))), ?_⟩
    obtain ⟨kv0, cs0, ep, ec⟩ := hp.at_
    rcases hx with ⟨a, xs, rfl, ha, h1, h2, q⟩ | ⟨z, rfl, h1, h2, q⟩
    · refine ⟨_, rfl, _, rfl, _, rfl, .ref a, xs.length, rfl, .inl ⟨xs, SqL.of ha, rfl⟩, p, c, xs.length, n, rfl, h1, by omega, hp, hn, fun r H' hr hpen hk => ?_⟩
      have hap : a ≠ p := ne_of ha ep (by intro z; cases z)
      have hg : xs[r]? = some xs[r] := List.getElem?_eq_getElem hr
      exact .inl ⟨a, xs, r, _, rfl, rfl, SqL.of (hk a _ hap ha), atI_nat hg, q _ H' (List.mem_of_getElem? hg) hpen hk⟩
    · have hzl : z.cps.toList.length = z.length := by simp [PySem.Str.length]
      have hsz : z.length ≤ sizeLine := Nat.le_trans h2 (Nat.le_of_ble_eq_true rfl)
      refine ⟨_, rfl, _, rfl, _, rfl, .str z, z.length, rfl, ⟨hsz, rfl⟩, p, c, z.length, n, rfl, h1, by omega, hp, hn, fun r H' hr hpen hk => ?_⟩
      have hg : z.cps.toList[r]? = some (z.cps.toList[r]'(by rw [hzl]; exact hr)) := List.getElem?_eq_getElem _
      exact .inr (.inr ⟨z, r, _, rfl, rfl, hsz, atI_nat hg, q _ H' (List.mem_of_getElem? hg) hpen hk⟩)
theorem G_law_shuffled {P : Program} {w : World} {K : PySem.W.Frag} {mg : Str → Option Value} {base : Heap} (T : Tx K mg) : FnG P w K mg base 2 "_law_shuffled" (sp_law_shuffled) :=
  fnG_of T.g_law_shuffled T.d_law_shuffled sc_law_shuffled (fun vs H Q E h => by
    obtain ⟨p, c, a, ws, n, rfl, hp, hn, ha, hl, hok, q⟩ := h
    rfl) (fun _ _ _ _ _ _ us hl => match us, hl with | [_, _], _ => rfl) fun cdv A outer s H vs Q E hr h => by
    obtain ⟨p, c, a, ws, n, rfl, hp, hn, ha, hl, hok, q⟩ := h
    have hu := hu_of hr
    refine ⟨_, (pss_cons (ps_par (i := 2) (j := 3) rfl sc_law_shuffled.nd rfl rfl (by decide) rfl rfl (pa_cons (pe_callTy call_list_of rfl T.n_list (show bootBuiltins "list" = some (.type "list") by decide +kernel) (pa_cons (pv 1) pa_nil)) (pa_cons (pe_lst pa_nil) pa_nil)) rfl)
      (pss_cons (ps_while (passes_of rfl) (pt_cmpR (op_neD hr.units) (pv 2) (pe_lst pa_nil) (nomark _)) (pss_one (ps_expr (pe_bm PySem.F.plainAttrs_list PySem.F.slot_list_append PySem.F.type_list_append mt_append (pv 3) (pa_cons (pe_bm PySem.F.plainAttrs_list PySem.F.slot_list_pop PySem.F.type_list_pop mt_popAt (pv 2) (pa_cons (pe_callG (G_law_draw T) (hr.mono (by decide)) rfl passL (pa_cons (pv 0) (pa_cons (pe_callB call_len_seq rfl T.n_len (show bootBuiltins "len" = some (.builtin "len") by decide +kernel) (pa_cons (pv 2) pa_nil)) pa_nil))) pa_nil)) pa_nil)))))
      (pss_one (ps_ret (pv 3))))), ?_⟩
    obtain ⟨kv0, cs0, ep, ec⟩ := hp.at_
    refine ⟨_, rfl, _, _, rfl, .inl (SqL.of ha), fun l hl0 => ⟨Nat.zero_le _, fun g hg0 => ⟨_, _, rfl, ?_⟩⟩⟩
    have nlg : l ≠ g := fun e => by rw [← e, upd_same] at hg0; cases hg0
    have hg1 : H g = none := by rw [upd_ne (Ne.symm nlg)] at hg0; exact hg0
    have nlp : l ≠ p := Ne.symm (ne_of_none ep hl0)
    have ngp : g ≠ p := Ne.symm (ne_of_none ep hg1)
    refine ⟨fun r σ H1 => ∃ ls gs : List Str, ls.length = r ∧ σ = [some (.ref p), some (.ref a), some (.ref l), some (.ref g)] ∧ KeepP p H H1 ∧ Pen H1 p c (n + gs.length) ∧ H1 l = some (.lst (ls.map V.str)) ∧ H1 g = some (.lst (gs.map V.str)) ∧ (gs ++ ls).Perm ws ∧ ∀ u ∈ ls, PyData.strOk u = true, ⟨ws.length, ws, [], rfl, rfl, ?_, ?_, ?_, upd_same, List.Perm.refl _, hok⟩, ?_⟩
    · exact KeepP.of (Same.up2 (Same.up1 hl0) hg1)
    · exact hp.same (Same.up2 (Same.up1 hl0) hg1)
    · rw [upd_ne nlg, upd_same]
    rintro r σ H1 ⟨ls, gs, hr0, rfl, k1, pen1, el, eg, hperm, hok1⟩
    have hlen : gs.length + ls.length = ws.length := by rw [← List.length_append]; exact hperm.length_eq
    refine ⟨_, rfl, Nat.zero_le _, fun t ht => ?_⟩
    have s2 : Same H1 (upd H1 t (.lst [])) := Same.up1 ht
    have et : (upd H1 t (.lst [])) t = some (.lst []) := upd_same
    generalize upd H1 t (.lst []) = H2 at *
    have k2 := k1.trans (KeepP.of s2)
    have el := s2 _ _ el
    have eg := s2 _ _ eg
    have pen2 := pen1.same s2
    refine ⟨_, _, .lst (SqL.of el) (dpStrs ls), .lst (SqL.of et) .nil, shapedStrs hok1, rfl, _, rfl, ?_⟩
    show if (!PyData.eqvAll (ls.map PyData.str) []) = true then _ else _
    rw [eqvNil]
    by_cases hls : ls = []
    · subst hls
      refine ifF (notf (dT rfl)) ⟨_, rfl, q _ g gs k2 (pen2.mono (by simp at hlen; omega)) eg ngp (by simpa using hperm)⟩
    · have hpos : 0 < ls.length := List.length_pos_iff.mpr hls
      obtain ⟨r', rfl⟩ : ∃ r', r = r' + 1 := ⟨r - 1, by omega⟩
      have hll : (ls.map V.str).length = ls.length := List.length_map _
      have hgl : (gs.map V.str).length = gs.length := List.length_map _
      refine ifT (nott (dF hls)) ⟨_, fun σ' H' h => ⟨r', Nat.lt_succ_self _, h⟩, ?_⟩
      refine ⟨_, rfl, .inl ⟨rfl, _, SqL.of eg⟩, _, rfl, .inl ⟨rfl, _, SqL.of el⟩, _, rfl, _, rfl, _, _, rfl, .inl (SqL.of el), p, c, ls.length, n + gs.length, by rw [hll], hpos, by omega, pen2, by omega, fun k H3 hk pen3 k3 => ?_⟩
      have el3 := k3 _ _ nlp el
      have eg3 := k3 _ _ ngp eg
      have hkg : (ls.map V.str)[k]? = some (.str ls[k]) := by rw [List.getElem?_map, List.getElem?_eq_getElem hk]; rfl
      refine ⟨l, _, k, k, _, rfl, rfl, el3, by omega, by omega, by rw [hll]; exact seqIx hk, hkg, g, _, _, rfl, rfl, by rw [upd_ne (Ne.symm nlg)]; exact eg3, ?_, ls.eraseIdx k, gs ++ [ls[k]], ?_, rfl, ?_, ?_, ?_, ?_, ?_, ?_⟩
      · rw [hgl]; exact Nat.lt_of_lt_of_le (show _ < 101 by omega) (Nat.le_of_ble_eq_true rfl)
      · rw [List.length_eraseIdx_of_lt hk]; omega
      · intro x o nx e
        have e3 := k3 x o nx (k2 x o nx e)
        have nxl : x ≠ l := ne_of_none e hl0
        have nxg : x ≠ g := ne_of_none e hg1
        rw [upd_ne nxg, upd_ne nxl]
        exact e3
      · have h1 : n + (gs ++ [ls[k]]).length = n + gs.length + 1 := by simp; omega
        rw [h1]
        obtain ⟨cells, b, z, f1, f2, f3⟩ := pen3
        refine ⟨cells, b, z, ?_, ?_, f3⟩
        · rw [upd_ne (Ne.symm ngp), upd_ne (Ne.symm nlp)]; exact f1
        · rw [upd_ne (ne_of_none ec hg1), upd_ne (ne_of_none ec hl0)]; exact f2
      · rw [upd_ne nlg, upd_same, map_erase]
      · rw [upd_same, List.map_append]; rfl
      · rw [List.append_assoc]
        refine List.Perm.trans (List.Perm.append_left gs ?_) hperm
        exact perm_erase hk
      · exact fun u hu => hok1 u (List.mem_of_mem_eraseIdx hu)
end K5


namespace K5
open PySem PySem.Spec PyProof.Rows L2
/-! the law's words, in plain Lean -/
/-- a word of the law: no beginning, at most eleven signs -/
def WordS (z : Str) : Prop := WordL z.cps.toList ∧ NB z ∧ z.length ≤ 11
def sgS (c : Nat) : Str := ⟨#[c]⟩
theorem app_list (a b : Str) : (a ++ b).cps.toList = a.cps.toList ++ b.cps.toList := by
  show (a.cps ++ b.cps).toList = _
  rw [Array.toList_append]
theorem len_list (z : Str) : z.length = z.cps.toList.length := by simp [PySem.Str.length]
theorem join_signs (cs : List Nat) : (Txt.join Str.empty (cs.map sgS)).cps.toList = cs := by
  have e1 : cs.map sgS = (cs.map fun c => [c]).map SX.S := by rw [List.map_map]; rfl
  have e2 : (Str.empty : Str) = SX.S [] := rfl
  rw [e1, e2, SX.join_S]
  have gen : ∀ cs : List Nat, TL.joinL [] (cs.map fun c => [c]) = cs := by
    intro cs
    induction cs with
    | nil => rfl
    | cons c cs ih =>
      cases cs with
      | nil => rfl
      | cons d cs =>
        show [c] ++ [] ++ TL.joinL [] ((d :: cs).map fun c => [c]) = _
        rw [ih]
        rfl
  show (TL.joinL [] (cs.map fun c => [c])).toArray.toList = cs
  rw [gen]
theorem cut_take {z : Str} {k : Nat} (h : k ≤ z.length) : (cutS z none (some (k : Int))).cps.toList = z.cps.toList.take k := by
  unfold cutS
  rw [HT.sIx_none, HT.sIx_nat, Nat.min_eq_left h]
  simp
theorem cut_drop {z : Str} {k : Nat} (h : k ≤ z.length) : (cutS z (some (k : Int)) none).cps.toList = z.cps.toList.drop k := by
  unfold cutS
  rw [HT.sIx_none, HT.sIx_nat, Nat.min_eq_left h]
  show ((z.cps.toList.drop k).take (z.length - k)).toArray.toList = _
  show (z.cps.toList.drop k).take (z.length - k) = _
  rw [len_list]
  exact List.take_of_length_le (by rw [List.length_drop]; exact Nat.le_refl _)
def wd (a : Nat) (st : Str) (h c s : Nat) : Str := if a = 0 then sgS c ++ st else sgS h ++ cutS st none (some ((a - 1 : Nat) : Int)) ++ sgS s ++ cutS st (some ((a - 1 : Nat) : Int)) none
def wl (a : Nat) (l : List Nat) (h c s : Nat) : List Nat := if a = 0 then c :: l else h :: (l.take (a - 1) ++ s :: l.drop (a - 1))
theorem wd_list {a : Nat} {st : Str} {h c s : Nat} (ha : a ≤ st.length + 1) : (wd a st h c s).cps.toList = wl a st.cps.toList h c s := by
  unfold wd wl
  by_cases h0 : a = 0
  · rw [if_pos h0, if_pos h0, app_list]
    rfl
  · rw [if_neg h0, if_neg h0, app_list, app_list, app_list, cut_take (by omega), cut_drop (by omega)]
    show [h] ++ _ ++ [s] ++ _ = _
    simp
theorem wl_inj {a : Nat} {l : List Nat} {h c s c' s' : Nat} (e : wl a l h c s = wl a l h c' s') : (a = 0 ∧ c = c') ∨ (a ≠ 0 ∧ s = s') := by
  unfold wl at e
  by_cases h0 : a = 0
  · rw [if_pos h0, if_pos h0] at e
    exact .inl ⟨h0, (List.cons.inj e).1⟩
  · rw [if_neg h0, if_neg h0] at e
    have e1 := (List.cons.inj e).2
    have e2 := List.append_cancel_left e1
    exact .inr ⟨h0, (List.cons.inj e2).1⟩
theorem wl_len {a : Nat} {l : List Nat} {h c s : Nat} (ha : a ≤ l.length + 1) : (wl a l h c s).length = if a = 0 then l.length + 1 else l.length + 2 := by
  unfold wl
  by_cases h0 : a = 0
  · rw [if_pos h0, if_pos h0]; rfl
  · rw [if_neg h0, if_neg h0]
    simp
    omega
theorem wl_word {a : Nat} {l : List Nat} {h c s : Nat} (ha : a ≤ l.length + 1) (hl : l.length ≤ 9) (ok : ∀ x ∈ l, isSign x = true) (hh : isSmall h = true) (hc : isSmall c = true) (hs : isSign s = true) : WordL (wl a l h c s) ∧ (wl a l h c s).length ≤ 11 := by
  have hlen := wl_len (h := h) (c := c) (s := s) ha
  have sm : ∀ {x}, isSmall x = true → isSign x = true := fun h => by unfold isSign; rw [h]; rfl
  have l11 : (wl a l h c s).length ≤ 11 := by
    rw [hlen]
    split <;> omega
  refine ⟨⟨?_, Nat.le_succ_of_le l11, fun x hx => ?_, fun x hx => ?_⟩, l11⟩
  · rw [hlen]
    split <;> omega
  · unfold wl at hx
    by_cases h0 : a = 0
    · rw [if_pos h0] at hx
      rw [← Option.some.inj hx]
      exact hc
    · rw [if_neg h0] at hx
      rw [← Option.some.inj hx]
      exact hh
  · unfold wl at hx
    by_cases h0 : a = 0
    · rw [if_pos h0] at hx
      rcases List.mem_cons.mp hx with rfl | hx
      · exact sm hc
      · exact ok x hx
    · rw [if_neg h0] at hx
      rcases List.mem_cons.mp hx with rfl | hx
      · exact sm hh
      · rcases List.mem_append.mp hx with hx | hx
        · exact ok x (List.mem_of_mem_take hx)
        · rcases List.mem_cons.mp hx with rfl | hx
          · exact hs
          · exact ok x (List.mem_of_mem_drop hx)
def fixW (z : Str) : Str := if z = "new" ∨ z = "found" then z ++ "0" else z
theorem fix_word {z : Str} (h : WordL z.cps.toList ∧ z.cps.toList.length ≤ 11) : WordS (fixW z) := by
  unfold fixW
  by_cases hz : z = "new" ∨ z = "found"
  · rw [if_pos hz]
    rcases hz with rfl | rfl
    · refine ⟨⟨by decide +kernel, by decide +kernel, ?_, by decide +kernel⟩, ⟨by decide +kernel, by decide +kernel⟩, by decide +kernel⟩
      intro c hc
      have e : (("new" ++ "0" : Str).cps.toList)[0]? = some 110 := by decide +kernel
      rw [e] at hc
      rw [← Option.some.inj hc]
      rfl
    · refine ⟨⟨by decide +kernel, by decide +kernel, ?_, by decide +kernel⟩, ⟨by decide +kernel, by decide +kernel⟩, by decide +kernel⟩
      intro c hc
      have e : (("found" ++ "0" : Str).cps.toList)[0]? = some 102 := by decide +kernel
      rw [e] at hc
      rw [← Option.some.inj hc]
      rfl
  · rw [if_neg hz]
    exact ⟨h.1, ⟨fun e => hz (.inl e), fun e => hz (.inr e)⟩, by rw [len_list]; exact h.2⟩
theorem fix_inj {z z' : Str} (hl : z.length = z'.length) (e : fixW z = fixW z') : z = z' := by
  have app : ∀ a b : Str, a ++ ("0" : Str) = b ++ "0" → a = b := fun a b e => by
    have := congrArg (fun s : Str => s.cps.toList) e
    simp only [app_list] at this
    exact str_ext (List.append_cancel_right this)
  have l0 : ∀ a : Str, (a ++ ("0" : Str)).length = a.length + 1 := fun a => by
    rw [len_list, len_list, app_list, List.length_append]
    have : (("0" : Str).cps.toList).length = 1 := by decide +kernel
    rw [this]
  unfold fixW at e
  by_cases h1 : z = "new" ∨ z = "found"
  · rw [if_pos h1] at e
    by_cases h2 : z' = "new" ∨ z' = "found"
    · rw [if_pos h2] at e; exact app _ _ e
    · rw [if_neg h2] at e
      have := congrArg PySem.Str.length e
      rw [l0] at this
      omega
  · rw [if_neg h1] at e
    by_cases h2 : z' = "new" ∨ z' = "found"
    · rw [if_pos h2] at e
      have := congrArg PySem.Str.length e
      rw [l0] at this
      omega
    · rw [if_neg h2] at e; exact e
def smC (i : Nat) : Nat := 97 + i
def sgC (i : Nat) : Nat := if i < 26 then 97 + i else 22 + i
theorem smC_ok {i : Nat} (h : i < 26) : isSmall (smC i) = true := by
  unfold isSmall smC
  simp
  omega
theorem sgC_ok {i : Nat} (h : i < 36) : isSign (sgC i) = true := by
  unfold isSign isSmall sgC
  split <;> simp <;> omega
theorem smAt : ∀ i, i < 26 → (("abcdefghijklmnopqrstuvwxyz" : Str).cps.toList)[i]? = some (smC i) := by decide +kernel
theorem sgAt : ∀ i, i < 36 → (("abcdefghijklmnopqrstuvwxyz0123456789" : Str).cps.toList)[i]? = some (sgC i) := by decide +kernel
theorem smMem {c : Nat} (h : c ∈ ("abcdefghijklmnopqrstuvwxyz" : Str).cps.toList) : isSmall c = true := by
  have : ∀ c ∈ ("abcdefghijklmnopqrstuvwxyz" : Str).cps.toList, isSmall c = true := by decide +kernel
  exact this c h
theorem sgMem {c : Nat} (h : c ∈ ("abcdefghijklmnopqrstuvwxyz0123456789" : Str).cps.toList) : isSign c = true := by
  have : ∀ c ∈ ("abcdefghijklmnopqrstuvwxyz0123456789" : Str).cps.toList, isSign c = true := by decide +kernel
  exact this c h
/-- the k-th word -/
def wordK (a : Nat) (st : Str) (h f s k : Nat) : Str := fixW (wd a st h (smC ((f + s * k) % 26)) (sgC ((f + s * k) % 36)))
theorem wordK_ok {a : Nat} {st : Str} {h f s k : Nat} (ha : a ≤ st.length + 1) (hl : st.length ≤ 9) (ok : ∀ x ∈ st.cps.toList, isSign x = true) (hh : isSmall h = true) : WordS (wordK a st h f s k) := by
  refine fix_word ?_
  rw [wd_list ha]
  rw [len_list] at ha hl
  exact wl_word ha hl ok hh (smC_ok (Nat.mod_lt _ (by decide))) (sgC_ok (Nat.mod_lt _ (by decide)))
theorem wordK_inj {a : Nat} {st : Str} {h f s k k' : Nat} (ha : a ≤ st.length + 1) (hs : s = 1 ∨ s = 5 ∨ s = 7 ∨ s = 11) (hk : k < 4) (hk' : k' < 4) (e : wordK a st h f s k = wordK a st h f s k') : k = k' := by
  have e1 := fix_inj (by rw [len_list, len_list, wd_list ha, wd_list ha, wl_len (by rw [← len_list]; exact ha), wl_len (by rw [← len_list]; exact ha)]) e
  have e2 := congrArg (fun z : Str => z.cps.toList) e1
  simp only [wd_list ha] at e2
  rcases wl_inj e2 with ⟨_, e3⟩ | ⟨_, e3⟩
  · unfold smC at e3
    rcases hs with rfl | rfl | rfl | rfl <;> omega
  · unfold sgC at e3
    rcases hs with rfl | rfl | rfl | rfl <;> (split at e3 <;> split at e3 <;> omega)
theorem words_nodup {a : Nat} {st : Str} {h f s m : Nat} (ha : a ≤ st.length + 1) (hs : s = 1 ∨ s = 5 ∨ s = 7 ∨ s = 11) (hm : m ≤ 4) : ((List.range m).map (wordK a st h f s)).Nodup := by
  rw [List.Nodup, List.pairwise_map]
  refine List.Pairwise.imp_of_mem ?_ (List.nodup_range (n := m))
  intro x y hx hy hne e
  have hx' := List.mem_range.mp hx
  have hy' := List.mem_range.mp hy
  exact hne (wordK_inj ha hs (by omega) (by omega) e)
end K5

namespace K5
open PySem PySem.Spec PyProof.Rows L2
theorem Pen.put {H : Hp} {p c d : Addr} {n : Nat} {o : HO} (h : Pen H p c n) (h1 : d ≠ p) (h2 : d ≠ c) : Pen (upd H d o) p c n := let ⟨cells, b, z, e1, e2, e3⟩ := h; ⟨cells, b, z, by rw [upd_ne (Ne.symm h1)]; exact e1, by rw [upd_ne (Ne.symm h2)]; exact e2, e3⟩
theorem inNF (z : Str) : inV (.str z) [.str "new", .str "found"] = decide (z = "new" ∨ z = "found") := by
  have := inStr z [("new" : Str), ("found" : Str)]
  show inV (.str z) ([("new" : Str), ("found" : Str)].map V.str) = _
  rw [this]
  simp
def sp_law_words : Sp := fun vs H Q _ => ∃ (p c : Addr) (m n : Nat), vs = [.ref p, .int (m : Nat)] ∧ Pen H p c n ∧ n + 100 < 2 ^ 40 ∧ 1 ≤ m ∧ m ≤ 4 ∧
  ∀ (H' : Hp) (l : Addr) (us : List Str), KeepP p H H' → Pen H' p c (n + 100) → H' l = some (.lst (us.map V.str)) → l ≠ p → us.length = m → us.Nodup → (∀ u ∈ us, WordS u) → Q (.ref l) H'
theorem G_law_words {P : Program} {w : World} {K : PySem.W.Frag} {mg : Str → Option Value} {base : Heap} (T : Tx K mg) : FnG P w K mg base 3 "_law_words" (sp_law_words) :=
  fnG_of T.g_law_words T.d_law_words sc_law_words (fun vs H Q E h => by
    obtain ⟨p, c, m, n, rfl, hp, hn, hm1, hm2, q⟩ := h
    rfl) (fun _ _ _ _ _ _ us hl => match us, hl with | [_, _], _ => rfl) fun cdv A outer s H vs Q E hr h => by
    obtain ⟨p, c, m, n, rfl, hp, hn, hm1, hm2, q⟩ := h
    have hu := hu_of hr
    refine ⟨_, (pss_cons (ps_asg (pe_tup (pa_cons pe_str (pa_cons pe_str pa_nil))) (pg_tup rfl (pgs_cons (pg_name (i := 2) sc_law_words.nd rfl (by first | exact Or.inl rfl | exact Or.inr rfl)) (pgs_cons (pg_name (i := 3) sc_law_words.nd rfl (by first | exact Or.inl rfl | exact Or.inr rfl)) pgs_nil))))
      (pss_cons (ps_par (i := 4) (j := 5) rfl sc_law_words.nd rfl rfl (by decide) rfl rfl (pa_cons (pe_callG (G_law_draw T) (hr.mono (by decide)) rfl passL (pa_cons (pv 0) (pa_cons pe_int pa_nil))) (pa_cons (pe_callG (G_law_pick T) (hr.mono (by decide)) rfl passL (pa_cons (pv 0) (pa_cons (pe_lst (pa_cons pe_int (pa_cons pe_int (pa_cons pe_int (pa_cons pe_int pa_nil))))) pa_nil))) pa_nil)) rfl)
      (pss_cons (ps_par (i := 6) (j := 7) rfl sc_law_words.nd rfl rfl (by decide) rfl rfl (pa_cons (pe_callG (G_law_pick T) (hr.mono (by decide)) rfl passL (pa_cons (pv 0) (pa_cons (pv 2) pa_nil))) (pa_cons (pe_join pe_str (pe_lc (own := [("_law_k", 8)]) (g := gName 8) rfl sc_law_words.nd (pi_range1 rfl T.n_range (pa_cons (pe_callG (G_law_draw T) (hr.mono (by decide)) rfl passL (pa_cons (pv 0) (pa_cons pe_int pa_nil))) pa_nil)) (blkOk_by rfl) (fun _ _ _ _ _ => (pg_name (i := 8) sc_law_words.nd rfl (by first | exact Or.inl rfl | exact Or.inr rfl))) (fun _ _ _ _ _ => pts_nil) (fun _ _ _ _ _ => (pe_callG (G_law_pick T) (hr.mono (by decide)) rfl passL (pa_cons (pv 0) (pa_cons (pv 3) pa_nil)))))) pa_nil)) rfl)
      (pss_cons (ps_par (i := 9) (j := 10) rfl sc_law_words.nd rfl rfl (by decide) rfl rfl (pa_cons (pe_callG (G_law_draw T) (hr.mono (by decide)) rfl passL (pa_cons (pv 0) (pa_cons (pe_op op_add (pe_callB call_len_str rfl T.n_len (show bootBuiltins "len" = some (.builtin "len") by decide +kernel) (pa_cons (pv 7) pa_nil)) pe_int) pa_nil))) (pa_cons (pe_lst pa_nil) pa_nil)) rfl)
      (pss_cons (ps_for (passes_of rfl) rfl (pi_range1 rfl T.n_range (pa_cons (pv 1) pa_nil)) (pg_name (i := 8) sc_law_words.nd rfl (by first | exact Or.inl rfl | exact Or.inr rfl)) (pss_cons (ps_set (i := 11) sc_law_words.nd rfl (by first | exact Or.inl rfl | exact Or.inr rfl) (pe_op op_add_str (pe_ix ix_str (pv 2) (pe_op op_modN (pe_callTy call_int1 rfl T.n_int (show bootBuiltins "int" = some (.type "int") by decide +kernel) (pa_cons (pe_op op_add (pv 4) (pe_op op_mul (pv 5) (pv 8))) pa_nil)) pe_int) (fun _ _ => rfl)) (pv 7)))
        (pss_cons (ps_if (pt_cmpR op_gt (pv 9) pe_int (nomark _)) (pss_cons (ps_set (i := 12) sc_law_words.nd rfl (by first | exact Or.inl rfl | exact Or.inr rfl) (pe_ix ix_str (pv 3) (pe_op op_modN (pe_callTy call_int1 rfl T.n_int (show bootBuiltins "int" = some (.type "int") by decide +kernel) (pa_cons (pe_op op_add (pv 4) (pe_op op_mul (pv 5) (pv 8))) pa_nil)) pe_int) (fun _ _ => rfl)))
          (pss_one (ps_set (i := 11) sc_law_words.nd rfl (by first | exact Or.inl rfl | exact Or.inr rfl) (pe_op op_add_str (pe_op op_add_str (pe_op op_add_str (pv 6) (pe_slice sl_str (pv 7) po_none (po_some (pe_op op_sub (pv 9) pe_int)))) (pv 12)) (pe_slice sl_str (pv 7) (po_some (pe_op op_sub (pv 9) pe_int)) po_none))))) pss_nil)
        (pss_one (ps_expr (pe_bm PySem.F.plainAttrs_list PySem.F.slot_list_append PySem.F.type_list_append mt_append (pv 10) (pa_cons (pe_op op_add_str (pv 11) (pe_op op_mulS01 pe_str (pe_callTy call_int1 rfl T.n_int (show bootBuiltins "int" = some (.type "int") by decide +kernel) (pa_cons (pe_cmpR op_in_seq (pv 11) (pe_lst (pa_cons pe_str (pa_cons pe_str pa_nil))) rfl) pa_nil)))) pa_nil)))))))
      (pss_one (ps_ret (pe_callG (G_law_shuffled T) (hr.mono (by decide)) rfl passL (pa_cons (pv 0) (pa_cons (pv 10) pa_nil)))))))))), ?_⟩
    obtain ⟨kv0, cs0, ep, ec⟩ := hp.at_
    refine ⟨Nat.le_of_ble_eq_true rfl, fun t0 ht0 => ⟨t0, _, rfl, SqT.of upd_same, rfl, _, _, rfl, _, _, rfl, rfl, ?_⟩⟩
    have k1 : KeepP p H (upd H t0 (.tup [.str "abcdefghijklmnopqrstuvwxyz", .str "abcdefghijklmnopqrstuvwxyz0123456789"])) := KeepP.of (Same.up1 ht0)
    have pen1 : Pen (upd H t0 (.tup [.str "abcdefghijklmnopqrstuvwxyz", .str "abcdefghijklmnopqrstuvwxyz0123456789"])) p c n := hp.same (Same.up1 ht0)
    generalize upd H t0 _ = H1 at *
    refine ⟨_, rfl, p, c, 36, n, rfl, by decide, by decide, pen1, by omega, fun f H2 hf pen2 k2 => ⟨_, rfl, Nat.le_of_ble_eq_true rfl, fun t1 ht1 => ⟨p, c, .ref t1, n + 1, rfl, pen2.same (Same.up1 ht1), by omega, .inl ⟨t1, _, rfl, upd_same, by decide, by decide, fun v H3 hv pen3 k3 => ⟨_, _, rfl, ?_⟩⟩⟩⟩⟩
    have k3 := (k1.trans k2).trans ((KeepP.of (Same.up1 ht1)).trans k3)
    obtain ⟨s, hs, rfl⟩ : ∃ s : Nat, (s = 1 ∨ s = 5 ∨ s = 7 ∨ s = 11) ∧ v = .int (s : Nat) := by
      rcases List.mem_cons.mp hv with rfl | hv
      · exact ⟨1, .inl rfl, rfl⟩
      rcases List.mem_cons.mp hv with rfl | hv
      · exact ⟨5, .inr (.inl rfl), rfl⟩
      rcases List.mem_cons.mp hv with rfl | hv
      · exact ⟨7, .inr (.inr (.inl rfl)), rfl⟩
      rw [List.mem_singleton.mp hv]
      exact ⟨11, .inr (.inr (.inr rfl)), rfl⟩
    refine ⟨_, rfl, _, rfl, p, c, .str _, n + 1 + 1, rfl, pen3, by omega, .inr ⟨_, rfl, by decide +kernel, by decide +kernel, fun h H4 hh pen4 k4 => ?_⟩⟩
    have hh := smMem hh
    have k4 := k3.trans k4
    refine ⟨⟨_, rfl⟩, _, rfl, p, c, 10, n + 1 + 1 + 1, rfl, by decide, by decide, pen4, by omega, fun sl H5 hsl pen5 k5 => ⟨_, rfl, by omega, by omega, fun D hD => lc_it walk_range (fun i H' => KeepP p H5 H' ∧ Pen H' p c (n + 1 + 1 + 1 + 1 + i) ∧ ∃ cs : List Nat, H' D = some (.lst (cs.map fun ch => V.str (sgS ch))) ∧ cs.length = i ∧ ∀ ch ∈ cs, isSign ch = true) ⟨KeepP.of (Same.up1 hD), pen5.same (Same.up1 hD), [], upd_same, rfl, fun x hx => by cases hx⟩ (fun _ _ _ _ => trivial) ?_ ?_⟩⟩
    · rintro i x H6 H7 hi ⟨k6, pen6, cs, e6, cl, co⟩ ⟨rfl, rfl⟩
      have hi9 : i < 10 := by have : i < ((sl : Nat) : Int).toNat := hi; omega
      obtain ⟨_, _, ep6, _⟩ := pen6.at_
      obtain ⟨_, _, ep5, ec5⟩ := pen5.at_
      have nDc : D ≠ c := Ne.symm (ne_of_none ec5 hD)
      have nDp : D ≠ p := Ne.symm (ne_of_none ep5 hD)
      refine ⟨rfl, _, rfl, _, rfl, p, c, .str _, n + 1 + 1 + 1 + 1 + i, rfl, pen6, by omega, .inr ⟨_, rfl, by decide +kernel, by decide +kernel, fun ch H8 hch pen8 k8 => ⟨cs.map fun ch => V.str (sgS ch), k8 _ _ nDp e6, ?_, ?_, ?_, cs ++ [ch], ?_, ?_, ?_⟩⟩⟩
      · rw [List.length_map, cl]
        exact Nat.lt_of_lt_of_le hi9 (Nat.le_of_ble_eq_true rfl)
      · intro x o nx e
        rw [upd_ne (ne_of_none e hD)]
        exact k8 _ _ nx (k6 _ _ nx e)
      · exact pen8.put nDp nDc
      · rw [upd_same, List.map_append]; rfl
      · rw [List.length_append, cl]; rfl
      · intro y hy
        rcases List.mem_append.mp hy with hy | hy
        · exact co y hy
        · rw [List.mem_singleton.mp hy]; exact sgMem hch
    rintro H6 ⟨k6, pen6, cs, e6, cl, co⟩
    have hsl9 : cs.length ≤ 9 := by have : ((sl : Nat) : Int).toNat = sl := rfl; omega
    have hsum : ((cs.map sgS).map (·.length)).sum + (cs.map sgS).length * ("" : Str).length ≤ 16777216 := by
      have e1 : ∀ cs : List Nat, ((cs.map sgS).map (·.length)).sum = cs.length := by
        intro cs
        induction cs with
        | nil => rfl
        | cons a cs ih =>
          show 1 + ((cs.map sgS).map (·.length)).sum = cs.length + 1
          rw [ih, Nat.add_comm]
      have e2 : ("" : Str).length = 0 := by decide +kernel
      rw [e1, e2]
      omega
    refine ⟨_, D, cs.map sgS, rfl, rfl, .inl (SqL.of (by rw [List.map_map]; exact e6)), hsum, _, _, rfl, ?_⟩
    have hst : (Txt.join ("" : Str) (cs.map sgS)).cps.toList = cs := by
      have e : ("" : Str) = Str.empty := by decide +kernel
      rw [e]
      exact join_signs cs
    generalize Txt.join ("" : Str) (cs.map sgS) = st at *
    have hst9 : st.length ≤ 9 := by rw [len_list, hst]; exact hsl9
    have hsts : st.length ≤ sizeLine := Nat.le_trans hst9 (Nat.le_of_ble_eq_true rfl)
    have hsok : ∀ x ∈ st.cps.toList, isSign x = true := by rw [hst]; exact co
    have k7 := (k4.trans k5).trans k6
    refine ⟨_, rfl, _, rfl, st, rfl, hsts, _, _, rfl, rfl, p, c, st.length + 2, n + 20, rfl, by omega, by omega, pen6.mono (by have : ((sl : Nat) : Int).toNat = sl := rfl; omega), by omega, fun a H8 ha pen8 k8 => ⟨Nat.zero_le _, fun g hg => ⟨_, _, rfl, ?_⟩⟩⟩
    have k9 := k7.trans k8
    obtain ⟨_, _, ep8, ec8⟩ := pen8.at_
    have ngp : g ≠ p := Ne.symm (ne_of_none ep8 hg)
    have ngc : g ≠ c := Ne.symm (ne_of_none ec8 hg)
    have ha' : a ≤ st.length + 1 := by omega
    have hgH : H g = none := by
      cases e : H g with
      | none => rfl
      | some o => rw [k9 g o ngp e] at hg; cases hg
    refine ⟨_, rfl, m, rfl, by omega, by omega, for_it walk_range (fun i σ H' => ∃ v8 v11 v12, σ = [some (.ref p), some (.int (m : Nat)), some (.str "abcdefghijklmnopqrstuvwxyz"), some (.str "abcdefghijklmnopqrstuvwxyz0123456789"), some (.int (f : Nat)), some (.int (s : Nat)), some (.str (sgS h)), some (.str st), v8, some (.int (a : Nat)), some (.ref g), v11, v12] ∧ KeepP p H H' ∧ Pen H' p c (n + 21) ∧ H' g = some (.lst (((List.range i).map (wordK a st h f s)).map V.str))) ⟨none, none, none, rfl, ?_, ?_, upd_same⟩ (fun _ _ _ _ _ => trivial) ?_ ?_⟩
    · intro x o nx e
      rw [upd_ne (ne_of_none e hgH)]
      exact k9 x o nx e
    · exact pen8.put ngp ngc
    · rintro i x σ H9 H10 hi ⟨v8, v11, v12, rfl, k9, pen9, eg⟩ ⟨rfl, rfl⟩
      have him : i < m := by have : i < ((m : Nat) : Int).toNat := hi; omega
      have hsb : s ≤ 11 := by rcases hs with rfl | rfl | rfl | rfl <;> decide
      have hml : CMul ((s : Nat) : Int) (0 + ((i : Nat) : Int)) := .inl ⟨by omega, by omega⟩
      have hix : ∀ k : Nat, (((f : Nat) : Int) + ((s : Nat) : Int) * (0 + ((i : Nat) : Int))).fmod ((k : Nat) : Int) = (((f + s * i) % k : Nat) : Int) := fun k => by
        rw [Int.zero_add, ← Int.natCast_mul, ← Int.natCast_add, fmod_nat]
      have h26 : (f + s * i) % 26 < 26 := Nat.mod_lt _ (by decide)
      have h36 : (f + s * i) % 36 < 36 := Nat.mod_lt _ (by decide)
      refine ⟨_, rfl, _, rfl, _, rfl, _, rfl, _, _, rfl, rfl, hml, _, _, rfl, rfl, .inl ⟨_, rfl, _, _, rfl, rfl, (show (26 : Int) ≠ 0 by decide), _, _, smC ((f + s * i) % 26), rfl, rfl, by decide +kernel, ?_, _, rfl, _, _, rfl, rfl, ?_, ?_⟩⟩
      · have := hix 26
        exact (congrArg (fun z => atI ("abcdefghijklmnopqrstuvwxyz" : Str).cps.toList z) this).trans (atI_nat (smAt _ h26))
      · exact Nat.le_trans (show 1 + st.length ≤ 100 by omega) (Nat.le_of_ble_eq_true rfl)
      refine ⟨_, rfl, _, _, rfl, rfl, _, rfl, ?_⟩
      by_cases ha0 : a = 0
      · refine ifF (dF (by omega)) ?_
        have hwd : wd a st h (smC ((f + s * i) % 26)) (sgC ((f + s * i) % 36)) = sgS (smC ((f + s * i) % 26)) ++ st := by unfold wd; rw [if_pos ha0]
        have hwv : (sgS (smC ((f + s * i) % 26)) ++ st).cps.toList.length ≤ 12 := by
          rw [app_list, List.length_append, ← len_list, ← len_list]
          exact Nat.le_trans (show 1 + st.length ≤ 12 by omega) (Nat.le_refl _)
        refine ⟨_, rfl, .inl ⟨rfl, _, SqL.of eg⟩, _, rfl, _, rfl, Nat.le_of_ble_eq_true rfl, fun t ht => ⟨_, _, rfl, .inl (SqL.of upd_same), rfl, rfl, .inr ⟨_, rfl, _, _, rfl, rfl, ?_, _, _, rfl, rfl, ?_, g, _, _, rfl, rfl, (by rw [upd_ne (ne_of_none eg ht)]; exact eg), ?_, ?_⟩⟩⟩
        · show (if inV (.str ((sgS (smC ((f + s * i) % 26)) ++ st))) [.str "new", .str "found"] = true then (1 : Int) else 0) = 0 ∨ (if inV (.str ((sgS (smC ((f + s * i) % 26)) ++ st))) [.str "new", .str "found"] = true then (1 : Int) else 0) = 1
          cases inV (.str ((sgS (smC ((f + s * i) % 26)) ++ st))) [.str "new", .str "found"] with
          | true => exact .inr rfl
          | false => exact .inl rfl
        · refine Nat.le_trans (show _ ≤ 100 from ?_) (Nat.le_of_ble_eq_true rfl)
          show ((sgS (smC ((f + s * i) % 26)) ++ st)).length + (if (if inV (.str ((sgS (smC ((f + s * i) % 26)) ++ st))) [.str "new", .str "found"] = true then (1 : Int) else 0) = 1 then ("0" : Str) else Str.empty).length ≤ 100
          have h1 : ((sgS (smC ((f + s * i) % 26)) ++ st)).length ≤ 12 := by rw [len_list]; exact hwv
          cases inV (.str ((sgS (smC ((f + s * i) % 26)) ++ st))) [.str "new", .str "found"] with
          | true => exact Nat.add_le_add h1 (show 1 ≤ 88 by decide)
          | false => exact Nat.add_le_add h1 (show 0 ≤ 88 by decide)
        · rw [List.length_map, List.length_map, List.length_range]
          exact Nat.lt_of_lt_of_le (show i < 5 by omega) (Nat.le_of_ble_eq_true rfl)
        · refine ⟨_, _, _, rfl, ?_, ?_, ?_⟩
          · intro x o nx e
            have e1 := k9 x o nx e
            rw [upd_ne (ne_of_none e hgH), upd_ne (ne_of_none e1 ht)]
            exact e1
          · exact (pen9.same (Same.up1 ht)).put ngp ngc
          · rw [upd_same, List.range_succ, List.map_append, List.map_append]
            have e : ((sgS (smC ((f + s * i) % 26)) ++ st)) ++ (if (if inV (.str (sgS (smC ((f + s * i) % 26)) ++ st)) [.str "new", .str "found"] = true then (1 : Int) else 0) = 1 then ("0" : Str) else Str.empty) = wordK a st h f s i := by
              have e2 : inV (.str (sgS (smC ((f + s * i) % 26)) ++ st)) [.str "new", .str "found"] = decide ((sgS (smC ((f + s * i) % 26)) ++ st) = "new" ∨ (sgS (smC ((f + s * i) % 26)) ++ st) = "found") := inNF (sgS (smC ((f + s * i) % 26)) ++ st)
              rw [e2]
              unfold wordK
              rw [hwd]
              unfold fixW
              by_cases hz : (sgS (smC ((f + s * i) % 26)) ++ st) = "new" ∨ (sgS (smC ((f + s * i) % 26)) ++ st) = "found"
              · rw [dT hz, if_pos hz]
                rfl
              · rw [dF hz, if_neg hz]
                exact str_ext (by rw [app_list]; exact List.append_nil _)
            show _ = some (HO.lst (_ ++ [V.str (wordK a st h f s i)]))
            rw [← e]
            rfl
      · have ha1 : ((a : Nat) : Int) - 1 = ((a - 1 : Nat) : Int) := by omega
        refine ifT (dT (by omega)) ⟨_, rfl, _, rfl, _, rfl, _, rfl, _, _, rfl, rfl, hml, _, _, rfl, rfl, .inl ⟨_, rfl, _, _, rfl, rfl, (show (36 : Int) ≠ 0 by decide), _, _, sgC ((f + s * i) % 36), rfl, rfl, by decide +kernel, ?_, ?_⟩⟩
        · have := hix 36
          exact (congrArg (fun z => atI ("abcdefghijklmnopqrstuvwxyz0123456789" : Str).cps.toList z) this).trans (atI_nat (sgAt _ h36))
        have c1 : (cutS st none (some (((a : Nat) : Int) - 1))).length ≤ 9 := Nat.le_trans (cutS_length _ _ _) hst9
        have c2 : (cutS st (some (((a : Nat) : Int) - 1)) none).length ≤ 9 := Nat.le_trans (cutS_length _ _ _) hst9
        have la : ∀ x y : Str, (x ++ y).length = x.length + y.length := fun x y => by rw [len_list, len_list, len_list, app_list, List.length_append]
        have l1 : ∀ c, (sgS c).length = 1 := fun _ => rfl
        refine ⟨_, rfl, _, rfl, _, rfl, _, _, rfl, rfl, _, rfl, _, rfl, hsts, _, _, rfl, rfl, ?_, _, rfl, _, _, rfl, rfl, ?_, _, rfl, _, rfl, _, _, rfl, rfl, _, rfl, _, rfl, hsts, _, _, rfl, rfl, ?_, ?_⟩
        · exact Nat.le_trans (show 1 + _ ≤ 100 by omega) (Nat.le_of_ble_eq_true rfl)
        · refine Nat.le_trans (show _ ≤ 100 from ?_) (Nat.le_of_ble_eq_true rfl)
          show (sgS h ++ cutS st none (some (((a : Nat) : Int) - 1))).length + 1 ≤ 100
          rw [la, l1]
          omega
        · refine Nat.le_trans (show _ ≤ 100 from ?_) (Nat.le_of_ble_eq_true rfl)
          show (sgS h ++ cutS st none (some (((a : Nat) : Int) - 1)) ++ sgS (sgC ((f + s * i) % 36))).length + (cutS st (some (((a : Nat) : Int) - 1)) none).length ≤ 100
          rw [la, la, l1, l1]
          omega
        have hwd : wd a st h (smC ((f + s * i) % 26)) (sgC ((f + s * i) % 36)) = sgS h ++ cutS st none (some (((a : Nat) : Int) - 1)) ++ sgS (sgC ((f + s * i) % 36)) ++ cutS st (some (((a : Nat) : Int) - 1)) none := by unfold wd; rw [if_neg ha0, ha1]
        have hwv : (sgS h ++ cutS st none (some (((a : Nat) : Int) - 1)) ++ sgS (sgC ((f + s * i) % 36)) ++ cutS st (some (((a : Nat) : Int) - 1)) none).cps.toList.length ≤ 12 := by
          rw [← hwd, wd_list ha', hst, wl_len (by rw [← hst, ← len_list]; exact ha'), if_neg ha0]
          omega
        refine ⟨_, rfl, .inl ⟨rfl, _, SqL.of eg⟩, _, rfl, _, rfl, Nat.le_of_ble_eq_true rfl, fun t ht => ⟨_, _, rfl, .inl (SqL.of upd_same), rfl, rfl, .inr ⟨_, rfl, _, _, rfl, rfl, ?_, _, _, rfl, rfl, ?_, g, _, _, rfl, rfl, (by rw [upd_ne (ne_of_none eg ht)]; exact eg), ?_, ?_⟩⟩⟩
        · show (if inV (.str ((sgS h ++ cutS st none (some (((a : Nat) : Int) - 1)) ++ sgS (sgC ((f + s * i) % 36)) ++ cutS st (some (((a : Nat) : Int) - 1)) none))) [.str "new", .str "found"] = true then (1 : Int) else 0) = 0 ∨ (if inV (.str ((sgS h ++ cutS st none (some (((a : Nat) : Int) - 1)) ++ sgS (sgC ((f + s * i) % 36)) ++ cutS st (some (((a : Nat) : Int) - 1)) none))) [.str "new", .str "found"] = true then (1 : Int) else 0) = 1
          cases inV (.str ((sgS h ++ cutS st none (some (((a : Nat) : Int) - 1)) ++ sgS (sgC ((f + s * i) % 36)) ++ cutS st (some (((a : Nat) : Int) - 1)) none))) [.str "new", .str "found"] with
          | true => exact .inr rfl
          | false => exact .inl rfl
        · refine Nat.le_trans (show _ ≤ 100 from ?_) (Nat.le_of_ble_eq_true rfl)
          show ((sgS h ++ cutS st none (some (((a : Nat) : Int) - 1)) ++ sgS (sgC ((f + s * i) % 36)) ++ cutS st (some (((a : Nat) : Int) - 1)) none)).length + (if (if inV (.str ((sgS h ++ cutS st none (some (((a : Nat) : Int) - 1)) ++ sgS (sgC ((f + s * i) % 36)) ++ cutS st (some (((a : Nat) : Int) - 1)) none))) [.str "new", .str "found"] = true then (1 : Int) else 0) = 1 then ("0" : Str) else Str.empty).length ≤ 100
          have h1 : ((sgS h ++ cutS st none (some (((a : Nat) : Int) - 1)) ++ sgS (sgC ((f + s * i) % 36)) ++ cutS st (some (((a : Nat) : Int) - 1)) none)).length ≤ 12 := by rw [len_list]; exact hwv
          cases inV (.str ((sgS h ++ cutS st none (some (((a : Nat) : Int) - 1)) ++ sgS (sgC ((f + s * i) % 36)) ++ cutS st (some (((a : Nat) : Int) - 1)) none))) [.str "new", .str "found"] with
          | true => exact Nat.add_le_add h1 (show 1 ≤ 88 by decide)
          | false => exact Nat.add_le_add h1 (show 0 ≤ 88 by decide)
        · rw [List.length_map, List.length_map, List.length_range]
          exact Nat.lt_of_lt_of_le (show i < 5 by omega) (Nat.le_of_ble_eq_true rfl)
        · refine ⟨_, _, _, rfl, ?_, ?_, ?_⟩
          · intro x o nx e
            have e1 := k9 x o nx e
            rw [upd_ne (ne_of_none e hgH), upd_ne (ne_of_none e1 ht)]
            exact e1
          · exact (pen9.same (Same.up1 ht)).put ngp ngc
          · rw [upd_same, List.range_succ, List.map_append, List.map_append]
            have e : ((sgS h ++ cutS st none (some (((a : Nat) : Int) - 1)) ++ sgS (sgC ((f + s * i) % 36)) ++ cutS st (some (((a : Nat) : Int) - 1)) none)) ++ (if (if inV (.str (sgS h ++ cutS st none (some (((a : Nat) : Int) - 1)) ++ sgS (sgC ((f + s * i) % 36)) ++ cutS st (some (((a : Nat) : Int) - 1)) none)) [.str "new", .str "found"] = true then (1 : Int) else 0) = 1 then ("0" : Str) else Str.empty) = wordK a st h f s i := by
              have e2 : inV (.str (sgS h ++ cutS st none (some (((a : Nat) : Int) - 1)) ++ sgS (sgC ((f + s * i) % 36)) ++ cutS st (some (((a : Nat) : Int) - 1)) none)) [.str "new", .str "found"] = decide ((sgS h ++ cutS st none (some (((a : Nat) : Int) - 1)) ++ sgS (sgC ((f + s * i) % 36)) ++ cutS st (some (((a : Nat) : Int) - 1)) none) = "new" ∨ (sgS h ++ cutS st none (some (((a : Nat) : Int) - 1)) ++ sgS (sgC ((f + s * i) % 36)) ++ cutS st (some (((a : Nat) : Int) - 1)) none) = "found") := inNF (sgS h ++ cutS st none (some (((a : Nat) : Int) - 1)) ++ sgS (sgC ((f + s * i) % 36)) ++ cutS st (some (((a : Nat) : Int) - 1)) none)
              rw [e2]
              unfold wordK
              rw [hwd]
              unfold fixW
              by_cases hz : (sgS h ++ cutS st none (some (((a : Nat) : Int) - 1)) ++ sgS (sgC ((f + s * i) % 36)) ++ cutS st (some (((a : Nat) : Int) - 1)) none) = "new" ∨ (sgS h ++ cutS st none (some (((a : Nat) : Int) - 1)) ++ sgS (sgC ((f + s * i) % 36)) ++ cutS st (some (((a : Nat) : Int) - 1)) none) = "found"
              · rw [dT hz, if_pos hz]
                rfl
              · rw [dF hz, if_neg hz]
                exact str_ext (by rw [app_list]; exact List.append_nil _)
            show _ = some (HO.lst (_ ++ [V.str (wordK a st h f s i)]))
            rw [← e]
            rfl
    · rintro σ H9 ⟨v8, v11, v12, rfl, k9, pen9, eg⟩
      have eg : H9 g = some (.lst (((List.range m).map (wordK a st h f s)).map V.str)) := eg
      have hwl : ((List.range m).map (wordK a st h f s)).length = m := by rw [List.length_map, List.length_range]
      have hall : ∀ u ∈ (List.range m).map (wordK a st h f s), WordS u := fun u hu => by
        obtain ⟨k, _, rfl⟩ := List.mem_map.mp hu
        exact wordK_ok ha' hst9 hsok hh
      refine ⟨_, rfl, _, rfl, p, c, g, _, n + 21, rfl, pen9, by rw [hwl]; omega, eg, by rw [hwl]; omega, fun u hu => (hall u hu).1.ok, fun H' l us kk penk el nlp hperm => ?_⟩
      refine q H' l us (k9.trans kk) (penk.mono (by rw [hwl]; omega)) el nlp (by rw [hperm.length_eq, hwl]) (hperm.nodup_iff.mpr (words_nodup ha' hs hm2)) fun u hu => hall u (hperm.mem_iff.mp hu)
end K5


namespace K5
open PySem PySem.Spec PyProof.Rows L2
def mkL (b : Bool) (w : Str) : Str := (if (if b = true then (1 : Int) else 0) = 1 then ("~" : Str) else Str.empty) ++ w
theorem mkL_list (b : Bool) (w : Str) : (mkL b w).cps.toList = (if b = true then [126] else []) ++ w.cps.toList := by
  unfold mkL
  rw [app_list]
  cases b with
  | true =>
    show (("~" : Str)).cps.toList ++ _ = _
    rw [show (("~" : Str)).cps.toList = [126] by decide +kernel]
    rfl
  | false => rfl
theorem word_first {w : Str} (h : WordL w.cps.toList) : ∃ x l, w.cps.toList = x :: l ∧ isSmall x = true := by
  cases e : w.cps.toList with
  | nil => rw [e] at h; exact absurd h.1 (by decide)
  | cons x l => exact ⟨x, l, rfl, h.2.2.1 x (by rw [e]; rfl)⟩
theorem mkL_inj {b b' : Bool} {w w' : Str} (h : WordL w.cps.toList) (h' : WordL w'.cps.toList) (e : mkL b w = mkL b' w') : w = w' := by
  have e1 := congrArg (fun z : Str => z.cps.toList) e
  simp only [mkL_list] at e1
  obtain ⟨x, l, ex, sx⟩ := word_first h
  obtain ⟨x', l', ex', sx'⟩ := word_first h'
  have n1 : x ≠ 126 := fun q => by rw [q] at sx; cases sx
  have n2 : x' ≠ 126 := fun q => by rw [q] at sx'; cases sx'
  rw [ex, ex'] at e1
  cases b <;> cases b' <;> simp at e1
  · exact str_ext (by rw [ex, ex', e1.1, e1.2])
  · exact absurd e1.1 n1
  · exact absurd e1.1.symm n2
  · exact str_ext (by rw [ex, ex', e1.1, e1.2])
theorem mkL_letter {b : Bool} {w : Str} (h : WordS w) : LetterS (mkL b w) ∧ mkL b w ≠ "zzzzzzzzzzzz" := by
  have el := mkL_list b w
  constructor
  · cases b with
    | true => exact .inr ⟨w, el, h.1, h.2.1⟩
    | false =>
      have e : mkL false w = w := str_ext el
      rw [e]
      exact .inl ⟨h.1, h.2.1⟩
  · intro e
    rw [e] at el
    have e12 : (("zzzzzzzzzzzz" : Str)).cps.toList = [122, 122, 122, 122, 122, 122, 122, 122, 122, 122, 122, 122] := by decide +kernel
    rw [e12] at el
    have hl := h.2.2
    rw [len_list] at hl
    cases b with
    | true =>
      have := (List.cons.inj el).1
      omega
    | false =>
      have := congrArg List.length el
      simp at this
      simp at hl
      omega
def sp_law_letters : Sp := fun vs H Q _ => ∃ (p c : Addr) (n : Nat), vs = [.ref p, .int 1, .int 4] ∧ Pen H p c n ∧ n + 200 < 2 ^ 40 ∧
  ∀ (H' : Hp) (l : Addr) (ls : List Str), KeepP p H H' → Pen H' p c (n + 200) → H' l = some (.lst (ls.map V.str)) → l ≠ p → 1 ≤ ls.length → ls.length ≤ 4 → ls.Nodup → (∀ z ∈ ls, LetterS z ∧ z ≠ "zzzzzzzzzzzz") → Q (.ref l) H'
def sp_law_spelled (K : PySem.W.Frag) : Sp := fun vs H Q _ => ∃ (t u : Addr) (ws : List Str) (w : List Nat), vs = [.ref t, .ref u] ∧ H t = some (.tup (ws.map V.str)) ∧ H u = some (.tup (nats w)) ∧ (∀ l ∈ w, l < ws.length) ∧ w.length ≤ 200 ∧
  ∀ (H' : Hp) (v : Addr), Same H H' → H' v = some (.tup ((wOf ws w).map V.str)) → Q (.ref v) H'
def sp_law_history (K : PySem.W.Frag) : Sp := fun vs H Q _ => ∃ (L u : Addr) (b : Str) (ws : List Str) (w : List Nat), vs = [.ref L, .str b, .ref u] ∧ LetO K H L ws ∧ (b = "new" ∨ b = "found") ∧ H u = some (.tup (nats w)) ∧ (∀ l ∈ w, l < ws.length) ∧ w.length ≤ 200 ∧
  ∀ (H' : Hp) (h : Addr), Same H H' → HisO K H' h L b (joinR ((wOf ws w).map fun u => (u, 1))) → Q (.ref h) H'
theorem G_law_letters {P : Program} {w : World} {K : PySem.W.Frag} {mg : Str → Option Value} {base : Heap} (T : Tx K mg) : FnG P w K mg base 4 "_law_letters" (sp_law_letters) :=
  fnG_of T.g_law_letters T.d_law_letters sc_law_letters (fun vs H Q E h => by
    obtain ⟨p, c, n, rfl, hp, hn, q⟩ := h
    rfl) (fun _ _ _ _ _ _ us hl => match us, hl with | [_, _, _], _ => rfl) fun cdv A outer s H vs Q E hr h => by
    obtain ⟨p, c, n, rfl, hp, hn, q⟩ := h
    have hu := hu_of hr
    refine ⟨_, (pss_cons (ps_set (i := 3) sc_law_letters.nd rfl (by first | exact Or.inl rfl | exact Or.inr rfl) (pe_callG (G_law_words T) (hr.mono (by decide)) rfl passL (pa_cons (pv 0) (pa_cons (pe_op op_add (pv 1) (pe_callG (G_law_draw T) (hr.mono (by decide)) rfl passL (pa_cons (pv 0) (pa_cons (pe_op op_add (pe_op op_sub (pv 2) (pv 1)) pe_int) pa_nil)))) pa_nil))))
      (pss_one (ps_ret (pe_lc (own := [("_law_word", 4)]) (g := gName 4) rfl sc_law_letters.nd (pi_list (pv 3)) (blkOk_by rfl) (fun _ _ _ _ _ => (pg_name (i := 4) sc_law_letters.nd rfl (by first | exact Or.inl rfl | exact Or.inr rfl))) (fun _ _ _ _ _ => pts_nil) (fun _ _ _ _ _ => (pe_op op_add_str (pe_op op_mulS01 pe_str (pe_callTy call_int1 rfl T.n_int (show bootBuiltins "int" = some (.type "int") by decide +kernel) (pa_cons (pe_cmpR op_eq (pe_callG (G_law_draw T) (hr.mono (by decide)) rfl passL (pa_cons (pv 0) (pa_cons pe_int pa_nil))) pe_int (nomark _)) pa_nil))) (pv 4))))))), ?_⟩
    refine ⟨_, rfl, _, rfl, _, rfl, _, rfl, _, rfl, _, _, rfl, rfl, _, _, rfl, rfl, p, c, 4, n, rfl, by decide, by decide, hp, by omega, fun m H1 hm pen1 k1 => ⟨_, _, rfl, rfl, p, c, 1 + m, n + 1, ?_, pen1, by omega, by omega, by omega, fun H2 g us k2 pen2 eg ngp ul und uok => ?_⟩⟩
    · have e : (1 : Int) + (m : Nat) = ((1 + m : Nat) : Int) := by omega
      exact congrArg (fun z => [V.ref p, V.int z]) e
    have k2 := k1.trans k2
    obtain ⟨_, _, ep2, ec2⟩ := pen2.at_
    refine ⟨_, rfl, g, rfl, ⟨_, SqL.of eg⟩, fun D hD => lc_it (walk_list (xs := us.map V.str)) (fun i H' => KeepP p H2 H' ∧ Pen H' p c (n + 1 + 100 + i) ∧ ∃ bs : List Bool, bs.length = i ∧ H' D = some (.lst (((bs.zip (us.take i)).map fun x => mkL x.1 x.2).map V.str))) ⟨KeepP.of (Same.up1 hD), pen2.same (Same.up1 hD), [], rfl, upd_same⟩ (fun i H' _ h => SqL.of (h.1 _ _ ngp eg)) ?_ ?_⟩
    · rintro i x H3 H4 hi ⟨k3, pen3, bs, bl, eD⟩ ⟨rfl, hx⟩
      obtain ⟨z, hz, rfl⟩ := map_get hx
      have hi2 : i < us.length := (List.getElem?_eq_some_iff.mp hz).1
      have hzi : us[i] = z := (List.getElem?_eq_some_iff.mp hz).2
      have nDp : D ≠ p := Ne.symm (ne_of_none ep2 hD)
      have nDc : D ≠ c := Ne.symm (ne_of_none ec2 hD)
      have hzo := uok z (List.mem_of_getElem? hz)
      refine ⟨rfl, _, rfl, p, c, 5, n + 1 + 100 + i, rfl, by decide, by decide, pen3, by omega, fun r H5 hr pen5 k5 => ⟨rfl, .inr ⟨_, rfl, _, _, rfl, rfl, ?_, _, rfl, _, _, rfl, rfl, ?_, ((bs.zip (us.take i)).map fun x => mkL x.1 x.2).map V.str, k5 _ _ nDp eD, ?_, ?_, ?_, bs ++ [decide (V.int (r : Nat) = V.int 0)], ?_, ?_⟩⟩⟩
      · cases decide (V.int (r : Nat) = V.int 0) with
        | true => exact .inr rfl
        | false => exact .inl rfl
      · refine Nat.le_trans (show _ ≤ 100 from ?_) (Nat.le_of_ble_eq_true rfl)
        have h11 := hzo.2.2
        cases decide (V.int (r : Nat) = V.int 0) with
        | true => exact Nat.add_le_add (show 1 ≤ 89 by decide) h11
        | false => exact Nat.add_le_add (show 0 ≤ 89 by decide) h11
      · rw [List.length_map, List.length_map, List.length_zip, List.length_take]
        exact Nat.lt_of_lt_of_le (show _ < 5 by omega) (Nat.le_of_ble_eq_true rfl)
      · intro x o nx e
        rw [upd_ne (ne_of_none e hD)]
        exact k5 _ _ nx (k3 _ _ nx e)
      · exact pen5.put nDp nDc
      · rw [List.length_append, bl]; rfl
      · rw [upd_same, List.take_succ_eq_append_getElem hi2, hzi, List.zip_append (by rw [bl, List.length_take]; omega), List.map_append, List.map_append]
        rfl
    · rintro H3 ⟨k3, pen3, bs, bl, eD⟩
      have hul : (us.map V.str).length = us.length := List.length_map _
      rw [hul] at bl pen3
      rw [hul, List.take_length] at eD
      have nDp : D ≠ p := Ne.symm (ne_of_none ep2 hD)
      have hlen : ((bs.zip us).map fun x => mkL x.1 x.2).length = us.length := by rw [List.length_map, List.length_zip, bl, Nat.min_self]
      have hmem : ∀ x ∈ bs.zip us, WordS x.2 := fun x hx => uok x.2 (List.of_mem_zip hx).2
      refine q H3 D _ (k2.trans k3) (pen3.mono (by omega)) eD nDp (by omega) (by omega) ?_ ?_
      · rw [List.Nodup, List.pairwise_map]
        have h1 : ((bs.zip us).map (·.2)).Nodup := by
          rw [List.map_snd_zip (by omega)]
          exact und
        rw [List.Nodup, List.pairwise_map] at h1
        exact h1.imp_of_mem fun {x y} hx hy hne e => hne (mkL_inj (hmem x hx).1 (hmem y hy).1 e)
      · intro z hz
        obtain ⟨x, hx, rfl⟩ := List.mem_map.mp hz
        exact mkL_letter (hmem x hx)
theorem G_law_spelled {P : Program} {w : World} {K : PySem.W.Frag} {mg : Str → Option Value} {base : Heap} (T : Tx K mg) : FnG P w K mg base 1 "_law_spelled" (sp_law_spelled K) :=
  fnG_of T.g_law_spelled T.d_law_spelled sc_law_spelled (fun vs H Q E h => by
    obtain ⟨t, u, ws, w, rfl, ht, hu1, hw, hl, q⟩ := h
    rfl) (fun _ _ _ _ _ _ us hl => match us, hl with | [_, _], _ => rfl) fun cdv A outer s H vs Q E hr h => by
    obtain ⟨t, u, ws, w, rfl, ht, hu1, hw, hl, q⟩ := h
    have hu := hu_of hr
    refine ⟨_, (pss_one (ps_ret (pe_callTy call_tuple_of rfl T.n_tuple (show bootBuiltins "tuple" = some (.type "tuple") by decide +kernel) (pa_cons (pe_lc (own := [("_law_k", 2)]) (g := gName 2) rfl sc_law_spelled.nd (pi_tup (pv 1)) (blkOk_by rfl) (fun _ _ _ _ _ => (pg_name (i := 2) sc_law_spelled.nd rfl (by first | exact Or.inl rfl | exact Or.inr rfl))) (fun _ _ _ _ _ => pts_nil) (fun _ _ _ _ _ => (pe_ix (ix_tupK (K := K) rfl) (pv 0) (pv 2) (fun _ _ => rfl)))) pa_nil)))), ?_⟩
    refine ⟨_, rfl, u, rfl, ⟨_, SqT.of hu1⟩, fun D hD => lc_it (walk_tup (xs := nats w)) (fun i H' => Same H H' ∧ H' D = some (.lst ((wOf ws (w.take i)).map V.str))) ⟨Same.up1 hD, upd_same⟩ (fun i H' _ h => Same.seqT h.1 hu1) ?_ ?_⟩
    · rintro i x H1 H2 hi ⟨s1, e1⟩ ⟨rfl, hx⟩
      obtain ⟨l, hl2, rfl⟩ := map_get hx
      have hi2 : i < w.length := (List.getElem?_eq_some_iff.mp hl2).1
      have hli : w[i] = l := (List.getElem?_eq_some_iff.mp hl2).2
      have hlw := hw l (List.mem_of_getElem? hl2)
      refine ⟨rfl, _, rfl, _, rfl, _, _, _, _, rfl, rfl, Same.seqT s1 ht, atI_nat (ansAt hlw), _, e1, ?_, Same.up2 s1 hD, ?_⟩
      · unfold wOf
        rw [List.length_map, List.length_map, List.length_take]
        exact Nat.lt_of_lt_of_le (show _ < 201 by omega) (Nat.le_of_ble_eq_true rfl)
      · rw [upd_same, List.take_succ_eq_append_getElem hi2, hli]
        unfold wOf
        rw [List.map_append, List.map_append]
        rfl
    · rintro H1 ⟨s1, e1⟩
      have hwl : (nats w).length = w.length := List.length_map _
      rw [hwl, List.take_length] at e1
      exact ⟨_, _, rfl, .inl ⟨SqL.of e1, fun v hv => q _ v (Same.up2 s1 (Same.free s1 hv)) upd_same⟩⟩
theorem G_law_history {P : Program} {w : World} {K : PySem.W.Frag} {mg : Str → Option Value} {base : Heap} (T : Tx K mg) : FnG P w K mg base 6 "_law_history" (sp_law_history K) :=
  fnG_of T.g_law_history T.d_law_history sc_law_history (fun vs H Q E h => by
    obtain ⟨L, u, b, ws, w, rfl, oL, hb, hu1, hw, hl, q⟩ := h
    rfl) (fun _ _ _ _ _ _ us hl => match us, hl with | [_, _, _], _ => rfl) fun cdv A outer s H vs Q E hr h => by
    obtain ⟨L, u, b, ws, w, rfl, oL, hb, hu1, hw, hl, q⟩ := h
    have hu := hu_of hr
    refine ⟨_, (pss_one (ps_ret (ClX.pe_cmeth (pe_globR T.g_History rfl) T.cread T.cmet (G_History_spelled T) (hr.mono (by decide)) passL (pa_cons (pv 0) (pa_cons (pv 1) (pa_cons (pe_callG (G_law_spelled T) (hr.mono (by decide)) rfl passL (pa_cons (pe_fld (pv 0) rfl) (pa_cons (pv 2) pa_nil))) pa_nil)))))), ?_⟩
    obtain ⟨dL, tL, eL, eT, nd, h12, hwo⟩ := id oL
    refine ⟨rfl, _, rfl, _, rfl, _, rfl, _, _, _, _, _, rfl, eL, T.cl_Letters, T.na_Letters_words, rfl, _, rfl, tL, u, ws, w, rfl, eT, hu1, hw, hl, fun H1 v s1 ev => ⟨L, v, b, ws, wOf ws w, rfl, oL.same s1, hb, ev, fun z hz => ?_, ?_, fun h H2 s2 hh => q H2 h (Same.trans s1 s2) hh⟩⟩
    · obtain ⟨l, hl2, rfl⟩ := List.mem_map.mp hz
      rw [wsAt (List.getElem?_eq_getElem (hw l hl2))]
      exact List.getElem_mem (hw l hl2)
    · unfold wOf
      rw [List.length_map]
      exact hl
end K5


namespace K5
open PySem PySem.Spec PyProof.Rows L2
theorem RowL.keep {H H' : Hp} {p c : Addr} {n : Nat} {rr : List (Addr × List Nat)} (h : RowL H rr) (k : KeepP p H H') (pen : Pen H p c n) : RowL H' rr := fun x hx => by
  obtain ⟨_, _, ep, _⟩ := pen.at_
  exact k _ _ (ne_of (h x hx) ep (by intro z; cases z)) (h x hx)
theorem dpInts {K : PySem.W.Frag} {H : Hp} : ∀ es : List Int, DpAll K H (es.map V.int) (es.map PyData.int)
  | [] => .nil
  | e :: es => .cons (.int e) (dpInts es)
theorem shapedInts (es : List Int) : SeqAt.shaped (.list (es.map PyData.int)) = true := by
  have c : ∀ es : List Int, PyData.canLayAll0 (es.map PyData.int) = true := by
    intro es
    induction es with
    | nil => rfl
    | cons e es ih => show (true && PyData.canLayAll0 (es.map PyData.int)) = true; rw [ih]; rfl
  have d : ∀ es : List Int, PyData.depthAll (es.map PyData.int) = 0 := by
    intro es
    induction es with
    | nil => rfl
    | cons e es ih => show max 0 (PyData.depthAll (es.map PyData.int)) = 0; rw [ih]; rfl
  show (PyData.canLayAll0 (es.map PyData.int) && decide (PyData.depthAll (es.map PyData.int) + 1 ≤ 64)) = true
  rw [c, d]
  rfl
theorem eqvInts : ∀ es fs : List Int, PyData.eqvAll (es.map PyData.int) (fs.map PyData.int) = decide (es = fs)
  | [], [] => rfl
  | [], _ :: _ => rfl
  | _ :: _, [] => rfl
  | e :: es, f :: fs => by
    show (e == f && PyData.eqvAll (es.map PyData.int) (fs.map PyData.int)) = _
    rw [eqvInts es fs, Bool.eq_iff_iff]
    simp
def sp_law_machine (K : PySem.W.Frag) : Sp := fun vs H Q _ => ∃ (p c t : Addr) (n nl : Nat) (xs : List V), vs = [.ref p, .ref t, .int 6, .bl false] ∧ Pen H p c n ∧ n + 1000 < 2 ^ 40 ∧ H t = some (.tup xs) ∧ xs.length = nl ∧ nl ≤ 4 ∧
  ∀ (H' : Hp) (u r : Addr) (x : V) (rr : List (Addr × List Nat)), KeepP p H H' → Pen H' p c (n + 1000) → H' u = some (.tup [.ref r, x]) → H' r = some (.lst (refR rr)) → RowL H' rr → 1 ≤ rr.length → rr.length ≤ 6 → (∀ y ∈ rr, y.2.length = nl ∧ ∀ k ∈ y.2, k < rr.length) → Q (.ref u) H'
theorem G_law_machine {P : Program} {w : World} {K : PySem.W.Frag} {mg : Str → Option Value} {base : Heap} (T : Tx K mg) : FnG P w K mg base 3 "_law_machine" (sp_law_machine K) :=
  fnG_of T.g_law_machine T.d_law_machine sc_law_machine (fun vs H Q E h => by
    obtain ⟨p, c, t, n, nl, xs, rfl, hp, hn, ht, hxl, hnl, q⟩ := h
    rfl) (fun _ _ _ _ _ _ us hl => match us, hl with | [_, _, _, _], _ => rfl) fun cdv A outer s H vs Q E hr h => by
    obtain ⟨p, c, t, n, nl, xs, rfl, hp, hn, ht, hxl, hnl, q⟩ := h
    have hu := hu_of hr
    refine ⟨_, (pss_cons (ps_set (i := 4) sc_law_machine.nd rfl (by first | exact Or.inl rfl | exact Or.inr rfl) (pe_op op_add pe_int (pe_callG (G_law_draw T) (hr.mono (by decide)) rfl passL (pa_cons (pv 0) (pa_cons (pv 2) pa_nil)))))
      (pss_cons (ps_set (i := 5) sc_law_machine.nd rfl (by first | exact Or.inl rfl | exact Or.inr rfl) (pe_ifExp (pt_val (pv 3)) (pe_callG (G_law_pick T) (hr.mono (by decide)) rfl passL (pa_cons (pv 0) (pa_cons (pe_lst (pa_cons pe_int (pa_cons pe_int (pa_cons pe_int pa_nil)))) pa_nil))) pe_int))
      (pss_cons (ps_set (i := 6) sc_law_machine.nd rfl (by first | exact Or.inl rfl | exact Or.inr rfl) (pe_lst pa_nil))
      (pss_cons (ps_for (passes_of rfl) rfl (pi_range1 rfl T.n_range (pa_cons (pv 4) pa_nil)) (pg_name (i := 7) sc_law_machine.nd rfl (by first | exact Or.inl rfl | exact Or.inr rfl)) (pss_cons (ps_set (i := 8) sc_law_machine.nd rfl (by first | exact Or.inl rfl | exact Or.inr rfl) (pe_lst pa_nil))
        (pss_cons (ps_for (passes_of rfl) rfl (pi_tup (pv 1)) (pg_name (i := 9) sc_law_machine.nd rfl (by first | exact Or.inl rfl | exact Or.inr rfl)) (pss_cons (ps_set (i := 10) sc_law_machine.nd rfl (by first | exact Or.inl rfl | exact Or.inr rfl) (pe_and (pe_cmpR op_gt (pv 5) pe_int (nomark _)) (pe_one (pe_cmpR op_lt (pe_callG (G_law_draw T) (hr.mono (by decide)) rfl passL (pa_cons (pv 0) (pa_cons pe_int pa_nil))) (pv 5) (nomark _)))))
          (pss_one (ps_expr (pe_bm PySem.F.plainAttrs_list PySem.F.slot_list_append PySem.F.type_list_append mt_append (pv 8) (pa_cons (pe_ifExp (pt_val (pv 10)) pe_non (pe_callG (G_law_draw T) (hr.mono (by decide)) rfl passL (pa_cons (pv 0) (pa_cons (pv 4) pa_nil)))) pa_nil))))))
        (pss_one (ps_expr (pe_bm PySem.F.plainAttrs_list PySem.F.slot_list_append PySem.F.type_list_append mt_append (pv 6) (pa_cons (pv 8) pa_nil)))))))
      (pss_cons (ps_setLc (i := 11) (own := [("_law_state", 7)]) (g := gName 7) rfl sc_law_machine.nd rfl rfl (sw_true rfl rfl rfl (by decide +kernel)) (pi_range1 rfl T.n_range (pa_cons (pv 4) pa_nil)) (blkOk_by rfl) (fun _ _ _ _ _ => (pg_name (i := 7) sc_law_machine.nd rfl (by first | exact Or.inl rfl | exact Or.inr rfl))) (fun _ _ _ _ _ => pts_one (pt_cmpR op_eq (pe_callG (G_law_draw T) (hr.mono (by decide)) rfl passL (pa_cons (pv 0) (pa_cons pe_int pa_nil))) pe_int (nomark _))) (fun _ _ _ _ _ => (pv 7)))
      (pss_one (ps_ret (pe_tup (pa_cons (pv 6) (pa_cons (pe_ifExp (PW.pt (pw_or (pt_cmpR (op_neD hr.units) (pv 11) (pe_lst pa_nil) (nomark _)) (pw_or1 (pt_cmpR op_eq (pe_callG (G_law_draw T) (hr.mono (by decide)) rfl passL (pa_cons (pv 0) (pa_cons pe_int pa_nil))) pe_int (nomark _))))) (pv 11) (pe_lst (pa_cons (pe_callG (G_law_draw T) (hr.mono (by decide)) rfl passL (pa_cons (pv 0) (pa_cons (pv 4) pa_nil))) pa_nil))) pa_nil)))))))))), ?_⟩
    obtain ⟨_, _, ep, ec⟩ := hp.at_
    have ntp : t ≠ p := ne_of ht ep (by intro z; cases z)
    refine ⟨_, rfl, _, rfl, p, c, 6, n, rfl, by decide, by decide, hp, by omega, fun m0 H1 hm pen1 k1 => ⟨_, _, rfl, rfl, ?_⟩⟩
    obtain ⟨m, hm1, hm6, em⟩ : ∃ m : Nat, 1 ≤ m ∧ m ≤ 6 ∧ (1 : Int) + ((m0 : Nat) : Int) = ((m : Nat) : Int) := ⟨1 + m0, by omega, by omega, by omega⟩
    dsimp only
    rw [em]
    refine ⟨_, rfl, _, rfl, ifF rfl ⟨Nat.zero_le _, fun R hR => ?_⟩⟩
    obtain ⟨_, _, ep1, ec1⟩ := pen1.at_
    have nRp : R ≠ p := Ne.symm (ne_of_none ep1 hR)
    have nRc : R ≠ c := Ne.symm (ne_of_none ec1 hR)
    have fre : ∀ {H' : Hp} {a : Addr}, KeepP p H H' → a ≠ p → H' a = none → H a = none := fun {H' a} k na e => by
      cases h : H a with
      | none => rfl
      | some o => rw [k a o na h] at e; cases e
    have hRH : H R = none := fre k1 nRp hR
    refine ⟨_, rfl, m, rfl, by omega, by omega, for_it walk_range (fun i σ H' => ∃ v7 v8 v9 v10 rr, σ = [some (.ref p), some (.ref t), some (.int 6), some (.bl false), some (.int (m : Nat)), some (.int 0), some (.ref R), v7, v8, v9, v10, none] ∧ KeepP p H H' ∧ Pen H' p c (n + 1 + 10 * i) ∧ H' R = some (.lst (refR rr)) ∧ rr.length = i ∧ RowL H' rr ∧ ∀ y ∈ rr, y.1 ≠ R ∧ y.2.length = nl ∧ ∀ k ∈ y.2, k < m) ⟨none, none, none, none, [], rfl, ?_, pen1.put nRp nRc, upd_same, rfl, (fun x hx => by cases hx), fun x hx => by cases hx⟩ (fun _ _ _ _ _ => trivial) ?_ ?_⟩
    · intro x o nx e
      rw [upd_ne (ne_of_none e hRH)]
      exact k1 x o nx e
    · rintro i x σ H2 H3 hi ⟨v7, v8, v9, v10, rr, rfl, k2, pen2, eR, rl, hrow, hro⟩ ⟨rfl, rfl⟩
      have him : i < m := hi
      refine ⟨Nat.zero_le _, fun w hw => ?_⟩
      obtain ⟨_, _, ep2, ec2⟩ := pen2.at_
      have nwp : w ≠ p := Ne.symm (ne_of_none ep2 hw)
      have nwc : w ≠ c := Ne.symm (ne_of_none ec2 hw)
      have nwR : w ≠ R := Ne.symm (ne_of_none eR hw)
      have hwH : H w = none := fre k2 nwp hw
      have hwr : ∀ y ∈ rr, y.1 ≠ w := fun y hy => ne_of_none (hrow y hy) hw
      refine ⟨_, rfl, t, rfl, ⟨xs, SqT.of (by rw [upd_ne (ne_of_none (k2 _ _ ntp ht) hw)]; exact k2 _ _ ntp ht)⟩, for_it (walk_tup (xs := xs)) (fun j σ H' => ∃ v9 v10 ks, σ = [some (.ref p), some (.ref t), some (.int 6), some (.bl false), some (.int (m : Nat)), some (.int 0), some (.ref R), some (.int (0 + (i : Nat))), some (.ref w), v9, v10, none] ∧ KeepP p H H' ∧ Pen H' p c (n + 1 + 10 * i + j) ∧ H' R = some (.lst (refR rr)) ∧ RowL H' rr ∧ H' w = some (.lst (nats ks)) ∧ ks.length = j ∧ ∀ k ∈ ks, k < m) ⟨v9, v10, [], rfl, ?_, pen2.put nwp nwc, ?_, ?_, upd_same, rfl, fun x hx => by cases hx⟩ (fun j σ H' _ ⟨_, _, _, _, k, _⟩ => SqT.of (k _ _ ntp ht)) ?_ ?_⟩
      · intro x o nx e
        rw [upd_ne (ne_of_none e hwH)]
        exact k2 x o nx e
      · rw [upd_ne (Ne.symm nwR)]; exact eR
      · intro y hy
        rw [upd_ne (hwr y hy)]
        exact hrow y hy
      · rintro j x σ H4 H5 hj ⟨v9, v10, ks, rfl, k4, pen4, eR4, hrow4, ew, kl, hks⟩ ⟨rfl, hx⟩
        have hj4 : j < 4 := by omega
        have hkl : (nats ks).length < sizeLine := by
          unfold nats
          rw [List.length_map, kl]
          exact Nat.lt_of_lt_of_le hj4 (Nat.le_of_ble_eq_true rfl)
        refine ⟨_, rfl, _, _, rfl, rfl, _, rfl, ifF (dF (by decide)) ?_⟩
        refine ⟨_, rfl, .inl ⟨rfl, _, SqL.of ew⟩, _, rfl, _, rfl, ifF rfl ⟨_, rfl, _, rfl, p, c, m, n + 1 + 10 * i + j, rfl, by omega, by omega, pen4, by omega, fun k H6 hk pen6 k6 => ⟨w, _, _, rfl, rfl, k6 _ _ nwp ew, hkl, _, _, ks ++ [k], rfl, ?_, pen6.put nwp nwc, ?_, ?_, ?_, ?_, ?_⟩⟩⟩
        · intro x o nx e
          rw [upd_ne (ne_of_none e hwH)]
          exact k6 _ _ nx (k4 x o nx e)
        · rw [upd_ne (Ne.symm nwR)]; exact k6 _ _ nRp eR4
        · intro y hy
          rw [upd_ne (hwr y hy)]
          exact hrow4.keep k6 pen4 y hy
        · rw [upd_same]
          unfold nats
          rw [List.map_append]
          rfl
        · rw [List.length_append, kl]; rfl
        · intro y hy
          rcases List.mem_append.mp hy with hy | hy
          · exact hks y hy
          · rw [List.mem_singleton.mp hy]; exact hk
      · rintro σ H4 ⟨v9, v10, ks, rfl, k4, pen4, eR4, hrow4, ew, kl, hks⟩
        refine ⟨_, rfl, .inl ⟨rfl, _, SqL.of eR4⟩, _, rfl, R, _, _, rfl, rfl, eR4, ?_, _, _, _, _, rr ++ [(w, ks)], rfl, ?_, (pen4.mono (by omega)).put nRp nRc, ?_, ?_, ?_, ?_⟩
        · unfold refR
          rw [List.length_map, rl]
          exact Nat.lt_of_lt_of_le (show _ < 7 by omega) (Nat.le_of_ble_eq_true rfl)
        · intro x o nx e
          rw [upd_ne (ne_of_none e hRH)]
          exact k4 x o nx e
        · rw [upd_same]
          unfold refR
          rw [List.map_append]
          rfl
        · rw [List.length_append, rl]; rfl
        · intro y hy
          rcases List.mem_append.mp hy with hy | hy
          · rw [upd_ne (hro y hy).1]; exact hrow4 y hy
          · rw [List.mem_singleton.mp hy, upd_ne nwR]; exact ew
        · intro y hy
          rcases List.mem_append.mp hy with hy | hy
          · exact hro y hy
          · rw [List.mem_singleton.mp hy]; exact ⟨nwR, by rw [← hxl]; exact kl, hks⟩
    rintro σ H2 ⟨v7, v8, v9, v10, rr, rfl, k2, pen2, eR, rl, hrow, hro⟩
    have rl : rr.length = m := rl
    have pen2 : Pen H2 p c (n + 1 + 10 * m) := pen2
    obtain ⟨_, _, ep2, ec2⟩ := pen2.at_
    refine ⟨_, rfl, m, rfl, by omega, by omega, fun D hD => lc_it walk_range (fun i H' => KeepP p H2 H' ∧ Pen H' p c (n + 100 + i) ∧ ∃ es : List Int, H' D = some (.lst (es.map V.int)) ∧ es.length ≤ i) ⟨KeepP.of (Same.up1 hD), (pen2.mono (by omega)).same (Same.up1 hD), [], upd_same, Nat.le_refl _⟩ (fun _ _ _ _ => trivial) ?_ ?_⟩
    · rintro i x H3 H4 hi ⟨k3, pen3, es, eD, el⟩ ⟨rfl, rfl⟩
      have him : i < m := hi
      have nDp : D ≠ p := Ne.symm (ne_of_none ep2 hD)
      have nDc : D ≠ c := Ne.symm (ne_of_none ec2 hD)
      refine ⟨rfl, _, rfl, p, c, 3, n + 100 + i, rfl, by decide, by decide, pen3, by omega, fun r H5 hr pen5 k5 => ⟨rfl, _, rfl, ite2 (fun _ => ⟨_, rfl, es.map V.int, k5 _ _ nDp eD, ?_, ?_, pen5.put nDp nDc, es ++ [0 + ((i : Nat) : Int)], ?_, ?_⟩) (fun _ => ⟨k3.trans k5, pen5, es, k5 _ _ nDp eD, Nat.le_succ_of_le el⟩)⟩⟩
      · rw [List.length_map]
        exact Nat.lt_of_lt_of_le (show _ < 7 by omega) (Nat.le_of_ble_eq_true rfl)
      · intro x o nx e
        rw [upd_ne (ne_of_none e hD)]
        exact k5 _ _ nx (k3 _ _ nx e)
      · rw [upd_same, List.map_append]; rfl
      · rw [List.length_append]; exact Nat.succ_le_succ el
    rintro H3 ⟨k3, pen3, es, eD, el⟩
    have pen3 : Pen H3 p c (n + 100 + m) := pen3
    have fin : ∀ (H5 : Hp) (x : V), KeepP p H3 H5 → Pen H5 p c (n + 500) → ∀ u, H5 u = none → Q (.ref u) (upd H5 u (.tup [.ref R, x])) := fun H5 x k5 pen5 u hu => by
      have k6 := (k2.trans k3).trans k5
      have pen2' : RowL H5 rr := (hrow.keep k3 pen2).keep k5 pen3
      refine q _ u R x rr ?_ ((pen5.mono (by omega)).same (Same.up1 hu)) upd_same ?_ ?_ (by omega) (by omega) (fun y hy => ⟨(hro y hy).2.1, by rw [rl]; exact (hro y hy).2.2⟩)
      · intro x o nx e
        rw [upd_ne (ne_of_none (k6 x o nx e) hu)]
        exact k6 x o nx e
      · have e1 := k5 _ _ nRp (k3 _ _ nRp eR)
        rw [upd_ne (ne_of_none e1 hu)]; exact e1
      · intro y hy
        rw [upd_ne (ne_of_none (pen2' y hy) hu)]
        exact pen2' y hy
    refine ⟨_, rfl, _, rfl, Nat.zero_le _, fun e0 he0 => ?_⟩
    have s4 : Same H3 (upd H3 e0 (.lst [])) := Same.up1 he0
    have ee0 : (upd H3 e0 (.lst [])) e0 = some (.lst []) := upd_same
    generalize upd H3 e0 _ = H4 at *
    refine ⟨_, _, .lst (SqL.of (s4 _ _ eD)) (dpInts es), .lst (SqL.of ee0) .nil, shapedInts es, rfl, _, rfl, ite2 (fun _ => ifT rfl ⟨_, rfl, Nat.le_of_ble_eq_true rfl, fin H4 _ (KeepP.of s4) ((pen3.mono (by omega)).same s4)⟩) (fun _ => ⟨_, rfl, p, c, 9, n + 200, rfl, by decide, by decide, (pen3.mono (by omega)).same s4, by omega, fun r H5 hr pen5 k5 => ⟨rfl, _, rfl, ite2 (fun _ => ⟨_, rfl, Nat.le_of_ble_eq_true rfl, fin H5 _ ((KeepP.of s4).trans k5) (pen5.mono (by omega))⟩) (fun _ => ⟨_, rfl, _, rfl, p, c, m, n + 200 + 1, rfl, by omega, by omega, pen5, by omega, fun k H6 hk pen6 k6 => ⟨Nat.le_of_ble_eq_true rfl, fun e2 he2 => ⟨Nat.le_of_ble_eq_true rfl, fin _ _ ?_ ((pen6.mono (by omega)).same (Same.up1 he2))⟩⟩⟩)⟩⟩)⟩
    exact ((KeepP.of s4).trans k5).trans (k6.trans (KeepP.of (Same.up1 he2)))
end K5


namespace K5
open PySem PySem.Spec PyProof.Rows L2
section
variable {P : Program} {w : World} {K : PySem.W.Frag} {mg : Str → Option Value} {base : Heap}
abbrev psM : List Str := ["self", "letters", "rows", "answers", "new", "found"]
abbrev FunM (K : PySem.W.Frag) (fd : FuncData) : Prop := FunD K "__init__" "Machine.__init__" (defArgs s_Machineu_initu) (defBody s_Machineu_initu) (defScope s_Machineu_initu) [] [("new", .int 0), ("found", .int 0)] (He.ma K (He.ga K "Machine") "__init__") fd
theorem kb0 {fd : FuncData} (F : FunM K fd) : ∃ ds, Vals [V.int 0, V.int 0] ds ∧ Binds K fd psM ds :=
  F.binds0 (ps := psM) 4 (by simp) rfl (fun D doc pm an cdv ct us ks h1 h2 => match us, ks, h1, h2 with | [_, _, _, _], [_, _], _, _ => ⟨_, _, _, _, _, _, rfl, rfl, _, _, _, _, _, _, rfl, rfl, rfl⟩)
theorem kb1 {fd : FuncData} (F : FunM K fd) : ∃ mv : List Value, KBn K fd psM 4 ["found"] (fun us ws => us ++ mv ++ ws) (fun vs zs => vs ++ [V.int 0] ++ zs) :=
  F.kbinds0 (ps := psM) 4 ["found"] [("new", .int 0)] (fun us mv ws => us ++ mv ++ ws) (by simp) (fun q hq => by rw [List.mem_singleton.mp hq]; exact List.mem_cons_self ..) (fun r1 r2 r3 => (r1.append r2).append r3)
    (fun D doc pm an cdv ct us mv ws h1 h2 h3 => match us, mv, ws, h1, h2, h3 with | [_, _, _, _], [_], [_], _, _, _ => ⟨_, _, _, _, _, _, rfl, rfl, rfl⟩)
def swp {α : Type} (us : List α) : List α → List α
  | [a, b] => us ++ [b, a]
  | _ => us
theorem swp_rel {vs zs : List V} {us ws : List Value} (r1 : Vals vs us) (r3 : Vals zs ws) : Vals (swp vs zs) (swp us ws) := by
  match zs, ws, r3 with
  | [], _, .nil => exact r1
  | [a], _, .cons x .nil => exact r1
  | [a, b], _, .cons x (.cons y .nil) => exact r1.append (.cons y (.cons x .nil))
  | a :: b :: c :: d, _, .cons x (.cons y (.cons z q)) => exact r1
theorem kb2 {fd : FuncData} (F : FunM K fd) : ∃ mv : List Value, KBn K fd psM 4 ["found", "new"] (fun us ws => swp us ws) (fun vs zs => swp vs zs) :=
  F.kbinds0 (ps := psM) 4 ["found", "new"] [] (fun us mv ws => swp us ws) (by simp) (fun q hq => by cases hq) (fun r1 r2 r3 => swp_rel r1 r3)
    (fun D doc pm an cdv ct us mv ws h1 h2 h3 => match us, mv, ws, h1, h2, h3 with | [_, _, _, _], [], [_, _], _, _, _ => rfl)
theorem kb3 {fd : FuncData} (F : FunM K fd) : ∃ mv : List Value, KBn K fd psM 4 ["new", "found"] (fun us ws => us ++ ws) (fun vs zs => vs ++ zs) :=
  F.kbinds0 (ps := psM) 4 ["new", "found"] [] (fun us mv ws => us ++ ws) (by simp) (fun q hq => by cases hq) (fun r1 r2 r3 => r1.append r3)
    (fun D doc pm an cdv ct us mv ws h1 h2 h3 => match us, mv, ws, h1, h2, h3 with | [_, _, _, _], [], [_, _], _, _, _ => rfl)
end
def sp_law_program (K : PySem.W.Frag) : Sp := fun vs H Q _ => ∃ (p c L r a s : Addr) (n : Nat) (ws : List Str) (rr : List (Addr × List Nat)) (ans : List Str) (n1 f1 : Nat), vs = [.ref p, .ref L, .ref r, .ref a, .ref s] ∧ Pen H p c n ∧ n + 10 < 2 ^ 40 ∧ LetO K H L ws ∧ H r = some (.lst (refR rr)) ∧ RowL H rr ∧ H a = some (.lst (ans.map V.str)) ∧
  H s = some (.lst [.int (n1 : Nat), .int (f1 : Nat)]) ∧ GoodM ws.length (rr.map (·.2)) ans ∧ n1 < rr.length ∧ f1 < rr.length ∧ ∀ (H' : Hp) (m : Addr), KeepP p H H' → Pen H' p c (n + 10) → MacO K H' m L (rr.map (·.2)) ans n1 f1 → Q (.ref m) H'
theorem LetO.keep {K : PySem.W.Frag} {H H' : Hp} {L p c : Addr} {n : Nat} {ws : List Str} (h : LetO K H L ws) (k : KeepP p H H') (pen : Pen H p c n) : LetO K H' L ws := by
  obtain ⟨_, _, ep, _⟩ := pen.at_
  obtain ⟨dL, tL, eL, eT, r⟩ := h
  exact ⟨dL, tL, k _ _ (ne_of eL ep (by intro z; cases z)) eL, k _ _ (ne_of eT ep (by intro z; cases z)) eT, r⟩
theorem G_law_program {P : Program} {w : World} {K : PySem.W.Frag} {mg : Str → Option Value} {base : Heap} (T : Tx K mg) : FnG P w K mg base 7 "_law_program" (sp_law_program K) :=
  fnG_of T.g_law_program T.d_law_program sc_law_program (fun vs H Q E h => by
    obtain ⟨p, c, L, r, a, s, n, ws, rr, ans, n1, f1, rfl, hp, hn, oL, hr0, hrow, ha, hs, hg, hn1, hf1, q⟩ := h
    rfl) (fun _ _ _ _ _ _ us hl => match us, hl with | [_, _, _, _, _], _ => rfl) fun cdv A outer s H vs Q E hr h => by
    obtain ⟨p, c, L, r, a, s, n, ws, rr, ans, n1, f1, rfl, hp, hn, oL, hr0, hrow, ha, hs, hg, hn1, hf1, q⟩ := h
    have hu := hu_of hr
    obtain ⟨fdM, FM, GM⟩ := G_Machineu_initu (P := P) (w := w) (base := base) T
    obtain ⟨ds0, dv0, B0⟩ := kb0 FM
    have FR0 := GM.raw B0 dv0
    obtain ⟨mv1, KB1⟩ := kb1 FM
    obtain ⟨mv2, KB2⟩ := kb2 FM
    refine ⟨_, (pss_cons (ps_if (PW.pt (pw_and (pt_cmpR (op_eqD hr.units) (pv 4) (pe_lst (pa_cons pe_int (pa_cons pe_int pa_nil))) (nomark _)) (pw_and1 (pt_cmpR op_eq (pe_callG (G_law_draw T) (hr.mono (by decide)) rfl passL (pa_cons (pv 0) (pa_cons pe_int pa_nil))) pe_int (nomark _))))) (pss_one (ps_ret (StX.pe_makeR T.mk_Machine FR0 (hr.mono (by decide)) rfl T.g_Machine passL (pa_cons (pv 1) (pa_cons (pv 2) (pa_cons (pv 3) pa_nil)))))) pss_nil)
      (pss_cons (ps_if (PW.pt (pw_and (pt_cmpR op_eq (pe_ix ix_list (pv 4) pe_int (fun _ _ => rfl)) pe_int (nomark _)) (pw_and1 (pt_cmpR op_eq (pe_callG (G_law_draw T) (hr.mono (by decide)) rfl passL (pa_cons (pv 0) (pa_cons pe_int pa_nil))) pe_int (nomark _))))) (pss_one (ps_ret (pe_makeK T.mk_Machine GM (hr.mono (by decide)) rfl T.g_Machine KB1 passL (pa_cons (pv 1) (pa_cons (pv 2) (pa_cons (pv 3) pa_nil))) (pk_cons (pe_ix ix_list (pv 4) pe_int (fun _ _ => rfl)) pk_nil)))) pss_nil)
      (pss_one (ps_ret (pe_makeK T.mk_Machine GM (hr.mono (by decide)) rfl T.g_Machine KB2 passL (pa_cons (pv 1) (pa_cons (pe_callTy call_tuple_of rfl T.n_tuple (show bootBuiltins "tuple" = some (.type "tuple") by decide +kernel) (pa_cons (pv 2) pa_nil)) (pa_cons (pe_callTy call_tuple_of rfl T.n_tuple (show bootBuiltins "tuple" = some (.type "tuple") by decide +kernel) (pa_cons (pv 3) pa_nil)) pa_nil))) (pk_cons (pe_ix ix_list (pv 4) pe_int (fun _ _ => rfl)) (pk_cons (pe_ix ix_list (pv 4) pe_int (fun _ _ => rfl)) pk_nil))))))), ?_⟩
    obtain ⟨_, _, ep, ec⟩ := hp.at_
    have nrp : r ≠ p := ne_of hr0 ep (by intro z; cases z)
    have nap : a ≠ p := ne_of ha ep (by intro z; cases z)
    have nsp : s ≠ p := ne_of hs ep (by intro z; cases z)
    have fin : ∀ (H5 : Hp) (r' a' : Addr), KeepP p H H5 → Pen H5 p c (n + 10) → RA H5 r' a' (refR rr) (ans.map V.str) → ∀ x dx, H5 x = none → H5 dx = none → dx ≠ x → sp_Machineu_initu K [.ref x, .ref L, .ref r', .ref a', .int (n1 : Nat), .int (f1 : Nat)] (upd (upd H5 dx (.own x)) x (.ins (CM K) dx [])) (fun v H3 => v = .non ∧ Q (.ref x) H3) E0 := by
      intro H5 r' a' k5 pen5 hra x dx hx hdx ndx
      have s6 : Same H5 (upd (upd H5 dx (.own x)) x (.ins (CM K) dx [])) := Same.up2 (Same.up1 hdx) hx
      have hx6 : (upd (upd H5 dx (.own x)) x (.ins (CM K) dx [])) x = some (.ins (CM K) dx []) := upd_same
      generalize upd (upd H5 dx (.own x)) x _ = H6 at *
      refine ⟨x, L, r', a', dx, ws, rr, ans, n1, f1, rfl, hx6, (oL.keep k5 hp).same s6, hra.same s6, fun y hy => s6 _ _ (hrow.keep k5 hp y hy), hg, hn1, hf1, fun H7 k7 m7 => ⟨rfl, q H7 x (fun y o ny e => ?_) ?_ m7⟩⟩
      · have e5 := k5 y o ny e
        exact k7 _ _ (ne_of_none e5 hx) (s6 _ _ e5)
      · obtain ⟨cells, b, z, f1', f2', f3'⟩ := pen5
        exact ⟨cells, b, z, k7 _ _ (ne_of_none f1' hx) (s6 _ _ f1'), k7 _ _ (ne_of_none f2' hx) (s6 _ _ f2'), f3'⟩
    have two : ∀ (H5 : Hp), KeepP p H H5 → Pen H5 p c (n + 5) → ∀ u, H5 u = none → ∀ v, (upd H5 u (.tup (refR rr))) v = none → KeepP p H (upd (upd H5 u (.tup (refR rr))) v (.tup (ans.map V.str))) ∧ Pen (upd (upd H5 u (.tup (refR rr))) v (.tup (ans.map V.str))) p c (n + 10) ∧ RA (upd (upd H5 u (.tup (refR rr))) v (.tup (ans.map V.str))) u v (refR rr) (ans.map V.str) := by
      intro H5 k5 pen5 u hu v hv
      have s6 : Same H5 (upd (upd H5 u (.tup (refR rr))) v (.tup (ans.map V.str))) := (Same.up1 hu).trans (Same.up1 hv)
      refine ⟨k5.trans (KeepP.of s6), (pen5.mono (by omega)).same s6, .inr ⟨?_, upd_same⟩⟩
      rw [upd_ne (fun z => by rw [← z, upd_same] at hv; cases hv), upd_same]
    have last : ∀ (H5 : Hp), KeepP p H H5 → Pen H5 p c (n + 5) → (tMakeK (CM K) 3 2 (sp_Machineu_initu K) swp E0 (tCons (tVar 1) (tCons (tCB (fun xs H Q => ∃ p ys, xs = [.ref p] ∧ ((SqL K H p ys ∧ ∀ l, H l = none → Q (.ref l) (upd H l (.tup ys))) ∨ (SqT K H p ys ∧ Q (.ref p) H))) (tCons (tVar 2) tNil)) (tCons (tCB (fun xs H Q => ∃ p ys, xs = [.ref p] ∧ ((SqL K H p ys ∧ ∀ l, H l = none → Q (.ref l) (upd H l (.tup ys))) ∨ (SqT K H p ys ∧ Q (.ref p) H))) (tCons (tVar 3) tNil)) tNil)))
        (tCons (tOp (rIxL K) (tVar 4) (tC (.int 1))) (tCons (tOp (rIxL K) (tVar 4) (tC (.int 0))) tNil))) [some (.ref p), some (.ref L), some (.ref r), some (.ref a), some (.ref s)] H5 Q := by
      intro H5 k5 pen5
      refine ⟨_, rfl, _, rfl, _, _, rfl, .inl ⟨SqL.of (k5 _ _ nrp hr0), fun u hu => ⟨_, rfl, _, _, rfl, .inl ⟨SqL.of (by rw [upd_ne (ne_of_none (k5 _ _ nap ha) hu)]; exact k5 _ _ nap ha), fun v hv => ?_⟩⟩⟩⟩
      obtain ⟨k6, pen6, ra6⟩ := two H5 k5 pen5 u hu v hv
      generalize upd (upd H5 u (.tup (refR rr))) v _ = H6 at *
      exact ⟨_, rfl, _, _, _, _, rfl, rfl, SqL.of (k6 _ _ nsp hs), ix1 rfl, _, rfl, _, _, _, _, rfl, rfl, SqL.of (k6 _ _ nsp hs), ix0 rfl, rfl, rfl, fin H6 u v k6 pen6 ra6⟩
    have mid : ∀ (H5 : Hp), KeepP p H H5 → Pen H5 p c (n + 3) → (tSeq (tIfS (tAnd (tTest (tOp rEq (tOp (rIxL K) (tVar 4) (tC (.int 0))) (tC (.int 0)))) (tTest (tOp rEq (tCallG sp_law_draw E0 (tCons (tVar 0) (tCons (tC (.int 2)) tNil))) (tC (.int 0))))) (tRet (tMakeK (CM K) 3 1 (sp_Machineu_initu K) (fun vs zs => vs ++ [V.int 0] ++ zs) E0 (tCons (tVar 1) (tCons (tVar 2) (tCons (tVar 3) tNil))) (tCons (tOp (rIxL K) (tVar 4) (tC (.int 1))) tNil))) tNext)
        (tRet (tMakeK (CM K) 3 2 (sp_Machineu_initu K) swp E0 (tCons (tVar 1) (tCons (tCB (fun xs H Q => ∃ p ys, xs = [.ref p] ∧ ((SqL K H p ys ∧ ∀ l, H l = none → Q (.ref l) (upd H l (.tup ys))) ∨ (SqT K H p ys ∧ Q (.ref p) H))) (tCons (tVar 2) tNil)) (tCons (tCB (fun xs H Q => ∃ p ys, xs = [.ref p] ∧ ((SqL K H p ys ∧ ∀ l, H l = none → Q (.ref l) (upd H l (.tup ys))) ∨ (SqT K H p ys ∧ Q (.ref p) H))) (tCons (tVar 3) tNil)) tNil)))
        (tCons (tOp (rIxL K) (tVar 4) (tC (.int 1))) (tCons (tOp (rIxL K) (tVar 4) (tC (.int 0))) tNil))))) { nx := fun _ H' => Q .non H', rt := Q } [some (.ref p), some (.ref L), some (.ref r), some (.ref a), some (.ref s)] H5 := by
      intro H5 k5 pen5
      refine ⟨_, rfl, _, _, _, _, rfl, rfl, SqL.of (k5 _ _ nsp hs), ix0 rfl, rfl, _, rfl, ?_⟩
      by_cases h0 : n1 = 0
      · subst h0
        refine ifT (dT rfl) ⟨_, rfl, p, c, 2, n + 3, rfl, by decide, by decide, pen5, by omega, fun k H6 hk pen6 k6 => ⟨rfl, _, rfl, ite2 (fun _ => ?_) (fun _ => last H6 (k5.trans k6) (pen6.mono (by omega)))⟩⟩
        have k7 := k5.trans k6
        exact ⟨_, rfl, _, rfl, _, rfl, _, rfl, _, _, _, _, rfl, rfl, SqL.of (k7 _ _ nsp hs), ix1 rfl, rfl, rfl, fin H6 r a k7 (pen6.mono (by omega)) (.inl ⟨k7 _ _ nrp hr0, k7 _ _ nap ha⟩)⟩
      · exact ifF (dF (fun z => h0 (by have := V.int.inj z; omega))) (ifF rfl (last H5 k5 (pen5.mono (by omega))))
    refine ⟨_, rfl, Nat.le_of_ble_eq_true rfl, fun u hu => ?_⟩
    have s4 : Same H (upd H u (.lst [.int 0, .int 0])) := Same.up1 hu
    have eu : (upd H u (.lst [.int 0, .int 0])) u = some (.lst [.int 0, .int 0]) := upd_same
    generalize upd H u _ = H4 at *
    have d1 : DpAll K H4 [V.int (n1 : Nat), V.int (f1 : Nat)] [PyData.int (n1 : Nat), PyData.int (f1 : Nat)] := .cons (.int _) (.cons (.int _) .nil)
    have d2 : DpAll K H4 [V.int 0, V.int 0] [PyData.int 0, PyData.int 0] := .cons (.int _) (.cons (.int _) .nil)
    refine ⟨_, _, .lst (SqL.of (s4 _ _ hs)) d1, .lst (SqL.of eu) d2, shapedInts [((n1 : Nat) : Int), ((f1 : Nat) : Int)], rfl, _, rfl, ?_⟩
    show if PyData.eqvAll ([((n1 : Nat) : Int), ((f1 : Nat) : Int)].map PyData.int) ([(0 : Int), 0].map PyData.int) = true then _ else _
    rw [eqvInts]
    by_cases h00 : n1 = 0 ∧ f1 = 0
    · obtain ⟨h1, h2⟩ := h00
      subst h1 h2
      refine ifT (dT rfl) ⟨_, rfl, p, c, 2, n, rfl, by decide, by decide, hp.same s4, by omega, fun k H6 hk pen6 k6 => ⟨rfl, _, rfl, ite2 (fun _ => ?_) (fun _ => mid H6 ((KeepP.of s4).trans k6) (pen6.mono (by omega)))⟩⟩
      have k7 := (KeepP.of (p := p) s4).trans k6
      exact ⟨_, rfl, _, rfl, _, rfl, fin H6 r a k7 (pen6.mono (by omega)) (.inl ⟨k7 _ _ nrp hr0, k7 _ _ nap ha⟩)⟩
    · refine ifF (dF (fun z => h00 ?_)) (ifF rfl (mid H4 (KeepP.of s4) ((hp.same s4).mono (by omega))))
      have z1 := (List.cons.inj z).1
      have z2 := (List.cons.inj (List.cons.inj z).2).1
      exact ⟨by omega, by omega⟩
end K5


namespace K5
open PySem PySem.Spec PyProof.Rows L2
/-- a machine as the law tells it, in a tuple of three lists -/
def TriO (H : Hp) (t : Addr) (rows : List (List Nat)) (ans : List Str) (n1 f1 : Nat) : Prop := ∃ (r a s : Addr) (rr : List (Addr × List Nat)), H t = some (.tup [.ref r, .ref a, .ref s]) ∧ H r = some (.lst (refR rr)) ∧ RowL H rr ∧ rr.map (·.2) = rows ∧ H a = some (.lst (ans.map V.str)) ∧ H s = some (.lst [.int (n1 : Nat), .int (f1 : Nat)])
/-- .. in bounds -/
def TriG (nl : Nat) (rows : List (List Nat)) (ans : List Str) (n1 f1 : Nat) : Prop := GoodM nl rows ans ∧ rows.length ≤ 6 ∧ n1 < rows.length ∧ f1 < rows.length
def PoolO (H : Hp) (l : Addr) (pl : List Str) : Prop := H l = some (.lst (pl.map V.str)) ∧ 1 ≤ pl.length ∧ pl.length ≤ 10 ∧ ∀ z ∈ pl, WordL z.cps.toList
def sp_law_answering (K : PySem.W.Frag) : Sp := fun vs H Q _ => ∃ (p c t l : Addr) (n nl : Nat) (xs : List V) (pl : List Str), vs = [.ref p, .ref t, .int 6, .ref l] ∧ Pen H p c n ∧ n + 1500 < 2 ^ 40 ∧ H t = some (.tup xs) ∧ xs.length = nl ∧ nl ≤ 4 ∧ PoolO H l pl ∧
  ∀ (H' : Hp) (u : Addr) rows ans n1 f1, KeepP p H H' → Pen H' p c (n + 1500) → TriO H' u rows ans n1 f1 → TriG nl rows ans n1 f1 → Q (.ref u) H'
theorem G_law_answering {P : Program} {w : World} {K : PySem.W.Frag} {mg : Str → Option Value} {base : Heap} (T : Tx K mg) : FnG P w K mg base 4 "_law_answering" (sp_law_answering K) :=
  fnG_of T.g_law_answering T.d_law_answering sc_law_answering (fun vs H Q E h => by
    obtain ⟨p, c, t, l, n, nl, xs, pl, rfl, hp, hn, ht, hxl, hnl, ⟨hpl, hp1, hp2, hpw⟩, q⟩ := h
    rfl) (fun _ _ _ _ _ _ us hl => match us, hl with | [_, _, _, _], _ => rfl) fun cdv A outer s H vs Q E hr h => by
    obtain ⟨p, c, t, l, n, nl, xs, pl, rfl, hp, hn, ht, hxl, hnl, ⟨hpl, hp1, hp2, hpw⟩, q⟩ := h
    have hu := hu_of hr
    refine ⟨_, (pss_cons (ps_set (i := 4) sc_law_answering.nd rfl (by first | exact Or.inl rfl | exact Or.inr rfl) (pe_ix ix_tup (pe_callG (G_law_machine T) (hr.mono (by decide)) rfl passL (pa_cons (pv 0) (pa_cons (pv 1) (pa_cons (pv 2) (pa_cons pe_bl pa_nil))))) pe_int (fun _ _ => rfl)))
      (pss_cons (ps_setLc (i := 5) (own := [("_law_row", 7)]) (g := gName 7) rfl sc_law_answering.nd rfl rfl (sw_true rfl rfl rfl (by decide +kernel)) (pi_list (pv 4)) (blkOk_by rfl) (fun _ _ _ _ _ => (pg_name (i := 7) sc_law_answering.nd rfl (by first | exact Or.inl rfl | exact Or.inr rfl))) (fun _ _ _ _ _ => pts_nil) (fun _ _ _ _ _ => (pe_callG (G_law_pick T) (hr.mono (by decide)) rfl passL (pa_cons (pv 0) (pa_cons (pv 3) pa_nil)))))
      (pss_cons (ps_set (i := 6) sc_law_answering.nd rfl (by first | exact Or.inl rfl | exact Or.inr rfl) (pe_lst (pa_cons (pe_callG (G_law_draw T) (hr.mono (by decide)) rfl passL (pa_cons (pv 0) (pa_cons (pe_callB call_len_seq rfl T.n_len (show bootBuiltins "len" = some (.builtin "len") by decide +kernel) (pa_cons (pv 4) pa_nil)) pa_nil))) (pa_cons (pe_callG (G_law_draw T) (hr.mono (by decide)) rfl passL (pa_cons (pv 0) (pa_cons (pe_callB call_len_seq rfl T.n_len (show bootBuiltins "len" = some (.builtin "len") by decide +kernel) (pa_cons (pv 4) pa_nil)) pa_nil))) pa_nil))))
      (pss_cons (ps_if (pt_cmpR op_eq (pe_callG (G_law_draw T) (hr.mono (by decide)) rfl passL (pa_cons (pv 0) (pa_cons pe_int pa_nil))) pe_int (nomark _)) (pss_one (ps_set (i := 6) sc_law_answering.nd rfl (by first | exact Or.inl rfl | exact Or.inr rfl) (pe_lst (pa_cons (pe_ix ix_list (pv 6) pe_int (fun _ _ => rfl)) (pa_cons (pe_ix ix_list (pv 6) pe_int (fun _ _ => rfl)) pa_nil))))) pss_nil)
      (pss_one (ps_ret (pe_tup (pa_cons (pv 4) (pa_cons (pv 5) (pa_cons (pv 6) pa_nil)))))))))), ?_⟩
    obtain ⟨_, _, ep, ec⟩ := hp.at_
    have nlp : l ≠ p := ne_of hpl ep (by intro z; cases z)
    refine ⟨_, rfl, _, rfl, _, rfl, p, c, t, n, nl, xs, rfl, hp, by omega, ht, hxl, hnl, fun H1 u r x rr k1 pen1 eu er hrow r1 r6 ro => ⟨_, _, _, _, rfl, rfl, SqT.of eu, ix0 rfl, ?_⟩⟩
    have hrl : (refR rr).length = rr.length := List.length_map _
    obtain ⟨_, _, ep1, ec1⟩ := pen1.at_
    have nrp : r ≠ p := ne_of er ep1 (by intro z; cases z)
    refine ⟨_, rfl, r, rfl, ⟨_, SqL.of er⟩, fun D hD => lc_it (walk_list (xs := refR rr)) (fun i H' => KeepP p H1 H' ∧ Pen H' p c (n + 1000 + i) ∧ ∃ as : List Str, H' D = some (.lst (as.map V.str)) ∧ as.length = i ∧ ∀ z ∈ as, WordL z.cps.toList) ⟨KeepP.of (Same.up1 hD), pen1.same (Same.up1 hD), [], upd_same, rfl, fun x hx => by cases hx⟩ (fun i H' _ h => SqL.of (h.1 _ _ nrp er)) ?_ ?_⟩
    · rintro i y H3 H4 hi ⟨k3, pen3, as, eD, al, aw⟩ ⟨rfl, hy⟩
      have hi6 : i < 7 := by have : i < rr.length := by rw [← hrl]; exact hi
                             omega
      have nDp : D ≠ p := Ne.symm (ne_of_none ep1 hD)
      have nDc : D ≠ c := Ne.symm (ne_of_none ec1 hD)
      refine ⟨rfl, _, rfl, _, rfl, p, c, .ref l, n + 1000 + i, rfl, pen3, by omega, .inl ⟨l, _, rfl, k3 _ _ nlp (k1 _ _ nlp hpl), by rw [List.length_map]; exact hp1, by rw [List.length_map]; omega, fun v H5 hv pen5 k5 => ?_⟩⟩
      obtain ⟨z, hz, rfl⟩ := List.mem_map.mp hv
      refine ⟨as.map V.str, k5 _ _ nDp eD, ?_, ?_, pen5.put nDp nDc, as ++ [z], ?_, ?_, ?_⟩
      · rw [List.length_map, al]
        exact Nat.lt_of_lt_of_le hi6 (Nat.le_of_ble_eq_true rfl)
      · intro x o nx e
        rw [upd_ne (ne_of_none e hD)]
        exact k5 _ _ nx (k3 _ _ nx e)
      · rw [upd_same, List.map_append]; rfl
      · rw [List.length_append, al]; rfl
      · intro y hy
        rcases List.mem_append.mp hy with hy | hy
        · exact aw y hy
        · rw [List.mem_singleton.mp hy]; exact hpw z hz
    rintro H3 ⟨k3, pen3, as, eD, al, aw⟩
    have al : as.length = rr.length := by rw [al, hrl]
    have nDp : D ≠ p := Ne.symm (ne_of_none ep1 hD)
    have pen3 : Pen H3 p c (n + 1010) := pen3.mono (by rw [hrl]; omega)
    have k13 := k1.trans k3
    have er3 := k3 _ _ nrp er
    have hrow3 := hrow.keep k3 pen1
    have fin : ∀ (H5 : Hp) (S : Addr) (n1 f1 : Nat), KeepP p H3 H5 → Pen H5 p c (n + 1400) → H5 S = some (.lst [.int (n1 : Nat), .int (f1 : Nat)]) → n1 < rr.length → f1 < rr.length → ∀ u, H5 u = none → Q (.ref u) (upd H5 u (.tup [.ref r, .ref D, .ref S])) := by
      intro H5 S n1 f1 k5 pen5 eS h1 h2 u hu
      have s6 : Same H5 (upd H5 u (.tup [.ref r, .ref D, .ref S])) := Same.up1 hu
      refine q _ u (rr.map (·.2)) as n1 f1 ((k13.trans k5).trans (KeepP.of s6)) ((pen5.mono (by omega)).same s6) ⟨r, D, S, rr, upd_same, s6 _ _ (k5 _ _ nrp er3), fun y hy => s6 _ _ (hrow3.keep k5 pen3 y hy), rfl, s6 _ _ (k5 _ _ nDp eD), s6 _ _ eS⟩ ?_
      have hl : (rr.map (·.2)).length = rr.length := List.length_map _
      refine ⟨⟨by rw [hl]; exact r1, by rw [hl]; omega, fun y hy => ?_, by rw [hl]; exact al, aw⟩, by rw [hl]; exact r6, by rw [hl]; exact h1, by rw [hl]; exact h2⟩
      obtain ⟨z, hz, rfl⟩ := List.mem_map.mp hy
      rw [hl]
      exact ro z hz
    refine ⟨_, rfl, _, rfl, _, _, rfl, .inl (SqL.of er3), p, c, (refR rr).length, n + 1010, rfl, by rw [hrl]; exact r1, by rw [hrl]; omega, pen3, by omega, fun n1 H5 h1 pen5 k5 => ?_⟩
    refine ⟨_, rfl, _, rfl, _, _, rfl, .inl (SqL.of (k5 _ _ nrp er3)), p, c, (refR rr).length, n + 1010 + 1, rfl, by rw [hrl]; exact r1, by rw [hrl]; omega, pen5, by omega, fun f1 H6 h2 pen6 k6 => ⟨Nat.le_of_ble_eq_true rfl, fun S hS => ?_⟩⟩
    rw [hrl] at h1 h2
    have s7 : Same H6 (upd H6 S (.lst [.int (n1 : Nat), .int (f1 : Nat)])) := Same.up1 hS
    have eS : (upd H6 S (.lst [.int (n1 : Nat), .int (f1 : Nat)])) S = some (.lst [.int (n1 : Nat), .int (f1 : Nat)]) := upd_same
    generalize upd H6 S _ = H7 at *
    have k7 := (k5.trans k6).trans (KeepP.of s7)
    refine ⟨_, rfl, p, c, 3, n + 1200, rfl, by decide, by decide, (pen6.mono (by omega)).same s7, by omega, fun k H8 hk pen8 k8 => ⟨rfl, _, rfl, ?_⟩⟩
    obtain ⟨_, _, ep7, _⟩ := (pen6.same s7).at_
    have nSp : S ≠ p := ne_of eS ep7 (by intro z; cases z)
    have eS8 := k8 _ _ nSp eS
    refine ite2 (fun _ => ?_) (fun _ => ⟨_, rfl, _, rfl, _, rfl, Nat.le_of_ble_eq_true rfl, fin H8 S n1 f1 (k7.trans k8) (pen8.mono (by omega)) eS8 h1 h2⟩)
    refine ⟨_, rfl, _, _, _, _, rfl, rfl, SqL.of eS8, ix0 rfl, _, rfl, _, _, _, _, rfl, rfl, SqL.of eS8, ix0 rfl, Nat.le_of_ble_eq_true rfl, fun S2 hS2 => ⟨_, rfl, _, rfl, _, rfl, Nat.le_of_ble_eq_true rfl, ?_⟩⟩
    exact fin _ S2 n1 n1 ((k7.trans k8).trans (KeepP.of (Same.up1 hS2))) ((pen8.mono (by omega)).same (Same.up1 hS2)) upd_same h1 h1
theorem ixNn {n k : Nat} (h : k < n) : ixN n ((k : Nat) : Int) = some k := by
  unfold ixN
  simp
  omega
theorem GoodM.row {nl : Nat} {rows : List (List Nat)} {ans : List Str} (g : GoodM nl rows ans) {i : Nat} (hi : i < rows.length) : (rows.getD i []).length = nl ∧ ∀ k ∈ rows.getD i [], k < rows.length := by
  have hr : rows[i]? = some rows[i] := List.getElem?_eq_getElem hi
  have e1 : rows.getD i [] = rows[i] := by rw [List.getD_eq_getElem?_getD, hr]; rfl
  rw [e1]
  exact g.2.2.1 _ (List.mem_of_getElem? hr)
def sp_law_changed : Sp := fun vs H Q _ => ∃ (p c r a s l : Addr) (n nl : Nat) (rr : List (Addr × List Nat)) (ans pl : List Str) (n1 f1 : Nat), vs = [.ref p, .ref r, .ref a, .ref s, .ref l] ∧ Pen H p c n ∧ n + 100 < 2 ^ 40 ∧ H r = some (.lst (refR rr)) ∧ RowL H rr ∧ H a = some (.lst (ans.map V.str)) ∧ H s = some (.lst [.int (n1 : Nat), .int (f1 : Nat)]) ∧
  TriG nl (rr.map (·.2)) ans n1 f1 ∧ 1 ≤ nl ∧ nl ≤ 4 ∧ PoolO H l pl ∧ ∀ (H' : Hp) (u : Addr) rows' ans' n' f', KeepP p H H' → Pen H' p c (n + 100) → TriO H' u rows' ans' n' f' → TriG nl rows' ans' n' f' → Q (.ref u) H'
theorem G_law_changed {P : Program} {w : World} {K : PySem.W.Frag} {mg : Str → Option Value} {base : Heap} (T : Tx K mg) : FnG P w K mg base 3 "_law_changed" (sp_law_changed) :=
  fnG_of T.g_law_changed T.d_law_changed sc_law_changed (fun vs H Q E h => by
    obtain ⟨p, c, r, a, s, l, n, nl, rr, ans, pl, n1, f1, rfl, hp, hn, hr0, hrow, ha, hs, ⟨hg, h6, hn1, hf1⟩, hnl1, hnl4, ⟨hpl, hp1, hp2, hpw⟩, q⟩ := h
    rfl) (fun _ _ _ _ _ _ us hl => match us, hl with | [_, _, _, _, _], _ => rfl) fun cdv A outer s H vs Q E hr h => by
    obtain ⟨p, c, r, a, s, l, n, nl, rr, ans, pl, n1, f1, rfl, hp, hn, hr0, hrow, ha, hs, ⟨hg, h6, hn1, hf1⟩, hnl1, hnl4, ⟨hpl, hp1, hp2, hpw⟩, q⟩ := h
    have hu := hu_of hr
    refine ⟨_, (pss_cons (ps_par3 (i := 1) (j := 2) (l := 3) rfl sc_law_changed.nd rfl rfl rfl (by decide) (by decide) (by decide) rfl rfl rfl (pa_cons (pe_lc (own := [("_law_row", 7)]) (g := gName 7) rfl sc_law_changed.nd (pi_list (pv 1)) (blkOk_by rfl) (fun _ _ _ _ _ => (pg_name (i := 7) sc_law_changed.nd rfl (by first | exact Or.inl rfl | exact Or.inr rfl))) (fun _ _ _ _ _ => pts_nil) (fun _ _ _ _ _ => (pe_callTy (call_list_ofK (K := K) rfl) rfl T.n_list (show bootBuiltins "list" = some (.type "list") by decide +kernel) (pa_cons (pv 7) pa_nil)))) (pa_cons (pe_callTy call_list_of rfl T.n_list (show bootBuiltins "list" = some (.type "list") by decide +kernel) (pa_cons (pv 2) pa_nil)) (pa_cons (pe_callTy call_list_of rfl T.n_list (show bootBuiltins "list" = some (.type "list") by decide +kernel) (pa_cons (pv 3) pa_nil)) pa_nil))) rfl)
      (pss_cons (ps_par (i := 5) (j := 6) rfl sc_law_changed.nd rfl rfl (by decide) rfl rfl (pa_cons (pe_callG (G_law_draw T) (hr.mono (by decide)) rfl passL (pa_cons (pv 0) (pa_cons pe_int pa_nil))) (pa_cons (pe_callG (G_law_draw T) (hr.mono (by decide)) rfl passL (pa_cons (pv 0) (pa_cons (pe_callB call_len_seq rfl T.n_len (show bootBuiltins "len" = some (.builtin "len") by decide +kernel) (pa_cons (pv 1) pa_nil)) pa_nil))) pa_nil)) rfl)
      (pss_cons (ps_if (pt_cmpR op_eq (pv 5) pe_int (nomark _)) (pss_one (ps_asg (pe_callG (G_law_pick T) (hr.mono (by decide)) rfl passL (pa_cons (pv 0) (pa_cons (pv 4) pa_nil))) (pg_sub (pv 2) (pv 6) set_list))) (pss_one (ps_if (pt_cmpR op_eq (pv 5) pe_int (nomark _)) (pss_one (ps_asg (pe_callG (G_law_draw T) (hr.mono (by decide)) rfl passL (pa_cons (pv 0) (pa_cons (pe_callB call_len_seq rfl T.n_len (show bootBuiltins "len" = some (.builtin "len") by decide +kernel) (pa_cons (pv 1) pa_nil)) pa_nil))) (pg_sub (pe_ix ix_list (pv 1) (pv 6) (fun _ _ => rfl)) (pe_callG (G_law_draw T) (hr.mono (by decide)) rfl passL (pa_cons (pv 0) (pa_cons (pe_callB call_len_seq rfl T.n_len (show bootBuiltins "len" = some (.builtin "len") by decide +kernel) (pa_cons (pe_ix ix_list (pv 1) pe_int (fun _ _ => rfl)) pa_nil)) pa_nil))) set_list))) (pss_one (ps_asg (pv 6) (pg_sub (pv 3) (pe_callG (G_law_draw T) (hr.mono (by decide)) rfl passL (pa_cons (pv 0) (pa_cons pe_int pa_nil))) set_list))))))
      (pss_one (ps_ret (pe_tup (pa_cons (pv 1) (pa_cons (pv 2) (pa_cons (pv 3) pa_nil))))))))), ?_⟩
    obtain ⟨_, _, ep, ec⟩ := hp.at_
    have hrl : (refR rr).length = rr.length := List.length_map _
    have hml : (rr.map (·.2)).length = rr.length := List.length_map _
    rw [hml] at h6 hn1 hf1
    refine ⟨_, rfl, r, rfl, ⟨_, SqL.of hr0⟩, fun D hD => lc_it (walk_list (xs := refR rr)) (fun i H' => Same H H' ∧ ∃ rr2 : List (Addr × List Nat), H' D = some (.lst (refR rr2)) ∧ RowL H' rr2 ∧ rr2.map (·.2) = (rr.take i).map (·.2) ∧ (∀ y ∈ rr2, y.1 ≠ D ∧ H y.1 = none) ∧ (rr2.map (·.1)).Nodup) ⟨Same.up1 hD, [], upd_same, (fun x hx => by cases hx), rfl, (fun x hx => by cases hx), List.nodup_nil⟩ (fun i H' _ h => Same.seqL h.1 hr0) ?_ ?_⟩
    · rintro i x H1 H2 hi ⟨s1, rr2, eD, hr2, ej, hne, hnd⟩ ⟨rfl, hx⟩
      obtain ⟨y, hy, rfl⟩ := map_get hx
      have hmem := List.mem_of_getElem? hy
      have hi2 : i < rr.length := (List.getElem?_eq_some_iff.mp hy).1
      have hyi : rr[i] = y := (List.getElem?_eq_some_iff.mp hy).2
      have hl2 : rr2.length = i := by
        have := congrArg List.length ej
        rw [List.length_map, List.length_map, List.length_take] at this
        omega
      refine ⟨rfl, _, rfl, _, _, rfl, .inl (Same.seqL s1 (hrow y hmem)), fun u hu => ⟨refR rr2, ?_, ?_, Same.up2 (Same.up2 s1 (Same.free s1 hu)) hD, rr2 ++ [(u, y.2)], ?_, ?_, ?_, ?_, ?_⟩⟩
      · rw [upd_ne (ne_of_none eD hu)]; exact eD
      · unfold refR
        rw [List.length_map, hl2]
        exact Nat.lt_of_lt_of_le (show i < 7 by omega) (Nat.le_of_ble_eq_true rfl)
      · rw [upd_same]
        unfold refR
        rw [List.map_append]
        rfl
      · intro z hz
        rcases List.mem_append.mp hz with hz | hz
        · rw [upd_ne (hne z hz).1, upd_ne (ne_of_none (hr2 z hz) hu)]
          exact hr2 z hz
        · rw [List.mem_singleton.mp hz, upd_ne (Ne.symm (ne_of_none eD hu)), upd_same]
      · rw [List.map_append, ej, List.take_succ_eq_append_getElem hi2, List.map_append, hyi]
        rfl
      · intro z hz
        rcases List.mem_append.mp hz with hz | hz
        · exact hne z hz
        · rw [List.mem_singleton.mp hz]; exact ⟨Ne.symm (ne_of_none eD hu), Same.free s1 hu⟩
      · rw [List.map_append, List.nodup_append]
        refine ⟨hnd, by simp, fun a ha b hb e => ?_⟩
        rw [List.map_singleton, List.mem_singleton] at hb
        obtain ⟨z, hz, rfl⟩ := List.mem_map.mp ha
        exact ne_of_none (hr2 z hz) hu (e.trans hb)
    rintro H1 ⟨s1, rr2, eD, hr2, ej, hne, hnd⟩
    rw [hrl, List.take_length] at ej
    have hl2 : rr2.length = rr.length := by
      have := congrArg List.length ej
      rwa [List.length_map, List.length_map] at this
    refine ⟨_, rfl, _, _, rfl, .inl (Same.seqL s1 ha), fun A hA => ?_⟩
    have s2 : Same H1 (upd H1 A (.lst (ans.map V.str))) := Same.up1 hA
    have eA : (upd H1 A (.lst (ans.map V.str))) A = some (.lst (ans.map V.str)) := upd_same
    generalize upd H1 A _ = H2 at *
    have s12 := Same.trans s1 s2
    refine ⟨_, rfl, _, _, rfl, .inl (Same.seqL s12 hs), fun S hS => ⟨_, _, _, rfl, ?_⟩⟩
    have s3 : Same H2 (upd H2 S (.lst [.int (n1 : Nat), .int (f1 : Nat)])) := Same.up1 hS
    have eS : (upd H2 S (.lst [.int (n1 : Nat), .int (f1 : Nat)])) S = some (.lst [.int (n1 : Nat), .int (f1 : Nat)]) := upd_same
    generalize upd H2 S _ = H3 at *
    have s13 := Same.trans s12 s3
    have nDA : D ≠ A := ne_of_none eD hA
    have nDS : D ≠ S := ne_of_none (s2 _ _ eD) hS
    have nAS : A ≠ S := ne_of_none eA hS
    have nxA : ∀ y ∈ rr2, y.1 ≠ A := fun y hy => ne_of_none (hr2 y hy) hA
    have nxS : ∀ y ∈ rr2, y.1 ≠ S := fun y hy => ne_of_none (s2 _ _ (hr2 y hy)) hS
    have pen3 := hp.same s13
    have eD3 := s3 _ _ (s2 _ _ eD)
    have eA3 := s3 _ _ eA
    have hr3 : RowL H3 rr2 := fun y hy => s3 _ _ (s2 _ _ (hr2 y hy))
    have hDn : H D = none := hD
    have hAn : H A = none := Same.free s1 hA
    have hSn : H S = none := Same.free s12 hS
    have nDp : D ≠ p := Ne.symm (ne_of_none ep hDn)
    have nAp : A ≠ p := Ne.symm (ne_of_none ep hAn)
    have nSp : S ≠ p := Ne.symm (ne_of_none ep hSn)
    have nlp : l ≠ p := ne_of hpl ep (by intro z; cases z)
    have nDc : D ≠ c := Ne.symm (ne_of_none ec hDn)
    have nAc : A ≠ c := Ne.symm (ne_of_none ec hAn)
    have nSc : S ≠ c := Ne.symm (ne_of_none ec hSn)
    have fin : ∀ (H5 : Hp) (rr5 : List (Addr × List Nat)) (ans5 : List Str) (n5 f5 : Nat), KeepP p H H5 → Pen H5 p c (n + 50) → H5 D = some (.lst (refR rr5)) → RowL H5 rr5 → H5 A = some (.lst (ans5.map V.str)) → H5 S = some (.lst [.int (n5 : Nat), .int (f5 : Nat)]) → TriG nl (rr5.map (·.2)) ans5 n5 f5 → ∀ u, H5 u = none → Q (.ref u) (upd H5 u (.tup [.ref D, .ref A, .ref S])) := by
      intro H5 rr5 ans5 n5 f5 k5 pen5 e1 e2 e3 e4 g5 u hu
      have s6 : Same H5 (upd H5 u (.tup [.ref D, .ref A, .ref S])) := Same.up1 hu
      exact q _ u _ ans5 n5 f5 (k5.trans (KeepP.of s6)) ((pen5.mono (by omega)).same s6) ⟨D, A, S, rr5, upd_same, s6 _ _ e1, fun y hy => s6 _ _ (e2 y hy), rfl, s6 _ _ e3, s6 _ _ e4⟩ g5
    have g2 : TriG nl (rr2.map (·.2)) ans n1 f1 := by rw [ej]; exact ⟨hg, by rw [hml]; exact h6, by rw [hml]; exact hn1, by rw [hml]; exact hf1⟩
    have hrl2 : (refR rr2).length = rr2.length := List.length_map _
    refine ⟨_, rfl, p, c, 3, n, rfl, by decide, by decide, pen3, by omega, fun way H4 hway pen4 k4 => ?_⟩
    refine ⟨_, rfl, _, rfl, _, _, rfl, .inl (SqL.of (k4 _ _ nDp eD3)), p, c, (refR rr2).length, n + 1, rfl, by rw [hrl2]; omega, by rw [hrl2]; omega, pen4, by omega, fun st H5 hst pen5 k5 => ⟨_, _, rfl, ?_⟩⟩
    rw [hrl2, hl2] at hst
    have k45 := k4.trans k5
    have eD5 := k45 _ _ nDp eD3
    have eA5 := k45 _ _ nAp eA3
    have eS5 := k45 _ _ nSp eS
    have hr5 : RowL H5 rr2 := hr3.keep k45 pen3
    have k05 := (KeepP.of (p := p) s13).trans k45
    have hal : ans.length = rr.length := by rw [hg.2.2.2.1, hml]
    refine ⟨_, rfl, rfl, _, rfl, ite2 (fun _ => ?_) (fun _ => ⟨_, rfl, rfl, _, rfl, ite2 (fun _ => ?_) (fun _ => ?_)⟩)⟩
    · refine ⟨_, rfl, _, rfl, p, c, .ref l, n + 1 + 1, rfl, pen5, by omega, .inl ⟨l, _, rfl, k05 _ _ nlp hpl, by rw [List.length_map]; exact hp1, by rw [List.length_map]; omega, fun v H6 hv pen6 k6 => ?_⟩⟩
      obtain ⟨z, hz, rfl⟩ := List.mem_map.mp hv
      refine ⟨_, rfl, _, rfl, A, _, _, st, rfl, rfl, k6 _ _ nAp eA5, by rw [List.length_map]; exact ixNn (by omega), ?_⟩
      refine ⟨_, rfl, _, rfl, _, rfl, Nat.le_of_ble_eq_true rfl, fin _ rr2 (ans.set st z) n1 f1 ?_ ((pen6.mono (by omega)).put nAp nAc) ?_ ?_ ?_ ?_ ?_⟩
      · intro x o nx e
        rw [upd_ne (ne_of_none e hAn)]
        exact k6 _ _ nx (k05 x o nx e)
      · rw [upd_ne nDA]; exact k6 _ _ nDp eD5
      · intro y hy
        rw [upd_ne (nxA y hy)]
        exact hr5.keep k6 pen5 y hy
      · rw [upd_same, ← List.map_set]
      · rw [upd_ne (Ne.symm nAS)]; exact k6 _ _ nSp eS5
      · obtain ⟨⟨a1, a2, a3, a4, a5⟩, b1, b2, b3⟩ := g2
        refine ⟨⟨a1, a2, a3, by rw [List.length_set]; exact a4, fun w hw => ?_⟩, b1, b2, b3⟩
        rcases List.mem_or_eq_of_mem_set hw with hw | hw
        · exact a5 w hw
        · rw [hw]; exact hpw z hz
    · refine ⟨_, rfl, _, rfl, _, _, rfl, .inl (SqL.of eD5), p, c, (refR rr2).length, n + 1 + 1, rfl, by rw [hrl2]; omega, by rw [hrl2]; omega, pen5, by omega, fun v H6 hv pen6 k6 => ?_⟩
      rw [hrl2, hl2] at hv
      have hst2 : rr2[st]? = some (rr2[st]'(by omega)) := List.getElem?_eq_getElem _
      have h02 : rr2[0]? = some (rr2[0]'(by omega)) := List.getElem?_eq_getElem _
      have eD6 := k6 _ _ nDp eD5
      have hr6 : RowL H6 rr2 := hr5.keep k6 pen5
      have m0 : rr2[0]'(by omega) ∈ rr2 := List.getElem_mem _
      have ms : rr2[st]'(by omega) ∈ rr2 := List.getElem_mem _
      have e0 := hr6 _ m0
      have es := hr6 _ ms
      have nrow : ∀ y ∈ rr2, y.2.length = nl ∧ ∀ k ∈ y.2, k < rr2.length := fun y hy => by
        have := g2.1.2.2.1 y.2 (List.mem_map.mpr ⟨y, hy, rfl⟩)
        rw [List.length_map] at this
        exact this
      have n0l : (nats (rr2[0]'(by omega)).2).length = nl := by unfold nats; rw [List.length_map]; exact (nrow _ m0).1
      have nsl : (nats (rr2[st]'(by omega)).2).length = nl := by unfold nats; rw [List.length_map]; exact (nrow _ ms).1
      have a0 : (refR rr2)[0]? = some (.ref (rr2[0]'(by omega)).1) := by unfold refR; rw [List.getElem?_map, h02]; rfl
      have as' : (refR rr2)[st]? = some (.ref (rr2[st]'(by omega)).1) := by unfold refR; rw [List.getElem?_map, hst2]; rfl
      generalize hx0 : (rr2[0]'(by omega)) = x0 at *
      generalize hxs : (rr2[st]'(by omega)) = xs at *
      refine ⟨_, rfl, _, rfl, _, _, _, _, rfl, rfl, SqL.of eD6, atI_nat as', ?_⟩
      refine ⟨_, rfl, _, rfl, _, _, _, _, rfl, rfl, SqL.of eD6, ix0 a0, _, _, rfl, .inl (SqL.of e0), p, c, (nats x0.2).length, n + 1 + 1 + 1, rfl, by rw [n0l]; exact hnl1, by rw [n0l]; omega, pen6, by omega, fun j H7 hj pen7 k7 => ?_⟩
      rw [n0l] at hj
      have hr7 : RowL H7 rr2 := hr6.keep k7 pen6
      have es7 := hr7 xs ms
      have nxD := (hne xs ms).1
      have hxn := (hne xs ms).2
      have nxp : xs.1 ≠ p := Ne.symm (ne_of_none ep hxn)
      have nxc : xs.1 ≠ c := Ne.symm (ne_of_none ec hxn)
      refine ⟨xs.1, _, _, j, rfl, rfl, es7, by rw [nsl]; exact ixNn hj, ?_⟩
      have hset : (nats xs.2).set j (.int (v : Nat)) = nats (xs.2.set j v) := by unfold nats; rw [List.map_set]
      refine ⟨_, rfl, _, rfl, _, rfl, Nat.le_of_ble_eq_true rfl, fin _ (rr2.set st (xs.1, xs.2.set j v)) ans n1 f1 ?_ ((pen7.mono (by omega)).put nxp nxc) ?_ ?_ ?_ ?_ ?_⟩
      · intro x o nx e
        rw [upd_ne (ne_of_none e hxn)]
        exact k7 _ _ nx (k6 _ _ nx (k05 x o nx e))
      · rw [upd_ne (Ne.symm nxD), k7 _ _ nDp eD6]
        have e : refR (rr2.set st (xs.1, xs.2.set j v)) = refR rr2 := by
          unfold refR
          rw [List.map_set]
          apply List.ext_getElem?
          intro i
          rw [List.getElem?_set]
          by_cases hi : st = i
          · subst hi
            rw [if_pos rfl, if_pos (by rw [List.length_map]; omega), List.getElem?_map, hst2]
            rfl
          · rw [if_neg hi]
        rw [e]
      · intro y hy
        rcases List.mem_or_eq_of_mem_set hy with hy' | hy'
        · by_cases hyx : y.1 = xs.1
          · obtain ⟨i, hi⟩ := List.mem_iff_getElem?.mp hy
            rw [List.getElem?_set] at hi
            by_cases hsi : st = i
            · rw [if_pos hsi] at hi
              split at hi
              · have := Option.some.inj hi
                rw [← this, upd_same, hset]
              · cases hi
            · rw [if_neg hsi] at hi
              exfalso
              have i1 := (List.getElem?_eq_some_iff.mp hi).1
              have i2 := (List.getElem?_eq_some_iff.mp hi).2
              have nd := List.pairwise_iff_getElem.mp hnd
              have l1 : (rr2.map (·.1)).length = rr2.length := List.length_map _
              have e1 : (rr2.map (·.1))[i]'(by rw [l1]; exact i1) = y.1 := by rw [List.getElem_map, i2]
              have e2 : (rr2.map (·.1))[st]'(by rw [l1]; omega) = xs.1 := by rw [List.getElem_map, hxs]
              rcases Nat.lt_or_gt_of_ne hsi with hlt | hgt
              · exact nd st i (by rw [l1]; omega) (by rw [l1]; exact i1) hlt (by rw [e1, e2, hyx])
              · exact nd i st (by rw [l1]; exact i1) (by rw [l1]; omega) hgt (by rw [e1, e2, hyx])
          · rw [upd_ne hyx]; exact hr7 y hy'
        · rw [hy', upd_same, hset]
      · rw [upd_ne (Ne.symm (nxA xs ms))]; exact k7 _ _ nAp (k6 _ _ nAp eA5)
      · rw [upd_ne (Ne.symm (nxS xs ms))]; exact k7 _ _ nSp (k6 _ _ nSp eS5)
      · obtain ⟨⟨a1, a2, a3, a4, a5⟩, b1, b2, b3⟩ := g2
        have lset : ((rr2.set st (xs.1, xs.2.set j v)).map (·.2)).length = (rr2.map (·.2)).length := by rw [List.length_map, List.length_map, List.length_set]
        refine ⟨⟨by rw [lset]; exact a1, by rw [lset]; exact a2, fun w hw => ?_, by rw [lset]; exact a4, a5⟩, by rw [lset]; exact b1, by rw [lset]; exact b2, by rw [lset]; exact b3⟩
        obtain ⟨y, hy, rfl⟩ := List.mem_map.mp hw
        rw [lset]
        rcases List.mem_or_eq_of_mem_set hy with hy | hy
        · exact a3 _ (List.mem_map.mpr ⟨y, hy, rfl⟩)
        · have := a3 xs.2 (List.mem_map.mpr ⟨xs, ms, rfl⟩)
          rw [hy]
          refine ⟨by rw [List.length_set]; exact this.1, fun k hk => ?_⟩
          rcases List.mem_or_eq_of_mem_set hk with hk | hk
          · exact this.2 k hk
          · rw [hk, List.length_map, hl2]; exact hv
    · refine ⟨_, rfl, _, rfl, _, rfl, p, c, 2, n + 1 + 1, rfl, by decide, by decide, pen5, by omega, fun j H6 hj pen6 k6 => ⟨S, _, _, j, rfl, rfl, k6 _ _ nSp eS5, ixNn hj, ?_⟩⟩
      have g3 : ∀ n5 f5, n5 < rr.length → f5 < rr.length → TriG nl (rr2.map (·.2)) ans n5 f5 := fun n5 f5 h1 h2 => ⟨g2.1, g2.2.1, by rw [ej, hml]; exact h1, by rw [ej, hml]; exact h2⟩
      have base : ∀ n5 f5, n5 < rr.length → f5 < rr.length → ∀ o, o = HO.lst [.int (n5 : Nat), .int (f5 : Nat)] → ∀ u, (upd H6 S o) u = none → Q (.ref u) (upd (upd H6 S o) u (.tup [.ref D, .ref A, .ref S])) := by
        intro n5 f5 h1 h2 o ho u hu
        refine fin _ rr2 ans n5 f5 ?_ ((pen6.mono (by omega)).put nSp nSc) ?_ ?_ ?_ ?_ (g3 n5 f5 h1 h2) u hu
        · intro x o nx e
          rw [upd_ne (ne_of_none e hSn)]
          exact k6 _ _ nx (k05 x o nx e)
        · rw [upd_ne nDS]; exact k6 _ _ nDp eD5
        · intro y hy
          rw [upd_ne (nxS y hy)]
          exact hr5.keep k6 pen5 y hy
        · rw [upd_ne nAS]; exact k6 _ _ nAp eA5
        · rw [upd_same, ho]
      refine ⟨_, rfl, _, rfl, _, rfl, Nat.le_of_ble_eq_true rfl, ?_⟩
      match j, hj with
      | 0, _ => exact base st f1 hst hf1 _ rfl
      | 1, _ => exact base n1 st hn1 hst _ rfl
end K5


namespace K5
open PySem PySem.Spec PyProof.Rows L2
theorem hu65 {A : Around} {k : Nat} (hr : Room k A) : A.units + 65 < cLine := by have := hr.un; omega
def cP (p : Nat × Nat) : Int × Int := ((p.1 : Nat), (p.2 : Nat))
theorem cP_inj {p q : Nat × Nat} (h : cP p = cP q) : p = q := Prod.ext (Int.ofNat.inj (congrArg Prod.fst h)) (Int.ofNat.inj (congrArg Prod.snd h))
theorem memC {p : Nat × Nat} {l : List (Nat × Nat)} : cP p ∈ l.map cP ↔ p ∈ l := by
  constructor
  · intro h
    obtain ⟨q, hq, e⟩ := List.mem_map.mp h
    rw [← cP_inj e]; exact hq
  · intro h
    exact List.mem_map.mpr ⟨p, h, rfl⟩
def SS (H : Hp) (sd : Addr) (q : List QI) : Prop := ∃ st : List (Addr × (Nat × Nat)), H sd = some (.lst (st.map fun y => V.ref y.1)) ∧ (∀ y ∈ st, H y.1 = some (tupP y.2)) ∧ st.map (·.2) = q.map (·.1)
def QQ (H : Hp) (qd : Addr) (q : List QI) : Prop := ∃ qt : List (Addr × QI), H qd = some (.lst (qt.map fun y => V.ref y.1)) ∧ qt.map (·.2) = q ∧ ∀ y ∈ qt, ∃ tp tw, H y.1 = some (.tup [.ref tp, .int (y.2.2.1 : Nat), .ref tw]) ∧ H tp = some (tupP y.2.1) ∧ H tw = some (.tup (nats y.2.2.2))
theorem SS.same {H H' : Hp} {sd : Addr} {q : List QI} (h : SS H sd q) (s : Same H H') : SS H' sd q := let ⟨st, a, b, c⟩ := h; ⟨st, s _ _ a, fun y hy => s _ _ (b y hy), c⟩
theorem QQ.same {H H' : Hp} {qd : Addr} {q : List QI} (h : QQ H qd q) (s : Same H H') : QQ H' qd q :=
  let ⟨qt, a, b, c⟩ := h
  ⟨qt, s _ _ a, b, fun y hy => let ⟨tp, tw, e1, e2, e3⟩ := c y hy; ⟨tp, tw, s _ _ e1, s _ _ e2, s _ _ e3⟩⟩
theorem SS.nil {H : Hp} {sd : Addr} (h : H sd = some (.lst [])) : SS H sd [] := ⟨[], h, (fun y hy => by cases hy), rfl⟩
theorem QQ.nil {H : Hp} {qd : Addr} (h : H qd = some (.lst [])) : QQ H qd [] := ⟨[], h, rfl, fun y hy => by cases hy⟩
/-- seen.append(pair) -/
theorem SS.push {H : Hp} {sd tp : Addr} {q : List QI} {x : QI} {st : List (Addr × (Nat × Nat))} (a : H sd = some (.lst (st.map fun y => V.ref y.1))) (b : ∀ y ∈ st, H y.1 = some (tupP y.2)) (c : st.map (·.2) = q.map (·.1)) (ep : H tp = some (tupP x.1)) :
    SS (upd H sd (.lst (st.map (fun y => V.ref y.1) ++ [.ref tp]))) sd (q ++ [x]) := by
  refine ⟨st ++ [(tp, x.1)], ?_, fun y hy => ?_, ?_⟩
  · rw [upd_same, List.map_append]; rfl
  · have e : H y.1 = some (tupP y.2) := by
      rcases List.mem_append.mp hy with hy | hy
      · exact b y hy
      · rw [List.mem_singleton.mp hy]; exact ep
    rw [upd_ne (ne_of e a (by intro z; cases z))]
    exact e
  · rw [List.map_append, c, List.map_append]; rfl
theorem QQ.put {H : Hp} {qd d : Addr} {q : List QI} {l l' : List V} (h : QQ H qd q) (hd : H d = some (.lst l)) (n : qd ≠ d) : QQ (upd H d (.lst l')) qd q := by
  obtain ⟨qt, a, b, c⟩ := h
  have k : ∀ {t xs}, H t = some (.tup xs) → (upd H d (.lst l')) t = some (.tup xs) := fun {t xs} e => by rw [upd_ne (ne_of e hd (by intro z; cases z))]; exact e
  exact ⟨qt, by rw [upd_ne n]; exact a, b, fun y hy => let ⟨tp, tw, e1, e2, e3⟩ := c y hy; ⟨tp, tw, k e1, k e2, k e3⟩⟩
theorem SS.put {H : Hp} {sd d : Addr} {q : List QI} {l l' : List V} (h : SS H sd q) (hd : H d = some (.lst l)) (n : sd ≠ d) : SS (upd H d (.lst l')) sd q := by
  obtain ⟨st, a, b, c⟩ := h
  exact ⟨st, by rw [upd_ne n]; exact a, fun y hy => by rw [upd_ne (ne_of (b y hy) hd (by intro z; cases z))]; exact b y hy, c⟩
theorem QQ.push {H : Hp} {qd t tp tw : Addr} {q : List QI} {x : QI} {qt : List (Addr × QI)} (a : H qd = some (.lst (qt.map fun y => V.ref y.1))) (b : qt.map (·.2) = q) (c : ∀ y ∈ qt, ∃ tp tw, H y.1 = some (.tup [.ref tp, .int (y.2.2.1 : Nat), .ref tw]) ∧ H tp = some (tupP y.2.1) ∧ H tw = some (.tup (nats y.2.2.2)))
    (e1 : H t = some (.tup [.ref tp, .int (x.2.1 : Nat), .ref tw])) (e2 : H tp = some (tupP x.1)) (e3 : H tw = some (.tup (nats x.2.2))) : QQ (upd H qd (.lst (qt.map (fun y => V.ref y.1) ++ [.ref t]))) qd (q ++ [x]) := by
  have k : ∀ {t xs}, H t = some (.tup xs) → (upd H qd (.lst (qt.map (fun y => V.ref y.1) ++ [.ref t]))) t = some (.tup xs) := fun {t' xs} e => by rw [upd_ne (ne_of e a (by intro z; cases z))]; exact e
  have k' : ∀ {t' xs}, H t' = some (.tup xs) → (upd H qd (.lst (qt.map (fun y => V.ref y.1) ++ [.ref t]))) t' = some (.tup xs) := fun {t' xs} e => by rw [upd_ne (ne_of e a (by intro z; cases z))]; exact e
  refine ⟨qt ++ [(t, x)], ?_, ?_, fun y hy => ?_⟩
  · rw [upd_same, List.map_append]; rfl
  · rw [List.map_append, b]; rfl
  · rcases List.mem_append.mp hy with hy | hy
    · obtain ⟨tp', tw', f1, f2, f3⟩ := c y hy
      exact ⟨tp', tw', k' f1, k' f2, k' f3⟩
    · rw [List.mem_singleton.mp hy]
      exact ⟨tp, tw, k' e1, k' e2, k' e3⟩
theorem dpSeen {K : PySem.W.Frag} {H : Hp} : ∀ st : List (Addr × (Nat × Nat)), (∀ y ∈ st, H y.1 = some (tupP y.2)) → DpAll K H (st.map fun y => V.ref y.1) (((st.map (·.2)).map cP).map dPair)
  | [], _ => .nil
  | y :: st, h => .cons (.tup (SqT.of (h y (List.mem_cons_self ..))) (.cons (.int _) (.cons (.int _) .nil))) (dpSeen st fun z hz => h z (List.mem_cons_of_mem _ hz))
def sp_law_first : Sp := fun vs H Q _ => ∃ (t1 t2 : Addr) (nl : Nat) (rows1 rows2 : List (List Nat)) (ans1 ans2 : List Str) (n1 f1 n2 f2 : Nat), vs = [.ref t1, .ref t2] ∧ TriO H t1 rows1 ans1 n1 f1 ∧ TriO H t2 rows2 ans2 n2 f2 ∧ TriG nl rows1 ans1 n1 f1 ∧ TriG nl rows2 ans2 n2 f2 ∧ nl ≤ 12 ∧
  ∀ (f : Nat) (r : Option (Nat × List Nat)), (bdOf nl rows1 ans1 n1 f1 rows2 ans2 n2 f2).bfs f (bdOf nl rows1 ans1 n1 f1 rows2 ans2 n2 f2).ini 0 = some r →
    (r = none → ∀ H', Same H H' → Q .non H') ∧ ∀ k w, r = some (k, w) → ∀ u v H', Same H H' → H' u = some (.tup [.int (k : Nat), .ref v]) → H' v = some (.tup (nats w)) → Q (.ref u) H'
theorem G_law_first {P : Program} {w : World} {K : PySem.W.Frag} {mg : Str → Option Value} {base : Heap} (T : Tx K mg) : FnG P w K mg base 1 "_law_first" (sp_law_first) :=
  fnG_of T.g_law_first T.d_law_first sc_law_first (fun vs H Q E h => by
    obtain ⟨t1, t2, nl, rows1, rows2, ans1, ans2, n1, f1, n2, f2, rfl, ⟨r1, a1, sa1, rr1, et1, er1, ew1, ej1, ea1, es1⟩, ⟨r2, a2, sa2, rr2, et2, er2, ew2, ej2, ea2, es2⟩, ⟨hg1, h61, hn1, hf1⟩, ⟨hg2, h62, hn2, hf2⟩, hnl, q0⟩ := h
    rfl) (fun _ _ _ _ _ _ us hl => match us, hl with | [_, _], _ => rfl) fun cdv A outer s H vs Q E hr h => by
    obtain ⟨t1, t2, nl, rows1, rows2, ans1, ans2, n1, f1, n2, f2, rfl, ⟨r1, a1, sa1, rr1, et1, er1, ew1, ej1, ea1, es1⟩, ⟨r2, a2, sa2, rr2, et2, er2, ew2, ej2, ea2, es2⟩, ⟨hg1, h61, hn1, hf1⟩, ⟨hg2, h62, hn2, hf2⟩, hnl, q0⟩ := h
    have hu := hu_of hr
    refine ⟨_, (pss_cons (ps_par3 (i := 2) (j := 3) (l := 4) rfl sc_law_first.nd rfl rfl rfl (by decide) (by decide) (by decide) rfl rfl rfl (pa_cons (pe_lst pa_nil) (pa_cons (pe_lst pa_nil) (pa_cons pe_int pa_nil))) rfl)
      (pss_cons (ps_for (passes_of rfl) rfl (pi_range1 rfl T.n_range (pa_cons pe_int pa_nil)) (pg_name (i := 5) sc_law_first.nd rfl (by first | exact Or.inl rfl | exact Or.inr rfl)) (pss_cons (ps_set (i := 6) sc_law_first.nd rfl (by first | exact Or.inl rfl | exact Or.inr rfl) (pe_tup (pa_cons (pe_ix ix_list (pe_ix ix_tup (pv 0) pe_int (fun _ _ => rfl)) (pv 5) (fun _ _ => rfl)) (pa_cons (pe_ix ix_list (pe_ix ix_tup (pv 1) pe_int (fun _ _ => rfl)) (pv 5) (fun _ _ => rfl)) pa_nil))))
        (pss_one (ps_if (pt_cmpR (op_notInD (hu65 hr)) (pv 6) (pv 3) rfl) (pss_cons (ps_expr (pe_bm PySem.F.plainAttrs_list PySem.F.slot_list_append PySem.F.type_list_append mt_append (pv 3) (pa_cons (pv 6) pa_nil)))
          (pss_one (ps_expr (pe_bm PySem.F.plainAttrs_list PySem.F.slot_list_append PySem.F.type_list_append mt_append (pv 2) (pa_cons (pe_tup (pa_cons (pv 6) (pa_cons (pv 5) (pa_cons (pe_tup pa_nil) pa_nil)))) pa_nil))))) pss_nil))))
      (pss_cons (ps_while (passes_of rfl) (pt_cmpR op_lt (pv 4) (pe_callB call_len_seq rfl T.n_len (show bootBuiltins "len" = some (.builtin "len") by decide +kernel) (pa_cons (pv 2) pa_nil)) (nomark _)) (pss_cons (ps_asg (pe_ix ix_list (pv 2) (pv 4) (fun _ _ => rfl)) (pg_tup rfl (pgs_cons (pg_name (i := 6) sc_law_first.nd rfl (by first | exact Or.inl rfl | exact Or.inr rfl)) (pgs_cons (pg_name (i := 5) sc_law_first.nd rfl (by first | exact Or.inl rfl | exact Or.inr rfl)) (pgs_cons (pg_name (i := 7) sc_law_first.nd rfl (by first | exact Or.inl rfl | exact Or.inr rfl)) pgs_nil)))))
        (pss_cons (ps_set (i := 4) sc_law_first.nd rfl (by first | exact Or.inl rfl | exact Or.inr rfl) (pe_op op_add (pv 4) pe_int))
        (pss_cons (ps_if (pt_cmpR op_ne (pe_ix ix_list (pe_ix ix_tup (pv 0) pe_int (fun _ _ => rfl)) (pe_ix ix_tup (pv 6) pe_int (fun _ _ => rfl)) (fun _ _ => rfl)) (pe_ix ix_list (pe_ix ix_tup (pv 1) pe_int (fun _ _ => rfl)) (pe_ix ix_tup (pv 6) pe_int (fun _ _ => rfl)) (fun _ _ => rfl)) (nomark _)) (pss_one (ps_ret (pe_tup (pa_cons (pv 5) (pa_cons (pv 7) pa_nil))))) pss_nil)
        (pss_one (ps_for (passes_of rfl) rfl (pi_range1 rfl T.n_range (pa_cons (pe_callB call_len_seq rfl T.n_len (show bootBuiltins "len" = some (.builtin "len") by decide +kernel) (pa_cons (pe_ix ix_list (pe_ix ix_tup (pv 0) pe_int (fun _ _ => rfl)) pe_int (fun _ _ => rfl)) pa_nil)) pa_nil)) (pg_name (i := 8) sc_law_first.nd rfl (by first | exact Or.inl rfl | exact Or.inr rfl)) (pss_cons (ps_set (i := 9) sc_law_first.nd rfl (by first | exact Or.inl rfl | exact Or.inr rfl) (pe_tup (pa_cons (pe_ix ix_list (pe_ix ix_list (pe_ix ix_tup (pv 0) pe_int (fun _ _ => rfl)) (pe_ix ix_tup (pv 6) pe_int (fun _ _ => rfl)) (fun _ _ => rfl)) (pv 8) (fun _ _ => rfl)) (pa_cons (pe_ix ix_list (pe_ix ix_list (pe_ix ix_tup (pv 1) pe_int (fun _ _ => rfl)) (pe_ix ix_tup (pv 6) pe_int (fun _ _ => rfl)) (fun _ _ => rfl)) (pv 8) (fun _ _ => rfl)) pa_nil))))
          (pss_one (ps_if (pt_cmpR (op_notInD (hu65 hr)) (pv 9) (pv 3) rfl) (pss_cons (ps_expr (pe_bm PySem.F.plainAttrs_list PySem.F.slot_list_append PySem.F.type_list_append mt_append (pv 3) (pa_cons (pv 9) pa_nil)))
            (pss_one (ps_expr (pe_bm PySem.F.plainAttrs_list PySem.F.slot_list_append PySem.F.type_list_append mt_append (pv 2) (pa_cons (pe_tup (pa_cons (pv 9) (pa_cons (pv 5) (pa_cons (pe_op op_catA (pv 7) (pe_tup (pa_cons (pv 8) pa_nil))) pa_nil)))) pa_nil))))) pss_nil)))))))))
      (pss_one (ps_ret pe_non))))), ?_⟩
    generalize hB : bdOf nl rows1 ans1 n1 f1 rows2 ans2 n2 f2 = B at q0
    have okB : B.Ok rows1.length rows2.length := by rw [← hB]; exact bdOk hg1 hg2 hn1 hf1 hn2 hf2
    have hNN : rows1.length * rows2.length ≤ 36 := Nat.mul_le_mul h61 h62
    have hBnl : B.nl = nl := by rw [← hB]; rfl
    have ha1 : ∀ i, B.a1 i = ans1.getD i Str.empty := fun i => by rw [← hB]; rfl
    have ha2 : ∀ i, B.a2 i = ans2.getD i Str.empty := fun i => by rw [← hB]; rfl
    have hd1 : ∀ i l, B.d1 i l = dN rows1 i l := fun i l => by rw [← hB]; rfl
    have hd2 : ∀ i l, B.d2 i l = dN rows2 i l := fun i l => by rw [← hB]; rfl
    have inv0 : B.Inv rows1.length rows2.length B.ini := BD.Inv.ini okB
    have hrl1 : rr1.length = rows1.length := by rw [← ej1, List.length_map]
    have hrl2 : rr2.length = rows2.length := by rw [← ej2, List.length_map]
    refine ⟨Nat.zero_le _, fun qd hqd => ⟨Nat.zero_le _, fun sd hsd => ⟨_, _, _, rfl, ?_⟩⟩⟩
    have nqs : qd ≠ sd := fun z => by rw [← z, upd_same] at hsd; cases hsd
    have hsd0 : H sd = none := by rw [upd_ne (Ne.symm nqs)] at hsd; exact hsd
    have s0 : Same H (upd (upd H qd (.lst [])) sd (.lst [])) := Same.up2 (Same.up1 hqd) hsd0
    have qq0 : QQ (upd (upd H qd (.lst [])) sd (.lst [])) qd [] := QQ.nil (by rw [upd_ne nqs, upd_same])
    have ss0 : SS (upd (upd H qd (.lst [])) sd (.lst [])) sd [] := SS.nil upd_same
    generalize upd (upd H qd (.lst [])) sd (.lst []) = H0 at *
    have stAt : ∀ {a b i : Nat}, i < 2 → ([V.int (a : Nat), V.int (b : Nat)] : List V)[i]? = some (.int (sN a b i : Nat)) := fun {a b i} h => by
      match i, h with
      | 0, _ => rfl
      | 1, _ => rfl
    have fold_len : ∀ (l : List QI) (q : List QI), (l.foldl psh q).length ≤ q.length + l.length := by
      intro l
      induction l with
      | nil => intro q; exact Nat.le_refl _
      | cons a l ih =>
        intro q
        have h1 := ih (psh q a)
        have h2 : (psh q a).length ≤ q.length + 1 := by
          unfold psh
          split
          · exact Nat.le_succ _
          · rw [List.length_append]; exact Nat.le_refl _
        show (l.foldl psh (psh q a)).length ≤ _
        rw [List.length_cons]
        omega
    refine ⟨2, rfl, by decide, by decide, for_it walk_range (fun i σ H' => ∃ v5 v6, σ = [some (.ref t1), some (.ref t2), some (.ref qd), some (.ref sd), some (.int 0), v5, v6, none, none, none] ∧ Same H H' ∧ QQ H' qd (((List.range i).map B.item).foldl psh []) ∧ SS H' sd (((List.range i).map B.item).foldl psh [])) ⟨none, none, rfl, s0, qq0, ss0⟩ (fun _ _ _ _ _ => trivial) ?_ ?_⟩
    · rintro i x σ H1 H2 hi ⟨v5, v6, rfl, s1, qq, ss⟩ ⟨rfl, rfl⟩
      have hi2 : i < 2 := hi
      have hit : B.item i = ((sN n1 f1 i, sN n2 f2 i), i, []) := by rw [← hB]; rfl
      have hsucc : (((List.range (i + 1)).map B.item).foldl psh []) = psh (((List.range i).map B.item).foldl psh []) (B.item i) := by
        rw [List.range_succ, List.map_append, List.foldl_append]
        rfl
      have hz : (0 : Int) + ((i : Nat) : Int) = ((i : Nat) : Int) := Int.zero_add _
      refine ⟨_, rfl, _, _, _, _, rfl, rfl, Same.seqT s1 et1, ix2 rfl, _, rfl, _, _, _, _, rfl, rfl, Same.seqL s1 es1, (by rw [hz]; exact atI_nat (stAt hi2)), ?_⟩
      refine ⟨_, rfl, _, _, _, _, rfl, rfl, Same.seqT s1 et2, ix2 rfl, _, rfl, _, _, _, _, rfl, rfl, Same.seqL s1 es2, (by rw [hz]; exact atI_nat (stAt hi2)), Nat.le_of_ble_eq_true rfl, fun tp htp => ?_⟩
      have s2 : Same H2 (upd H2 tp (.tup [.int (sN n1 f1 i : Nat), .int (sN n2 f2 i : Nat)])) := Same.up1 htp
      have etp : (upd H2 tp (.tup [.int (sN n1 f1 i : Nat), .int (sN n2 f2 i : Nat)])) tp = some (tupP (B.item i).1) := by rw [upd_same, hit]; rfl
      generalize upd H2 tp _ = H3 at *
      have s3 := Same.trans s1 s2
      have qq := qq.same s2
      obtain ⟨st, sa, sb, sc⟩ := ss.same s2
      have hql := fold_len ((List.range i).map B.item) []
      rw [List.length_map, List.length_range] at hql
      generalize hqi : (((List.range i).map B.item).foldl psh []) = qi at *
      have hsl : st.length = qi.length := by have := congrArg List.length sc; rwa [List.length_map, List.length_map] at this
      have hslm : (st.map fun y => V.ref y.1).length < sizeLine := by
        rw [List.length_map, hsl]
        exact Nat.lt_of_lt_of_le (show _ < 3 by simp at hql; omega) (Nat.le_of_ble_eq_true rfl)
      refine ⟨_, rfl, _, rfl, dPair (cP (B.item i).1), ((st.map (·.2)).map cP).map dPair, .tup (SqT.of etp) (.cons (.int _) (.cons (.int _) .nil)), .lst (SqL.of sa) (dpSeen st sb), rfl, shapedPairs _, _, rfl, ?_⟩
      rw [anyPair, sc]
      by_cases hm : (B.item i).1 ∈ qi.map (·.1)
      · refine ifF (notf (dT (memC.mpr hm))) ⟨_, _, rfl, s3, ?_, ?_⟩
        · rw [hsucc, psh_old hm]; exact qq
        · rw [hsucc, psh_old hm]; exact ⟨st, sa, sb, sc⟩
      · have hpsh : psh qi (B.item i) = qi ++ [B.item i] := by unfold psh; rw [if_neg hm]
        have ssn := SS.push (x := B.item i) (tp := tp) sa sb sc etp
        refine ifT (nott (dF (fun z => hm (memC.mp z)))) ⟨_, rfl, .inl ⟨rfl, _, SqL.of sa⟩, _, rfl, sd, _, _, rfl, rfl, sa, hslm, ?_⟩
        have qq4 := qq.put (l' := st.map (fun y => V.ref y.1) ++ [.ref tp]) sa nqs
        have etp4 : (upd H3 sd (.lst (st.map (fun y => V.ref y.1) ++ [.ref tp]))) tp = some (tupP (B.item i).1) := by rw [upd_ne (ne_of etp sa (by intro z; cases z))]; exact etp
        have s4 : Same H (upd H3 sd (.lst (st.map (fun y => V.ref y.1) ++ [.ref tp]))) := Same.up2 s3 hsd0
        generalize upd H3 sd _ = H4 at *
        obtain ⟨qt, qa, qb, qc⟩ := qq4
        have hqtl : qt.length = qi.length := by rw [← qb, List.length_map]
        refine ⟨_, rfl, .inl ⟨rfl, _, SqL.of qa⟩, _, rfl, _, rfl, Nat.zero_le _, fun tw htw => ⟨Nat.le_of_ble_eq_true rfl, fun ti hti => ?_⟩⟩
        have s5 : Same H4 (upd (upd H4 tw (.tup [])) ti (.tup [.ref tp, .int (0 + (i : Nat)), .ref tw])) := (Same.up1 htw).trans (Same.up1 hti)
        have etw : (upd (upd H4 tw (.tup [])) ti (.tup [.ref tp, .int (0 + (i : Nat)), .ref tw])) tw = some (.tup (nats (B.item i).2.2)) := by
          rw [upd_ne (fun z => by rw [← z, upd_same] at hti; cases hti), upd_same]
          rfl
        have eti : (upd (upd H4 tw (.tup [])) ti (.tup [.ref tp, .int (0 + (i : Nat)), .ref tw])) ti = some (.tup [.ref tp, .int ((B.item i).2.1 : Nat), .ref tw]) := by
          rw [upd_same, hz]
          rfl
        generalize upd (upd H4 tw (.tup [])) ti _ = H5 at *
        have qa5 := s5 _ _ qa
        have qc5 : ∀ y ∈ qt, ∃ tp tw, H5 y.1 = some (.tup [.ref tp, .int (y.2.2.1 : Nat), .ref tw]) ∧ H5 tp = some (tupP y.2.1) ∧ H5 tw = some (.tup (nats y.2.2.2)) := fun y hy => let ⟨p1, w1, e1, e2, e3⟩ := qc y hy; ⟨p1, w1, s5 _ _ e1, s5 _ _ e2, s5 _ _ e3⟩
        refine ⟨qd, _, _, rfl, rfl, qa5, ?_, _, _, rfl, Same.up2 (Same.trans s4 s5) hqd, ?_, ?_⟩
        · rw [List.length_map, hqtl]
          exact Nat.lt_of_lt_of_le (show _ < 3 by simp at hql; omega) (Nat.le_of_ble_eq_true rfl)
        · rw [hsucc, hpsh]
          exact QQ.push (x := B.item i) qa5 qb qc5 eti (s5 _ _ etp4) etw
        · rw [hsucc, hpsh]
          exact (ssn.same s5).put qa5 (Ne.symm nqs)
    rintro σ H1 ⟨v5, v6, rfl, s1, qq, ss⟩
    have qq : QQ H1 qd B.ini := qq
    have ss : SS H1 sd B.ini := ss
    refine ⟨fun r σ H' => ∃ (q : List QI) (i : Nat) (v5 v6 v7 v8 v9 : Option V), i + r = rows1.length * rows2.length ∧ σ = [some (.ref t1), some (.ref t2), some (.ref qd), some (.ref sd), some (.int (i : Nat)), v5, v6, v7, v8, v9] ∧ B.Inv rows1.length rows2.length q ∧ (∀ f, B.bfs (i + f) B.ini 0 = B.bfs f q i) ∧ Same H H' ∧ QQ H' qd q ∧ SS H' sd q ∧ i ≤ q.length, ⟨rows1.length * rows2.length, B.ini, 0, v5, v6, none, none, none, Nat.zero_add _, rfl, inv0, fun f => by rw [Nat.zero_add], s1, qq, ss, Nat.zero_le _⟩, ?_⟩
    rintro r σ H2 ⟨q, i, v5, v6, v7, v8, v9, hir, rfl, inv, hbfs, s2, ⟨qt, qa, qb, qc⟩, ss, hiq⟩
    have hqN := inv.bound
    have hqtl : qt.length = q.length := by rw [← qb, List.length_map]
    have hqml : (qt.map fun y => V.ref y.1).length = q.length := by rw [List.length_map, hqtl]
    refine ⟨_, rfl, _, rfl, _, _, rfl, .inl (SqL.of qa), _, _, rfl, rfl, _, rfl, ?_⟩
    by_cases hlt : i < q.length
    · obtain ⟨r', rfl⟩ : ∃ r', r = r' + 1 := ⟨r - 1, by omega⟩
      refine ifT (dT (by rw [hqml]; omega)) ⟨_, fun σ' H' h => ⟨r', Nat.lt_succ_self _, h⟩, ?_⟩
      obtain ⟨y, hy⟩ : ∃ y, qt[i]? = some y := ⟨_, List.getElem?_eq_getElem (by rw [hqtl]; exact hlt)⟩
      have hym := List.mem_of_getElem? hy
      obtain ⟨tp, tw, eti, etp, etw⟩ := qc y hym
      have hx : q[i]? = some y.2 := by rw [← qb, List.getElem?_map, hy]; rfl
      generalize y.2 = x at *
      have hxm := List.mem_of_getElem? hx
      obtain ⟨rg1, rg2, rg3⟩ := inv.rng x hxm
      have hl1 : x.1.1 < ans1.length := by rw [hg1.2.2.2.1]; exact rg1
      have hl2 : x.1.2 < ans2.length := by rw [hg2.2.2.2.1]; exact rg2
      have hy2 : (qt.map fun y => V.ref y.1)[i]? = some (.ref y.1) := by rw [List.getElem?_map, hy]; rfl
      refine ⟨_, rfl, _, rfl, _, _, _, _, rfl, rfl, SqL.of qa, atI_nat hy2, _, _, rfl, SqT.of eti, rfl, _, _, rfl, _, _, rfl, _, _, rfl, rfl, ?_⟩
      refine ⟨_, rfl, _, _, rfl, rfl, ?_⟩
      refine ⟨_, rfl, _, _, _, _, rfl, rfl, Same.seqT s2 et1, ix1 rfl, _, rfl, _, _, _, _, rfl, rfl, SqT.of etp, ix0 rfl, _, _, _, _, rfl, rfl, Same.seqL s2 ea1, atI_nat (ansAt hl1), ?_⟩
      refine ⟨_, rfl, _, _, _, _, rfl, rfl, Same.seqT s2 et2, ix1 rfl, _, rfl, _, _, _, _, rfl, rfl, SqT.of etp, ix1 rfl, _, _, _, _, rfl, rfl, Same.seqL s2 ea2, atI_nat (ansAt hl2), rfl, _, rfl, ?_⟩
      by_cases hans : ans1.getD x.1.1 Str.empty = ans2.getD x.1.2 Str.empty
      · refine ifF (notf (dT (by rw [hans]))) ?_
        have hstep : ∀ f, B.bfs (i + 1 + f) B.ini 0 = B.bfs f (B.part q x B.nl) (i + 1) := fun f => by
          rw [show i + 1 + f = i + (f + 1) by omega, hbfs]
          conv => lhs; unfold BD.bfs
          rw [hx]
          show (if B.a1 x.1.1 = B.a2 x.1.2 then _ else _) = _
          rw [if_pos (by rw [ha1, ha2]; exact hans)]
        have h01 : 0 < rr1.length := by rw [hrl1]; exact hg1.1
        have r01 : (refR rr1)[0]? = some (.ref (rr1[0]).1) := by unfold refR; rw [List.getElem?_map, List.getElem?_eq_getElem h01]; rfl
        have e01 := ew1 _ (List.getElem_mem h01)
        have l01 : (nats (rr1[0]).2).length = nl := by
          unfold nats
          rw [List.length_map]
          exact (hg1.2.2.1 _ (by rw [← ej1]; exact List.mem_map.mpr ⟨_, List.getElem_mem h01, rfl⟩)).1
        have rowAt : ∀ (rr : List (Addr × List Nat)) (rows : List (List Nat)) (k : Nat), rr.map (·.2) = rows → k < rows.length → ∃ z, rr[k]? = some z ∧ z ∈ rr ∧ z.2 = rows.getD k [] ∧ (refR rr)[k]? = some (.ref z.1) := by
          intro rr rows k ej hk
          have hk2 : k < rr.length := by rw [← ej, List.length_map] at hk; exact hk
          refine ⟨rr[k], List.getElem?_eq_getElem hk2, List.getElem_mem hk2, ?_, ?_⟩
          · rw [← ej, List.getD_eq_getElem?_getD, List.getElem?_map, List.getElem?_eq_getElem hk2]; rfl
          · unfold refR; rw [List.getElem?_map, List.getElem?_eq_getElem hk2]; rfl
        obtain ⟨z1, hz1, hzm1, hzr1, hzf1⟩ := rowAt rr1 rows1 x.1.1 ej1 rg1
        obtain ⟨z2, hz2, hzm2, hzr2, hzf2⟩ := rowAt rr2 rows2 x.1.2 ej2 rg2
        have gr1 := hg1.row rg1
        have gr2 := hg2.row rg2
        refine ⟨_, rfl, _, _, _, _, rfl, rfl, Same.seqT s2 et1, ix0 rfl, _, _, _, _, rfl, rfl, Same.seqL s2 er1, ix0 r01, _, _, rfl, .inl (Same.seqL s2 e01), ?_⟩
        rw [l01]
        refine ⟨nl, rfl, by omega, by omega, for_it walk_range (fun j σ H' => ∃ v8 v9, σ = [some (.ref t1), some (.ref t2), some (.ref qd), some (.ref sd), some (.int ((i : Nat) + 1)), some (.int (x.2.1 : Nat)), some (.ref tp), some (.ref tw), v8, v9] ∧ Same H H' ∧ QQ H' qd (B.part q x j) ∧ SS H' sd (B.part q x j) ∧ H' tp = some (tupP x.1) ∧ H' tw = some (.tup (nats x.2.2))) ⟨_, _, rfl, s2, ⟨qt, qa, qb, qc⟩, ss, etp, etw⟩ (fun _ _ _ _ _ => trivial) ?_ ?_⟩
        · rintro j w' σ H3 H4 hj ⟨v8, v9, rfl, s3, qq, ss, etp, etw⟩ ⟨rfl, rfl⟩
          have hjl : j < nl := hj
          have hz : (0 : Int) + ((j : Nat) : Int) = ((j : Nat) : Int) := Int.zero_add _
          have invj := inv.part okB hx j (by rw [hBnl]; omega)
          have hpl : (B.part q x j).length < sizeLine := Nat.lt_of_lt_of_le (show _ < 37 by have := invj.bound; omega) (Nat.le_of_ble_eq_true rfl)
          have c1 : (nats z1.2)[j]? = some (.int (B.d1 x.1.1 j : Nat)) := by
            unfold nats
            rw [List.getElem?_map, hzr1, List.getElem?_eq_getElem (by rw [gr1.1]; exact hjl), hd1]
            unfold dN
            rw [List.getD_eq_getElem?_getD (l := rows1.getD x.1.1 []), List.getElem?_eq_getElem (by rw [gr1.1]; exact hjl)]
            rfl
          have c2 : (nats z2.2)[j]? = some (.int (B.d2 x.1.2 j : Nat)) := by
            unfold nats
            rw [List.getElem?_map, hzr2, List.getElem?_eq_getElem (by rw [gr2.1]; exact hjl), hd2]
            unfold dN
            rw [List.getD_eq_getElem?_getD (l := rows2.getD x.1.2 []), List.getElem?_eq_getElem (by rw [gr2.1]; exact hjl)]
            rfl
          refine ⟨_, rfl, _, _, _, _, rfl, rfl, Same.seqT s3 et1, ix0 rfl, _, rfl, _, _, _, _, rfl, rfl, SqT.of etp, ix0 rfl, _, _, _, _, rfl, rfl, Same.seqL s3 er1, atI_nat hzf1, _, rfl, _, _, _, _, rfl, rfl, Same.seqL s3 (ew1 z1 hzm1), (by rw [hz]; exact atI_nat c1), ?_⟩
          refine ⟨_, rfl, _, _, _, _, rfl, rfl, Same.seqT s3 et2, ix0 rfl, _, rfl, _, _, _, _, rfl, rfl, SqT.of etp, ix1 rfl, _, _, _, _, rfl, rfl, Same.seqL s3 er2, atI_nat hzf2, _, rfl, _, _, _, _, rfl, rfl, Same.seqL s3 (ew2 z2 hzm2), (by rw [hz]; exact atI_nat c2), Nat.le_of_ble_eq_true rfl, fun u hu => ?_⟩
          have s4 : Same H4 (upd H4 u (.tup [.int (B.d1 x.1.1 j : Nat), .int (B.d2 x.1.2 j : Nat)])) := Same.up1 hu
          have eu : (upd H4 u (.tup [.int (B.d1 x.1.1 j : Nat), .int (B.d2 x.1.2 j : Nat)])) u = some (tupP (B.nxt x j).1) := upd_same
          generalize upd H4 u _ = H5 at *
          have s5 := Same.trans s3 s4
          have qq := qq.same s4
          have etp5 := s4 _ _ etp
          have etw5 := s4 _ _ etw
          obtain ⟨st, sa, sb, sc⟩ := ss.same s4
          have hsl : st.length = (B.part q x j).length := by have := congrArg List.length sc; rwa [List.length_map, List.length_map] at this
          refine ⟨_, rfl, _, rfl, dPair (cP (B.nxt x j).1), ((st.map (·.2)).map cP).map dPair, .tup (SqT.of eu) (.cons (.int _) (.cons (.int _) .nil)), .lst (SqL.of sa) (dpSeen st sb), rfl, shapedPairs _, _, rfl, ?_⟩
          rw [anyPair, sc]
          by_cases hm : (B.nxt x j).1 ∈ (B.part q x j).map (·.1)
          · refine ifF (notf (dT (memC.mpr hm))) ⟨_, _, rfl, s5, ?_, ?_, etp5, etw5⟩
            · rw [BD.part_succ, psh_old hm]; exact qq
            · rw [BD.part_succ, psh_old hm]; exact ⟨st, sa, sb, sc⟩
          · have hpsh : psh (B.part q x j) (B.nxt x j) = B.part q x j ++ [B.nxt x j] := by unfold psh; rw [if_neg hm]
            have ssn := SS.push (x := B.nxt x j) (tp := u) sa sb sc eu
            refine ifT (nott (dF (fun z => hm (memC.mp z)))) ⟨_, rfl, .inl ⟨rfl, _, SqL.of sa⟩, _, rfl, sd, _, _, rfl, rfl, sa, by rw [List.length_map, hsl]; exact hpl, ?_⟩
            have qq6 := qq.put (l' := st.map (fun y => V.ref y.1) ++ [.ref u]) sa nqs
            have tk : ∀ {t' xs}, H5 t' = some (.tup xs) → (upd H5 sd (.lst (st.map (fun y => V.ref y.1) ++ [.ref u]))) t' = some (.tup xs) := fun {t' xs} e => by rw [upd_ne (ne_of e sa (by intro z; cases z))]; exact e
            have eu6 := tk eu
            have etp6 := tk etp5
            have etw6 := tk etw5
            have s6 : Same H (upd H5 sd (.lst (st.map (fun y => V.ref y.1) ++ [.ref u]))) := Same.up2 s5 hsd0
            clear tk
            generalize upd H5 sd _ = H6 at *
            obtain ⟨qt', qa', qb', qc'⟩ := qq6
            have hqtl' : qt'.length = (B.part q x j).length := by rw [← qb', List.length_map]
            have hwl : (nats x.2.2).length ≤ 36 := by
              unfold nats
              rw [List.length_map]
              have := inv.len i x hx
              omega
            refine ⟨_, rfl, .inl ⟨rfl, _, SqL.of qa'⟩, _, rfl, _, rfl, _, rfl, _, rfl, Nat.le_of_ble_eq_true rfl, fun t3 ht3 => ⟨_, _, _, _, rfl, rfl, SqT.of (by rw [upd_ne (ne_of_none etw6 ht3)]; exact etw6), SqT.of upd_same, ?_, ?_, ?_, ?_⟩⟩
            · show (nats x.2.2).length + 1 ≤ sizeLine
              exact Nat.le_trans (show _ ≤ 37 by omega) (Nat.le_of_ble_eq_true rfl)
            · intro hxs
              have s7 : Same H6 (upd H6 t3 (.tup [.int (0 + (j : Nat))])) := Same.up1 ht3
              have etn : (upd H6 t3 (.tup [.int (0 + (j : Nat))])) t3 = some (.tup (nats (B.nxt x j).2.2)) := by
                rw [upd_same, hz]
                show _ = some (HO.tup (nats (x.2.2 ++ [j])))
                unfold nats at hxs ⊢
                rw [List.map_append, hxs]
                rfl
              generalize upd H6 t3 _ = H7 at *
              refine ⟨Nat.le_of_ble_eq_true rfl, fun ti hti => ?_⟩
              have s8 : Same H7 (upd H7 ti (.tup [.ref u, .int (x.2.1 : Nat), .ref t3])) := Same.up1 hti
              have eti : (upd H7 ti (.tup [.ref u, .int (x.2.1 : Nat), .ref t3])) ti = some (.tup [.ref u, .int ((B.nxt x j).2.1 : Nat), .ref t3]) := upd_same
              generalize upd H7 ti _ = H8 at *
              have s9 := Same.trans s7 s8
              have qa8 := s9 _ _ qa'
              have qc8 : ∀ y ∈ qt', ∃ tp tw, H8 y.1 = some (.tup [.ref tp, .int (y.2.2.1 : Nat), .ref tw]) ∧ H8 tp = some (tupP y.2.1) ∧ H8 tw = some (.tup (nats y.2.2.2)) := fun y hy => let ⟨p1, w1, e1, e2, e3⟩ := qc' y hy; ⟨p1, w1, s9 _ _ e1, s9 _ _ e2, s9 _ _ e3⟩
              have tk : ∀ {t' xs}, H8 t' = some (.tup xs) → (upd H8 qd (.lst (qt'.map (fun y => V.ref y.1) ++ [.ref ti]))) t' = some (.tup xs) := fun {t' xs} e => by rw [upd_ne (ne_of e qa8 (by intro z; cases z))]; exact e
              refine ⟨qd, _, _, rfl, rfl, qa8, by rw [List.length_map, hqtl']; exact hpl, _, _, rfl, Same.up2 (Same.trans s6 s9) hqd, ?_, ?_, tk (s9 _ _ etp6), tk (s9 _ _ etw6)⟩
              · rw [BD.part_succ, hpsh]
                exact QQ.push (x := B.nxt x j) qa8 qb' qc8 eti (s9 _ _ eu6) (s8 _ _ etn)
              · rw [BD.part_succ, hpsh]
                exact (ssn.same s9).put qa8 (Ne.symm nqs)
            · intro _ z
              cases z
            · intro _ _ t4 ht4
              have s7 : Same H6 (upd (upd H6 t3 (.tup [.int (0 + (j : Nat))])) t4 (.tup (nats x.2.2 ++ [.int (0 + (j : Nat))]))) := (Same.up1 ht3).trans (Same.up1 ht4)
              have etn : (upd (upd H6 t3 (.tup [.int (0 + (j : Nat))])) t4 (.tup (nats x.2.2 ++ [.int (0 + (j : Nat))]))) t4 = some (.tup (nats (B.nxt x j).2.2)) := by
                rw [upd_same, hz]
                show _ = some (HO.tup (nats (x.2.2 ++ [j])))
                unfold nats
                rw [List.map_append]
                rfl
              generalize upd (upd H6 t3 (.tup [.int (0 + (j : Nat))])) t4 _ = H7 at *
              refine ⟨Nat.le_of_ble_eq_true rfl, fun ti hti => ?_⟩
              have s8 : Same H7 (upd H7 ti (.tup [.ref u, .int (x.2.1 : Nat), .ref t4])) := Same.up1 hti
              have eti : (upd H7 ti (.tup [.ref u, .int (x.2.1 : Nat), .ref t4])) ti = some (.tup [.ref u, .int ((B.nxt x j).2.1 : Nat), .ref t4]) := upd_same
              generalize upd H7 ti _ = H8 at *
              have s9 := Same.trans s7 s8
              have qa8 := s9 _ _ qa'
              have qc8 : ∀ y ∈ qt', ∃ tp tw, H8 y.1 = some (.tup [.ref tp, .int (y.2.2.1 : Nat), .ref tw]) ∧ H8 tp = some (tupP y.2.1) ∧ H8 tw = some (.tup (nats y.2.2.2)) := fun y hy => let ⟨p1, w1, e1, e2, e3⟩ := qc' y hy; ⟨p1, w1, s9 _ _ e1, s9 _ _ e2, s9 _ _ e3⟩
              have tk : ∀ {t' xs}, H8 t' = some (.tup xs) → (upd H8 qd (.lst (qt'.map (fun y => V.ref y.1) ++ [.ref ti]))) t' = some (.tup xs) := fun {t' xs} e => by rw [upd_ne (ne_of e qa8 (by intro z; cases z))]; exact e
              refine ⟨qd, _, _, rfl, rfl, qa8, by rw [List.length_map, hqtl']; exact hpl, _, _, rfl, Same.up2 (Same.trans s6 s9) hqd, ?_, ?_, tk (s9 _ _ etp6), tk (s9 _ _ etw6)⟩
              · rw [BD.part_succ, hpsh]
                exact QQ.push (x := B.nxt x j) qa8 qb' qc8 eti (s9 _ _ eu6) (s8 _ _ etn)
              · rw [BD.part_succ, hpsh]
                exact (ssn.same s9).put qa8 (Ne.symm nqs)
        · rintro σ H3 ⟨v8, v9, rfl, s3, qq, ss, _, _⟩
          have qq : QQ H3 qd (B.part q x nl) := qq
          have ss : SS H3 sd (B.part q x nl) := ss
          rw [← hBnl] at qq ss
          exact ⟨_, i + 1, _, _, _, v8, v9, by omega, rfl, inv.part okB hx B.nl (Nat.le_refl _), hstep, s3, qq, ss, Nat.le_trans hlt (BD.part_len _)⟩
      · have hres : B.bfs (i + 1) B.ini 0 = some (some x.2) := by
          rw [hbfs]
          unfold BD.bfs
          rw [hx]
          show (if B.a1 x.1.1 = B.a2 x.1.2 then _ else _) = _
          rw [if_neg (by rw [ha1, ha2]; exact hans)]
        refine ifT (nott (dF (fun z => hans (V.str.inj z)))) ⟨_, rfl, _, rfl, Nat.le_of_ble_eq_true rfl, fun u hu => ?_⟩
        exact (q0 _ _ hres).2 x.2.1 x.2.2 rfl u tw _ (Same.trans s2 (Same.up1 hu)) upd_same (by rw [upd_ne (ne_of_none etw hu)]; exact etw)
    · refine ifF (dF (by rw [hqml]; omega)) ?_
      have hres : B.bfs (i + 1) B.ini 0 = some none := by
        rw [hbfs]
        unfold BD.bfs
        rw [List.getElem?_eq_none (by omega)]
      exact (q0 _ _ hres).1 rfl _ s2
end K5


namespace LD
open PySem PySem.Spec PyProof.Rows L2
/-- the names of a lambda whose one parameter stands outside N -/
structure LamP (N : List Str) (outerS own : Scope) (par : Str) : Prop where
  kind : own.kind = .function
  co : own.isCoroutine = false
  gen : own.isGenerator = false
  noCell : ∀ z ∈ own.names, z.2 ≠ .cell
  away : ∀ z ∈ own.names, z.2 = .local → z.1 ∉ N
  par : own.names.lookup par = some .local
  free : ∀ z ∈ own.names, z.2 = .free → outerS.names.lookup z.1 = some .cell ∨ outerS.names.lookup z.1 = some .free
theorem LamP.cells {X : Cx} {own : Scope} {N : List Str} {par : Str} (L : LamP N X.env.scope own par) (ok : X.Ok) : ∀ z ∈ own.names, z.2 = .free → ∃ c, X.env.cells.lookup z.1 = some c := by
  intro z hz hfr
  cases L.free z hz hfr with
  | inl k => exact ok.has _ (Or.inl k)
  | inr k => exact ok.has _ (Or.inr k)
def fnObj (q : Str) (params : Arguments) (body : Expr) (own : Scope) (cl : List (Str × Addr)) (dT : Addr) (doc pm : Value) (cd : Addr) (ct : Value) : Obj :=
  PySem.W.kdv_obj "<lambda>" q params (.expr body) own cl (.ref dT) doc pm cd ct
section
variable {X : Cx} {pins : List (Addr × Obj)} {σ : L2.St} {H HZ : Hp} {s sZ : Shared}
theorem make1 {tabs : List (Addr × Str)} {cd0 tb : Addr} {params : Arguments} {body : Expr} {own : Scope} {at_ : Pos} {dflt : Expr} {E : Value → Shared → Prop} {Q : Value → Shared → Prop}
    (inv : Inv X pins σ H s) (TB : LamX.TabB X.base X.mg cd0 tb) (codeE : X.env.code = .ref cd0) (inT : (tb, X.env.qual ++ "<lambda>") ∈ tabs) (oneT : ∀ p ∈ tabs, p.1 = tb → p.2 = X.env.qual ++ "<lambda>") (hT : LamX.Tabs tabs H)
    (dE : defaultsOf params X.env = (evalEach [dflt] X.env, [])) (dC : dflt.isPlainConst = true) (kwE : params.kwonlyargs = []) (cellE : ∀ z ∈ own.names, z.2 = .free → ∃ c, X.env.cells.lookup z.1 = some c)
    (go : ∀ (f cd dT : Addr) (dv pm ctv doc : Value) (H1 : Hp) (s' : Shared), Inv X pins σ H1 s' → LamX.ExtN H H1 → LamX.Tabs tabs H1 →
      s'.heap.get? f = some (fnObj (X.env.qual ++ "<lambda>") params body own (cloFrom X.env.cells own.names []) dT doc pm cd ctv) → s'.heap.get? dT = some (PySem.W.kdv_tup [dv]) → H1 f = none → H1 dT = none → f ∉ frs X.stack → dT ∉ frs X.stack →
      H1 cd = some (LamX.CodeO cd (X.env.qual ++ "<lambda>")) → Q (.ref f) s') :
    wpAny (model X.prog X.w) X.A (eval (.Lambda params body own at_) X.env) Q E s := by
  rw [arm_eval_Lambda, dE]
  refine wpAny_bind (wpAny_evalAll_consts [dflt] s _ (fun e he => by rw [List.mem_singleton.mp he]; exact dC) fun vs tk0 hvs => ?_)
  obtain ⟨dv, rfl⟩ : ∃ dv, vs = [dv] := by
    cases vs with
    | nil => exact False.elim hvs
    | cons v r =>
      cases r with
      | nil => exact ⟨v, rfl⟩
      | cons _ _ => exact False.elim hvs.2
  refine wpAny_bind (wpAny_holding (wpAny_pure ?_))
  rw [makeFunction_eq, kwE]
  simp only [List.zip_nil_left, List.filterMap_nil, List.isEmpty_nil, List.isEmpty_cons, Bool.false_eq_true, if_true, if_false, pure_bind]
  refine wpAny_bind (wpAny_newTextTuple ?_)
  have grow : ∀ b o, s.heap.get? b = some o → (s.heap.push (PySem.W.kdv_tup [dv])).get? b = some o := fun b o e => Heap.get?_push_of_some _ e
  have inv2 : Inv X pins σ H { s with heap := s.heap.push (PySem.W.kdv_tup [dv]), toks := tk0 } := inv.kept grow
  obtain ⟨ps, tabE, tri, among⟩ := hT _ inT
  have bP : (s.heap.push (PySem.W.kdv_tup [dv])).BuiltinsAt X.mg tb := TB.bm.keeps inv2.bk
  have tabR : (s.heap.push (PySem.W.kdv_tup [dv])).get? tb = some { cls := .none, data := .fields ps } := inv2.hok tb _ tabE
  have tabS : s.heap.get? tb = some { cls := .none, data := .fields ps } := inv.hok tb _ tabE
  have noT : H s.heap.objs.size = none := inv.hok.fresh (Nat.le_refl _)
  have outF : ∀ f, s.heap.objs.size ≤ f → f ∉ frs X.stack := by
    intro f hf z
    cases List.mem_cons.mp (inv.stkSub _ z) with
    | inl e =>
      have h1 := inv.lt
      rw [← e] at h1
      exact Nat.lt_irrefl _ (Nat.lt_of_lt_of_le h1 hf)
    | inr e => exact inv.nofs hf e
  have szT : (s.heap.push (PySem.W.kdv_tup [dv])).objs.size = s.heap.objs.size + 1 := Heap.size_push ..
  have getT : (s.heap.push (PySem.W.kdv_tup [dv])).get? s.heap.objs.size = some (PySem.W.kdv_tup [dv]) := Heap.get?_push_size _ rfl
  have tbLt : tb < s.heap.objs.size := Heap.lt_size tabS
  have tbne : s.heap.objs.size ≠ tb := Nat.ne_of_gt tbLt
  cases found : codeAmong at_ ps.toList with
  | some cv =>
    obtain ⟨cd, rfl, cdO⟩ := among at_ cv found
    refine PySem.W.kdv_makeTailHit (mg := X.mg) (c := cd0) (P := tb) (ps := ps) (closure_ok cellE) inv.ok.glob (inv.mod.glob.keeps inv2.bk) codeE (TB.code.keeps inv2.bk) tabR tri found bP fun ctv doc h' tk kp sz => ?_
    have sz : s.heap.objs.size + 1 ≤ h'.objs.size := szT ▸ sz
    refine go h'.objs.size cd s.heap.objs.size dv ((X.mg "__name__").getD .none) ctv doc H _ (inv.kept fun b o e => Heap.get?_push_of_some _ (kp b o (grow b o e))) (LamX.ExtN.refl H) hT (Heap.get?_push_size _ rfl) (Heap.get?_push_of_some _ (kp _ _ getT))
      (inv.hok.fresh (by omega)) noT (outF _ (by omega)) (outF _ (Nat.le_refl _)) cdO
  | none =>
    refine PySem.W.kdv_makeTail (mg := X.mg) (c := cd0) (P := tb) (ps := ps) (closure_ok cellE) inv.ok.glob (inv.mod.glob.keeps inv2.bk) codeE (TB.code.keeps inv2.bk) tabR tri found TB.gP bP fun cd ctv doc h' tk ext ge lt rec tab' => ?_
    obtain ⟨cd2, oc, flds, t, e2, hoc, hd, hv⟩ := rec
    cases e2
    have ge : s.heap.objs.size + 1 ≤ cd := szT ▸ ge
    have noC : H cd = none := inv.hok.fresh (by omega)
    have inv3 := LamX.inv_table (c := cd) (q := X.env.qual ++ "<lambda>") (t' := tk) (more := #[rawInt at_.line, rawInt at_.col, .ref cd])
      (h' := h'.push (fnObj (X.env.qual ++ "<lambda>") params body own (cloFrom X.env.cells own.names []) s.heap.objs.size doc ((X.mg "__name__").getD .none) cd ctv)) inv tabE
      (fun b o hb e => Heap.get?_push_of_some _ (ext b o hb (grow b o e))) (Heap.get?_push_of_some _ tab') (by omega) ⟨oc, flds, t, Heap.get?_push_of_some _ hoc, hd, hv⟩
    have stay : LamX.ExtN H (upd (upd H tb (.tbl (ps ++ #[rawInt at_.line, rawInt at_.col, .ref cd]))) cd (LamX.CodeO cd (X.env.qual ++ "<lambda>"))) := fun b o e n => by
      rw [upd_ne (ne_of_none e noC), upd_ne (fun z => n ps (Option.some.inj (e.symm.trans (by rw [z]; exact tabE))))]
      exact e
    have asL : (ps ++ #[rawInt at_.line, rawInt at_.col, .ref cd]).toList = ps.toList ++ [rawInt at_.line, rawInt at_.col, .ref cd] := by simp
    have freshAt : ∀ b, H b = none → b ≠ cd → b ≠ tb → upd (upd H tb (.tbl (ps ++ #[rawInt at_.line, rawInt at_.col, .ref cd]))) cd (LamX.CodeO cd (X.env.qual ++ "<lambda>")) b = none := fun b e n1 n2 => by
      rw [upd_ne n1, upd_ne n2]
      exact e
    refine go h'.objs.size cd s.heap.objs.size dv ((X.mg "__name__").getD .none) ctv doc _ _ inv3 stay (fun p hp => ?_) (Heap.get?_push_size _ rfl) (Heap.get?_push_of_some _ (ext _ _ tbne getT))
      (freshAt _ (inv.hok.fresh (by omega)) (Nat.ne_of_gt lt) (Nat.ne_of_gt (Nat.lt_of_lt_of_le tbLt (by omega)))) (freshAt _ noT (Nat.ne_of_lt (by omega)) tbne) (outF _ (by omega)) (outF _ (Nat.le_refl _)) upd_same
    by_cases same : p.1 = tb
    · rw [oneT p hp same, same]
      refine ⟨_, by rw [upd_ne (ne_of_none tabE noC), upd_same], by rw [asL]; exact PySem.TriplesOk_snoc _ _ _ _ tri, fun p2 cv hcv => ?_⟩
      rw [asL] at hcv
      cases LamX.among_app _ tri hcv with
      | inl z =>
        obtain ⟨c0, e1, e2⟩ := among p2 cv z
        exact ⟨c0, e1, stay _ _ e2 LamX.codeO_ne⟩
      | inr z => exact ⟨cd, z, upd_same⟩
    · obtain ⟨ps2, a1, a2, a3⟩ := hT p hp
      refine ⟨ps2, by rw [upd_ne (ne_of_none a1 noC), upd_ne same]; exact a1, a2, fun p2 cv hcv => ?_⟩
      obtain ⟨c0, e1, e2⟩ := a3 p2 cv hcv
      exact ⟨c0, e1, stay _ _ e2 LamX.codeO_ne⟩
/-- the body's context -/
abbrev bodyCx (X : Cx) (A : Around) (outer : List Env) (s : Shared) (H : Hp) (E : XK) (own : Scope) (f cd : Addr) : Cx := LamX.lamCx X A outer s H E own f cd
theorem start1 {A : Around} {outer : List Env} {E : XK} {own : Scope} {par : Str} {f cd : Addr} {h1 : Heap} {tk : Nat} {m : Str → Option Value} (inv : Inv X pins σ H s) (L : LamP X.N X.env.scope own par) (e0 : Env0 X.prog X.w X.K X.mg X.base A outer sZ HZ)
    (quiet : A.handled = none) (un : Un (frs X.stack) [] H HZ s.heap sZ.heap) (ns : h1.Ns sZ.heap.objs.size m) (kp : ∀ b o, sZ.heap.get? b = some o → h1.get? b = some o) :
    Inv (LamX.lamCx X A outer sZ HZ E own f cd) [] σ HZ { sZ with heap := h1, toks := tk } := by
  have have_ := L.cells inv.ok
  have outerCell : ∀ {y c}, (cloFrom X.env.cells own.names []).lookup y = some c → X.env.cells.lookup y = some c := by
    intro y c e
    cases cloFrom_mem (PySem.mem_of_lookup e) with
    | inl hm => exact absurd hm (List.not_mem_nil)
    | inr hm =>
      obtain ⟨hn, hcE⟩ := hm
      obtain ⟨c1, hc1⟩ := have_ _ hn rfl
      have hc1 : X.env.cells.lookup y = some c1 := hc1
      rw [hc1, show c = c1 by rw [hcE, hc1] <;> rfl]
  have freeCell : ∀ {y}, own.names.lookup y = some .free → ∃ c, (cloFrom X.env.cells own.names []).lookup y = some c := fun {y} hl =>
    mem_lookup (cloFrom_has (cells := X.env.cells) (acc := []) (show (y, NameKind.free) ∈ own.names from PySem.mem_of_lookup hl))
  have isCell : ∀ {c : Addr} {v : Option Value}, H c = none → s.heap.IsCell c v → h1.IsCell c v := by
    intro c v n hc
    obtain ⟨o, ho, hd⟩ := hc
    obtain ⟨sl, q⟩ := un.any ho n (by simp)
    exact ⟨_, kp _ _ q, hd⟩
  have noEx : ∀ b : Addr, b ∉ (LamX.lamCx X A outer sZ HZ E own f cd).ex := fun b z => absurd (show b ∈ ([] : List Addr) from z) (List.not_mem_nil)
  refine ⟨⟨e0.mod, L.kind, rfl, rfl, Nat.le_refl _, fun y z c e1 e2 => inv.ok.inj y z c (outerCell e1) (outerCell e2), fun y hy => ?_, fun y c z _ => ?_, fun _ => quiet, Around.frames_deeper e0.frames, .inr ⟨rfl, rfl⟩, fun b z => absurd z (noEx b), e0.bs, e0.bsz,
      fun b _ _ => noEx b, fun b z => absurd z (noEx b), e0.funs, e0.frf⟩, rfl, e0.bare, Un.kept kp, ⟨_, ns, fun i y v e1 e2 e3 => ?_⟩, fun y c e => ?_, e0.hok.fresh (Nat.le_refl _), fun y c e => ?_,
    fun q hq => absurd (show q ∈ ([] : List (Addr × Obj)) ++ [] from hq) (by simp), e0.hok.kept kp, inv.len⟩
  · cases (show own.names.lookup y = some .cell ∨ own.names.lookup y = some .free from hy) with
    | inl h => exact absurd rfl (L.noCell _ (PySem.mem_of_lookup h))
    | inr h => exact freeCell h
  · exact absurd (show false = true from z) (by decide)
  · have e1 : X.N[i]? = some y := e1
    cases (show Vis own y from e3) with
    | inl h => exact absurd (List.mem_of_getElem? e1) (L.away _ (PySem.mem_of_lookup h) rfl)
    | inr h =>
      cases h with
      | inl h => exact absurd rfl (L.noCell _ (PySem.mem_of_lookup h))
      | inr h =>
        obtain ⟨mm, hn, hl⟩ := inv.loc
        have kinds := L.free _ (PySem.mem_of_lookup h) rfl
        obtain ⟨w1, r, q⟩ := hl i y v e1 e2 (kinds.elim (fun z => .inr (.inl z)) (fun z => .inr (.inr z)))
        obtain ⟨c2, h2⟩ := freeCell h
        refine ⟨w1, r, .inr ⟨.inr h, c2, h2, ?_⟩⟩
        have c1 := outerCell h2
        rcases q with ⟨isL, _⟩ | ⟨_, c3, e4, z⟩
        · have isL : X.env.scope.names.lookup y = some .local := isL
          exact kinds.elim (fun z => by rw [show X.env.scope.names.lookup y = _ from z] at isL; cases isL) (fun z => by rw [show X.env.scope.names.lookup y = _ from z] at isL; cases isL)
        · rw [c1] at e4
          cases e4
          exact isCell (inv.freeC y _ c1) z
  · obtain ⟨w1, z⟩ := inv.cell y c (outerCell e)
    exact ⟨w1, isCell (inv.freeC y c (outerCell e)) z⟩
  · obtain ⟨v, o, ho, hd⟩ := inv.cell y c (outerCell e)
    exact un.free c o ho (inv.freeC y c (outerCell e)) (by simp)
/-- the def that got the lambda calls it: its context was entered at s -/
theorem act1 {CXg : CXT} {Eg : XK} {Ng : List Str} {qg : Str} {sg : Scope} {g f cd dT : Addr} {cdg dv pm doc ctv : Value} {params : Arguments} {body : Expr} {own : Scope} {par : Str} {k i : Nat} {a : Str} {pn : List (Addr × Obj)} {xe : Value → Shared → Prop} {W : WX} {E : XK} {tb : TE} {p1 p2 : Pos}
    (inv : Inv X pins σ H s) (L : LamP X.N X.env.scope own par) (fO : s.heap.get? f = some (fnObj (X.env.qual ++ "<lambda>") params body own (cloFrom X.env.cells own.names []) dT doc pm cd ctv)) (tO : s.heap.get? dT = some (PySem.W.kdv_tup [dv])) (fN : H f = none) (tN : H dT = none)
    (fF : f ∉ frs X.stack) (tF : dT ∉ frs X.stack)
    (bind : ∃ kk : Option (Array Value) → Sem (List (Str × Value)), bindArgs (PySem.W.kdv_fn "<lambda>" (X.env.qual ++ "<lambda>") params (.expr body) own (cloFrom X.env.cells own.names []) (.ref dT) doc pm (.ref cd) ctv) ⟨[], []⟩ = seqItems? (.ref dT) >>= kk ∧ kk (some #[dv]) = pure [(par, dv)])
    (tk : Takes ((cxOf CXg X.prog X.w X.K X.mg X.base Ng qg sg g cdg X.A X.stack s H Eg).tr pn xe) W) (hW : ∀ cls d σ' H', E cls d H' → W cls d σ' H') (hr : Room (k + 1) (X.A.deeper (envOfC qg sg s.heap.objs.size g cdg)))
    (hbody : ∀ (A : Around) (outer : List Env) (s : Shared) (H : Hp), Room k (A.deeper (LamX.lamEnv X own s.heap.objs.size f cd)) → PE (LamX.lamCx X A outer s H E own f cd) body tb)
    (hN : Ng[i]? = some a) (hv : Vis sg a) (d1 : (a == ("__debug__" : Str)) = false := by decide) (d2 : (a == ("__classdict__" : Str)) = false := by decide) :
    PE ((cxOf CXg X.prog X.w X.K X.mg X.base Ng qg sg g cdg X.A X.stack s H Eg).tr pn xe) (.Call (.Name a p1) [] [] p2)
      (fun σZ HZ Q => σZ[i]? = some (some (.ref f)) ∧ HZ cd = some (LamX.CodeO cd (X.env.qual ++ "<lambda>")) ∧ tb σ HZ Q) := by
  constructor
  intro pinsZ s0 σZ HZ Q invZ h
  obtain ⟨atI, codeH, toB⟩ := h
  refine wpAny_Call_Name_kw (thn ((pe_var (pos := p1) (i := i) hN hv d1 d2).run pinsZ s0 σZ HZ (fun v H1 => v = .ref f ∧ H1 = HZ) invZ ⟨.ref f, atI, rfl, rfl⟩) fun u s1 got => ?_)
  obtain ⟨v, H1, inv1, rv, ev, eH⟩ := got
  subst ev
  rw [eH] at inv1
  obtain rfl : u = Value.ref f := rv
  have fO1 := inv1.base.keep f _ fO fN fF (fun z => nomatch (show f ∈ ([] : List Addr) from z))
  have tO1 := inv1.base.keep dT _ tO tN tF (fun z => nomatch (show dT ∈ ([] : List Addr) from z))
  have un : Un (frs X.stack) [] H HZ s.heap s1.heap := inv1.base
  refine PySem.W.callWith_F0 ⟨_, _, _, _, fO1⟩ ?_
  obtain ⟨⟨oc, flds, t, hoc, hdc, hvc⟩, _, _⟩ := inv1.hok cd _ codeH
  obtain ⟨kk, b1, b2⟩ := bind
  have called : codeAny (model X.prog X.w) (X.A.deeper (envOfC qg sg s.heap.objs.size g cdg)) (.call (.ref f) ⟨[], []⟩) (CR (L2.CX X.prog X.w) (envOfC qg sg s.heap.objs.size g cdg :: X.stack) X.prog X.w HZ s1 Q E) s1 := by
    refine PySem.W.kla_callFunE hr.depth fO1 rfl L.co L.gen rfl ⟨cd, oc, flds, t, rfl, hoc, hdc, hvc⟩ ?_
    refine BindsTo.of_defaults (T := dT) (items := #[dv]) (n := 0) (k := kk) rfl tO1 rfl b1 b2 _ _ _ _ ?_
    refine wpAny_newFunctionEnv (fun y hy => L.noCell y hy) (fun y hy => by rw [List.mem_singleton.mp hy]; exact L.par) (fun h1 ns sb => ⟨inv1.nolimit.fresh _ sb, ?_⟩) L.kind
    show codeAny _ _ (.expr body (LamX.lamEnv X own s1.heap.objs.size f cd)) _ _
    have kp : ∀ b o, s1.heap.get? b = some o → h1.get? b = some o := fun b o e => sb.extBut b o (Nat.ne_of_lt (Heap.lt_size e)) (Heap.get?_push_of_some _ e)
    have J := start1 (E := E) (f := f) (cd := cd) (tk := s1.toks + 1) inv L inv1.env0 hr.hd un ns kp
    refine PySem.W.kla_codeExpr (wpAny_mono ((hbody _ _ s1 HZ (hr.deeper _)).run [] _ _ HZ Q J toB) (fun v s2 hq => ?_) fun e s2 hq => hq)
    obtain ⟨w1, H2, J2, rv2, q⟩ := hq
    exact ⟨w1, H2, J2.os, J2.bare, J2.base, J2.hok, rv2, q⟩
  have pass : Passes (L2.CX X.prog X.w) ((cxOf CXg X.prog X.w X.K X.mg X.base Ng qg sg g cdg X.A X.stack s H Eg).tr pn xe) E := passes_call tk hW
  refine wpAny_call (codeAny_mono called fun r s2 hq => ?_)
  match r, hq with
  | .error e, hq => exact pass pinsZ σZ HZ s1 e s2 inv1 hq
  | .ok (.ret u), hq => exact inv1.after hq
  | .ok .next, hq => exact hq.elim
  | .ok .brk, hq => exact hq.elim
  | .ok .cont, hq => exact hq.elim
end
section
variable {X : Cx}
/-- x(lambda par=const: body) -/
theorem lamcall1 {tabs : List (Addr × Str)} {TT : (XK → Hp → VK → Prop) → Hp → VK → Prop} {x a : Str} {g cd0 tb : Addr} {k : Nat} {pg : Arguments} {bg : List Stmt} {sg : Scope} {dV kV doc pm cdv ct oc : Value} {an od : Option Addr} {osl : Array (Option Value)} {Ng : List Str}
    {params : Arguments} {body : Expr} {own : Scope} {par : Str} {dflt : Expr} {t : XK → TE} {p lpos pos : Pos} (hg : Gl X x) (hm : X.mg x = some (.ref g)) (hk : PySem.W.keepIn X.K (.ref g) = true)
    (lk : X.K.lookup g = some ⟨oc, od, .func (PySem.W.fnOf x x pg bg sg dV kV doc pm an cdv ct), osl⟩) (hcg : PySem.W.codeIn X.K cdv x = true) (hb : L2.Binds X.K (PySem.W.fnOf x x pg bg sg dV kV doc pm an cdv ct) [a] []) (Sg : FnScope Ng [a] sg) (hNg : Ng[0]? = some a) (hva : Vis sg a)
    (gives : LamX.GivesTo X Ng x sg g cdv bg a (X.env.qual ++ "<lambda>") TT)
    (TB : LamX.TabB X.base X.mg cd0 tb) (codeE : X.env.code = .ref cd0) (inT : (tb, X.env.qual ++ "<lambda>") ∈ tabs) (oneT : ∀ p ∈ tabs, p.1 = tb → p.2 = X.env.qual ++ "<lambda>") (hr : Room (k + 2) X.A) (L : LamP X.N X.env.scope own par)
    (dE : defaultsOf params X.env = (evalEach [dflt] X.env, [])) (dC : dflt.isPlainConst = true) (kwE : params.kwonlyargs = [])
    (bind : ∀ (q : Str) (cl : List (Str × Addr)) (dT : Addr) (dv doc pm cv ctv : Value), ∃ kk : Option (Array Value) → Sem (List (Str × Value)), bindArgs (PySem.W.kdv_fn "<lambda>" q params (.expr body) own cl (.ref dT) doc pm cv ctv) ⟨[], []⟩ = seqItems? (.ref dT) >>= kk ∧ kk (some #[dv]) = pure [(par, dv)])
    (hbody : ∀ (A : Around) (outer : List Env) (s : Shared) (H : Hp) (E : XK) (f cd : Addr), Room k (A.deeper (LamX.lamEnv X own s.heap.objs.size f cd)) → PE (LamX.lamCx X A outer s H E own f cd) body (t E))
    (d0 : (x == ("__debug__" : Str)) = false := by decide) (d1 : (a == ("__debug__" : Str)) = false := by decide) (d2 : (a == ("__classdict__" : Str)) = false := by decide) :
    PE X (.Call (.Name x p) [.Lambda params body own lpos] [] pos) (LamX.tLam tabs TT t) := by
  constructor
  intro pins s σ H Q inv h
  obtain ⟨hT, h⟩ := h
  refine wpAny_Call_Name_kw (ld_glob inv hg hm ?_ d0)
  refine PySem.W.callWith_K (h₀ := X.base) inv.ok.mod.kin hk ?_ (by rfl) (by rfl)
  show wpAny _ _ (spliced ((false, eval (.Lambda params body own lpos) X.env) :: backTo pos (starEach [] X.env))) _ _ s
  refine Calls.spliced_cons (make1 inv TB codeE inT oneT hT dE dC kwE (L.cells inv.ok) fun f cd dT dv pm' ctv doc' H1 s1 inv1 eN T1 fO tO fN tN fF tF cdO => ?_)
  refine Calls.spliced_nil ⟨inv1.kIn, ?_⟩
  have ran : codeAny (model X.prog X.w) X.A (.call (.ref g) ⟨[.ref f], []⟩) (CR C8.CX0 X.stack X.prog X.w H1 s1 Q C8.E0) s1 := by
    refine LamX.run_ofS (N := Ng) (ps := [a]) (us := [.ref f]) (vs := [.ref f]) lk hcg Sg hr inv1.env0 (hb s1 [.ref f] inv1.kIn rfl) (.cons rfl .nil) rfl fun hr2 => ?_
    obtain ⟨t1, ht1, hq1⟩ := gives f cd s1 H1 Q (fun E H2 Q2 => t E σ H2 Q2) (fun W pn xe E p1 p2 tk hW => act1 (i := 0) inv1 L fO tO fN tN fF tF (bind _ _ _ _ _ _ _ _) tk hW hr2 (fun A outer s H hr3 => hbody A outer s H E f cd hr3) hNg hva d1 d2) cdO (h H1 eN T1)
    exact ⟨t1, ht1.nox, hq1⟩
  refine wpAny_call (codeAny_mono ran fun r s2 hq => ?_)
  match r, hq with
  | .error e, hq => exact (show False from hq).elim
  | .ok (.ret u), hq => exact inv1.after hq
  | .ok .next, hq => exact hq.elim
  | .ok .brk, hq => exact hq.elim
  | .ok .cont, hq => exact hq.elim
end
end LD

namespace K5
open PySem PySem.Spec PyProof.Rows L2
abbrev NLaw : List Str := ["_law_script", "_law_pen_here", "_law_turn", "_law_letters_here", "_law_pool", "_law_one", "_law_two", "_law_first_here", "_law_second", "_law_due", "_law_told", "_law_history_here", "_law_other", "_law_wider", "_law_row"]
def TRef (K : PySem.W.Frag) (CS : Addr) : (XK → Hp → VK → Prop) → Hp → VK → Prop := fun tl H Q =>
  tl (fun cls _ H' => PySem.W.exmOne K cls (.ref CS) = some true ∧ Q (.bl true) H') H fun _ H' => Q (.bl false) H'
theorem refused_gives {X : Cx} {g : Addr} {cdg : Value} {q : Str} {CS : Addr} (hme : X.mg ("OtherLetters" : Str) = some (.ref CS)) :
    LamX.GivesTo X ["_law_deed"] "_law_is_refused" (defScope s_law_is_refused) g cdg (defBody s_law_is_refused) "_law_deed" q (TRef X.K CS) := by
  intro f cd s H Q tl act hc h
  have hgl : Gl (cxOf C8.CX0 X.prog X.w X.K X.mg X.base ["_law_deed"] "_law_is_refused" (defScope s_law_is_refused) g cdg X.A X.stack s H C8.E0).nox "OtherLetters" := rfl
  refine ⟨_, pss_cons (ps_try_only (X := (cxOf C8.CX0 X.prog X.w X.K X.mg X.base ["_law_deed"] "_law_is_refused" (defScope s_law_is_refused) g cdg X.A X.stack s H C8.E0).nox) (c := .ref CS)
      (tb := fun W D σ H => ∃ Ech : XK, (∀ cls d σ' H', Ech cls d H' → W cls d σ' H') ∧ σ[0]? = some (some (.ref f)) ∧ H cd = some (LamX.CodeO cd q) ∧ tl Ech H (fun _ H' => D.nx σ H'))
      rfl rfl ⟨hgl, by decide, .inl hme⟩ LamX.takes0 (fun W pn xe tk _ => pss_one ?_) (fun a oe cls d pn _ _ => pss_one (ps_ret pe_bl))) (pss_one (ps_ret pe_bl)), ?_⟩
  · constructor
    intro pins s2 σ H2 D I h2
    obtain ⟨Ech, hW, h3, h4, h5⟩ := h2
    exact (ps_expr (act W pn xe Ech _ _ tk hW)).run pins s2 σ H2 D I ⟨h3, h4, h5⟩
  · exact ⟨fun cls _ H2 => PySem.W.exmOne X.K cls (.ref CS) = some true ∧ Q (.bl true) H2, fun cls d σ2 H2 e => ⟨true, e.1, fun _ a _ => e.2, fun z => Bool.noConfusion z⟩, rfl, hc, h⟩
abbrev lawCx (P : Program) (w : World) (K : PySem.W.Frag) (mg : Str → Option Value) (base : Heap) (f : Addr) (cdv : Value) (A : Around) (outer : List Env) (s : Shared) (H : Hp) (E : XK) : Cx :=
  cxOf (L2.CX P w) P w K mg base NLaw "law" (defScope s_law) f cdv A outer s H E
abbrev qLam : Str := (("law" : Str) ++ (".<locals>." : Str)) ++ ("<lambda>" : Str)
section
variable {P : Program} {w : World} {K : PySem.W.Frag} {mg : Str → Option Value} {base : Heap} {fl c tb : Addr} {A : Around} {outer : List Env} {s : Shared} {H : Hp} {E : XK} {i j : Nat} {x y a : Str} {p1 p2 p3 p6 p7 : Pos} {c1 c2 c3 c4 : Nat}
def apT (K : PySem.W.Frag) (i j : Nat) : XK → TE := fun E => tMethG (He.ga K "Machine") "apart" (sp_apart K) E (tVar i) (tCons (tVar j) tNil)
theorem refused0 (T : Tx K mg) (TB : LamX.TabB base mg c tb) (hr : Room 9 (A.deeper (envOfC "law" (defScope s_law) s.heap.objs.size fl (.ref c)))) (scope : Scope)
    (L : LamX.lamSB (defScope s_law) scope = true) (hx : NLaw[i]? = some x) (hy : NLaw[j]? = some y) (vx : Vis scope x) (vy : Vis scope y) (d1 : (x == ("__debug__" : Str)) = false) (d2 : (x == ("__classdict__" : Str)) = false) (d3 : (y == ("__debug__" : Str)) = false) (d4 : (y == ("__classdict__" : Str)) = false) :
    PE (lawCx P w K mg base fl (.ref c) A outer s H E) (.Call (.Name "_law_is_refused" p1) [.Lambda ⟨[], [], none, [], [], none, []⟩ (.Call (.Attribute (.Name x p2) "apart" ⟨424, c1, 424, c2⟩) [.Name y p3] [] ⟨424, c3, 424, c4⟩) scope p6] [] p7)
      (LamX.tLam [(tb, qLam)] (TRef K (CO K)) (apT K i j)) := by
  obtain ⟨fd, F⟩ := T.d_law_is_refused
  have B : Binds K fd ["_law_deed"] [] := F.bindsN (fun _ _ _ _ _ _ us hl => match us, hl with | [_], _ => rfl)
  have hk := F.kp
  obtain ⟨oc, od, dV, kV, doc, pm, an, cdv, ct, osl, rfl, lk, hcd, _, _⟩ := F.ex
  refine LamX.pe_lamcall (k := 7) (X := lawCx P w K mg base fl (.ref c) A outer s H E) (a := "_law_deed") (Ng := ["_law_deed"]) rfl T.g_law_is_refused hk lk hcd B sc_law_is_refused rfl (Or.inl rfl) (refused_gives T.g_OtherLetters) TB rfl (List.mem_singleton.mpr rfl) (fun p hp _ => by rw [List.mem_singleton.mp hp]; rfl) hr
    (LamX.lamS_by L) rfl (fun _ _ _ _ _ => rfl) fun A2 outer2 s2 H2 E2 f2 c2 hr2 => ?_
  exact pe_methG (pe_var hx vx d1 d2) T.cl_Machine (MG_Machine_apart T) (hr2.mono (by decide)) (passes_call (takes_of rfl rfl rfl rfl) fun _ _ _ _ h => h) (pa_cons (pe_var hy vy d3 d4) pa_nil)
theorem refused1 (T : Tx K mg) (TB : LamX.TabB base mg c tb) (hr : Room 9 (A.deeper (envOfC "law" (defScope s_law) s.heap.objs.size fl (.ref c)))) (scope : Scope) {p8 p9 : Pos} {n10 : Nat}
    (L : LD.LamP NLaw (defScope s_law) scope "_law_a") (hx : NLaw[i]? = some x) (hy : NLaw[j]? = some y) (vx : Vis scope x) (vy : Vis scope y) (d1 : (x == ("__debug__" : Str)) = false) (d2 : (x == ("__classdict__" : Str)) = false) (d3 : (y == ("__debug__" : Str)) = false) (d4 : (y == ("__classdict__" : Str)) = false) :
    PE (lawCx P w K mg base fl (.ref c) A outer s H E) (.Call (.Name "_law_is_refused" p1) [.Lambda ⟨[], [⟨"_law_a", none, p8⟩], none, [], [], none, [.Constant (.int 1) n10 p9]⟩ (.Call (.Attribute (.Name x p2) "apart" ⟨424, c1, 424, c2⟩) [.Name y p3] [] ⟨424, c3, 424, c4⟩) scope p6] [] p7)
      (LamX.tLam [(tb, qLam)] (TRef K (CO K)) (apT K i j)) := by
  obtain ⟨fd, F⟩ := T.d_law_is_refused
  have B : Binds K fd ["_law_deed"] [] := F.bindsN (fun _ _ _ _ _ _ us hl => match us, hl with | [_], _ => rfl)
  have hk := F.kp
  obtain ⟨oc, od, dV, kV, doc, pm, an, cdv, ct, osl, rfl, lk, hcd, _, _⟩ := F.ex
  refine LD.lamcall1 (k := 7) (X := lawCx P w K mg base fl (.ref c) A outer s H E) (a := "_law_deed") (Ng := ["_law_deed"]) (par := "_law_a") rfl T.g_law_is_refused hk lk hcd B sc_law_is_refused rfl (Or.inl rfl) (refused_gives T.g_OtherLetters) TB rfl (List.mem_singleton.mpr rfl) (fun p hp _ => by rw [List.mem_singleton.mp hp]; rfl) hr
    L rfl rfl rfl (fun _ _ _ _ _ _ _ _ => ⟨_, rfl, rfl⟩) fun A2 outer2 s2 H2 E2 f2 c2 hr2 => ?_
  exact pe_methG (pe_var hx vx d1 d2) T.cl_Machine (MG_Machine_apart T) (hr2.mono (by decide)) (passes_call (takes_of rfl rfl rfl rfl) fun _ _ _ _ h => h) (pa_cons (pe_var hy vy d3 d4) pa_nil)
end
end K5

namespace K5
open PySem PySem.Spec PyProof.Rows L2
section
variable {X : Cx} {C : Addr} {sp : Sp} {E : XK} {k i : Nat} {x : Str} {p pos : Pos} {e : Expr} {es : List Expr} {t : TA}
theorem callee_inst {M : Model} {A : Around} {EE : Value → Shared → Prop} {s : Shared} {ps : Pos} {y : Addr} {Q : Value → Shared → Prop} {xs : List (Bool × Sem Value)} (plain : xs.any (·.1) = false)
    (h : wpAny M A (evalArgs (.ref y) true xs []) (fun a s1 => (∃ ox od, PySem.W.InstAt s1.heap y ox C od ∧ ox.data = .plain) ∧ wpAny M A (call (.ref y) a.pos a.kw) Q EE s1) EE s) :
    wpAny M A (callWith ps (.ref y) [] xs []) Q EE s := by
  unfold callWith
  refine wpAny_bind (wpAny_holding (wpAny_mono h (fun a s1 h1 => ?_) fun _ _ z => z))
  obtain ⟨⟨ox, od, J, dp⟩, h2⟩ := h1
  refine wpAny_bind (wpAny_standAt ?_)
  have pl : (xs.any (·.1) || ([] : List (Option Str × Sem Value)).any (·.1.isNone)) = false := by rw [plain]; rfl
  simp only [pl]
  refine wpAny_bind ((PySem.W.kco_keeper (M := M) J dp).here ?_)
  have go := wpAny_operateT (vs := .ref y :: (a.pos ++ a.kw.map (·.2))) h2
  exact wpAny_bind (wpAny_mono go (fun r s2 hr => wpAny_bind (wpAny_holding (wpAny_point (wpAny_pure hr)))) fun _ _ z => z)
def tCallI (i : Nat) (C : Addr) (sp : Sp) (E : XK) (t : TA) : TE := fun σ H Q => ∃ a dx fs, σ[i]? = some (some (.ref a)) ∧ H a = some (.ins C dx fs) ∧ t σ H fun vs H1 => (∃ dx fs, H1 a = some (.ins C dx fs)) ∧ sp (.ref a :: vs) H1 Q E
/-- x(e, ..) where the slot i of x holds an instance of the class at C with an own __call__ -/
theorem pe_callI (hN : X.N[i]? = some x) (hv : Vis X.env.scope x) (G : ∃ g, Meth X.K C "__call__" g ∧ PySem.W.fnIn X.K g = true ∧ FnR X.prog X.w X.K X.mg X.base (L2.CX X.prog X.w) k g sp) (hr : Room k X.A) (hx : Passes (L2.CX X.prog X.w) X E) (ha : PA X (e :: es) t)
    (d1 : (x == ("__debug__" : Str)) = false := by decide) (d2 : (x == ("__classdict__" : Str)) = false := by decide)
    (sE : starEach (e :: es) X.env = (false, eval e X.env) :: starEach es X.env := by rfl) (pE : (backTo pos (starEach es X.env)).any (·.1) = false := by rfl) : PE X (.Call (.Name x p) (e :: es) [] pos) (tCallI i C sp E t) := by
  obtain ⟨g, m, fI, F⟩ := G
  constructor
  intro pins s σ H Q I h
  obtain ⟨a, dx, fs, at1, eA, h2⟩ := h
  refine wpAny_Call_Name_kw (thn ((pe_var (pos := p) hN hv d1 d2).run pins s σ H (fun v H1 => v = .ref a ∧ H1 = H) I ⟨.ref a, at1, rfl, rfl⟩) fun u s1 got => ?_)
  obtain ⟨v, H1, I1, r1, rfl, rfl⟩ := got
  cases r1
  have run := ha.run pos pins s1 σ _ _ I1 h2
  rw [sE] at run ⊢
  refine callee_inst (C := C) (by show (false || (backTo pos (starEach es X.env)).any (·.1)) = false; rw [pE]; rfl) (PySem.Calls.evalArgs_plain (thn run fun us s2 got => ?_))
  obtain ⟨vs, H2, I2, r, ⟨dx2, fs2, e2⟩, q⟩ := got
  obtain ⟨od, J⟩ := inst_of I2 e2
  refine ⟨⟨_, _, J, rfl⟩, wpAny_call ?_⟩
  exact PySem.W.kco_code I2.kIn J rfl m.at_ m.fn fI (SlX.run_at (us := .ref a :: us) (ws := .ref a :: vs) F hr I2.env0 hx I2 (.cons rfl r) q)
end
end K5

namespace K5
open PySem PySem.Spec PyProof.Rows L2
theorem walkR_app (δ : Nat → Str → Nat) : ∀ (a b : List (Str × Nat)) (s : Nat), walkR δ (a ++ b) s = walkR δ b (walkR δ a s)
  | [], _, _ => rfl
  | r :: a, b, s => walkR_app δ a b _
theorem snoc_or {α : Type} : ∀ l : List α, l = [] ∨ ∃ (m : List α) (x : α), l = m ++ [x]
  | [] => .inl rfl
  | a :: l => by
    rcases snoc_or l with h | ⟨m, x, h⟩
    · exact .inr ⟨[], a, by rw [h]; rfl⟩
    · exact .inr ⟨a :: m, x, by rw [h]; rfl⟩
def castR (rs : List (Str × Nat)) : List (Str × Int) := rs.map fun r => (r.1, (r.2 : Int))
theorem castR_app (a b : List (Str × Nat)) : castR (a ++ b) = castR a ++ castR b := List.map_append
theorem joinS_snoc (f : List (Str × Int)) (q r : Str × Int) : joinS (f ++ [q]) r = if q.1 = r.1 then f ++ [(r.1, q.2 + r.2)] else f ++ [q] ++ [r] := by
  unfold joinS
  rw [List.getLast?_append, List.dropLast_concat]
  rfl
theorem runs_of : ∀ (n : Nat) (us : List Str), us.length = n → ∃ rs : List (Str × Nat), joinR (us.map fun u => (u, 1)) = castR rs ∧ (∀ (δ : Nat → Str → Nat) (s : Nat), walkR δ rs s = us.foldl δ s) ∧ ∀ r ∈ rs, r.1 ∈ us ∧ r.2 ≤ n
  | 0, us, h => ⟨[], by rw [List.length_eq_zero_iff.mp h]; rfl, fun δ s => by rw [List.length_eq_zero_iff.mp h]; rfl, fun r hr => by cases hr⟩
  | n + 1, us, h => by
    rcases snoc_or us with z | ⟨vs, u, z⟩
    · rw [z] at h; cases h
    · subst z
      rw [List.length_append] at h
      obtain ⟨rs, e1, e2, e3⟩ := runs_of n vs (Nat.succ.inj h)
      have up : ∀ r ∈ rs, r.1 ∈ vs ++ [u] ∧ r.2 ≤ n + 1 := fun r hr => ⟨List.mem_append_left _ (e3 r hr).1, Nat.le_succ_of_le (e3 r hr).2⟩
      have last : u ∈ vs ++ [u] := List.mem_append_right _ (List.mem_singleton.mpr rfl)
      have ej : joinR ((vs ++ [u]).map fun u => (u, (1 : Int))) = joinS (castR rs) (u, 1) := by
        rw [List.map_append, List.map_singleton, joinR_snoc, e1]
      have more : (∃ rs2, joinS (castR rs) (u, 1) = castR rs2 ∧ (∀ (δ : Nat → Str → Nat) (s : Nat), walkR δ rs2 s = δ (walkR δ rs s) u) ∧ ∀ r ∈ rs2, r.1 ∈ vs ++ [u] ∧ r.2 ≤ n + 1) := by
        rcases snoc_or rs with z | ⟨qs, q, z⟩
        · subst z
          exact ⟨[(u, 1)], rfl, fun δ s => rfl, fun r hr => by rw [List.mem_singleton.mp hr]; exact ⟨last, by omega⟩⟩
        · subst z
          have hq := e3 q (List.mem_append_right _ (List.mem_singleton.mpr rfl))
          rw [castR_app, show castR [q] = [(q.1, (q.2 : Int))] from rfl, joinS_snoc]
          by_cases eq : q.1 = u
          · refine ⟨qs ++ [(u, q.2 + 1)], ?_, fun δ s => ?_, fun r hr => ?_⟩
            · rw [if_pos eq, castR_app]
              rfl
            · rw [walkR_app, walkR_app, ← eq]
              exact itn_succ _ _ _
            · rcases List.mem_append.mp hr with hr | hr
              · exact up r (List.mem_append_left _ hr)
              · rw [List.mem_singleton.mp hr]
                exact ⟨last, Nat.succ_le_succ hq.2⟩
          · refine ⟨qs ++ [q] ++ [(u, 1)], ?_, fun δ s => ?_, fun r hr => ?_⟩
            · rw [if_neg eq, castR_app, castR_app]
              rfl
            · rw [walkR_app _ (qs ++ [q])]
              rfl
            · rcases List.mem_append.mp hr with hr | hr
              · exact up r hr
              · rw [List.mem_singleton.mp hr]
                exact ⟨last, by omega⟩
      obtain ⟨rs2, m1, m2, m3⟩ := more
      refine ⟨rs2, ej.trans m1, fun δ s => ?_, m3⟩
      rw [m2, e2, List.foldl_append]
      rfl
theorem wOf_fold {ls : List Str} (nd : ls.Nodup) (rows : List (List Nat)) : ∀ (w : List Nat) (s : Nat), (∀ l ∈ w, l < ls.length) → (wOf ls w).foldl (δR ls rows) s = w.foldl (dN rows) s
  | [], _, _ => rfl
  | l :: w, s, h => by
    have hl := h l (List.mem_cons_self ..)
    have e : ls[l]? = some (ls.getD l Str.empty) := by rw [List.getD_eq_getElem?_getD, List.getElem?_eq_getElem hl]; rfl
    show (wOf ls w).foldl (δR ls rows) (δR ls rows s (ls.getD l Str.empty)) = w.foldl (dN rows) (dN rows s l)
    rw [δR_dN nd e]
    exact wOf_fold nd rows w _ fun k hk => h k (List.mem_cons_of_mem _ hk)
theorem wOf_mem {ls : List Str} {w : List Nat} (h : ∀ l ∈ w, l < ls.length) : ∀ u ∈ wOf ls w, u ∈ ls := fun u hu => by
  obtain ⟨l, hl, rfl⟩ := List.mem_map.mp hu
  rw [List.getD_eq_getElem?_getD, List.getElem?_eq_getElem (h l hl)]
  exact List.getElem_mem _
theorem bOf_start {k : Nat} (n f : Nat) : (if bOf k = "new" then n else f) = sN n f k := by
  unfold bOf sN
  by_cases h : k = 0
  · rw [if_pos h, if_pos h, if_pos rfl]
  · rw [if_neg h, if_neg h, if_neg (by decide)]
/-- the runs of the word, and where they lead -/
theorem word_runs {ls : List Str} (nd : ls.Nodup) {w : List Nat} (h : ∀ l ∈ w, l < ls.length) (hw : w.length ≤ 1000) : ∃ rs : List (Str × Nat), joinR ((wOf ls w).map fun u => (u, 1)) = castR rs ∧ (∀ r ∈ rs, r.1 ∈ ls ∧ r.2 ≤ 1000) ∧
    ∀ (rows : List (List Nat)) (n f k : Nat), endOf ls rows n f (bOf k) rs = BD.wk (dN rows) w (sN n f k) := by
  obtain ⟨rs, e1, e2, e3⟩ := runs_of w.length (wOf ls w) (List.length_map _)
  refine ⟨rs, e1, fun r hr => ⟨wOf_mem h _ (e3 r hr).1, Nat.le_trans (e3 r hr).2 hw⟩, fun rows n f k => ?_⟩
  unfold endOf BD.wk
  rw [e2, bOf_start, wOf_fold nd rows w _ h]
end K5

namespace K5
open PySem PySem.Spec PyProof.Rows L2
abbrev loopB : List Stmt := match ((defBody s_law : List Stmt)[(1 : Nat)]? : Option Stmt) with
  | some (Stmt.For _ _ b _ _) => b
  | _ => []
theorem law_of {P : Program} {w : World} {K : PySem.W.Frag} {mg : Str → Option Value} {base : Heap} {k : Nat} {sp : Sp} {fd : FuncData} (F : FunD K "law" "law" (defArgs s_law) (defBody s_law) (defScope s_law) [] [] (He.ga K "law") fd) (len : ∀ vs H Q E, sp vs H Q E → vs.length = 1)
    (go : ∀ (A : Around) (outer : List Env) (s : Shared) (H : Hp) (vs : List V) (Q : VK) (E : XK), Room k (A.deeper (envOfC "law" (defScope s_law) s.heap.objs.size (He.ga K "law") (.ref (He.codeOf K ("law", none))))) → sp vs H Q E →
      ∃ t, PSs (lawCx P w K mg base (He.ga K "law") (.ref (He.codeOf K ("law", none))) A outer s H E) (defBody s_law) t ∧ t { nx := fun _ H' => Q .non H', rt := Q } (start NLaw vs) H) :
    (∀ (s : Shared) (u : Value), BindsTo s fd ⟨[u], []⟩ [("_law_script", u)]) ∧ FnOk P w K mg base (L2.CX P w) (k + 1) (He.ga K "law") fd ["_law_script"] sp := by
  refine ⟨fun s u => F.bindsA (ps := ["_law_script"]) (fun _ _ _ _ _ _ us hl => match us, hl with | [_], _ => rfl) s [u] rfl, ?_⟩
  obtain ⟨oc, od, dV, kV, doc, pm, an, cdv, ct, osl, rfl, lk, hcd, _, _⟩ := F.ex
  obtain ⟨c, rfl⟩ := He.codeIn_ref hcd
  have ec : He.codeOf K ("law", none) = c := He.codeOf_eq (p := ("law", none)) lk rfl
  subst ec
  exact fn_of lk hcd sc_law len fun A outer s H vs Q E hr h => go A outer s H vs Q E hr h
theorem lamP_of {N : List Str} {o m : Scope} {a : Str} (h1 : m.kind = .function) (h2 : m.isCoroutine = false) (h3 : m.isGenerator = false) (h4 : m.names.lookup a = some .local)
    (h5 : (m.names.all fun z => !decide (z.2 = .cell) && (!decide (z.2 = .local) || !N.contains z.1) && (!decide (z.2 = .free) || decide (o.names.lookup z.1 = some .cell) || decide (o.names.lookup z.1 = some .free))) = true) : LD.LamP N o m a := by
  have h : ∀ z ∈ m.names, (¬ z.2 = .cell ∧ (¬ z.2 = .local ∨ ¬ z.1 ∈ N)) ∧ ((¬ z.2 = .free ∨ o.names.lookup z.1 = some .cell) ∨ o.names.lookup z.1 = some .free) := by
    simpa [List.all_eq_true] using h5
  refine ⟨h1, h2, h3, fun z hz => (h z hz).1.1, fun z hz e => ?_, h4, fun z hz e => ?_⟩
  · rcases (h z hz).1.2 with q | q
    · exact absurd e q
    · exact q
  · rcases (h z hz).2 with (q | q) | q
    · exact absurd e q
    · exact .inl q
    · exact .inr q
abbrev TL (tb : Addr) (H : Hp) : Prop := LamX.Tabs [(tb, qLam)] H
abbrev zz : Str := "zzzzzzzzzzzz"
theorem HisO.same {K : PySem.W.Frag} {H H' : Hp} {h L : Addr} {b : Str} {rs : List (Str × Int)} (o : HisO K H h L b rs) (e : Same H H') : HisO K H' h L b rs :=
  let ⟨dx, t, tr, sz, la, h1, h2, h3, h4, h5⟩ := o
  ⟨dx, t, tr, sz, la, e _ _ h1, e _ _ h2, fun x hx => e _ _ (h3 x hx), h4, h5⟩
theorem MacO.ext {K : PySem.W.Frag} {H H' : Hp} {m L : Addr} {rows : List (List Nat)} {ans : List Str} {new found : Nat} (h : MacO K H m L rows ans new found) (e : LamX.ExtN H H') : MacO K H' m L rows ans new found :=
  let ⟨dx, tR, tA, rr, a, b, c, d, f⟩ := h
  ⟨dx, tR, tA, rr, e _ _ a (fun _ z => by cases z), e _ _ b (fun _ z => by cases z), fun x hx => e _ _ (c x hx) (fun _ z => by cases z), d, e _ _ f (fun _ z => by cases z)⟩
theorem LetO.ext {K : PySem.W.Frag} {H H' : Hp} {L : Addr} {ws : List Str} (h : LetO K H L ws) (e : LamX.ExtN H H') : LetO K H' L ws :=
  let ⟨dL, tL, eL, eT, r⟩ := h
  ⟨dL, tL, e _ _ eL (fun _ z => by cases z), e _ _ eT (fun _ z => by cases z), r⟩
theorem Pen.ext {H H' : Hp} {p c : Addr} {n : Nat} (h : Pen H p c n) (e : LamX.ExtN H H') : Pen H' p c n :=
  let ⟨cells, b, z, h1, h2, h3⟩ := h
  ⟨cells, b, z, e _ _ h1 (fun _ z => by cases z), e _ _ h2 (fun _ z => by cases z), h3⟩
section
variable {P : Program} {w : World} {K : PySem.W.Frag} {mg : Str → Option Value} {base : Heap} {fl c tb : Addr} {A : Around} {outer : List Env} {s : Shared} {H0 : Hp} {E : XK}
theorem law_tail9 (T : Tx K mg) (TB : LamX.TabB base mg c tb) (hr : Room 9 (A.deeper (envOfC "law" (defScope s_law) s.heap.objs.size fl (.ref c)))) :
    ∃ t, PSs (lawCx P w K mg base fl (.ref c) A outer s H0 E) (loopB.drop 9) t ∧ ∀ (D : Ends) (H : Hp) (p L t1 m1 pc : Addr) (v0 v2 v4 v6 v8 v9 v10 v11 v12 v13 v14 : Option V) (ls : List Str) (rows : List (List Nat)) (ans : List Str) (n1 f1 n : Nat),
      LetO K H L ls → 1 ≤ ls.length → ls.length ≤ 4 → (∀ z ∈ ls, z ≠ zz) → TriO H t1 rows ans n1 f1 → TriG ls.length rows ans n1 f1 → MacO K H m1 L rows ans n1 f1 → TL tb H → Pen H p pc n →
      (∀ H' w12 w13, TL tb H' → Pen H' p pc n → D.nx [v0, some (.ref p), v2, some (.ref L), v4, some (.ref t1), v6, some (.ref m1), v8, v9, v10, v11, w12, w13, v14] H') →
      t D [v0, some (.ref p), v2, some (.ref L), v4, some (.ref t1), v6, some (.ref m1), v8, v9, v10, v11, v12, v13, v14] H := by
  have hu := hu_of hr
  obtain ⟨fdM, FM, GM⟩ := G_Machineu_initu (P := P) (w := w) (base := base) T
  obtain ⟨mv3, KB3⟩ := kb3 FM
  refine ⟨_, (pss_cons (ps_set (i := 12) sc_law.nd rfl (by first | exact Or.inl rfl | exact Or.inr rfl) (pe_makeG (M_Letters T) (hr.mono (by decide)) rfl passL (pa_cons (pe_op op_cat (pe_callTy call_list_of rfl T.n_list (show bootBuiltins "list" = some (.type "list") by decide +kernel) (pa_cons (pe_fld (pv 3) rfl) pa_nil)) (pe_lst (pa_cons pe_str pa_nil))) pa_nil)))
    (pss_cons (ps_set (i := 13) sc_law.nd rfl (by first | exact Or.inl rfl | exact Or.inr rfl) (pe_makeK T.mk_Machine GM (hr.mono (by decide)) rfl T.g_Machine KB3 passL (pa_cons (pv 12) (pa_cons (pe_lc (own := [("_law_row", 14)]) (g := gName 14) rfl sc_law.nd (pi_list (pe_ix ix_tup (pv 5) pe_int (fun _ _ => rfl))) (blkOk_by rfl) (fun _ _ _ _ _ => (pg_name (i := 14) sc_law.nd rfl (by first | exact Or.inl rfl | exact Or.inr rfl))) (fun _ _ _ _ _ => pts_nil) (fun _ _ _ _ _ => (pe_op op_cat (pe_callTy (call_list_ofK (K := K) rfl) rfl T.n_list (show bootBuiltins "list" = some (.type "list") by decide +kernel) (pa_cons (pv 14) pa_nil)) (pe_lst (pa_cons pe_int pa_nil))))) (pa_cons (pe_ix ix_tup (pv 5) pe_int (fun _ _ => rfl)) pa_nil))) (pk_cons (pe_ix ix_list (pe_ix ix_tup (pv 5) pe_int (fun _ _ => rfl)) pe_int (fun _ _ => rfl)) (pk_cons (pe_ix ix_list (pe_ix ix_tup (pv 5) pe_int (fun _ _ => rfl)) pe_int (fun _ _ => rfl)) pk_nil))))
    (pss_one (ps_if (PW.pt (pw_or (pt_not (pt_val (refused0 T TB (hr.mono (by decide)) _ (by decide +kernel) (i := 7) (j := 13) rfl rfl (Or.inr (Or.inr rfl)) (Or.inr (Or.inr rfl)) (by decide) (by decide) (by decide) (by decide)))) (pw_or1 (pt_not (pt_val (refused1 T TB (hr.mono (by decide)) _ (lamP_of rfl rfl rfl rfl (by decide +kernel)) (i := 13) (j := 7) rfl rfl (Or.inr (Or.inr rfl)) (Or.inr (Or.inr rfl)) (by decide) (by decide) (by decide) (by decide))))))) (pss_one (ps_ret pe_bl)) pss_nil)))), ?_⟩
  intro D H p L t1 m1 pc v0 v2 v4 v6 v8 v9 v10 v11 v12 v13 v14 ls rows ans n1 f1 n oL hl1 hl4 hzz oT gT oM hT pen q
  obtain ⟨dL, tL, eL, eT, nd, h12, hls⟩ := id oL
  obtain ⟨r, a, st, rr, et, er, hrow, ej, ea, es⟩ := oT
  refine ⟨_, rfl, _, _, _, _, _, rfl, eL, T.cl_Letters, T.na_Letters_words, rfl, tL, _, rfl, .inr (SqT.of eT), fun l hl => ⟨Nat.le_of_ble_eq_true rfl, fun b hb => ?_⟩⟩
  have s1 : Same H (upd H l (.lst (ls.map V.str))) := Same.up1 hl
  have e1 : (upd H l (.lst (ls.map V.str))) l = some (.lst (ls.map V.str)) := upd_same
  generalize upd H l _ = H1 at *
  have s2 : Same H1 (upd H1 b (.lst [.str zz])) := Same.up1 hb
  have e2 : (upd H1 b (.lst [.str zz])) b = some (.lst [.str zz]) := upd_same
  generalize upd H1 b _ = H2 at *
  refine ⟨l, b, ls.map V.str, [.str zz], rfl, rfl, s2 _ _ e1, e2, by rw [List.length_map, List.length_singleton]; exact Nat.le_trans (show ls.length + 1 ≤ 13 by omega) (Nat.le_of_ble_eq_true rfl), fun d hd => ?_⟩
  have e3 : (upd H2 d (.lst (ls.map V.str ++ [.str zz]))) d = some (.lst ((ls ++ [zz]).map V.str)) := by rw [upd_same, List.map_append]; rfl
  have s3 : Same H (upd H2 d (.lst (ls.map V.str ++ [.str zz]))) := (Same.trans s1 s2).trans (Same.up1 hd)
  generalize upd H2 d _ = H3 at *
  intro x dx hx hdx ndx
  show sp_Letters_uinitu K [.ref x, .ref d] (upd (upd H3 dx (.own x)) x (.ins (CL K) dx [])) _ _
  have s4 : Same H3 (upd (upd H3 dx (.own x)) x (.ins (CL K) dx [])) := Same.up2 (Same.up1 hdx) hx
  have e4 : (upd (upd H3 dx (.own x)) x (.ins (CL K) dx [])) x = some (.ins (CL K) dx []) := upd_same
  have nxd : x ≠ d := fun z => by rw [z, e3] at hx; cases hx
  have oldx : ∀ q o, H q = some o → q ≠ x := fun q o e z => by rw [← z] at hx; rw [s3 _ _ e] at hx; cases hx
  generalize upd (upd H3 dx (.own x)) x _ = H4 at *
  have zzS : LetterS zz := Or.inl ⟨⟨by decide, by decide, fun c h => by cases h; rfl, by decide +kernel⟩, by unfold NB; decide +kernel⟩
  have nd2 : (ls ++ [zz]).Nodup := List.nodup_append.mpr ⟨nd, by simp, fun u hu v hv e => hzz u hu (e.trans (List.mem_singleton.mp hv))⟩
  refine ⟨x, d, dx, ls ++ [zz], rfl, e4, s4 _ _ e3, nxd, nd2, by simp, by rw [List.length_append, List.length_singleton]; omega, fun z hz => ?_, fun H5 k5 oX => ⟨rfl, ?_⟩⟩
  · rcases List.mem_append.mp hz with hz | hz
    · exact hls z hz
    · rw [List.mem_singleton.mp hz]; exact zzS
  have s5 : Same H H5 := fun q o e => k5 q o (oldx q o e) (s4 _ _ (s3 _ _ e))
  obtain ⟨gM, h6, hn1, hf1⟩ := gT
  subst ej
  rw [List.length_map] at h6 hn1 hf1
  have hrl : (refR rr).length = rr.length := List.length_map _
  refine ⟨_, rfl, _, rfl, _, _, _, _, rfl, rfl, SqT.of (s5 _ _ et), ix0 rfl, r, rfl, ⟨_, SqL.of (s5 _ _ er)⟩, fun D2 hD => lc_it (walk_list (xs := refR rr)) (fun i H' => Same H5 H' ∧ ∃ rr2 : List (Addr × List Nat), H' D2 = some (.lst (refR rr2)) ∧ RowL H' rr2 ∧ rr2.map (·.2) = (rr.take i).map (fun y => y.2 ++ [0]) ∧ ∀ y ∈ rr2, y.1 ≠ D2) ⟨Same.up1 hD, [], upd_same, (fun x hx => by cases hx), rfl, fun x hx => by cases hx⟩ (fun i H' _ h => Same.seqL h.1 (s5 _ _ er)) ?_ ?_⟩
  · rintro i y Hx H6 hi ⟨s6, rr2, eD, hr2, ej2, hne⟩ ⟨rfl, hx2⟩
    obtain ⟨y, hy, rfl⟩ := map_get hx2
    have hmem := List.mem_of_getElem? hy
    have hi2 : i < rr.length := (List.getElem?_eq_some_iff.mp hy).1
    have hyi : rr[i] = y := (List.getElem?_eq_some_iff.mp hy).2
    have hl2 : rr2.length = i := by
      have := congrArg List.length ej2
      rw [List.length_map, List.length_map, List.length_take] at this
      omega
    have yl : y.2.length = ls.length := (gM.2.2.1 y.2 (List.mem_map.mpr ⟨y, hmem, rfl⟩)).1
    refine ⟨rfl, _, rfl, _, _, rfl, .inl (Same.seqL s6 (s5 _ _ (hrow y hmem))), fun u hu => ⟨Nat.le_of_ble_eq_true rfl, fun v hv => ?_⟩⟩
    have s7 : Same H6 (upd H6 u (.lst (nats y.2))) := Same.up1 hu
    have e7 : (upd H6 u (.lst (nats y.2))) u = some (.lst (nats y.2)) := upd_same
    generalize upd H6 u _ = H7 at *
    have s8 : Same H7 (upd H7 v (.lst [.int 0])) := Same.up1 hv
    have e8 : (upd H7 v (.lst [.int 0])) v = some (.lst [.int 0]) := upd_same
    generalize upd H7 v _ = H8 at *
    refine ⟨u, v, nats y.2, [.int 0], rfl, rfl, s8 _ _ e7, e8, ?_, fun g hg => ⟨refR rr2, ?_, ?_, ?_, rr2 ++ [(g, y.2 ++ [0])], ?_, ?_, ?_, ?_⟩⟩
    · unfold nats
      rw [List.length_map, List.length_singleton]
      exact Nat.le_trans (show y.2.length + 1 ≤ 13 by omega) (Nat.le_of_ble_eq_true rfl)
    · rw [upd_ne (ne_of_none (s8 _ _ (s7 _ _ eD)) hg)]
      exact s8 _ _ (s7 _ _ eD)
    · unfold refR
      rw [List.length_map, hl2]
      exact Nat.lt_of_lt_of_le (show i < 7 by omega) (Nat.le_of_ble_eq_true rfl)
    · have s9 : Same H6 (upd H8 g (.lst (nats y.2 ++ [.int 0]))) := (Same.trans s7 s8).trans (Same.up1 hg)
      exact Same.up2 (Same.trans s6 s9) hD
    · rw [upd_same]
      unfold refR
      rw [List.map_append]
      rfl
    · intro z hz
      have ng : ∀ {q o}, H8 q = some o → q ≠ g := fun e => ne_of_none e hg
      rcases List.mem_append.mp hz with hz | hz
      · have ez := s8 _ _ (s7 _ _ (hr2 z hz))
        rw [upd_ne (hne z hz), upd_ne (ng ez)]
        exact ez
      · rw [List.mem_singleton.mp hz, upd_ne (Ne.symm (ng (s8 _ _ (s7 _ _ eD)))), upd_same]
        unfold nats
        rw [List.map_append]
        rfl
    · rw [List.map_append, ej2, List.take_succ_eq_append_getElem hi2, List.map_append, hyi]
      rfl
    · intro z hz
      rcases List.mem_append.mp hz with hz | hz
      · exact hne z hz
      · rw [List.mem_singleton.mp hz]
        exact Ne.symm (ne_of_none (s8 _ _ (s7 _ _ eD)) hg)
  rintro H6 ⟨s6, rr2, eD, hr2, ej2, hne⟩
  rw [hrl, List.take_length] at ej2
  have hl2 : rr2.length = rr.length := by
    have := congrArg List.length ej2
    rwa [List.length_map, List.length_map] at this
  have s56 := Same.trans s5 s6
  refine ⟨_, rfl, _, _, _, _, rfl, rfl, SqT.of (s56 _ _ et), ix1 rfl, _, rfl, _, _, _, _, rfl, rfl, SqT.of (s56 _ _ et), ix2 rfl, _, _, _, _, rfl, rfl, SqL.of (s56 _ _ es), ix0 rfl, _, rfl, _, _, _, _, rfl, rfl, SqT.of (s56 _ _ et), ix2 rfl, _, _, _, _, rfl, rfl, SqL.of (s56 _ _ es), ix1 rfl, rfl, rfl, ?_⟩
  intro m2 dx2 hm2 hdm2 ndm2
  show sp_Machineu_initu K [.ref m2, .ref x, .ref D2, .ref a, .int (n1 : Nat), .int (f1 : Nat)] (upd (upd H6 dx2 (.own m2)) m2 (.ins (CM K) dx2 [])) _ _
  have s7 : Same H6 (upd (upd H6 dx2 (.own m2)) m2 (.ins (CM K) dx2 [])) := Same.up2 (Same.up1 hdm2) hm2
  have e7 : (upd (upd H6 dx2 (.own m2)) m2 (.ins (CM K) dx2 [])) m2 = some (.ins (CM K) dx2 []) := upd_same
  have old7 : ∀ {q o}, H6 q = some o → q ≠ m2 := fun e => ne_of_none e hm2
  generalize upd (upd H6 dx2 (.own m2)) m2 _ = H7 at *
  have rows2 : rr2.map (·.2) = (rr.map (·.2)).map (· ++ [0]) := by rw [ej2, List.map_map]; rfl
  have ll : (ls ++ [zz]).length = ls.length + 1 := by rw [List.length_append]; rfl
  have gW : GoodM (ls ++ [zz]).length (rr2.map (·.2)) ans := by
    obtain ⟨g1, g2, g3, g4, g5⟩ := gM
    have hl3 : (rr2.map (·.2)).length = (rr.map (·.2)).length := by rw [List.length_map, List.length_map, hl2]
    refine ⟨by rw [hl3]; exact g1, by rw [hl3]; exact g2, fun z hz => ?_, by rw [hl3]; exact g4, g5⟩
    rw [rows2] at hz
    obtain ⟨y, hy, rfl⟩ := List.mem_map.mp hz
    obtain ⟨y1, y2⟩ := g3 y hy
    refine ⟨by rw [ll, List.length_append, y1]; rfl, fun k hk => ?_⟩
    rw [hl3]
    rcases List.mem_append.mp hk with hk | hk
    · exact y2 k hk
    · rw [List.mem_singleton.mp hk]; exact g1
  refine ⟨m2, x, D2, a, dx2, ls ++ [zz], rr2, ans, n1, f1, rfl, e7, (oX.same s6).same s7, .inl ⟨s7 _ _ eD, s7 _ _ (s56 _ _ ea)⟩, fun y hy => s7 _ _ (hr2 y hy), gW, by rw [hl2]; exact hn1, by rw [hl2]; exact hf1, fun H8 k8 oW => ⟨rfl, ?_⟩⟩
  have s8 : Same H6 H8 := fun q o e => k8 q o (old7 e) (s7 _ _ e)
  have s58 : Same H H8 := Same.trans s56 s8
  have nlW : ls ≠ ls ++ [zz] := fun e => by have := congrArg List.length e; rw [ll] at this; omega
  have gLen : (rr2.map (·.2)).length = rr.length := by rw [List.length_map, hl2]
  have gLen1 : (rr.map (·.2)).length = rr.length := List.length_map _
  have hT8 : TL tb H8 := hT.ext s58
  have oM8 := oM.same s58
  have oL8 := oL.same s58
  have oX8 := (oX.same s6).same s8
  refine ⟨hT8, fun H9 x9 hT9 => ?_⟩
  have oM9 := oM8.ext x9
  have oW9 := oW.ext x9
  have oL9 := oL8.ext x9
  have oX9 := oX8.ext x9
  obtain ⟨dM, _, _, _, eM, _⟩ := id oM9
  refine ⟨_, rfl, m1, _, _, rfl, eM, rfl, _, rfl, m1, m2, L, x, ls, ls ++ [zz], rr.map (·.2), rr2.map (·.2), ans, ans, n1, f1, n1, f1, rfl, oM9, oW9, oL9, oX9, ⟨gM, by rw [gLen1]; exact hn1, by rw [gLen1]; exact hf1, by rw [gLen1]; omega⟩, fun e => absurd e nlW, fun _ => ⟨T.exm, true, rfl, ifF rfl ?_⟩, fun e => absurd e nlW⟩
  refine ⟨hT9, fun H10 x10 hT10 => ?_⟩
  have oM10 := oM9.ext x10
  have oW10 := oW9.ext x10
  have oL10 := oL9.ext x10
  have oX10 := oX9.ext x10
  obtain ⟨dW, _, _, _, eW, _⟩ := id oW10
  refine ⟨_, rfl, m2, _, _, rfl, eW, rfl, _, rfl, m2, m1, x, L, ls ++ [zz], ls, rr2.map (·.2), rr.map (·.2), ans, ans, n1, f1, n1, f1, rfl, oW10, oM10, oX10, oL10, ⟨gW, by rw [gLen]; exact hn1, by rw [gLen]; exact hf1, by rw [gLen]; omega⟩, fun e => absurd e.symm nlW, fun _ => ⟨T.exm, true, rfl, ifF rfl ?_⟩, fun e => absurd e.symm nlW⟩
  exact q H10 _ _ hT10 (((pen.same s58).ext x9).ext x10)
theorem fnIn_of {x q : Str} {ps : Arguments} {b : List Stmt} {sc : Scope} {dvs : List V} {kws : List (Str × V)} {f : Addr} (D : ∃ fd, FunD K x q ps b sc dvs kws f fd) : PySem.W.fnIn K f = true := by
  obtain ⟨fd, F⟩ := D
  obtain ⟨oc, od, dV, kV, doc, pm, an, cdv, ct, osl, rfl, lk, _⟩ := F.ex
  unfold PySem.W.fnIn
  rw [lk]
theorem law_tail7 (T : Tx K mg) (TB : LamX.TabB base mg c tb) (hr : Room 9 (A.deeper (envOfC "law" (defScope s_law) s.heap.objs.size fl (.ref c)))) :
    ∃ t, PSs (lawCx P w K mg base fl (.ref c) A outer s H0 E) (loopB.drop 7) t ∧ ∀ (D : Ends) (H : Hp) (p L t1 m1 m2 pc : Addr) (v0 v2 v4 v6 v9 v10 v11 v12 v13 v14 : Option V) (ls : List Str) (rows : List (List Nat)) (ans : List Str) (n1 f1 : Nat) (rows2 : List (List Nat)) (ans2 : List Str) (n2 f2 n : Nat) (fu : Nat) (re : Option (Nat × List Nat)),
      LetO K H L ls → 1 ≤ ls.length → ls.length ≤ 4 → (∀ z ∈ ls, z ≠ zz) → TriO H t1 rows ans n1 f1 → TriG ls.length rows ans n1 f1 → TriG ls.length rows2 ans2 n2 f2 → MacO K H m1 L rows ans n1 f1 → MacO K H m2 L rows2 ans2 n2 f2 → TL tb H → Pen H p pc n →
      (bdOf ls.length rows ans n1 f1 rows2 ans2 n2 f2).bfs fu (bdOf ls.length rows ans n1 f1 rows2 ans2 n2 f2).ini 0 = some re → (re = none → v9 = some .non ∧ v10 = some .non) →
      (∀ k u, re = some (k, u) → ∃ d v h, v9 = some (.ref d) ∧ H d = some (.tup [.int (k : Nat), .ref v]) ∧ H v = some (.tup (nats u)) ∧ v10 = some (.ref h) ∧ HisO K H h L (bOf k) (joinR ((wOf ls u).map fun z => (z, 1)))) →
      (∀ H' w8 w9 w10 w11 w12 w13, TL tb H' → Pen H' p pc n → D.nx [v0, some (.ref p), v2, some (.ref L), v4, some (.ref t1), v6, some (.ref m1), w8, w9, w10, w11, w12, w13, v14] H') →
      t D [v0, some (.ref p), v2, some (.ref L), v4, some (.ref t1), v6, some (.ref m1), some (.ref m2), v9, v10, v11, v12, v13, v14] H := by
  have hu := hu_of hr
  have CI : ∃ g, Meth K (He.ga K "Machine") "__call__" g ∧ PySem.W.fnIn K g = true ∧ FnR P w K mg base (L2.CX P w) 5 g (sp_call K) := ⟨_, T.m_Machineu_callu, fnIn_of T.d_Machineu_callu, G_Machineu_callu T⟩
  obtain ⟨t9, pt9, h9⟩ := law_tail9 (P := P) (w := w) (outer := outer) (H0 := H0) (E := E) T TB hr
  refine ⟨_, (pss_cons (ps_if (PW.pt (pw_and (pt_cmpR op_isN (pv 9) pe_non (nomark _)) (pw_and1 (PW.pt (pw_or (pt_cmpR op_notN (pv 10) pe_non (nomark _)) (pw_or1 (pt_cmpR op_notN (pe_methG (pv 8) T.cl_Machine (MG_Machine_apart T) (hr.mono (by decide)) passL (pa_cons (pv 7) pa_nil)) pe_non (nomark _)))))))) (pss_one (ps_ret pe_bl)) pss_nil)
    (pss_cons (ps_if (pt_cmpR op_notN (pv 9) pe_non (nomark _)) (pss_cons (ps_set (i := 11) sc_law.nd rfl (by first | exact Or.inl rfl | exact Or.inr rfl) (pe_callG (G_law_history T) (hr.mono (by decide)) rfl passL (pa_cons (pv 3) (pa_cons (pe_ix ix_list (pe_lst (pa_cons pe_str (pa_cons pe_str pa_nil))) (pe_ix ix_tup (pv 9) pe_int (fun _ _ => rfl)) (fun _ _ => rfl)) (pa_cons (pe_ix ix_tup (pv 9) pe_int (fun _ _ => rfl)) pa_nil)))))
      (pss_one (ps_if (PW.pt (pw_or (pt_cmpR (op_neOwn ⟨_, T.exAt 2, T.m_Historyu_equ.fn, G_Historyu_equ T⟩ (hr.mono (by decide)) passL) (pv 10) (pv 11) (nomark _)) (pw_or (pt_cmpR (op_neOwn ⟨_, T.exAt 2, T.m_Historyu_equ.fn, G_Historyu_equ T⟩ (hr.mono (by decide)) passL) (pe_methG (pv 8) T.cl_Machine (MG_Machine_apart T) (hr.mono (by decide)) passL (pa_cons (pv 7) pa_nil)) (pv 11) (nomark _)) (pw_or1 (pt_cmpR op_eq (pe_callI (i := 7) rfl (Or.inr (Or.inl rfl)) CI (hr.mono (by decide)) passL (pa_cons (pv 10) pa_nil)) (pe_callI (i := 8) rfl (Or.inl rfl) CI (hr.mono (by decide)) passL (pa_cons (pv 10) pa_nil)) (nomark _)))))) (pss_one (ps_ret pe_bl)) pss_nil))) pss_nil)
    pt9)), ?_⟩
  intro D H p L t1 m1 m2 pc v0 v2 v4 v6 v9 v10 v11 v12 v13 v14 ls rows ans n1 f1 rows2 ans2 n2 f2 n fu re oL hl1 hl4 hzz oT gT gT2 oM oM2 hT pen hb hnone hsome q
  have swp2 : ∀ {f2' : Nat} {r' : Option (Nat × List Nat)}, (bdOf ls.length rows2 ans2 n2 f2 rows ans n1 f1).bfs f2' (bdOf ls.length rows2 ans2 n2 f2 rows ans n1 f1).ini 0 = some r' → r' = re := fun {f2' r'} e =>
    BD.bfs_det _ ((BD.bfs_swap (bdOf ls.length rows ans n1 f1 rows2 ans2 n2 f2) f2').symm.trans e) hb
  have le10 : ∀ {m : Nat}, m ≤ 6 → m ≤ 10 := fun h => by omega
  cases re with
  | none =>
    obtain ⟨rfl, rfl⟩ := hnone rfl
    obtain ⟨_, _, _, _, eM2, _⟩ := id oM2
    refine ⟨_, rfl, rfl, _, rfl, ifT (dT rfl) ⟨_, rfl, rfl, _, rfl, ifF (notf rfl) ⟨_, rfl, m2, _, _, rfl, eM2, rfl, _, rfl, m2, m1, L, L, ls, ls, rows2, rows, ans2, ans, n2, f2, n1, f1, rfl, oM2, oM, oL, oL, ⟨gT2.1, gT2.2.2.1, gT2.2.2.2, le10 gT2.2.1⟩, fun _ => ⟨gT.1, gT.2.2.1, gT.2.2.2, le10 gT.2.1⟩, fun e => absurd rfl e, fun _ f3 r3 hb3 H3 s3 => ⟨fun _ => ?_, fun k u e => ?_⟩⟩⟩⟩
    · refine ⟨rfl, _, rfl, ifF (notf rfl) ⟨_, rfl, rfl, _, rfl, ifF (notf rfl) ?_⟩⟩
      obtain ⟨r, a, st, rr, et, er, hrow, ej, ea, es⟩ := oT
      exact h9 D H3 p L t1 m1 pc _ _ _ _ _ _ _ _ _ _ _ ls rows ans n1 f1 n (oL.same s3) hl1 hl4 hzz ⟨r, a, st, rr, s3 _ _ et, s3 _ _ er, fun y hy => s3 _ _ (hrow y hy), ej, s3 _ _ ea, s3 _ _ es⟩ gT (oM.same s3) (hT.ext s3) (pen.same s3) fun H4 w12 w13 g1 g2 => q H4 _ _ _ _ _ _ g1 g2
    · rw [swp2 hb3] at e
      cases e
  | some kw =>
    obtain ⟨k, u⟩ := kw
    obtain ⟨d, v, h, rfl, ed, ev, rfl, oH⟩ := hsome k u rfl
    have okB := bdOk gT.1 gT2.1 gT.2.2.1 gT.2.2.2 gT2.2.2.1 gT2.2.2.2
    obtain ⟨k2, hlt, hul, hdiff⟩ := BD.bfs_found (B := bdOf ls.length rows ans n1 f1 rows2 ans2 n2 f2) okB _ _ _ _ _ (BD.Inv.ini okB) hb
    have hlt : ∀ l ∈ u, l < ls.length := hlt
    have hul : u.length ≤ 36 := Nat.le_trans hul (Nat.mul_le_mul gT.2.1 gT2.2.1)
    obtain ⟨dL, tL, eL, eT, nd, h12, hls⟩ := id oL
    obtain ⟨rs, er, hrs, hend⟩ := word_runs nd hlt (by omega)
    have xsK : ([V.str "new", V.str "found"] : List V)[k]? = some (.str (bOf k)) := by
      rcases k with _ | _ | k
      · rfl
      · rfl
      · omega
    have bOr : bOf k = "new" ∨ bOf k = "found" := by
      unfold bOf
      split
      · exact .inl rfl
      · exact .inr rfl
    refine ⟨_, rfl, rfl, _, rfl, ifF (dF (by intro z; cases z)) (ifF rfl ⟨_, rfl, rfl, _, rfl, ifT (nott (dF (by intro z; cases z))) ?_⟩)⟩
    refine ⟨_, rfl, Nat.le_of_ble_eq_true rfl, fun g hg => ?_⟩
    have s1 : Same H (upd H g (.lst [.str "new", .str "found"])) := Same.up1 hg
    have e1 : (upd H g (.lst [.str "new", .str "found"])) g = some (.lst [.str "new", .str "found"]) := upd_same
    generalize upd H g _ = H1 at *
    refine ⟨_, rfl, _, _, _, _, rfl, rfl, SqT.of (s1 _ _ ed), ix0 rfl, _, _, _, _, rfl, rfl, SqL.of e1, atI_nat xsK, _, rfl, _, _, _, _, rfl, rfl, SqT.of (s1 _ _ ed), ix1 rfl, L, v, bOf k, ls, u, rfl, oL.same s1, bOr, s1 _ _ ev, hlt, by omega, fun H2 h2 s2 oH2 => ?_⟩
    have s12 := Same.trans s1 s2
    have oH' := oH.same s12
    obtain ⟨dh, th, trh, szh, lah, eh, _⟩ := id oH'
    obtain ⟨dh2, th2, trh2, szh2, lah2, eh2, _⟩ := id oH2
    have oL2 := oL.same s12
    have oMa := oM.same s12
    have oMb := oM2.same s12
    obtain ⟨_, _, _, _, eM2, _⟩ := id oMb
    refine ⟨_, rfl, _, rfl, h, _, _, h2, _, _, rfl, rfl, eh, eh2, h, h2, L, L, ls, ls, bOf k, bOf k, _, _, rfl, oH', oH2, oL2, oL2, _, rfl, _, rfl, ifF (notf (dT ⟨rfl, rfl, rfl⟩)) ?_⟩
    refine ⟨_, rfl, m2, _, _, rfl, eM2, rfl, _, rfl, m2, m1, L, L, ls, ls, rows2, rows, ans2, ans, n2, f2, n1, f1, rfl, oMb, oMa, oL2, oL2, ⟨gT2.1, gT2.2.2.1, gT2.2.2.2, le10 gT2.2.1⟩, fun _ => ⟨gT.1, gT.2.2.1, gT.2.2.2, le10 gT.2.1⟩, fun e => absurd rfl e, fun _ f3 r3 hb3 H3 s3 => ⟨fun e => ?_, fun k' u' e h3 oH3 => ?_⟩⟩
    · rw [swp2 hb3] at e
      cases e
    · rw [swp2 hb3] at e
      cases e
      obtain ⟨dh3, th3, trh3, szh3, lah3, eh3, _⟩ := id oH3
      have s123 := Same.trans s12 s3
      have oL3 := oL.same s123
      have oMa3 := oM.same s123
      have oMb3 := oM2.same s123
      obtain ⟨_, _, _, _, eMa, _⟩ := id oMa3
      have oHt := oH.same s123
      rw [er] at oHt
      refine ⟨_, rfl, h3, _, _, h2, _, _, rfl, rfl, eh3, s3 _ _ eh2, h3, h2, L, L, ls, ls, bOf k, bOf k, _, _, rfl, oH3, oH2.same s3, oL3, oL3, _, rfl, _, rfl, ifF (notf (dT ⟨rfl, rfl, rfl⟩)) ?_⟩
      refine ⟨m1, _, _, rfl, eMa, _, rfl, ⟨_, _, eMa⟩, m1, h, L, L, ls, rows, ans, n1, f1, bOf k, rs, rfl, ⟨oMa3, oHt, oL3, oL3, gT.1, gT.2.2.1, gT.2.2.2, hrs⟩, fun H4 s4 => ?_⟩
      have s5 := Same.trans s123 s4
      obtain ⟨_, _, _, _, eMb, _⟩ := id (oMb3.same s4)
      refine ⟨m2, _, _, rfl, eMb, _, rfl, ⟨_, _, eMb⟩, m2, h, L, L, ls, rows2, ans2, n2, f2, bOf k, rs, rfl, ⟨oMb3.same s4, oHt.same s4, oL3.same s4, oL3.same s4, gT2.1, gT2.2.2.1, gT2.2.2.2, hrs⟩, fun H5 s6 => ⟨rfl, _, rfl, ifF (dF fun z => ?_) ?_⟩⟩
      · have z := V.str.inj z
        rw [hend, hend] at z
        exact hdiff z
      · have s7 := Same.trans s5 s6
        obtain ⟨r, a, st, rr, et, er2, hrow, ej, ea, es⟩ := oT
        exact h9 D H5 p L t1 m1 pc _ _ _ _ _ _ _ _ _ _ _ ls rows ans n1 f1 n (oL.same s7) hl1 hl4 hzz ⟨r, a, st, rr, s7 _ _ et, s7 _ _ er2, fun y hy => s7 _ _ (hrow y hy), ej, s7 _ _ ea, s7 _ _ es⟩ gT (oM.same s7) (hT.ext s7) (pen.same s7) fun H6 w12 w13 g1 g2 => q H6 _ _ _ _ _ _ g1 g2
theorem TL.keep {H H' : Hp} {p pc : Addr} {n : Nat} (h : TL tb H) (k : KeepP p H H') (pen : Pen H p pc n) : TL tb H' := by
  intro x hx
  obtain ⟨ps, e1, e2, e3⟩ := h x hx
  obtain ⟨_, _, ep, _⟩ := pen.at_
  refine ⟨ps, k _ _ (ne_of e1 ep (by intro z; cases z)) e1, e2, fun ps2 cv hc => ?_⟩
  obtain ⟨cd, a1, a2⟩ := e3 ps2 cv hc
  exact ⟨cd, a1, k _ _ (ne_of a2 ep (by unfold LamX.CodeO; intro z; cases z)) a2⟩
theorem TriO.keepP {H H' : Hp} {p pc t : Addr} {n : Nat} {rows : List (List Nat)} {ans : List Str} {n1 f1 : Nat} (h : TriO H t rows ans n1 f1) (k : KeepP p H H') (pen : Pen H p pc n) : TriO H' t rows ans n1 f1 := by
  obtain ⟨r, a, st, rr, et, er, hrow, ej, ea, es⟩ := h
  obtain ⟨_, _, ep, _⟩ := pen.at_
  exact ⟨r, a, st, rr, k _ _ (ne_of et ep (by intro z; cases z)) et, k _ _ (ne_of er ep (by intro z; cases z)) er, hrow.keep k pen, ej, k _ _ (ne_of ea ep (by intro z; cases z)) ea, k _ _ (ne_of es ep (by intro z; cases z)) es⟩
theorem MacO.keepP {H H' : Hp} {p pc m L : Addr} {n : Nat} {rows : List (List Nat)} {ans : List Str} {n1 f1 : Nat} (h : MacO K H m L rows ans n1 f1) (k : KeepP p H H') (pen : Pen H p pc n) : MacO K H' m L rows ans n1 f1 := by
  obtain ⟨dx, tR, tA, rr, e1, e2, hrow, ej, e3⟩ := h
  obtain ⟨_, _, ep, _⟩ := pen.at_
  exact ⟨dx, tR, tA, rr, k _ _ (ne_of e1 ep (by intro z; cases z)) e1, k _ _ (ne_of e2 ep (by intro z; cases z)) e2, fun y hy => k _ _ (ne_of (hrow y hy) ep (by intro z; cases z)) (hrow y hy), ej, k _ _ (ne_of e3 ep (by intro z; cases z)) e3⟩
theorem TriO.same {H H' : Hp} {t : Addr} {rows : List (List Nat)} {ans : List Str} {n1 f1 : Nat} (h : TriO H t rows ans n1 f1) (e : Same H H') : TriO H' t rows ans n1 f1 :=
  let ⟨r, a, st, rr, et, er, hrow, ej, ea, es⟩ := h
  ⟨r, a, st, rr, e _ _ et, e _ _ er, fun y hy => e _ _ (hrow y hy), ej, e _ _ ea, e _ _ es⟩
theorem law_tail4 (T : Tx K mg) (TB : LamX.TabB base mg c tb) (hr : Room 9 (A.deeper (envOfC "law" (defScope s_law) s.heap.objs.size fl (.ref c)))) :
    ∃ t, PSs (lawCx P w K mg base fl (.ref c) A outer s H0 E) (loopB.drop 4) t ∧ ∀ (D : Ends) (H : Hp) (p L t1 t2 pc : Addr) (v0 v2 v4 v7 v8 v9 v10 v11 v12 v13 v14 : Option V) (ls : List Str) (rows : List (List Nat)) (ans : List Str) (n1 f1 : Nat) (rows2 : List (List Nat)) (ans2 : List Str) (n2 f2 n : Nat),
      LetO K H L ls → 1 ≤ ls.length → ls.length ≤ 4 → (∀ z ∈ ls, z ≠ zz) → TriO H t1 rows ans n1 f1 → TriG ls.length rows ans n1 f1 → TriO H t2 rows2 ans2 n2 f2 → TriG ls.length rows2 ans2 n2 f2 → TL tb H → Pen H p pc n → n + 100 < 2 ^ 40 →
      (∀ H' w2 w3 w4 w5 w6 w7 w8 w9 w10 w11 w12 w13, TL tb H' → Pen H' p pc (n + 20) → D.nx [v0, some (.ref p), w2, w3, w4, w5, w6, w7, w8, w9, w10, w11, w12, w13, v14] H') →
      t D [v0, some (.ref p), v2, some (.ref L), v4, some (.ref t1), some (.ref t2), v7, v8, v9, v10, v11, v12, v13, v14] H := by
  have hu := hu_of hr
  obtain ⟨t7, pt7, h7⟩ := law_tail7 (P := P) (w := w) (outer := outer) (H0 := H0) (E := E) T TB hr
  refine ⟨_, (pss_cons (ps_set (i := 7) sc_law.nd rfl (by first | exact Or.inl rfl | exact Or.inr rfl) (pe_callG (G_law_program T) (hr.mono (by decide)) rfl passL (pa_cons (pv 1) (pa_cons (pv 3) (pa_cons (pe_ix ix_tup (pv 5) pe_int (fun _ _ => rfl)) (pa_cons (pe_ix ix_tup (pv 5) pe_int (fun _ _ => rfl)) (pa_cons (pe_ix ix_tup (pv 5) pe_int (fun _ _ => rfl)) pa_nil)))))))
    (pss_cons (ps_set (i := 8) sc_law.nd rfl (by first | exact Or.inl rfl | exact Or.inr rfl) (pe_callG (G_law_program T) (hr.mono (by decide)) rfl passL (pa_cons (pv 1) (pa_cons (pv 3) (pa_cons (pe_ix ix_tup (pv 6) pe_int (fun _ _ => rfl)) (pa_cons (pe_ix ix_tup (pv 6) pe_int (fun _ _ => rfl)) (pa_cons (pe_ix ix_tup (pv 6) pe_int (fun _ _ => rfl)) pa_nil)))))))
    (pss_cons (ps_par (i := 9) (j := 10) rfl sc_law.nd rfl rfl (by decide) rfl rfl (pa_cons (pe_callG (G_law_first T) (hr.mono (by decide)) rfl passL (pa_cons (pv 5) (pa_cons (pv 6) pa_nil))) (pa_cons (pe_methG (pv 7) T.cl_Machine (MG_Machine_apart T) (hr.mono (by decide)) passL (pa_cons (pv 8) pa_nil)) pa_nil)) rfl)
    pt7))), ?_⟩
  intro D H p L t1 t2 pc v0 v2 v4 v7 v8 v9 v10 v11 v12 v13 v14 ls rows ans n1 f1 rows2 ans2 n2 f2 n oL hl1 hl4 hzz oT gT oT2 gT2 hT pen hn q
  obtain ⟨r, a, st, rr, et, er, hrow, ej, ea, es⟩ := id oT
  have lr : rr.length = rows.length := by rw [← ej, List.length_map]
  refine ⟨_, rfl, _, rfl, _, rfl, _, _, _, _, rfl, rfl, SqT.of et, ix0 rfl, _, rfl, _, _, _, _, rfl, rfl, SqT.of et, ix1 rfl, _, rfl, _, _, _, _, rfl, rfl, SqT.of et, ix2 rfl, p, pc, L, r, a, st, n, ls, rr, ans, n1, f1, rfl, pen, by omega, oL, er, hrow, ea, es, by rw [ej]; exact gT.1, by rw [lr]; exact gT.2.2.1, by rw [lr]; exact gT.2.2.2, fun H1 m1 k1 pen1 oM1 => ?_⟩
  rw [ej] at oM1
  have oL1 := oL.keep k1 pen
  have oT1 := oT.keepP k1 pen
  have hT1 := TL.keep hT k1 pen
  obtain ⟨r2, a2, st2, rr2, et2, er2, hrow2, ej2, ea2, es2⟩ := oT2.keepP k1 pen
  have oT21 : TriO H1 t2 rows2 ans2 n2 f2 := ⟨r2, a2, st2, rr2, et2, er2, hrow2, ej2, ea2, es2⟩
  have lr2 : rr2.length = rows2.length := by rw [← ej2, List.length_map]
  refine ⟨_, rfl, _, rfl, _, rfl, _, _, _, _, rfl, rfl, SqT.of et2, ix0 rfl, _, rfl, _, _, _, _, rfl, rfl, SqT.of et2, ix1 rfl, _, rfl, _, _, _, _, rfl, rfl, SqT.of et2, ix2 rfl, p, pc, L, r2, a2, st2, n + 10, ls, rr2, ans2, n2, f2, rfl, pen1, by omega, oL1, er2, hrow2, ea2, es2, by rw [ej2]; exact gT2.1, by rw [lr2]; exact gT2.2.2.1, by rw [lr2]; exact gT2.2.2.2, fun H2 m2 k2 pen2 oM2 => ?_⟩
  rw [ej2] at oM2
  have oL2 := oL1.keep k2 pen1
  have oT2' := oT1.keepP k2 pen1
  have oT22 := oT21.keepP k2 pen1
  have hT2 := TL.keep hT1 k2 pen1
  have oM12 := oM1.keepP k2 pen1
  have le10 : ∀ {m : Nat}, m ≤ 6 → m ≤ 10 := fun h => by omega
  refine ⟨_, rfl, _, rfl, t1, t2, ls.length, rows, rows2, ans, ans2, n1, f1, n2, f2, rfl, oT2', oT22, gT, gT2, by omega, fun fu re hb => ⟨fun hre H3 s3 => ?_, fun k u hre d v H3 s3 ed ev => ?_⟩⟩
  · obtain ⟨_, _, _, _, eM, _⟩ := id (oM12.same s3)
    refine ⟨_, rfl, m1, _, _, rfl, eM, rfl, _, rfl, m1, m2, L, L, ls, ls, rows, rows2, ans, ans2, n1, f1, n2, f2, rfl, oM12.same s3, oM2.same s3, oL2.same s3, oL2.same s3, ⟨gT.1, gT.2.2.1, gT.2.2.2, le10 gT.2.1⟩, fun _ => ⟨gT2.1, gT2.2.2.1, gT2.2.2.2, le10 gT2.2.1⟩, fun e => absurd rfl e, fun _ f3 r3 hb3 H4 s4 => ⟨fun _ => ?_, fun k u e => ?_⟩⟩
    · have s34 := Same.trans s3 s4
      exact ⟨_, _, rfl, h7 D H4 p L t1 m1 m2 pc _ _ _ _ _ _ _ _ _ _ ls rows ans n1 f1 rows2 ans2 n2 f2 (n + 20) fu re (oL2.same s34) hl1 hl4 hzz (oT2'.same s34) gT gT2 (oM12.same s34) (oM2.same s34) (hT2.ext s34) (pen2.same s34) hb (fun _ => ⟨rfl, rfl⟩) (fun k u e => by rw [hre] at e; cases e) fun H5 w8 w9 w10 w11 w12 w13 g1 g2 => q H5 _ _ _ _ _ _ _ _ _ _ _ _ g1 g2⟩
    · rw [BD.bfs_det _ hb3 hb, hre] at e
      cases e
  · subst hre
    obtain ⟨_, _, _, _, eM, _⟩ := id (oM12.same s3)
    refine ⟨_, rfl, m1, _, _, rfl, eM, rfl, _, rfl, m1, m2, L, L, ls, ls, rows, rows2, ans, ans2, n1, f1, n2, f2, rfl, oM12.same s3, oM2.same s3, oL2.same s3, oL2.same s3, ⟨gT.1, gT.2.2.1, gT.2.2.2, le10 gT.2.1⟩, fun _ => ⟨gT2.1, gT2.2.2.1, gT2.2.2.2, le10 gT2.2.1⟩, fun e => absurd rfl e, fun _ f3 r3 hb3 H4 s4 => ⟨fun e => ?_, fun k' u' e h3 oH3 => ?_⟩⟩
    · rw [BD.bfs_det _ hb3 hb] at e
      cases e
    · rw [BD.bfs_det _ hb3 hb] at e
      cases e
      have s34 := Same.trans s3 s4
      exact ⟨_, _, rfl, h7 D H4 p L t1 m1 m2 pc _ _ _ _ _ _ _ _ _ _ ls rows ans n1 f1 rows2 ans2 n2 f2 (n + 20) fu _ (oL2.same s34) hl1 hl4 hzz (oT2'.same s34) gT gT2 (oM12.same s34) (oM2.same s34) (hT2.ext s34) (pen2.same s34) hb (fun e => by cases e) (fun k u e => by cases e; exact ⟨d, v, h3, rfl, s4 _ _ ed, s4 _ _ ev, rfl, oH3⟩) fun H5 w8 w9 w10 w11 w12 w13 g1 g2 => q H5 _ _ _ _ _ _ _ _ _ _ _ _ g1 g2⟩
theorem law_body (T : Tx K mg) (TB : LamX.TabB base mg c tb) (hr : Room 9 (A.deeper (envOfC "law" (defScope s_law) s.heap.objs.size fl (.ref c)))) :
    ∃ t, PSs (lawCx P w K mg base fl (.ref c) A outer s H0 E) loopB t ∧ ∀ (D : Ends) (H : Hp) (p pc : Addr) (v0 v2 v3 v4 v5 v6 v7 v8 v9 v10 v11 v12 v13 v14 : Option V) (n : Nat), TL tb H → Pen H p pc n → n + 4000 < 2 ^ 40 →
      (∀ H' w2 w3 w4 w5 w6 w7 w8 w9 w10 w11 w12 w13, TL tb H' → Pen H' p pc (n + 4000) → D.nx [v0, some (.ref p), w2, w3, w4, w5, w6, w7, w8, w9, w10, w11, w12, w13, v14] H') →
      t D [v0, some (.ref p), v2, v3, v4, v5, v6, v7, v8, v9, v10, v11, v12, v13, v14] H := by
  have hu := hu_of hr
  obtain ⟨t4, pt4, h4⟩ := law_tail4 (P := P) (w := w) (outer := outer) (H0 := H0) (E := E) T TB hr
  refine ⟨_, (pss_cons (ps_par (i := 3) (j := 4) rfl sc_law.nd rfl rfl (by decide) rfl rfl (pa_cons (pe_makeG (M_Letters T) (hr.mono (by decide)) rfl passL (pa_cons (pe_callG (G_law_letters T) (hr.mono (by decide)) rfl passL (pa_cons (pv 1) (pa_cons pe_int (pa_cons pe_int pa_nil)))) pa_nil)) (pa_cons (pe_callG (G_law_words T) (hr.mono (by decide)) rfl passL (pa_cons (pv 1) (pa_cons pe_int pa_nil))) pa_nil)) rfl)
    (pss_cons (ps_set (i := 5) sc_law.nd rfl (by first | exact Or.inl rfl | exact Or.inr rfl) (pe_callG (G_law_answering T) (hr.mono (by decide)) rfl passL (pa_cons (pv 1) (pa_cons (pe_fld (pv 3) rfl) (pa_cons pe_int (pa_cons (pv 4) pa_nil))))))
    (pss_cons (ps_set (i := 6) sc_law.nd rfl (by first | exact Or.inl rfl | exact Or.inr rfl) (pe_callG (G_law_answering T) (hr.mono (by decide)) rfl passL (pa_cons (pv 1) (pa_cons (pe_fld (pv 3) rfl) (pa_cons pe_int (pa_cons (pv 4) pa_nil))))))
    (pss_cons (ps_if (pt_cmpR op_gt (pe_callG (G_law_draw T) (hr.mono (by decide)) rfl passL (pa_cons (pv 1) (pa_cons pe_int pa_nil))) pe_int (nomark _)) (pss_one (ps_set (i := 6) sc_law.nd rfl (by first | exact Or.inl rfl | exact Or.inr rfl) (pe_callG (G_law_changed T) (hr.mono (by decide)) rfl passL (pa_cons (pv 1) (pa_cons (pe_ix ix_tup (pv 5) pe_int (fun _ _ => rfl)) (pa_cons (pe_ix ix_tup (pv 5) pe_int (fun _ _ => rfl)) (pa_cons (pe_ix ix_tup (pv 5) pe_int (fun _ _ => rfl)) (pa_cons (pv 4) pa_nil)))))))) pss_nil)
    pt4)))), ?_⟩
  intro D H p pc v0 v2 v3 v4 v5 v6 v7 v8 v9 v10 v11 v12 v13 v14 n hT pen hn q
  refine ⟨_, rfl, p, pc, n, rfl, pen, by omega, fun H1 l ls k1 pen1 el nlp hl1 hl4 nd hls => ?_⟩
  intro x dx hx hdx ndx
  show sp_Letters_uinitu K [.ref x, .ref l] (upd (upd H1 dx (.own x)) x (.ins (CL K) dx [])) _ _
  have s2 : Same H1 (upd (upd H1 dx (.own x)) x (.ins (CL K) dx [])) := Same.up2 (Same.up1 hdx) hx
  have e2 : (upd (upd H1 dx (.own x)) x (.ins (CL K) dx [])) x = some (.ins (CL K) dx []) := upd_same
  have old : ∀ {b o}, H1 b = some o → b ≠ x := fun e => ne_of_none e hx
  generalize upd (upd H1 dx (.own x)) x _ = H2 at *
  refine ⟨x, l, dx, ls, rfl, e2, s2 _ _ el, Ne.symm (old el), nd, hl1, by omega, fun z hz => (hls z hz).1, fun H3 k3 oL3 => ⟨rfl, ?_⟩⟩
  have s3 : Same H1 H3 := fun b o e => k3 b o (old e) (s2 _ _ e)
  have hT1 := TL.keep hT k1 pen
  have pen3 := pen1.same s3
  refine ⟨_, rfl, p, pc, 3, n + 200, rfl, pen3, by omega, by decide, by decide, fun H4 l2 us k4 pen4 el2 nl2 ul und hus => ⟨_, _, rfl, ?_⟩⟩
  have oL4 := oL3.keep k4 pen3
  have hT4 := TL.keep (hT1.ext s3) k4 pen3
  have pool4 : PoolO H4 l2 us := ⟨el2, by omega, by omega, fun z hz => (hus z hz).1⟩
  obtain ⟨dL, tL, eL, eT, _⟩ := id oL4
  refine ⟨_, rfl, _, rfl, _, _, _, _, _, rfl, eL, T.cl_Letters, T.na_Letters_words, rfl, _, rfl, p, pc, tL, l2, n + 300, ls.length, ls.map V.str, us, rfl, pen4, by omega, eT, List.length_map _, hl4, pool4, fun H5 t1 rows ans n1 f1 k5 pen5 oT gT => ?_⟩
  have oL5 := oL4.keep k5 pen4
  have hT5 := TL.keep hT4 k5 pen4
  obtain ⟨_, _, ep4, _⟩ := pen4.at_
  have el5 := k5 _ _ nl2 el2
  have pool5 : PoolO H5 l2 us := ⟨el5, pool4.2⟩
  obtain ⟨dL5, tL5, eL5, eT5, _⟩ := id oL5
  refine ⟨_, rfl, _, rfl, _, _, _, _, _, rfl, eL5, T.cl_Letters, T.na_Letters_words, rfl, _, rfl, p, pc, tL5, l2, n + 1800, ls.length, ls.map V.str, us, rfl, pen5, by omega, eT5, List.length_map _, hl4, pool5, fun H6 t2 rows2 ans2 n2 f2 k6 pen6 oT2 gT2 => ?_⟩
  have oL6 := oL5.keep k6 pen5
  have hT6 := TL.keep hT5 k6 pen5
  have oT6 := oT.keepP k6 pen5
  have el6 := k6 _ _ nl2 el5
  refine ⟨_, rfl, p, pc, 3, n + 3300, rfl, by decide, by decide, pen6, by omega, fun k H7 hk pen7 k7 => ⟨_, _, rfl, rfl, _, rfl, ?_⟩⟩
  have oL7 := oL6.keep k7 pen6
  have hT7 := TL.keep hT6 k7 pen6
  have oT7 := oT6.keepP k7 pen6
  have oT27 := oT2.keepP k7 pen6
  have pool7 : PoolO H7 l2 us := ⟨k7 _ _ nl2 el6, pool4.2⟩
  have hzz : ∀ z ∈ ls, z ≠ zz := fun z hz => (hls z hz).2
  refine ite2 (fun _ => ?_) (fun _ => ?_)
  · obtain ⟨r, a, st, rr, et, er, hrow, ej, ea, es⟩ := id oT7
    refine ⟨_, rfl, _, rfl, _, _, _, _, rfl, rfl, SqT.of et, ix0 rfl, _, rfl, _, _, _, _, rfl, rfl, SqT.of et, ix1 rfl, _, rfl, _, _, _, _, rfl, rfl, SqT.of et, ix2 rfl, _, rfl, p, pc, r, a, st, l2, n + 3301, ls.length, rr, ans, us, n1, f1, rfl, pen7, by omega, er, hrow, ea, es, by rw [ej]; exact gT, hl1, hl4, pool7, fun H8 t3 rows3 ans3 n3 f3 k8 pen8 oT3 gT3 => ?_⟩
    exact h4 D H8 p x t1 t3 pc _ _ _ _ _ _ _ _ _ _ _ ls rows ans n1 f1 rows3 ans3 n3 f3 (n + 3401) (oL7.keep k8 pen7) hl1 hl4 hzz (oT7.keepP k8 pen7) gT oT3 gT3 (TL.keep hT7 k8 pen7) pen8 (by omega) fun H9 w2 w3 w4 w5 w6 w7 w8 w9 w10 w11 w12 w13 g1 g2 => q H9 _ _ _ _ _ _ _ _ _ _ _ _ g1 (g2.mono (by omega))
  · exact h4 D H7 p x t1 t2 pc _ _ _ _ _ _ _ _ _ _ _ ls rows ans n1 f1 rows2 ans2 n2 f2 (n + 3301) oL7 hl1 hl4 hzz oT7 gT oT27 gT2 hT7 pen7 (by omega) fun H9 w2 w3 w4 w5 w6 w7 w8 w9 w10 w11 w12 w13 g1 g2 => q H9 _ _ _ _ _ _ _ _ _ _ _ _ g1 (g2.mono (by omega))
end
def sp_law (K : PySem.W.Frag) (tb : Addr) : Sp := fun vs H Q _ => ∃ (a : Addr) (ns : List Int), vs = [.ref a] ∧ SqL K H a (ns.map V.int) ∧ ns.length ≤ 63 ∧ TL tb H ∧ ∀ H', Q (.bl true) H'
theorem G_law {P : Program} {w : World} {K : PySem.W.Frag} {mg : Str → Option Value} {base : Heap} {tb : Addr} {fd : FuncData} (F : FunD K "law" "law" (defArgs s_law) (defBody s_law) (defScope s_law) [] [] (He.ga K "law") fd) (T : Tx K mg) (TB : LamX.TabB base mg (He.codeOf K ("law", none)) tb) :
    (∀ (s : Shared) (u : Value), BindsTo s fd ⟨[u], []⟩ [("_law_script", u)]) ∧ FnOk P w K mg base (L2.CX P w) 10 (He.ga K "law") fd ["_law_script"] (sp_law K tb) :=
  law_of F (fun vs H Q E h => by
    obtain ⟨a, ns, rfl, _⟩ := h
    rfl) fun A outer s H vs Q E hr h => by
    obtain ⟨a, ns, rfl, hs, hl, hT, q⟩ := h
    have hu := hu_of hr
    obtain ⟨t0, pt0, h0⟩ := law_body (P := P) (w := w) (outer := outer) (H0 := H) (E := E) T TB hr
    refine ⟨_, (pss_cons (ps_set (i := 1) sc_law.nd rfl (by first | exact Or.inl rfl | exact Or.inr rfl) (pe_callG (G_law_pen T) (hr.mono (by decide)) rfl passL (pa_cons (pv 0) pa_nil)))
  (pss_cons (ps_for (passes_of rfl) rfl (pi_range1 rfl T.n_range (pa_cons pe_int pa_nil)) (pg_name (i := 2) sc_law.nd rfl (by first | exact Or.inl rfl | exact Or.inr rfl)) pt0)
  (pss_one (ps_ret pe_bl)))), ?_⟩
    refine ⟨_, rfl, a, ns, rfl, hs, hl, fun H1 p s1 hp ⟨pc, pen1⟩ => ?_⟩
    have hT1 : TL tb H1 := hT.ext s1
    refine ⟨3, rfl, by decide, by decide, for_it walk_range (fun i σ H' => ∃ w2 w3 w4 w5 w6 w7 w8 w9 w10 w11 w12 w13, σ = [some (.ref a), some (.ref p), w2, w3, w4, w5, w6, w7, w8, w9, w10, w11, w12, w13, none] ∧ TL tb H' ∧ Pen H' p pc (4000 * i)) ⟨none, none, none, none, none, none, none, none, none, none, none, none, rfl, hT1, pen1⟩ (fun _ _ _ _ _ => trivial) ?_ ?_⟩
    · rintro i x σ H2 H3 hi ⟨w2, w3, w4, w5, w6, w7, w8, w9, w10, w11, w12, w13, rfl, hT2, pen2⟩ ⟨rfl, rfl⟩
      have hi3 : i < 3 := hi
      exact h0 _ _ p pc _ _ _ _ _ _ _ _ _ _ _ _ _ _ (4000 * i) hT2 pen2 (by omega) fun H4 u2 u3 u4 u5 u6 u7 u8 u9 u10 u11 u12 u13 g1 g2 => ⟨u2, u3, u4, u5, u6, u7, u8, u9, u10, u11, u12, u13, rfl, g1, g2⟩
    · rintro σ H2 ⟨w2, w3, w4, w5, w6, w7, w8, w9, w10, w11, w12, w13, rfl, hT2, pen2⟩
      exact q H2
end K5


namespace K5
open PySem PySem.W PySem.Calls PyProof.Rows
abbrev R : OpenRow := OpenLaw.row PySem.Challenge.rw_asksmore_k64_where_machines_part
abbrev qv : Program := view R.prog [61]
def names1 : List PySem.Str := ["_wall", "__name__", "AsksError", "BadLetters", "BadLetter", "BadBeginning", "BadRuns", "BadCount", "BadPlace", "BadAnswers", "OtherLetters", "TooLong", "TooMany", "BadRow", "BadState", "Uneven", "MOST_LETTERS", "BEGINNINGS", "SMALL", "SIGNS", "is_list", "is_integer", "is_word", "is_beginning", "is_letter", "Letters", "MOST_RUNS", "MOST_COUNT", "MOST_WORD"]
def names2 : List PySem.Str := ["need_beginning", "need_runs", "join_runs", "History", "moved", "run_moved", "runs_moved", "is_state", "need_same", "MOST_STATES", "need_states", "Machine", "_law_pen", "_law_draw", "_law_pick", "_law_shuffled", "_law_words", "_law_letters", "_law_machine", "_law_spelled", "_law_history", "_law_program", "_law_answering", "_law_changed", "_law_first", "_law_is_refused"]
def names : List PySem.Str := names1 ++ names2
def tf : List He.Defn := [("law", none)]
def kOf (g : Addr → Option Obj) : Frag := He.frT g (He5.asA g 5)
abbrev AlY : Type := (He.AlD × Bool) × He.FnW
def obsY (g : Addr → Option Obj) : AlY := ((He.obsD fa fn (kOf g), exB (kOf g) && He.tabsB g tf (kOf g)), fnAtW (kOf g) (cmG (kOf g)))
def valY : AlY := ((He.valD fn, true), cmV)
/-- what the head tells: the facts, the classmethod's def, the law's table of code objects (empty, not in K) -/
structure SaysY (h : Heap) (K : Frag) : Prop where
  d : He.SaysD fa fn K
  ex : exB K = true
  cm : fnAtW K (cmG K) = cmV
  tab : ∀ p ∈ tf, codeHdIn K (He.cT K p).1 (He.cT K p).2 = true ∧ K.lookup (He.cT K p).2 = none ∧ h.get? (He.cT K p).2 = some { cls := .none, data := .fields #[] }
theorem saysY_of {h : Heap} (e : obsY h.get? = valY) : SaysY h (kOf h.get?) := by
  have z : (exB (kOf h.get?) && He.tabsB h.get? tf (kOf h.get?)) = true := congrArg (fun y : AlY => y.1.2) e
  obtain ⟨z1, z2⟩ := He.ba z
  refine ⟨congrArg (fun y : AlY => y.1.1) e, z1, congrArg (fun y : AlY => y.2) e, fun p hp => ?_⟩
  obtain ⟨c1, c2⟩ := He.ba (List.all_eq_true.mp z2 p hp)
  cases q : h.get? (He.cT (kOf h.get?) p).2 with
  | none =>
    rw [q] at c2
    cases c2
  | some u =>
    rw [q] at c2
    exact ⟨c1, He.frT_none q c2, congrArg some (He.emptyTab_eq c2)⟩
def hookY : Hook where
  α := AlY
  obs := fun s => obsY s.heap.get?
  val := fun _ => valY
  says := fun _ h => ∃ K : Frag, K.In h ∧ SaysY h K
  of := fun _ _ e => ⟨_, He.frT_in, saysY_of e⟩
  keeps := fun _ _ _ ⟨K, hK, c⟩ k => ⟨K, Frag.In.keeps hK k, c.d, c.ex, c.cm, fun p hp => ⟨(c.tab p hp).1, (c.tab p hp).2.1, k _ _ (c.tab p hp).2.2⟩⟩
theorem obsY_eq {g : Addr → Option Obj} {s : Shared} (h : ∀ a, g a = s.heap.get? a) : obsY g = hookY.obs s := by
  have e : g = s.heap.get? := funext h
  rw [e] <;> rfl
def ob (s : SharedT) : AlY := obsY (HandSHeadRun.getT s)
theorem ob_eq (s : SharedT) : ob s = hookY.obs s.abs := obsY_eq (HandSHeadRun.getT_eq s)
theorem run (w : World) : HandSHeadRun.RunEq R qv hookY ob 20000 names w := by
  intro os
  kernel_rfl
end K5

namespace K5
open PySem PySem.W PySem.Calls PyProof.Rows
theorem law_end {w : World} {K : Frag} {h : Heap} {mg : PySem.Str → Option Value} {f : Addr} {nm : Nat} (hX : K.In h) (G : h.Ns mainGlobals mg) (hfa : mg ("law" : PySem.Str) = some (.ref f)) (c : SaysY h K) (hn : nm ≤ 63) :
    LamX.LawAtS PySem.Challenge.rw_asksmore_k64_where_machines_part w K (L2.CX (PySem.Challenge.rw_asksmore_k64_where_machines_part).prog w) 10 nm "_law_script" mg f h := by
  have T : Tx K mg := ⟨⟨h, hX, G⟩, c.d, c.ex, c.cm⟩
  have e := hfa.symm.trans T.g_law
  cases e
  obtain ⟨t1, t2, t3⟩ := c.tab ("law", none) (List.mem_singleton.mpr rfl)
  obtain ⟨fd, F⟩ := T.d_law
  have b := L2.FunD.bindsA (ps := ["_law_script"]) F fun _ _ _ _ _ _ us hl => match us, hl with | [_], _ => rfl
  refine ⟨fd, [He.cT K ("law", none)], sp_law K (He.cT K ("law", none)).2, fun p hp => ?_, fun p hp => ?_, fun p hp => ?_, fun s u => b s [u] rfl, fun H a ns hl _ hT hS => ?_, fun base hK hG hTB => ?_⟩
  · rw [List.mem_singleton.mp hp]; exact t3
  · rw [List.mem_singleton.mp hp]; exact t2
  · rw [List.mem_singleton.mp hp]; exact codeHd_of_K hX t1
  · refine ⟨a, ns, rfl, hS, Nat.le_trans hl hn, fun p hp => ?_, fun _ => rfl⟩
    rw [List.mem_singleton.mp hp]
    exact LamX.TabS.nil (hT _ (List.mem_singleton.mpr rfl))
  · exact (G_law F T (hTB _ (List.mem_singleton.mpr rfl))).2
end K5
open PySem PySem.W PySem.Calls PyProof.Rows
theorem PySem.Challenge.cw_asksmore_k64_where_machines_part_holds : PySem.Challenge.rw_asksmore_k64_where_machines_part.Holds := by
  w_on; o_law
  refine HandSHeadRun.head_any (r := K5.R) (q := K5.qv) (H := K5.hookY) (ob := K5.ob) (M := 20000) (loose := K5.names) (d := HandSHeadRun.topDef K5.R.prog 61) (kwd := []) K5.ob_eq
    (by kernel_rfl) (fun s => by kernel_rfl) K5.run (by kernel_rfl) (by kernel_rfl) (by kernel_rfl) (by rfl) (by first | assumption | decide +kernel) (by decide +kernel) ⟨rfl, rfl, rfl, rfl, rfl, by decide +kernel⟩ ?hw ?hc
  case hw => w_witness2
  case hc =>
    refine LamX.walk_ofTsE (l := PySem.Challenge.rw_asksmore_k64_where_machines_part) (n := 63) (k := 10) (x := "_law_script") (CX := fun w => L2.CX (PySem.Challenge.rw_asksmore_k64_where_machines_part).prog w) rfl (by decide) (by kernel_rfl) ⟨rfl, by decide, by decide⟩ ?F ?hx
    case F =>
      intro w mg fa h Y G hmg0
      obtain ⟨K, KX, c⟩ := Y
      have nm : (HandSHeadRun.topDef K5.R.prog 61).name = ("law" : PySem.Str) := by kernel_rfl
      exact ⟨K, KX, K5.law_end KX G (nm ▸ hmg0) c (Nat.le_refl _)⟩
    case hx =>
      intro w H s e s' z
      obtain ⟨_, _, _, _, _, _, _, _, _, _, _, _, z⟩ := z
      exact z

