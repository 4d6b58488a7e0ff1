import PyProof.Rows.All
import Wide.All
import OpenK.AllK
import Wide.FinOn
import HandS.ForMost
import HandS.Exc
import HandS.WordsExc
import HandS.Defaults
import HandS.Flow
import HandS.Style
import HandS.Wide
import HandS.IsInst
import HandS.TryOnly
import HandS.ExcInit
import HandS.ExcField
import HandS.ExcOwn
import HandS.HeadHook1
import HandS.HeadHook2
import HandS.MakeKwOnly
import HandS.Ends
import HandS.HeadEnd
import HandS.Head0
import HandS.Head1
import HandS.Head2
import HandS.Head3
import HandS.HeadHook3
import HandS.Gcd
import HandS.Iter
import HandS.DictComp
import HandS.Conv
import KE.KMathGC
import PyProof.P3Eq
import PySem.Challenge.RW_ringstays_k58_wheels_counted
set_option Elab.async false
set_option linter.all false
set_option maxRecDepth 100000
set_option maxHeartbeats 2000000
/-! A layer of short words over the hand layer: a def of the top with its promise (Fn), its call, steps of readings. -/
namespace Z
open PySem PySem.Spec PyProof.Rows L2
/-- a def of the top -/
def Df (K : PySem.W.Frag) (mg : Str → Option Value) (x : Str) (st : Stmt) (f : Addr) (fd : FuncData) : Prop :=
  mg x = some (.ref f) ∧ FunD K x x (defArgs st) (defBody st) (defScope st) [] [] f fd
/-- a promise kept where no guard of a text's making stands around -/
structure FnG (P : Program) (w : World) (K : PySem.W.Frag) (mg : Str → Option Value) (base : Heap) (k : Nat) (f : Addr) (fd : FuncData) (ps : List Str) (sp : Sp) : Prop where
  len : ∀ vs H Q E, sp vs H Q E → vs.length = ps.length
  run : ∀ (A : Around) (outer : List Env) (s : Shared) (H : Hp) (args : Args) (us : List Value) (vs : List V) (Q : VK) (E : XK), Room k A → A.guards = some [] → Env0 P w K mg base A outer s H →
    BindsTo s fd args (ps.zip us) → Vals vs us → sp vs H Q E → codeAny (model P w) A (.call (.ref f) args) (CR (L2.CX P w) outer P w H s Q E) s
/-- a def of the top that keeps its promise -/
def Fn (P : Program) (w : World) (K : PySem.W.Frag) (mg : Str → Option Value) (base : Heap) (x : Str) (k : Nat) (ps : List Str) (sp : Sp) : Prop :=
  ∃ f fd, FnG P w K mg base k f fd ps sp ∧ mg x = some (.ref f) ∧ PySem.W.keepIn K (.ref f) = true ∧ Binds K fd ps [] ∧ ∃ st, FunD K x x (defArgs st) (defBody st) (defScope st) [] [] f fd
abbrev FnX (X : Cx) (x : Str) (k : Nat) (ps : List Str) (sp : Sp) : Prop := Fn X.prog X.w X.K X.mg X.base x k ps sp
section
variable {P : Program} {w : World} {K : PySem.W.Frag} {mg : Str → Option Value} {base : Heap}
theorem FnG.imp {k : Nat} {f : Addr} {fd : FuncData} {ps : List Str} {sp sp' : Sp} (F : FnG P w K mg base k f fd ps sp) (h : ∀ vs H Q E, sp' vs H Q E → sp vs H Q E) : FnG P w K mg base k f fd ps sp' :=
  ⟨fun vs H Q E z => F.len vs H Q E (h _ _ _ _ z), fun A outer s H args us vs Q E r g e b v z => F.run A outer s H args us vs Q E r g e b v (h _ _ _ _ z)⟩
theorem FnG.up {j k : Nat} {f : Addr} {fd : FuncData} {ps : List Str} {sp : Sp} (F : FnG P w K mg base j f fd ps sp) (h : j ≤ k) : FnG P w K mg base k f fd ps sp :=
  ⟨F.len, fun A outer s H args us vs Q E r => F.run A outer s H args us vs Q E (r.mono h)⟩
/-- by its body -/
theorem fn_body {k : Nat} {f : Addr} {name qual : Str} {params : Arguments} {body : List Stmt} {scope : Scope} {dV kV doc pm cdv ct oc : Value} {an od : Option Addr} {osl : Array (Option Value)} {N ps : List Str} {sp : Sp}
    (lk : K.lookup f = some ⟨oc, od, .func (PySem.W.fnOf name qual params body scope dV kV doc pm an cdv ct), osl⟩) (hc : PySem.W.codeIn K cdv qual = true) (S : FnScope N ps scope) (len : ∀ vs H Q E, sp vs H Q E → vs.length = ps.length)
    (hb : ∀ (A : Around) (outer : List Env) (s : Shared) (H : Hp) (vs : List V) (Q : VK) (E : XK), Room k (A.deeper (envOfC qual scope s.heap.objs.size f cdv)) → A.guards = some [] → sp vs H Q E →
      ∃ t, PSs (cxOf (L2.CX P w) P w K mg base N qual scope f cdv A outer s H E) body t ∧ t { nx := fun _ G => Q .non G, rt := Q } (start N vs) H) :
    FnG P w K mg base (k + 1) f (PySem.W.fnOf name qual params body scope dV kV doc pm an cdv ct) ps sp := by
  refine ⟨len, fun A outer s H args us vs Q E room gd env bind rel z => ?_⟩
  have old : ∀ b o, base.get? b = some o → s.heap.get? b = some o := fun b o e => (env.bs b o e).1
  have kin : K.In s.heap := env.mod.kin.keeps old
  refine codeAny_call_function room.depth (kin _ _ lk) rfl S.co S.gen rfl (PySem.W.codeRec_of kin hc) (bind _ _ _ _ ?_)
  have par : ∀ y ∈ ps.zip us, scope.names.lookup y.1 = some .local ∨ (scope.names.lookup y.1 = some .cell ∧ ((cellsFrom (s.heap.objs.size + 1) scope.names []).lookup y.1).isSome = true) := by
    rintro ⟨y, u⟩ hy
    rcases S.par y (List.of_mem_zip hy).1 with e | e
    · exact .inl e
    · exact .inr ⟨e, PySem.W.cellsFrom_some _ _ _ (.inl e)⟩
  refine wpAny_newFunctionEnv_cells S.kind par fun e2 he s1 x => ?_
  subst he
  refine ⟨(env.mod.nolimit.keeps old).keeps x.toInCall.keep, codeAny_func ?_⟩
  obtain ⟨t, ht, zt⟩ := hb A outer s H vs Q E (room.deeper _) gd z
  refine wpAny_mono (ht.run [] s1 (start N vs) H _ (inv_start S room.hd env (len _ _ _ _ z) rel x) zt) (fun fl s2 w2 => ?_) fun _ _ w2 => w2
  cases fl with
  | next => obtain ⟨τ, G, J, w3⟩ := w2; exact ⟨V.non, G, J.os, J.bare, J.base, J.hok, rfl, w3⟩
  | ret u => obtain ⟨v, τ, G, J, r, w3⟩ := w2; exact ⟨v, G, J.os, J.bare, J.base, J.hok, r, w3⟩
  | brk => obtain ⟨_, _, _, w3⟩ := w2; exact w3.elim
  | cont => obtain ⟨_, _, _, w3⟩ := w2; exact w3.elim
theorem Df.fn {x : Str} {st : Stmt} {f : Addr} {fd : FuncData} {N ps : List Str} {k : Nat} {sp : Sp} (F : Df K mg x st f fd) (S : FnScope N ps (defScope st)) (len : ∀ vs H Q E, sp vs H Q E → vs.length = ps.length)
    (hb : ∀ (kV doc pm : Value) (an : Option Addr) (cdv ct : Value) (us : List Value), us.length = ps.length → bindArgs (PySem.W.fnOf x x (defArgs st) (defBody st) (defScope st) .none kV doc pm an cdv ct) ⟨us, []⟩ = pure (ps.zip us))
    (hbody : ∀ (cdv : Value) (A : Around) (outer : List Env) (s : Shared) (H : Hp) (vs : List V) (Q : VK) (E : XK), Room k (A.deeper (envOfC x (defScope st) s.heap.objs.size f cdv)) → A.guards = some [] → sp vs H Q E →
      ∃ t, PSs (cxOf (L2.CX P w) P w K mg base N x (defScope st) f cdv A outer s H E) (defBody st) t ∧ t { nx := fun _ H' => Q .non H', rt := Q } (start N vs) H) : Fn P w K mg base x (k + 1) ps sp := by
  refine ⟨f, fd, ?_, F.1, F.2.kp, F.2.bindsN hb, st, F.2⟩
  obtain ⟨oc, od, dV, kV, doc, pm, an, cdv, ct, osl, rfl, lk, hc, _, _⟩ := F.2.ex
  exact fn_body lk hc S len fun A outer s H vs Q E r g z => hbody cdv A outer s H vs Q E r g z
theorem Fn.imp {x : Str} {k : Nat} {ps : List Str} {sp sp' : Sp} (F : Fn P w K mg base x k ps sp) (h : ∀ vs H Q E, sp' vs H Q E → sp vs H Q E) : Fn P w K mg base x k ps sp' := by
  obtain ⟨f, fd, G, r⟩ := F
  exact ⟨f, fd, G.imp h, r⟩
theorem Fn.up {x : Str} {j k : Nat} {ps : List Str} {sp : Sp} (F : Fn P w K mg base x j ps sp) (h : j ≤ k) : Fn P w K mg base x k ps sp := by
  obtain ⟨f, fd, G, r⟩ := F
  exact ⟨f, fd, G.up h, r⟩
end
section
variable {X : Cx} {E : XK} {x : Str} {k : Nat} {ps : List Str} {sp : Sp} {e : Expr} {es : List Expr} {t : TA} {p pos : Pos}
theorem run_g {f : Addr} {fd : FuncData} {ds : List Value} {dvs : List V} {pins : List (Addr × Obj)} {σ : L2.St} {H : Hp} {s : Shared} {Q : VK} {us : List Value} {vs : List V} (F : FnG X.prog X.w X.K X.mg X.base k f fd ps sp) (room : Room k X.A) (gd : X.A.guards = some [])
    (hb : Binds X.K fd ps ds) (hd : Vals dvs ds) (hx : ∀ e s', L2.CX X.prog X.w X.stack H s E e s' → X.xe e s') (I : Inv X pins σ H s) (rel : Vals vs us) (z : sp (vs ++ dvs) H Q E) : wpAny (model X.prog X.w) X.A (call (.ref f) us) (EP X pins σ Q) X.xe s := by
  have rel2 : Vals (vs ++ dvs) (us ++ ds) := rel.append hd
  have hl : (us ++ ds).length = ps.length := rel2.length.symm.trans (F.len _ _ _ _ z)
  refine wpAny_call (codeAny_mono (F.run X.A X.stack s H ⟨us, []⟩ _ _ Q E room gd I.env0 (hb s us I.kIn hl) rel2 z) fun r s2 w2 => ?_)
  rcases r with e | (_ | _ | _ | u)
  · exact hx e s2 w2
  · exact w2.elim
  · exact w2.elim
  · exact w2.elim
  · exact I.after w2
/-- a def's call -/
theorem fcall (F : FnX X x k ps sp) (hr : Room k X.A) (gd : X.A.guards = some []) (hx : Passes (L2.CX X.prog X.w) X E) (ha : PA X (e :: es) t) (hg : Gl X x := by rfl)
    (hdb : (x == ("__debug__" : Str)) = false := by decide) (he : starEach (e :: es) X.env = (false, eval e X.env) :: starEach es X.env := by rfl) (hpl : (backTo pos (starEach es X.env)).any (·.1) = false := by rfl) :
    PE X (.Call (.Name x p) (e :: es) [] pos) (tCall sp [] E t) := by
  obtain ⟨f, fd, F, hm, hk, hb, _⟩ := F
  refine ⟨fun pins s σ H Q I h => wpAny_Call_Name_kw (ld_glob I hg hm ?_ hdb)⟩
  exact PySem.W.callWith_K (h₀ := X.base) I.ok.mod.kin hk (thn (ha.run pos pins s σ H _ I h) fun us s1 ⟨vs, G, J, r, z⟩ => ⟨J.kIn, run_g F hr gd hb .nil (fun e s2 c => hx pins σ G s1 e s2 J c) J r z⟩) he hpl
/-- a def's call, what it lets out wished for at the slots as they stand -/
theorem fcallS {W : WX} (F : FnX X x k ps sp) (hr : Room k X.A) (gd : X.A.guards = some []) (tk : Takes X W) (ha : PA X (e :: es) t) (hg : Gl X x := by rfl)
    (hdb : (x == ("__debug__" : Str)) = false := by decide) (he : starEach (e :: es) X.env = (false, eval e X.env) :: starEach es X.env := by rfl) (hpl : (backTo pos (starEach es X.env)).any (·.1) = false := by rfl) :
    PE X (.Call (.Name x p) (e :: es) [] pos) (fun σ H Q => t σ H fun vs H1 => sp (vs ++ []) H1 Q fun cls d G => W cls d σ G) := by
  obtain ⟨f, fd, F, hm, hk, hb, _⟩ := F
  refine ⟨fun pins s σ H Q I h => wpAny_Call_Name_kw (ld_glob I hg hm ?_ hdb)⟩
  exact PySem.W.callWith_K (h₀ := X.base) I.ok.mod.kin hk (thn (ha.run pos pins s σ H _ I h) fun us s1 ⟨vs, G, J, r, z⟩ => ⟨J.kIn, run_g F hr gd hb .nil (fun e s2 c => tk e s2 (XE.of_call J (fun _ _ _ w2 => w2) c)) J r z⟩) he hpl
end
/-! ### the hand layer's rules with the written part as a letter -/
section
variable {X : Cx} {K : PySem.W.Frag} {tg e o : Expr} {te : TE} {pos : Pos}
theorem z_ixL (h : X.K = K := by rfl) : IxR X (rIxL K) := by
  subst h
  exact ix_list
theorem z_ixT (h : X.K = K := by rfl) : IxR X (rIxT K) := by
  subst h
  exact ix_tup
theorem z_ixQ (h : X.K = K := by rfl) : IxR X (rIx K) := by
  subst h
  exact ix_seq
def rLen (K : PySem.W.Frag) : List V → Hp → VK → Prop := fun xs H Q => ∃ p ys, xs = [.ref p] ∧ (SqL K H p ys ∨ SqT K H p ys) ∧ Q (.int ys.length) H
theorem z_len (h : X.K = K := by rfl) : CallR X (.builtin "len") (Z.rLen K) := by
  subst h
  exact call_len_seq
def rListOf (K : PySem.W.Frag) : List V → Hp → VK → Prop := fun xs H Q => ∃ p ys, xs = [.ref p] ∧ (SqL K H p ys ∨ SqT K H p ys) ∧ ∀ l, H l = none → Q (.ref l) (upd H l (.lst ys))
theorem z_listOf (h : X.K = K := by rfl) : CallR X (.type "list") (rListOf K) := by
  subst h
  exact call_list_of
def rTupOf (K : PySem.W.Frag) : List V → Hp → VK → Prop := fun xs H Q => ∃ p ys, xs = [.ref p] ∧ ((SqL K H p ys ∧ ∀ l, H l = none → Q (.ref l) (upd H l (.tup ys))) ∨ (SqT K H p ys ∧ Q (.ref p) H))
theorem z_tupOf (h : X.K = K := by rfl) : CallR X (.type "tuple") (rTupOf K) := by
  subst h
  exact call_tuple_of
theorem z_sum (hc : X.calm = true) (h : X.K = K := by rfl) : CallR X (.builtin "sum") (rSum K) := by
  subst h
  exact cr_sum hc
theorem z_all (hc : X.calm = true) (h : X.K = K := by rfl) : CallR X (.builtin "all") (rAll K) := by
  subst h
  exact cr_all hc
theorem z_any (hc : X.calm = true) (h : X.K = K := by rfl) : CallR X (.builtin "any") (rAny K) := by
  subst h
  exact cr_any hc
theorem z_in (h : X.K = K := by rfl) : OpR X (compareOp .In) (rIn K false) := by
  subst h
  exact op_in_seq
theorem z_notIn (h : X.K = K := by rfl) : OpR X (compareOp .NotIn) (rIn K true) := by
  subst h
  exact op_notIn_seq
theorem z_slL (h : X.K = K := by rfl) : SlR X (rSlL K) := by
  subst h
  exact sl_list
theorem z_slT (h : X.K = K := by rfl) : SlR X (rSlT K) := by
  subst h
  exact sl_tup
theorem z_piL (he : PE X e te) (h : X.K = K := by rfl) : PI X tg e (iList K te) := by
  subst h
  exact pi_list he
theorem z_piT (he : PE X e te) (h : X.K = K := by rfl) : PI X tg e (iTup K te) := by
  subst h
  exact pi_tup he
def tTruth (K : PySem.W.Frag) (te : TE) : TT := fun σ H Q => te σ H fun x H' => ∃ k, TruV K x H' k ∧ Q k H'
theorem z_truth (he : PE X e te) (h1 : ∀ whole, isTrue e X.env whole = (do let v ← whole; standAt e.pos; holding [v] (truthy v))) (h : X.K = K := by rfl) : PT X e (tTruth K te) := by
  subst h
  exact pt_truth he h1
theorem g_truth {σ : L2.St} {H : Hp} {R : Bool → Hp → Prop} (q : te σ H fun x H' => ∃ k, TruV K x H' k ∧ R k H') : tTruth K te σ H R := q
theorem g_len {p : Addr} {xs : List V} {H : Hp} {Q : VK} (h : SqL K H p xs) (q : Q (.int xs.length) H) : Z.rLen K [.ref p] H Q := ⟨p, xs, rfl, .inl h, q⟩
theorem g_lenT {p : Addr} {xs : List V} {H : Hp} {Q : VK} (h : SqT K H p xs) (q : Q (.int xs.length) H) : Z.rLen K [.ref p] H Q := ⟨p, xs, rfl, .inr h, q⟩
theorem z_isi (h : X.K = K := by rfl) : CallR X (.builtin "isinstance") (rIsi K) := by
  subst h
  exact call_isi
theorem z_isiT (h : X.K = K := by rfl) : CallR X (.builtin "isinstance") (rIsiT K) := by
  subst h
  exact call_isiT
theorem z_bm {T id : String} {name : Str} {es : List Expr} {r : V → List V → Hp → VK → Prop} {to : TE} {t : TA} {apos cpos : Pos} (pa : PlainAttrs T) (slot : Slot T name id) (hty : typeOf (.builtin id) = pure (.type "method_descriptor")) (hm : MtR X id r) (ho : PE X o to) (ha : PA X (e :: es) t) (h : X.K = K := by rfl)
    (h1 : attributeBase o name X.env (eval o X.env) = eval o X.env := by rfl)
    (h2 : ((backTo cpos (starEach (e :: es) X.env)).all (fun x => !x.1) && (backToKw cpos (keywordEach [] X.env)).all (fun x => x.1.isSome) && decide ((e :: es).length + ([] : List Keyword).length + (if ([] : List Keyword).isEmpty then 0 else 1) < 30)) = true := by rfl)
    (h3 : (apos.endLine == cpos.line) = true := by rfl) (h4 : starEach (e :: es) X.env = (false, eval e X.env) :: starEach es X.env := by rfl) (h5 : (backTo cpos (starEach es X.env)).any (·.1) = false := by rfl) :
    PE X (.Call (.Attribute o name apos) (e :: es) [] cpos) (tBM K T r to t) := by
  subst h
  exact pe_bm pa slot hty hm ho ha h1 h2 h3 h4 h5
theorem z_bm0 {T id : String} {name : Str} {r : V → List V → Hp → VK → Prop} {to : TE} {apos cpos : Pos} (pa : PlainAttrs T) (slot : Slot T name id) (hty : typeOf (.builtin id) = pure (.type "method_descriptor")) (hm : MtR X id r) (ho : PE X o to) (h : X.K = K := by rfl)
    (h1 : attributeBase o name X.env (eval o X.env) = eval o X.env := by rfl) (h3 : (apos.endLine == cpos.line) = true := by rfl) : PE X (.Call (.Attribute o name apos) [] [] cpos) (tBM0 K T r to) := by
  subst h
  exact pe_bm0 pa slot hty hm ho h1 h3
theorem z_gT {es : List Expr} {k n : Nat} {t : TGs} (hc : X.calm = true) (hp : PGs X es t) (h1 : (assignEach es X.env).length = n := by rfl) (h2 : (assignEach es X.env).findIdx? (·.1) = none := by rfl) (h : X.K = K := by rfl) : PG X (.Tuple es k pos) (gTup K n t) := by
  subst h
  exact pg_tup hc hp h1 h2
theorem z_gL {es : List Expr} {k n : Nat} {t : TGs} (hc : X.calm = true) (hp : PGs X es t) (h1 : (assignEach es X.env).length = n := by rfl) (h2 : (assignEach es X.env).findIdx? (·.1) = none := by rfl) (h : X.K = K := by rfl) : PG X (.Tuple es k pos) (gLst K n t) := by
  subst h
  exact pg_lst hc hp h1 h2
theorem g_gT {n : Nat} {p : Addr} {xs : List V} {t : TGs} {σ : L2.St} {H : Hp} {R : L2.St → Hp → Prop} (h : SqT K H p xs) (l : xs.length = n) (q : t xs σ H R) : gTup K n t (.ref p) σ H R := ⟨p, xs, rfl, h, l, q⟩
theorem g_gL {n : Nat} {p : Addr} {xs : List V} {t : TGs} {σ : L2.St} {H : Hp} {R : L2.St → Hp → Prop} (h : SqL K H p xs) (l : xs.length = n) (q : t xs σ H R) : gLst K n t (.ref p) σ H R := ⟨p, xs, rfl, h, l, q⟩
theorem g_gnil {σ : L2.St} {H : Hp} {R : L2.St → Hp → Prop} (q : R σ H) : gNil [] σ H R := ⟨rfl, q⟩
theorem g_gcons {v : V} {r : List V} {t : TG} {u : TGs} {σ : L2.St} {H : Hp} {R : L2.St → Hp → Prop} (q : t v σ H fun σ' H' => u r σ' H' R) : gCons t u (v :: r) σ H R := ⟨v, r, rfl, q⟩
theorem g_par {i j : Nat} {ta : TA} {nx bk ct : L2.St → Hp → Prop} {rt : VK} {σ : L2.St} {H : Hp} (q : ta σ H fun vs H1 => ∃ v w, vs = [v, w] ∧ nx ((σ.set i (some v)).set j (some w)) H1) : tPar i j ta ⟨nx, rt, bk, ct⟩ σ H := q
theorem g_par3 {i j l : Nat} {ta : TA} {nx bk ct : L2.St → Hp → Prop} {rt : VK} {σ : L2.St} {H : Hp} (q : ta σ H fun vs H1 => ∃ u v w, vs = [u, v, w] ∧ nx (((σ.set i (some u)).set j (some v)).set l (some w)) H1) : tPar3 i j l ta ⟨nx, rt, bk, ct⟩ σ H := q
theorem g_ex2 {v w : V} {R : V → V → Prop} (q : R v w) : ∃ v' w', [v, w] = [v', w'] ∧ R v' w' := ⟨v, w, rfl, q⟩
theorem g_ex3 {u v w : V} {R : V → V → V → Prop} (q : R u v w) : ∃ u' v' w', [u, v, w] = [u', v', w'] ∧ R u' v' w' := ⟨u, v, w, rfl, q⟩
theorem g_bm {T : String} {r : V → List V → Hp → VK → Prop} {to : TE} {t : TA} {σ : L2.St} {H : Hp} {Q : VK} (q : to σ H fun x H1 => tyV K T x H1 ∧ t σ H1 fun xs H2 => r x xs H2 Q) : tBM K T r to t σ H Q := q
theorem g_bm0 {T : String} {r : V → List V → Hp → VK → Prop} {to : TE} {σ : L2.St} {H : Hp} {Q : VK} (q : to σ H fun x H1 => tyV K T x H1 ∧ r x [] H1 Q) : tBM0 K T r to σ H Q := q
theorem g_tyL {p : Addr} {xs : List V} {H : Hp} {A : Prop} (h : H p = some (.lst xs)) (q : A) : tyV K "list" (.ref p) H ∧ A := ⟨.inl ⟨rfl, _, SqL.of h⟩, q⟩
theorem g_append {p : Addr} {xs : List V} {y : V} {H : Hp} {Q : VK} (h : H p = some (.lst xs)) (l : xs.length < sizeLine) (q : Q .non (upd H p (.lst (xs ++ [y])))) : rAppend (.ref p) [y] H Q := ⟨p, xs, y, rfl, rfl, h, l, q⟩
theorem g_aug {i : Nat} {te : TE} {ti : TIp} {x : V} {nx bk ct : L2.St → Hp → Prop} {rt : VK} {σ : L2.St} {H : Hp} (h : σ[i]? = some (some x)) (q : te σ H fun y H1 => ti x y H1 fun z H2 => nx (σ.set i (some z)) H2) : tAug i te ti ⟨nx, rt, bk, ct⟩ σ H := ⟨x, h, q⟩
theorem g_ipI {f : Int → Int → Int} {a b : Int} {H : Hp} {Q : VK} (q : Q (.int (f a b)) H) : ipI f (.int a) (.int b) H Q := ⟨a, b, rfl, rfl, q⟩
/-- x *= y of great ints -/
def ipMW : TIp := fun x y H Q => ∃ i j, x = .int i ∧ y = .int j ∧ CMulW i j ∧ Q (.int (i * j)) H
theorem ip_mulW : PIp X .Mult ipMW := by
  intro pins s σ H x y v u Q I r1 r2 h
  obtain ⟨i, j, e1, e2, hc, q⟩ := h
  subst e1; subst e2
  obtain ⟨t, rfl⟩ := r1
  obtain ⟨t', rfl⟩ := r2
  exact imul_int ⟨.int _, H, I.tok _, ⟨_, rfl⟩, q⟩ hc.ok
theorem g_ipMW {a b : Int} {H : Hp} {Q : VK} (c : CMulW a b) (q : Q (.int (a * b)) H) : ipMW (.int a) (.int b) H Q := ⟨a, b, rfl, rfl, c, q⟩
theorem g_in {p : Addr} {xs : List V} {x : V} {H : Hp} {Q : VK} (h : SqL K H p xs ∨ SqT K H p xs) (f1 : flatV x = true) (f2 : xs.all flatV = true) (q : Q (.bl (inV x xs)) H) : rIn K false x (.ref p) H Q := ⟨p, xs, rfl, h, f1, f2, q⟩
theorem g_notIn {p : Addr} {xs : List V} {x : V} {H : Hp} {Q : VK} (h : SqL K H p xs ∨ SqT K H p xs) (f1 : flatV x = true) (f2 : xs.all flatV = true) (q : Q (.bl (!inV x xs)) H) : rIn K true x (.ref p) H Q := ⟨p, xs, rfl, h, f1, f2, q⟩
end
/-! ### steps of readings -/
section
variable {K : PySem.W.Frag} {σ : L2.St} {H : Hp} {Q rt : VK} {nx bk ct : L2.St → Hp → Prop} {i : Nat} {x y v : V} {ta tb tc te : TE} {t : TA} {A B : Prop}
theorem g_var (h : σ[i]? = some (some v)) (q : Q v H) : tVar i σ H Q := ⟨v, h, q⟩
theorem g_c (q : Q v H) : tC v σ H Q := q
theorem g_op {r : R2} (q : ta σ H fun x H1 => tb σ H1 fun y H2 => r x y H2 Q) : tOp r ta tb σ H Q := q
theorem g_I0 {g : Int → Int → V} {a b : Int} (q : Q (g a b) H) : rI0 g (.int a) (.int b) H Q := ⟨a, b, rfl, rfl, q⟩
theorem g_I {C : Int → Int → Prop} {g : Int → Int → V} {a b : Int} (c : C a b) (q : Q (g a b) H) : rI C g (.int a) (.int b) H Q := ⟨a, b, rfl, rfl, c, q⟩
theorem g_cons {tr : TA} {R : List V → Hp → Prop} (q : ta σ H fun x H1 => tr σ H1 fun xs H2 => R (x :: xs) H2) : tCons ta tr σ H R := q
theorem g_nil {R : List V → Hp → Prop} (q : R [] H) : tNil σ H R := q
theorem g_seq {t u : TS} (q : t ⟨u ⟨nx, rt, bk, ct⟩, rt, bk, ct⟩ σ H) : tSeq t u ⟨nx, rt, bk, ct⟩ σ H := q
theorem g_asg {g : TG} (q : te σ H fun x H1 => g x σ H1 nx) : tAsg te g ⟨nx, rt, bk, ct⟩ σ H := q
theorem g_name {R : L2.St → Hp → Prop} {w : L2.St} (e : σ.set i (some v) = w) (q : R w H) : gName i v σ H R := by
  subst e
  exact q
theorem g_ret (q : te σ H rt) : tRet te ⟨nx, rt, bk, ct⟩ σ H := q
theorem g_retN (q : rt .non H) : tRetN ⟨nx, rt, bk, ct⟩ σ H := q
theorem g_drop (q : te σ H fun _ H1 => nx σ H1) : tDrop te ⟨nx, rt, bk, ct⟩ σ H := q
theorem g_next (q : nx σ H) : tNext ⟨nx, rt, bk, ct⟩ σ H := q
theorem g_break (q : bk σ H) : tBreak ⟨nx, rt, bk, ct⟩ σ H := q
theorem g_cont (q : ct σ H) : tCont ⟨nx, rt, bk, ct⟩ σ H := q
theorem g_ifs {c : TT} {t u : TS} (q : c σ H fun b H1 => if b = true then t ⟨nx, rt, bk, ct⟩ σ H1 else u ⟨nx, rt, bk, ct⟩ σ H1) : tIfS c t u ⟨nx, rt, bk, ct⟩ σ H := q
theorem g_if {c : TT} (q : c σ H fun b H1 => if b = true then ta σ H1 Q else tb σ H1 Q) : tIf c ta tb σ H Q := q
theorem g_test {R : Bool → Hp → Prop} (q : te σ H fun x H' => ∃ k, x = .bl k ∧ R k H') : tTest te σ H R := q
theorem g_B {R : Bool → Hp → Prop} (q : te σ H fun x H' => ∃ k, x = .bl k ∧ R k H') : tB te σ H R := q
theorem g_bl {b : Bool} {R : Bool → Prop} (q : R b) : ∃ k, V.bl b = .bl k ∧ R k := ⟨b, rfl, q⟩
theorem g_not {c : TT} {R : Bool → Hp → Prop} (q : c σ H fun b H1 => R (!b) H1) : tNot c σ H R := q
theorem g_notV (q : ta σ H fun x H1 => ∃ c, x = .bl c ∧ Q (.bl (!c)) H1) : tNotV ta σ H Q := q
theorem g_and {a b : TT} {R : Bool → Hp → Prop} (q : a σ H fun c H1 => if c = true then b σ H1 R else R false H1) : tAnd a b σ H R := q
theorem g_or {a b : TT} {R : Bool → Hp → Prop} (q : a σ H fun c H1 => if c = true then R true H1 else b σ H1 R) : tOr a b σ H R := q
theorem g_andV (q : ta σ H fun x H1 => ∃ c, x = .bl c ∧ if c = true then tb σ H1 Q else Q (.bl false) H1) : tAndV ta tb σ H Q := q
theorem g_orV (q : ta σ H fun x H1 => ∃ c, x = .bl c ∧ if c = true then Q (.bl true) H1 else tb σ H1 Q) : tOrV ta tb σ H Q := q
theorem g_chain {r r' : R2} (q : ta σ H fun x H1 => tb σ H1 fun y H2 => r x y H2 fun z H3 => ∃ k, z = .bl k ∧ (if k = true then tc σ H3 fun z H4 => r' y z H4 Q else Q (.bl false) H3)) : tChain r r' ta tb tc σ H Q := q
theorem g_cb {r : List V → Hp → VK → Prop} (q : t σ H fun vs H1 => r vs H1 Q) : tCB r t σ H Q := q
theorem g_call {sp : Sp} {dvs : List V} {E : XK} (q : t σ H fun vs H1 => sp (vs ++ dvs) H1 Q E) : tCall sp dvs E t σ H Q := q
theorem g_un {r : V → Hp → VK → Prop} (q : ta σ H fun x H1 => r x H1 Q) : tUn r ta σ H Q := q
theorem g_U {g : Int → V} {a : Int} (q : Q (g a) H) : rU g (.int a) H Q := ⟨a, rfl, q⟩
theorem g_eq (s : scal x y = true) (q : Q (.bl (decide (x = y))) H) : rEq x y H Q := ⟨s, q⟩
theorem g_ne (s : scal x y = true) (q : Q (.bl (!decide (x = y))) H) : rNe x y H Q := ⟨s, q⟩
theorem g_lst (q : t σ H fun xs H1 => xs.length ≤ sizeLine ∧ ∀ p, H1 p = none → Q (.ref p) (upd H1 p (.lst xs))) : tLst t σ H Q := q
theorem g_tup (q : t σ H fun xs H1 => xs.length ≤ sizeLine ∧ ∀ p, H1 p = none → Q (.ref p) (upd H1 p (.tup xs))) : tTup t σ H Q := q
theorem g_ixL {p : Addr} {xs : List V} {j : Int} (h : SqL K H p xs) (e : atI xs j = some v) (q : Q v H) : rIxL K (.ref p) (.int j) H Q := ⟨p, xs, j, v, rfl, rfl, h, e, q⟩
theorem g_ixT {p : Addr} {xs : List V} {j : Int} (h : SqT K H p xs) (e : atI xs j = some v) (q : Q v H) : rIxT K (.ref p) (.int j) H Q := ⟨p, xs, j, v, rfl, rfl, h, e, q⟩
theorem g_sub {to ti : TE} {s : TSet} {R : L2.St → Hp → Prop} (q : to σ H fun o H1 => ti σ H1 fun j H2 => s o j v H2 fun H3 => R σ H3) : gSub to ti s v σ H R := q
theorem g_setL {p : Addr} {xs : List V} {j : Int} {m : Nat} {R : Hp → Prop} (h : H p = some (.lst xs)) (e : ixN xs.length j = some m) (q : R (upd H p (.lst (xs.set m v)))) : rSetL (.ref p) (.int j) v H R := ⟨p, xs, j, m, rfl, rfl, h, e, q⟩
theorem g_inl {C : Prop} (q : A) : A ∨ C := .inl q
theorem g_int1 {a : Int} {C : Prop} {R : V → Prop} (q : R (.int a)) : (∃ i, [V.int a] = [V.int i] ∧ R (.int i)) ∨ C := .inl ⟨a, rfl, q⟩
theorem g_ite {c : Prop} [Decidable c] (h1 : c → A) (h2 : ¬ c → B) : if decide c = true then A else B := by
  by_cases h : c
  · rw [if_pos (decide_eq_true h)]
    exact h1 h
  · rw [if_neg (fun z => h (of_decide_eq_true z))]
    exact h2 h
theorem g_iten {c : Prop} [Decidable c] (h1 : ¬ c → A) (h2 : c → B) : if (!decide c) = true then A else B := by
  by_cases h : c
  · rw [decide_eq_true h, if_neg (by decide)]
    exact h2 h
  · rw [decide_eq_false h, if_pos (by decide)]
    exact h1 h
theorem g_iteb {b : Bool} (h1 : b = true → A) (h2 : b = false → B) : if b = true then A else B := by
  cases b with
  | true => exact h1 rfl
  | false => exact h2 rfl
theorem g_yes {R : Bool → Hp → Prop} (q : R true H) : tYes σ H R := q
theorem g_tt (q : A) : if true = true then A else B := q
theorem g_nt (q : B) : if (!true) = true then A else B := q
theorem g_nf (q : A) : if (!false) = true then A else B := q
theorem g_ff (q : B) : if false = true then A else B := q
theorem g_trub {b : Bool} {R : Bool → Prop} (q : R b) : ∃ k, TruV K (.bl b) H k ∧ R k := ⟨b, rfl, q⟩
end
end Z
set_option Elab.async false
set_option linter.all false
set_option maxRecDepth 100000
set_option maxHeartbeats 4000000
/-! Own exceptions of one field "given", raised; a try with several clauses that name the exception. -/
namespace Z
open PySem PySem.Spec PyProof.Rows L2
/-! ### a try with several clauses «except X as n» -/
abbrev Suite := Addr → Value → Option Addr → TS
/-- behind a suite the slot i is empty -/
def Ends.wiped (D : Ends) (i : Nat) : Ends := ⟨fun τ G => D.nx (τ.set i none) G, D.rt, fun τ G => D.bk (τ.set i none) G, fun τ G => D.ct (τ.set i none) G⟩
/-- what the clauses wish -/
def wCl (K : PySem.W.Frag) (i : Nat) (W0 : WX) (D : Ends) : List (Value × Suite) → WX
  | [] => W0
  | (c, ts) :: r => fun cls d τ G => ∃ b, PySem.W.exmOne K cls c = some b ∧ (b = true → ∀ a, G a = none → ts a cls d (Ends.wiped D i) (τ.set i (some (.ref a))) G) ∧ (b = false → wCl K i W0 D r cls d τ G)
/-- the clauses of the text -/
inductive Cls1 (X : Cx) (n : Str) : List ExceptHandler → List (Value × Suite) → Prop
  | nil : Cls1 X n [] []
  | cons {x : Str} {c : Value} {ts : Suite} {s0 : Stmt} {ss : List Stmt} {p1 p2 : Pos} {hs : List ExceptHandler} {l : List (Value × Suite)} (nm : Names X x c)
      (su : ∀ (a : Addr) (oe : Obj) (cls : Value) (d : Option Addr) (pn : List (Addr × Obj)), Zc cls d oe → (∃ vs, oe.data = .fields vs) → PSs (X.suite a ((a, oe) :: pn)) (s0 :: ss) (ts a cls d)) (r : Cls1 X n hs l) :
      Cls1 X n (.ExceptHandler (some (.Name x p1)) (some n) (s0 :: ss) p2 :: hs) ((c, ts) :: l)
section
variable {X : Cx} {n : Str} {i : Nat} {W0 : WX}
/-- the clauses, tried in their order, at a caught exception -/
theorem clauses_run (hs : X.stack = X.env :: X.outer) (hf : X.env.frame = some X.env.locals) (hN : X.N.Nodup) (hi : X.N[i]? = some n) (hn : X.env.kindOf n = some .local) (tk : Takes X W0)
    {pins : List (Addr × Obj)} {τ : L2.St} {G : Hp} {D : Ends} {sI s' : Shared} {a : Addr} {B : Heap} {cls : Value} {d : Option Addr} {g : Heap} (J : Inv X pins τ G sI)
    (nb : ∀ b o, sI.heap.get? b = some o → b ∉ frs X.stack → B.get? b = some o) (up : sI.heap.UpToSlots g) (fl : HandSPX.FlyingZ B (X.env :: X.outer) a (Zc cls d) g) (na : G a = none) (os : s'.os = sI.os) (ag : AllBare s'.gens) :
    ∀ {hds : List ExceptHandler} {l : List (Value × Suite)}, Cls1 X n hds l → wCl X.K i W0 D l cls d τ G →
      wpAny (model X.prog X.w) X.A (handleBy (.ref a) X.env hds) (SP X pins D) X.xe { s' with heap := g } := by
  have land : ∀ {f : Heap}, HandSPX.FlyingZ B (X.env :: X.outer) a (Zc cls d) f → sI.heap.UpToSlots f → ∃ oe, (∃ vs, oe.data = .fields vs) ∧ Zc cls d oe ∧ f.get? a = some oe ∧ Inv X pins τ G { s' with heap := f } ∧
      Inv (X.suite a ((a, oe) :: (X.pn ++ pins))) [] τ G { s' with heap := f } := by
    intro f ff uf
    have I2 : Inv X pins τ G { s' with heap := f } := J.landed nb ff.1 uf os ag
    obtain ⟨oe, vs, e1, e2, e3⟩ := ff.there
    have out : a ∉ frs (X.env :: X.outer) := fun z => by
      obtain ⟨_, ob, e4, e5⟩ := ff.2.2.1.mem z
      rw [e1] at e4
      cases e4
      exact e5 _ e3
    have o1 : a ≠ X.env.locals := fun z => out (List.mem_filterMap.mpr ⟨X.env, List.mem_cons_self, by rw [hf, z]⟩)
    have o2 : a ∉ X.fs := fun z => by
      obtain ⟨v, v1, v2⟩ := List.mem_filterMap.mp z
      exact out (List.mem_filterMap.mpr ⟨v, List.mem_cons_of_mem _ v1, v2⟩)
    exact ⟨oe, ⟨vs, e3⟩, e2, e1, I2, I2.suite e1 e3 na o1 o2⟩
  intro hds l C
  induction C with
  | nil =>
    intro w
    refine wpAny_handleBy_nil ?_
    obtain ⟨_, _, _, oe, vs, T, oT, ts', e1, _, e3, e4, _⟩ := id fl
    unfold PySem.passOn
    refine wpAny_bind (wpAny_field e1 e3 e4 ?_)
    rw [if_neg (by simp : ¬ ((Value.ref T == Value.none) = true))]
    have last : wpAny (model X.prog X.w) X.A (setFlight (.ref a) X.env.frame) (fun _ s4 => wpAny (model X.prog X.w) X.A (throw (.ref a) : Sem Flow) (SP X pins D) X.xe s4) X.xe { s' with heap := g } := by
      rw [hf]
      exact HandSPX.setFlight_upZ fl fun f hh uf => wpAny_throw (tk _ _ ⟨a, B, sI, pins, τ, G, cls, d, rfl, J, nb, up.trans uf, .inr (.inr (by rw [hs]; exact hh)), na, os, ag, w⟩)
    first | exact wpAny_bind (wpAny_pure (wpAny_bind last)) | exact wpAny_bind last
  | @cons x c ts s0 ss p1 p2 hs' l' nm su r ih =>
    rintro ⟨b, hb, yes, no⟩
    obtain ⟨oe, of_, oz, og, J3, S3⟩ := land fl up
    refine wpAny_handleBy_cons (codeAny_handlers_test ?_) (by intro z; cases z)
    have LM := PySem.W.exm_one (M := model X.prog X.w) J3.kIn (fun A Q E s k z => wpAny_typeOf_ref (k _ _ og) (by rw [oz.1]; exact z) : PySem.W.Looks (model X.prog X.w) g (typeOf (.ref a)) cls) hb
    have test : ∀ {Q E : Value → Shared → Prop}, Q c { s' with heap := g } → wpAny (model X.prog X.w) (X.A.mark (some (.ref a))) (eval (.Name x p1) X.env) Q E { s' with heap := g } := by
      intro Q E z
      obtain ⟨n1, n2, n3 | ⟨n3, n4, n5⟩⟩ := nm
      · exact ld_glob (X := X.suite a ((a, oe) :: (X.pn ++ pins))) S3 n1 n3 z n2
      · exact ld_blt (X := X.suite a ((a, oe) :: (X.pn ++ pins))) S3 n1 n3 n4 z n5 n2
    refine test (LM.here ?_)
    cases b with
    | false => exact ih (no rfl)
    | true =>
      refine codeAny_handlers_suite_as (HandSPX.lands_againZ fl fun f ff uf => ?_)
      obtain ⟨oe4, of4, oz4, og4, J4, S4⟩ := land ff (up.trans uf)
      refine store_ok (X := X.suite a ((a, oe4) :: (X.pn ++ pins))) (v := .ref a) S4 hN hi (.inl hn) rfl (fun s5 S5 => ?_) (.inr hn)
      refine wpAny_mono ((su a oe4 cls d (X.pn ++ pins) oz4 of4).run [] s5 _ G _ S5 (yes rfl a na)) (fun flow s6 z => ?_) (fun _ _ z => z.elim)
      have gone : ∀ {υ : L2.St} {G6 : Hp} {Q : Shared → Prop}, Inv (X.suite a ((a, oe4) :: (X.pn ++ pins))) [] υ G6 s6 → (∀ s7, Inv X pins (υ.set i none) G6 s7 → Q s7) →
          wpAny (model X.prog X.w) X.A (do bindName X.env n .none; unbindBehindTheSuite X.env n p2) (fun _ s7 => Q s7) X.xe s6 := fun S6 z => gone_ok (S6.unsuite J.ok) hN hi hn z
      cases flow with
      | next => obtain ⟨υ, G6, S6, z6⟩ := z; exact gone S6 fun _ J7 => ⟨_, _, J7, z6⟩
      | brk => obtain ⟨υ, G6, S6, z6⟩ := z; exact gone S6 fun _ J7 => ⟨_, _, J7, z6⟩
      | cont => obtain ⟨υ, G6, S6, z6⟩ := z; exact gone S6 fun _ J7 => ⟨_, _, J7, z6⟩
      | ret u => obtain ⟨v6, υ, G6, S6, r6, z6⟩ := z; exact gone S6 fun _ J7 => ⟨_, _, _, J7, r6, z6⟩
theorem ps_try_cl {body : List Stmt} {h0 : ExceptHandler} {hds : List ExceptHandler} {l : List (Value × Suite)} {tb : WX → TS} {pos : Pos} (hs : X.stack = X.env :: X.outer) (hf : X.env.frame = some X.env.locals) (hN : X.N.Nodup) (hi : X.N[i]? = some n)
    (hn : X.env.kindOf n = some .local) (tk : Takes X W0)
    (hb : ∀ (W : WX) (pn : List (Addr × Obj)) (xe : Value → Shared → Prop), Takes (X.tr pn xe) W → PassesOwn (model X.prog X.w) X.A X.env xe → PSs (X.tr pn xe) body (tb W)) (C : Cls1 X n (h0 :: hds) l) :
    PS X (.Try body (h0 :: hds) [] [] pos) (fun D σ H => tb (wCl X.K i W0 D l) D σ H) := by
  refine ⟨fun pins s σ H D I h => ?_⟩
  have fr : X.A.frames = some (X.env :: X.outer) := by rw [I.ok.frames, hs]
  have J := (hb (wCl X.K i W0 D l) (X.pn ++ pins) (fun e s1 => wpAny (model X.prog X.w) X.A (noteFrame e X.env) (fun _ s2 => wpAny (model X.prog X.w) X.A (setFlight e none)
      (fun _ s3 => wpAny (model X.prog X.w) X.A (handleBy e X.env (h0 :: hds)) (SP X pins D) X.xe s3) X.xe s2) X.xe s1)
    (fun u s1 z => by
      obtain ⟨a, B, sI, pins2, τ, G, cls, d, rfl, I2, nb, up, sky, na, os, ag, w⟩ := z
      exact Sky.land Zc.steady fr hf (by rw [← hs]; exact sky : Sky B (X.env :: X.outer) a (Zc cls d) X.env.locals s1.heap) fun g fl ug => clauses_run hs hf hN hi hn tk (I2.ofTry I.ok) nb (up.trans ug) fl na os ag C w)
    PassesOwn.looking).run [] s σ H D (I.toTry _) h
  refine wpAny_Try_except (wpAny_mono J (fun flow s1 z => ?_) fun _ _ z => z)
  cases flow with
  | next => obtain ⟨τ, G, I2, z⟩ := z; exact wpAny_execs_nil ⟨τ, G, I2.ofTry I.ok, z⟩
  | brk => obtain ⟨τ, G, I2, z⟩ := z; exact ⟨τ, G, I2.ofTry I.ok, z⟩
  | cont => obtain ⟨τ, G, I2, z⟩ := z; exact ⟨τ, G, I2.ofTry I.ok, z⟩
  | ret u => obtain ⟨v, τ, G, I2, r, z⟩ := z; exact ⟨v, τ, G, I2.ofTry I.ok, r, z⟩
end
/-! ### own exceptions of one field -/
/-- __init__(self, given): self.given = given -/
def spGiven (C : Addr) : Sp := fun vs H Q _ => ∃ (a : Addr) (v : V), vs = [.ref a, v] ∧ H a = some (exo a C none) ∧ ∀ dx, H dx = none → dx ≠ a → Q .non (upd (upd H dx (exd dx [(("given" : Str), v)])) a (exo a C (some dx)))
/-- what the head tells of such a class -/
def excB (K : PySem.W.Frag) (x f : Str) : Bool := (match K.lookup (He.ga K x) with
  | some ⟨.type "type", _, .cls cd, sl⟩ => (match cd.mro, sl.toList with
    | .ref C' :: bm, [_, _, _, _, some (.builtin m), _] => C' == He.ga K x && m == "ValueError.__new__" && !cd.hasDel && cd.hasDict && PySem.HandSPX.refsVE bm
    | _, _ => false)
  | _ => false) && (decide (PySem.W.findIn K (.ref (He.ga K x)) "__setattr__" = some (some (.builtin "object.__setattr__"))) && (decide (PySem.W.subIn K (.ref (He.ga K x)) (.type "BaseException") = some true) &&
  (decide (PySem.W.typeIn K (.ref (He.ga K x)) = some (.type "type")) && (PySem.W.keepIn K (.ref (He.ga K x)) && (xfB K (He.ga K x) && (decide (PySem.W.findIn K (.ref (He.ga K x)) f = some none) &&
  (decide (PySem.W.findIn K (.ref (He.ga K x)) "__init__" = some (some (.ref (He.ma K (He.ga K x) "__init__")))) && (decide (PySem.W.typeIn K (.ref (He.ma K (He.ga K x) "__init__")) = some (.type "function"))
    && decide (PySem.W.nsIn K mainGlobals x = some (some (.ref (He.ga K x))))))))))))
structure ExT (K : PySem.W.Frag) (x f : Str) : Prop where
  o : OexC K (He.ga K x)
  xf : XfC K (He.ga K x)
  no : PySem.W.findIn K (.ref (He.ga K x)) f = some none
  iC : PySem.W.findIn K (.ref (He.ga K x)) "__init__" = some (some (.ref (He.ma K (He.ga K x) "__init__")))
  tI : PySem.W.typeIn K (.ref (He.ma K (He.ga K x) "__init__")) = some (.type "function")
  ns : PySem.W.nsIn K mainGlobals x = some (some (.ref (He.ga K x)))
theorem excB_ok {K : PySem.W.Frag} {x f : Str} (h : excB K x f = true) : ExT K x f := by
  unfold excB at h
  simp only [Bool.and_eq_true, decide_eq_true_eq] at h
  obtain ⟨h1, h2, h3, h4, h5, h6, h7, h8, h9, h10⟩ := h
  refine ⟨⟨?_, h2, h3, h4, h5⟩, xfB_ok h6, h7, h8, h9, h10⟩
  split at h1
  · rename_i dd cd sl q
    split at h1
    · rename_i C' bm k0 k1 k2 k3 m k5 hm hl
      simp only [Bool.and_eq_true, beq_iff_eq, Bool.not_eq_true'] at h1
      obtain ⟨⟨⟨⟨e1, e2⟩, e3⟩, e4⟩, e5⟩ := h1
      obtain ⟨nm, bs, mro, ns, qn, hd, sn, sub, ab, col, del⟩ := cd
      obtain ⟨sl⟩ := sl
      dsimp only at hm hl e3 e4
      subst hm hl e3 e4 e2
      rw [e1] at q
      exact ⟨nm, qn, ns, bs, bm, sn, sub, ab, col, dd, k0, k1, k2, k3, k5, q, e5⟩
    · cases h1
  · cases h1
/-- such a class with its __init__ kept -/
def Exn (P : Program) (w : World) (K : PySem.W.Frag) (mg : Str → Option Value) (base : Heap) (x : Str) : Prop :=
  ExT K x "given" ∧ mg x = some (.ref (He.ga K x)) ∧ ∃ fd, FnOk P w K mg base (L2.CX P w) 1 (He.ma K (He.ga K x) "__init__") fd ["self", "given"] (spGiven (He.ga K x)) ∧ Binds K fd ["self", "given"] []
abbrev ExnX (X : Cx) (x : Str) : Prop := Exn X.prog X.w X.K X.mg X.base x
/-- what raise x(e) asks at e's value v -/
def RsOk (C : Addr) (W : WX) (σ : L2.St) (v : V) (H1 : Hp) : Prop := [v].length ≤ 1000 ∧ ∀ a, H1 a = none → spGiven C (.ref a :: ([v] ++ [])) (upd H1 a (exo a C none))
  (fun u H2 => u = .non ∧ ∃ (d : Addr) (fs : List (Str × V)), H2 a = some (exo a C (some d)) ∧ H2 d = some (exd d fs) ∧ H1 d = none ∧ W (.ref C) (some d) σ (upd (del H2 a) d (.xd fs))) (fun _ _ _ => False)
theorem rs_ok {C : Addr} {W : WX} {σ : L2.St} {v : V} {H1 : Hp} (q : ∀ d H', H1 d = none → Same H1 H' → H' d = some (.xd [(("given" : Str), v)]) → W (.ref C) (some d) σ H') : RsOk C W σ v H1 := by
  refine ⟨by simp, fun a ha => ⟨a, v, rfl, upd_same, fun dx hd ne => ⟨rfl, dx, _, upd_same, (upd_ne ne).trans upd_same, ?_, q dx _ ?_ ?_ upd_same⟩⟩⟩
  · rw [upd_ne ne] at hd; exact hd
  · rw [upd_ne ne] at hd; exact hd
  · intro b o e
    rw [upd_ne ne] at hd
    have n1 : b ≠ dx := ne_of_none e hd
    have n2 : b ≠ a := ne_of_none e ha
    rw [upd_ne n1, del_ne n2, upd_ne n2, upd_ne n1, upd_ne n2]
    exact e
/-- raise x(e) -/
def tRs (C : Addr) (W : WX) (te : TE) : TS := fun _ σ H => te σ H fun v H1 => RsOk C W σ v H1
section
variable {X : Cx} {x : Str} {e : Expr} {te : TE} {W : WX} {p pos pos2 : Pos}
theorem ps_rs (T : ExnX X x) (hr : Room 2 X.A) (tk : Takes X W) (he : PE X e te) (hc : X.calm = true := by rfl) (hg : Gl X x := by rfl) (hdb : (x == ("__debug__" : Str)) = false := by decide)
    (h1 : starEach (e :: []) X.env = (false, eval e X.env) :: starEach [] X.env := by rfl) (h2 : (backTo pos (starEach [] X.env)).any (·.1) = false := by rfl) :
    PS X (.Raise (some (.Call (.Name x p) [e] [] pos)) none pos2) (tRs (He.ga X.K x) W te) := by
  obtain ⟨T, hm, fd, F, hb⟩ := T
  exact ps_raise (pos := pos2) hc tk (pmk_oex (p := p) (pos := pos) T.o T.iC T.tI F hr hb .nil passL hg hm (pa_cons he pa_nil h1) hdb h1 h2)
end
theorem g_rs {C : Addr} {W : WX} {te : TE} {D : Ends} {σ : L2.St} {H : Hp} (q : te σ H fun v H1 => RsOk C W σ v H1) : tRs C W te D σ H := q
end Z
set_option Elab.async false
set_option linter.all false
set_option maxRecDepth 100000
set_option maxHeartbeats 4000000
/-! Calls by keywords; data and their text; a law's end. -/
namespace Z
open PySem PySem.Spec PyProof.Rows L2
/-! ### calls by keywords -/
/-- positional values, then the keywords' values in the order told -/
def gq {α : Type} (pm : List Nat) (us ws : List α) : List α := us ++ pm.filterMap fun i => ws[i]?
theorem gq_rel {vs zs : List V} {us ws : List Value} (pm : List Nat) (a : Vals vs us) (b : Vals zs ws) : Vals (gq pm vs zs) (gq pm us ws) := by
  refine a.append ?_
  induction pm with
  | nil => exact .nil
  | cons i r ih =>
    cases e : zs[i]? with
    | none =>
      have e2 := b.none_of e
      rw [List.filterMap_cons_none e, List.filterMap_cons_none e2]
      exact ih
    | some x =>
      obtain ⟨u, e2, rx⟩ := b.get e
      rw [List.filterMap_cons_some e, List.filterMap_cons_some e2]
      exact .cons rx ih
def FnK (P : Program) (w : World) (K : PySem.W.Frag) (mg : Str → Option Value) (base : Heap) (x : Str) (k : Nat) (ps : List Str) (sp : Sp) (n : Nat) (ks : List Str) (pm : List Nat) : Prop :=
  ∃ f fd, FnG P w K mg base k f fd ps sp ∧ mg x = some (.ref f) ∧ PySem.W.keepIn K (.ref f) = true ∧
    ∀ (s : Shared) (us ws : List Value), us.length = n → ws.length = ks.length → BindsTo s fd ⟨us, ks.zip ws⟩ (ps.zip (gq pm us ws))
abbrev FnKX (X : Cx) (x : Str) (k : Nat) (ps : List Str) (sp : Sp) (n : Nat) (ks : List Str) (pm : List Nat) : Prop := FnK X.prog X.w X.K X.mg X.base x k ps sp n ks pm
theorem Fn.kw {P : Program} {w : World} {K : PySem.W.Frag} {mg : Str → Option Value} {base : Heap} {x : Str} {k : Nat} {ps : List Str} {sp : Sp} {st : Stmt} {f : Addr} {fd : FuncData} (F : Fn P w K mg base x k ps sp) (D : Df K mg x st f fd) (n : Nat) (ks : List Str) (pm : List Nat)
    (h : ∀ (kV doc pmv : Value) (an : Option Addr) (cdv ct : Value) (us ws : List Value), us.length = n → ws.length = ks.length → bindArgs (PySem.W.fnOf x x (defArgs st) (defBody st) (defScope st) .none kV doc pmv an cdv ct) ⟨us, ks.zip ws⟩ = pure (ps.zip (gq pm us ws))) :
    FnK P w K mg base x k ps sp n ks pm := by
  obtain ⟨f', fd', G, hm, hk, _, st', D'⟩ := F
  have ef : f = f' := by have := D.1.symm.trans hm; cases this; rfl
  subst ef
  have hD := D.2
  obtain ⟨oc, od, dV, kV, doc, pmv, an, cdv, ct, osl, e1, lk, _, hd, _⟩ := hD.ex
  obtain ⟨_, _, _, _, _, _, _, _, _, _, _, lk', _⟩ := D'.ex
  have efd : fd' = fd := by
    rw [lk] at lk'
    cases lk'
    rfl
  subst efd
  refine ⟨f, _, G, hm, hk, fun s us ws l1 l2 => ?_⟩
  rcases hd with ⟨_, rfl⟩ | ⟨z, _⟩
  · rw [e1]
    exact .of_eq (h kV doc pmv an cdv ct us ws l1 l2)
  · exact absurd rfl z
section
variable {X : Cx} {E : XK} {W : WX} {x : Str} {k n : Nat} {ps ks : List Str} {pm : List Nat} {sp : Sp} {e : Expr} {es : List Expr} {kws : List Keyword} {t tk : TA} {p pos : Pos}
theorem run_gk {f : Addr} {fd : FuncData} {pins : List (Addr × Obj)} {σ : L2.St} {H : Hp} {s : Shared} {Q : VK} {us ws : List Value} {vs zs : List V} (F : FnG X.prog X.w X.K X.mg X.base k f fd ps sp) (room : Room k X.A) (gd : X.A.guards = some [])
    (hb : BindsTo s fd ⟨us, ks.zip ws⟩ (ps.zip (gq pm us ws))) (hx : ∀ e s', L2.CX X.prog X.w X.stack H s E e s' → X.xe e s') (I : Inv X pins σ H s) (rel : Vals vs us) (rel2 : Vals zs ws) (z : sp (gq pm vs zs) H Q E) : wpAny (model X.prog X.w) X.A (call (.ref f) us (ks.zip ws)) (EP X pins σ Q) X.xe s := by
  refine wpAny_call (codeAny_mono (F.run X.A X.stack s H ⟨us, ks.zip ws⟩ _ _ Q E room gd I.env0 hb (gq_rel pm rel rel2) z) fun r s2 w2 => ?_)
  rcases r with e | (_ | _ | _ | u)
  · exact hx e s2 w2
  · exact w2.elim
  · exact w2.elim
  · exact w2.elim
  · exact I.after w2
/-- f(k = v, ..) within a try's body -/
theorem fcallK0S (F : FnKX X x k ps sp 0 ks pm) (hr : Room k X.A) (gd : X.A.guards = some []) (tkw : Takes X W) (hkw : PK X kws tk) (hg : Gl X x := by rfl)
    (hall : (backToKw pos (keywordEach kws X.env)).all (·.1.isSome) = true := by rfl) (hks : (backToKw pos (keywordEach kws X.env)).filterMap (·.1) = ks := by rfl) (hdb : (x == ("__debug__" : Str)) = false := by decide)
    (hpl : ((backTo pos (starEach [] X.env)).any (·.1) || (backToKw pos (keywordEach kws X.env)).any (·.1.isNone)) = false := by rfl) :
    PE X (.Call (.Name x p) [] kws pos) (fun σ H Q => tk σ H fun zs H1 => zs.length = ks.length ∧ sp (gq pm [] zs) H1 Q fun cls d G => W cls d σ G) := by
  obtain ⟨f, fd, F, hm, hk, hb⟩ := F
  refine ⟨fun pins s σ H Q I h => wpAny_Call_Name_kw (ld_glob I hg hm ?_ hdb)⟩
  refine PySem.W.callWith_KW0 (h₀ := X.base) I.ok.mod.kin hk hall (thn (hkw.run pos pins s σ H _ I h) fun ws s1 ⟨zs, G, J, r, l, z⟩ => ⟨J.kIn, ?_⟩) hpl
  rw [hks]
  exact run_gk (us := []) F hr gd (hb s1 [] ws rfl (r.length.symm.trans l)) (fun e s2 c => tkw e s2 (XE.of_call J (fun _ _ _ w2 => w2) c)) J .nil r z
end
/-! ### data and their text -/
/-- the shape of a box: int, bool, int, int -/
def boxy : HO → Bool
  | .lst [.int _, .bl _, .int _, .int _] => true
  | _ => false
/-- all but boxes as it was -/
def But (H H' : Hp) : Prop := ∀ a o, boxy o = false → H a = some o → H' a = some o
theorem But.refl (H : Hp) : But H H := fun _ _ _ h => h
theorem But.trans {H H1 H2 : Hp} (a : But H H1) (b : But H1 H2) : But H H2 := fun x o n h => b x o n (a x o n h)
theorem _root_.L2.Same.but {H H' : Hp} (s : Same H H') : But H H' := fun a o _ h => s a o h
theorem _root_.L2.Same.new {H : Hp} {p : Addr} {o : HO} (h : H p = none) : Same H (upd H p o) := fun a u e => (upd_ne (ne_of_none e h)).trans e
/-- a new object may change -/
theorem _root_.L2.Same.mut {H H' : Hp} {p : Addr} {o : HO} (s : Same H H') (h : H p = none) : Same H (upd H' p o) := fun a u e => (upd_ne (ne_of_none e h)).trans (s a u e)
theorem But.mut {H H' : Hp} {p : Addr} {o : HO} (s : But H H') (h : H p = none) : But H (upd H' p o) := fun a u n e => (upd_ne (ne_of_none e h)).trans (s a u n e)
theorem But.free {H H' : Hp} {p : Addr} (s : Same H H') (h : H' p = none) : H p = none := s.free h
mutual
inductive Dt (H : Hp) : V → PyData → Prop
  | non : Dt H .non .none
  | bl (b : Bool) : Dt H (.bl b) (.bool b)
  | int (i : Int) : Dt H (.int i) (.int i)
  | str (x : Str) : Dt H (.str x) (.str x)
  | lst {a : Addr} {xs : List V} {ds : List PyData} : H a = some (.lst xs) → boxy (.lst xs) = false → Dts H xs ds → Dt H (.ref a) (.list ds)
  | tup {a : Addr} {xs : List V} {ds : List PyData} : H a = some (.tup xs) → Dts H xs ds → Dt H (.ref a) (.tuple ds)
  | edict {a : Addr} : H a = some (.dK []) → Dt H (.ref a) (.dict [])
inductive Dts (H : Hp) : List V → List PyData → Prop
  | nil : Dts H [] []
  | cons {v : V} {vs : List V} {d : PyData} {ds : List PyData} : Dt H v d → Dts H vs ds → Dts H (v :: vs) (d :: ds)
end
mutual
theorem Dt.but {H H' : Hp} (s : But H H') : ∀ {v : V} {d : PyData}, Dt H v d → Dt H' v d
  | _, _, .non => .non
  | _, _, .bl b => .bl b
  | _, _, .int i => .int i
  | _, _, .str x => .str x
  | _, _, .lst e n r => .lst (s _ _ n e) n (r.but s)
  | _, _, .tup e r => .tup (s _ _ rfl e) (r.but s)
  | _, _, .edict e => .edict (s _ _ rfl e)
theorem Dts.but {H H' : Hp} (s : But H H') : ∀ {vs : List V} {ds : List PyData}, Dts H vs ds → Dts H' vs ds
  | _, _, .nil => .nil
  | _, _, .cons h r => .cons (h.but s) (r.but s)
end
/-- a dict stands at sysModules in the written part -/
def sysB (K : PySem.W.Frag) : Bool := match K.lookup sysModules with
  | some ⟨.type c, _, _, _⟩ => c == "dict"
  | _ => false
section
variable {X : Cx} {pins : List (Addr × Obj)} {σ : L2.St} {H : Hp} {s : Shared}
theorem not_sys (hK : sysB X.K = true) (I : Inv X pins σ H s) {a : Addr} {o : HO} (e : H a = some o) : a ≠ sysModules := fun z => by
  subst z
  unfold sysB at hK
  split at hK
  · rename_i c d dt sl q
    have h1 := (I.bs _ _ (I.mod.kin _ _ q)).2
    rw [e] at h1
    cases h1
  · cases hK
mutual
theorem Dt.reads (hK : sysB X.K = true) (I : Inv X pins σ H s) : ∀ {v : V} {d : PyData} {u : Value}, Dt H v d → RelV v u → ∃ as, Reads s.heap u d as ∧ sysModules ∉ as
  | _, _, _, .non, r => by cases r; exact ⟨_, .none, by simp⟩
  | _, _, _, .bl b, r => by cases r; exact ⟨_, .bool b, by simp⟩
  | _, _, _, .int i, r => by obtain ⟨t, rfl⟩ := r; exact ⟨_, .int i t, by simp⟩
  | _, _, _, .str x, r => by obtain ⟨t, rfl⟩ := r; exact ⟨_, .str x t, by simp⟩
  | _, _, _, .lst (xs := xs) e n q, r => by
    cases r
    obtain ⟨_, its, m, rv, ho⟩ := (I.hok _ _ e : ObjOk X.prog X.w H s.heap _ (.lst xs))
    obtain ⟨as, ra, na⟩ := Dts.reads hK I q rv
    exact ⟨_, .list ho rfl rfl ra, by simp only [List.mem_cons, not_or]; exact ⟨fun z => not_sys hK I e z.symm, na⟩⟩
  | _, _, _, .tup (xs := xs) e q, r => by
    cases r
    obtain ⟨_, its, rv, o, ho, hc, m, hd⟩ := (I.hok _ _ e : ObjOk X.prog X.w H s.heap _ (.tup xs))
    obtain ⟨as, ra, na⟩ := Dts.reads hK I q rv
    exact ⟨_, .tuple ho hc hd ra, na⟩
  | _, _, _, .edict e, r => by
    cases r
    obtain ⟨_, _, vs, kv, o, es, ep, ho, hx, hd, _, hp, _⟩ := (I.hok _ _ e : ObjOk X.prog X.w H s.heap _ (.dK []))
    cases kv
    have hl := hp.length
    have e0 : es.toList = [] := List.length_eq_zero_iff.mp hl
    refine ⟨_, .dict (kvs := []) ho hx.1 hd (by rw [e0]; exact .nil) (by rw [e0]; exact .nil), ?_⟩
    simp only [List.append_nil, List.mem_cons, List.not_mem_nil, or_false]
    exact fun z => not_sys hK I e z.symm
theorem Dts.reads (hK : sysB X.K = true) (I : Inv X pins σ H s) : ∀ {vs : List V} {ds : List PyData} {us : List Value}, Dts H vs ds → Vals vs us → ∃ as, ReadsAll s.heap us ds as ∧ sysModules ∉ as
  | _, _, _, .nil, r => by cases r; exact ⟨_, .nil, by simp⟩
  | _, _, _, .cons h q, r => by
    cases r with
    | cons r1 r2 =>
      obtain ⟨as, a1, a2⟩ := h.reads hK I r1
      obtain ⟨bs, b1, b2⟩ := q.reads hK I r2
      exact ⟨_, .cons a1 b1, by simp only [List.mem_append, not_or]; exact ⟨a2, b2⟩⟩
end
/-- repr(x) of data that stand at an address -/
def rRepr : List V → Hp → VK → Prop := fun xs H Q => ∃ (a : Addr) (d : PyData), xs = [.ref a] ∧ Dt H (.ref a) d ∧ d.showable = true ∧ d.depth ≤ 50 ∧ d.shown.length ≤ sizeLine ∧ Q (.str d.shown) H
theorem call_repr (hK : sysB X.K = true) (gd : X.A.guards = some []) (hu : X.A.units + 64 < cLine) : CallR X (.builtin "repr") rRepr := by
  intro pins s σ H xs us Q I r h
  obtain ⟨a, d, rfl, hd, h1, h2, h3, q⟩ := h
  cases r with
  | cons r1 r2 =>
    cases r2
    obtain ⟨as, ra, na⟩ := hd.reads hK I r1
    cases r1
    refine repr_of_reads' ra h1 (fun _ => na) gd (by omega) (fun _ _ e => e) (fun g u tk k => ?_) h3
    exact ⟨.str d.shown, H, I.kept k, ⟨_, rfl⟩, q⟩
/-- == and != of data -/
def rEqT : R2 := fun x y H Q => ∃ d e, Dt H x d ∧ Dt H y e ∧ SeqAt.shaped d = true ∧ SeqAt.shaped e = true ∧ Q (.bl (PyData.eqv d e)) H
def rNeT : R2 := fun x y H Q => ∃ d e, Dt H x d ∧ Dt H y e ∧ SeqAt.shaped d = true ∧ SeqAt.shaped e = true ∧ Q (.bl (!PyData.eqv d e)) H
theorem z_eqD (hK : sysB X.K = true) (hu : X.A.units + 64 < cLine) : OpR X (compareOp .Eq) rEqT := by
  intro pins s σ H x y v u Q I rx ry h
  obtain ⟨d, e, hd, he, sd, se, q⟩ := h
  obtain ⟨_, r1, _⟩ := hd.reads hK I rx
  obtain ⟨_, r2, _⟩ := he.reads hK I ry
  exact SeqAt.compareEq_shaped r1 r2 sd se hu ⟨.bl _, H, I, rfl, q⟩
theorem z_neD (hK : sysB X.K = true) (hu : X.A.units + 64 < cLine) : OpR X (compareOp .NotEq) rNeT := by
  intro pins s σ H x y v u Q I rx ry h
  obtain ⟨d, e, hd, he, sd, se, q⟩ := h
  obtain ⟨_, r1, _⟩ := hd.reads hK I rx
  obtain ⟨_, r2, _⟩ := he.reads hK I ry
  exact SeqAt.compareNe_shaped r1 r2 sd se hu ⟨.bl _, H, I, rfl, q⟩
end
end Z
set_option Elab.async false
set_option linter.all false
set_option maxRecDepth 100000
set_option maxHeartbeats 4000000
/-! A law's end over promises that stand where no guard is around; the head's hook with sys.modules in sight. -/
namespace Z
open PySem PySem.Spec PyProof.Rows L2
section
variable {P : Program} {w : World} {K : PySem.W.Frag} {mg mb : Str → Option Value} {k : Nat} {fa a : Addr} {fd : FuncData} {x : Str} {sp : Sp} {s1 : Shared} {vs : List Value} {ns : List Int}
theorem law_end (KX : K.In s1.heap) (hns : s1.heap.Ns mainGlobals mg) (hb : s1.heap.Ns builtinsNs mb) (hbb : ∀ y : Str, y ≠ "__name__" → mb y = bootBuiltins y) (hlim : s1.heap.NoLimit) (hg : s1.gens = #[])
    (ha : s1.heap.get? a = some { cls := .type "list", data := .seq vs.toArray }) (hi : IntsAre vs ns) (hl : ns.length ≤ sizeLine) (room : Room k callerA)
    (F : ∀ base : Heap, K.In base → base.Ns mainGlobals mg → FnG P w K mg base k fa fd [x] sp) (bind : ∀ (s : Shared) (u : Value), BindsTo s fd ⟨[u], []⟩ [(x, u)])
    (hsp : ∀ H : Hp, Only H → SqL K H a (ns.map V.int) → sp [.ref a] H (fun v _ => v = .bl true) fun _ _ _ => False) :
    codeAny (model P w) callerA (.call (.ref fa) ⟨[.ref a], []⟩) (fun r s2 => r = .ok (.ret (.bool true)) ∧ OldK s1.heap s2.heap ∧ s2.os = s1.os ∧ AllBare s2.gens) s1 := by
  let ob : Obj := { cls := .type "list", data := .seq vs.toArray }
  let H : Hp := fun b => if b = a ∧ K.lookup a = none then some (.frz ob (.lst (ns.map V.int))) else none
  have at_ : ∀ {b u}, H b = some u → b = a ∧ K.lookup a = none ∧ u = .frz ob (.lst (ns.map V.int)) := fun {b u} e => by
    by_cases c : b = a ∧ K.lookup a = none
    · have e2 := (if_pos c).symm.trans e
      exact ⟨c.1, c.2, (Option.some.inj e2).symm⟩
    · cases (if_neg c).symm.trans e
  have only : Only H := fun b => by
    cases e : H b with
    | none => exact .inl rfl
    | some u => exact .inr ⟨ob, ns.map V.int, by rw [(at_ e).2.2]⟩
  have rel := vals_ints hi
  have okH : HOk P w H s1.heap := fun b u e => by
    obtain ⟨rfl, _, rfl⟩ := at_ e
    exact ⟨ha, by rw [List.length_map]; exact hl, vs, _, rel, ha⟩
  have seq : SqL K H a (ns.map V.int) := by
    cases e : K.lookup a with
    | none => exact .inl (.inr ⟨ob, if_pos ⟨rfl, e⟩⟩)
    | some o =>
      have e2 := KX a o e
      rw [ha] at e2
      cases e2
      exact .inr ⟨_, vs.toArray, _, e, rfl, rfl, rfl, by rw [List.size_toArray, hi.length]; exact hl, by simpa using rel⟩
  have stays : ∀ {b o}, s1.heap.get? b = some o → (b ≠ a ∨ K.lookup a ≠ none) → (hidT s1.heap H).get? b = some o := fun {b o} e c => hidT_get e (by
    cases q : H b with
    | none => rfl
    | some u =>
      obtain ⟨q1, q2, _⟩ := at_ q
      rcases c with c | c
      · exact (c q1).elim
      · exact (c q2).elim)
  have nsK : ∀ {b : Addr} {m : Str → Option Value}, s1.heap.Ns b m → (hidT s1.heap H).Ns b m := fun {b m} z => by
    obtain ⟨o, es, ep, e, d, r⟩ := z
    refine ⟨o, es, ep, stays e (.inl fun y => ?_), d, r⟩
    rw [y, ha] at e
    cases e
    cases d
  have kin : K.In (hidT s1.heap H) := fun b o e => stays (KX b o e) (by
    by_cases c : b = a
    · right
      rw [← c, e]
      simp
    · exact .inl c)
  have env : Env0 P w K mg (hidT s1.heap H) callerA [] s1 H := ⟨rfl, ⟨kin, nsK hns, ⟨mb, nsK hb, hbb⟩, let ⟨mc, h1, h2⟩ := hlim; ⟨mc, nsK h1, h2⟩⟩, fun _ _ e => of_hidT e, Nat.le_of_eq (hidT_size _ _), trivial,
    fun b z => absurd (show b ∈ ([] : List Addr) from z) (by simp), okH, .of_eq hg⟩
  refine codeAny_mono ((F _ kin (nsK hns)).run callerA [] s1 H ⟨[.ref a], []⟩ [.ref a] [.ref a] _ _ room rfl env (bind s1 (.ref a)) (.cons rfl .nil) (hsp H only seq)) fun r s2 z => ?_
  rcases r with e | (_ | _ | _ | u)
  · obtain ⟨_, _, _, _, _, _, _, _, _, _, _, _, z⟩ := (z : L2.CX P w [] H s1 _ e s2)
    exact z.elim
  · exact z.elim
  · exact z.elim
  · exact z.elim
  · obtain ⟨v, G, os, bare, un, ok2, r2, q⟩ := z
    subst q
    cases r2
    refine ⟨rfl, OldK.of_keep fun b o e => ?_, os, bare⟩
    cases q : H b with
    | none => exact un.keep b o e q (fun y => absurd (show b ∈ ([] : List Addr) from y) (by simp)) (by simp)
    | some u =>
      obtain ⟨rfl, _, rfl⟩ := at_ q
      have e2 := (ok2 _ _ (un.frzs _ _ _ q)).1
      rw [ha] at e
      cases e
      exact e2
end
/-- the end from a law's promise -/
theorem walk_end {l : PySem.W.OpenLaw} {n k : Nat} {q : Program} {loose : List Str} {XP : (Str → Option Value) → Heap → Prop} {YP : World → Heap → Prop} {d : DefRec} {x : Str}
    (hn : l.most = some n) (hn2 : n ≤ sizeLine) (hdf : d.params.defaults = []) (room : Room k callerA)
    (F : ∀ (w : World) (mg : Str → Option Value) (fa : Addr) (h : Heap), YP w h → h.Ns mainGlobals mg → mg d.name = some (.ref fa) →
      ∃ (K : PySem.W.Frag) (fd : FuncData) (sp : Sp), K.In h ∧ (∀ (s : Shared) (u : Value), BindsTo s fd ⟨[u], []⟩ [(x, u)]) ∧
        (∀ (H : Hp) (a : Addr) (ns : List Int), ns.length ≤ n → Only H → SqL K H a (ns.map V.int) → sp [.ref a] H (fun v _ => v = .bl true) fun _ _ _ => False) ∧
        ∀ base : Heap, K.In base → base.Ns mainGlobals mg → FnG l.prog w K mg base k fa fd [x] sp) :
    PySem.W.WalkO q loose XP YP l.row.toRowW d [] (fun f vs => PySem.call f vs) := by
  refine Att.attach_call hn hdf fun w s0 s1 mg mb fa o pm cd doc a vs ns G Y _ _ _ hmg hobj hints hlen hg => ?_
  obtain ⟨K, fd, sp, KX, hb, hs, hF⟩ := F w mg fa _ Y G.T.g hmg
  exact law_end KX G.T.g G.T.b G.T.builtins G.T.nolimit hg hobj hints (Nat.le_trans hlen hn2) room hF hb fun H hO hS => hs H a ns hlen hO hS
/-! ### the head -/
/-- the addresses in sight: those that the module's names lead to, and sys.modules -/
def asS (g : Addr → Option Obj) (n : Nat) : List Addr := He.asD g n ++ [sysModules]
abbrev AlS : Type := He.AlD × Bool
def obsS (n : Nat) (fa : List He.Fa) (fn : List He.DefD) (ex : PySem.W.Frag → Bool) (g : Addr → Option Obj) : AlS := (He.obsD fa fn (He.frG g (asS g n)), ex (He.frG g (asS g n)))
def hookS (n : Nat) (fa : List He.Fa) (fn : List He.DefD) (ex : PySem.W.Frag → Bool) : PySem.W.Hook where
  α := AlS
  obs := fun s => obsS n fa fn ex s.heap.get?
  val := fun _ => (He.valD fn, true)
  says := fun _ h => ∃ K : PySem.W.Frag, K.In h ∧ He.SaysD fa fn K ∧ ex K = true
  of := fun _ _ e => ⟨_, He.frG_in, congrArg (fun z : AlS => z.1) e, congrArg (fun z : AlS => z.2) e⟩
  keeps := fun _ _ _ ⟨K, hK, c, z⟩ k => ⟨K, PySem.W.Frag.In.keeps hK k, c, z⟩
theorem obsS_eq {n : Nat} {fa : List He.Fa} {fn : List He.DefD} {ex : PySem.W.Frag → Bool} {g : Addr → Option Obj} {s : Shared} (h : ∀ a, g a = s.heap.get? a) : obsS n fa fn ex g = (hookS n fa fn ex).obs s := by
  have e : g = s.heap.get? := funext h
  rw [e] <;> rfl
/-- the def of the i-th row, with its name -/
def DfB (x : Str) (st : Stmt) : He.DefD := ⟨(x, none), x, x, defArgs st, defBody st, defScope st, [], []⟩
theorem df_of {fa : List He.Fa} {fn : List He.DefD} {K : PySem.W.Frag} {h : Heap} {mg : Str → Option Value} (X : K.In h) (G : h.Ns mainGlobals mg) (c : He.SaysD fa fn K) (i j : Nat) {x : Str} {st : Stmt}
    (h1 : fn[i]? = some (DfB x st)) (h2 : fa[j]? = some (.glo x)) : ∃ fd, Df K mg x st (He.ga K x) fd := by
  obtain ⟨fd, F⟩ := c.def_ i h1
  exact ⟨fd, He.glo_ok X G (c.fact j h2), F⟩
end Z
set_option Elab.async false
set_option linter.all false
set_option maxRecDepth 100000
set_option maxHeartbeats 4000000
/-! Kinds of values, isinstance, constants, math.comb. -/
namespace Z
open PySem PySem.Spec PyProof.Rows L2
/-- the kind of a value -/
inductive Kn (H : Hp) : V → String → Prop
  | non : Kn H .non "NoneType"
  | bl (b : Bool) : Kn H (.bl b) "bool"
  | int (i : Int) : Kn H (.int i) "int"
  | str (x : Str) : Kn H (.str x) "str"
  | lst {a : Addr} {xs : List V} (e : H a = some (.lst xs)) : Kn H (.ref a) "list"
  | tup {a : Addr} {xs : List V} (e : H a = some (.tup xs)) : Kn H (.ref a) "tuple"
  | dK {a : Addr} {kvs : List (Key × V)} (e : H a = some (.dK kvs)) : Kn H (.ref a) "dict"
theorem Kn.same {H H' : Hp} {x : V} {t : String} (k : Kn H x t) (s : Same H H') : Kn H' x t := by
  cases k with
  | non => exact .non
  | bl b => exact .bl b
  | int i => exact .int i
  | str x => exact .str x
  | lst e => exact .lst (s _ _ e)
  | tup e => exact .tup (s _ _ e)
  | dK e => exact .dK (s _ _ e)
theorem Kn.ty {K : PySem.W.Frag} {H : Hp} {x : V} {t : String} (k : Kn H x t) : TyX K H x (.type t) := by
  cases k with
  | non => exact .base .non
  | bl b => exact .base (.bl b)
  | int i => exact .base (.int i)
  | str x => exact .base (.str x)
  | lst e => exact .base (.lst e)
  | tup e => exact .base (.tup e)
  | dK e => exact .base (.dK e)
/-- is the kind t one of n -/
def isK (n t : String) : Bool := n == t || (n == "int" && t == "bool")
theorem Kn.kit {K : PySem.W.Frag} {H : Hp} {x : V} {t n : String} (k : Kn H x t) (hn : n = "int" ∨ n = "bool" ∨ n = "list" ∨ n = "tuple" ∨ n = "str" ∨ n = "dict") : PySem.W.kitOne K (.type t) (.type n) = some (isK n t) := by
  refine kit_ty ?_
  rcases hn with rfl | rfl | rfl | rfl | rfl | rfl <;> cases k <;> decide +kernel
section
variable {K : PySem.W.Frag} {H : Hp} {Q : VK} {x : V} {t : String}
theorem g_isi {n : String} (k : Kn H x t) (q : Q (.bl (isK n t)) H) (hn : n = "int" ∨ n = "bool" ∨ n = "list" ∨ n = "tuple" ∨ n = "str" ∨ n = "dict" := by first | exact .inl rfl | exact .inr (.inl rfl) | exact .inr (.inr (.inl rfl)) | exact .inr (.inr (.inr (.inl rfl))) | exact .inr (.inr (.inr (.inr (.inl rfl)))) | exact .inr (.inr (.inr (.inr (.inr rfl))))) : rIsi K [x, .ty n] H Q :=
  ⟨x, .ty n, .type t, .type n, _, rfl, .ty n, k.ty, k.kit hn, q⟩
theorem g_isiT2 {p : Addr} {n m : String} (k : Kn H x t) (hp : H p = some (.tup [.ty n, .ty m])) (q : Q (.bl (isK n t || isK m t)) H)
    (hn : n = "int" ∨ n = "bool" ∨ n = "list" ∨ n = "tuple" ∨ n = "str" ∨ n = "dict" := by simp) (hm : m = "int" ∨ m = "bool" ∨ m = "list" ∨ m = "tuple" ∨ m = "str" ∨ m = "dict" := by first | exact .inl rfl | exact .inr (.inl rfl) | exact .inr (.inr (.inl rfl)) | exact .inr (.inr (.inr (.inl rfl))) | exact .inr (.inr (.inr (.inr (.inl rfl)))) | exact .inr (.inr (.inr (.inr (.inr rfl))))) : rIsiT K [x, .ref p] H Q := by
  refine ⟨x, p, _, .type t, [.type n, .type m], _, rfl, hp, .cons (.ty n) (.cons (.ty m) .nil), k.ty, ?_, q⟩
  refine kitAny_cons (k.kit hn) (fun h => ?_) (fun h => by rw [h]; rfl)
  rw [h]
  exact kitAny_cons (k.kit hm) (fun h2 => by rw [h2]; rfl) (fun h2 => by rw [h2]; rfl)
end
section
variable {X : Cx} {x : Str} {i : Int} {pos : Pos}
theorem gint (h : ∃ t, X.mg x = some (.int i t)) (hg : Gl X x := by rfl) (hd : (x == ("__debug__" : Str)) = false := by decide) : PE X (.Name x pos) (tC (.int i)) := by
  obtain ⟨t, e⟩ := h
  exact pe_glob hg e ⟨t, rfl⟩ hd
/-- math.comb of small numbers -/
def rComb : List V → Hp → VK → Prop := fun xs H Q => ∃ a b : Int, xs = [.int a, .int b] ∧ 0 ≤ a ∧ a < 2 ^ 64 ∧ 0 ≤ b ∧ b ≤ 9000 ∧ Q (.int (PySem.W.mcComb a b)) H
theorem cr_comb : CallR X (.builtin "math.comb") rComb := by
  intro pins s σ H vs us Q I r h
  obtain ⟨a, b, rfl, h1, h2, h3, h4, q⟩ := h
  obtain ⟨t, u, rfl⟩ := Vals.int2 r
  exact PySem.W.mc_comb h1 h3 h2 (.inl h4) fun _ => ⟨.int _, H, I.tok _, ⟨_, rfl⟩, q⟩
end
end Z
set_option Elab.async false
set_option linter.all false
set_option maxRecDepth 100000
set_option maxHeartbeats 4000000
/-! List comprehensions whose items are data. -/
namespace Z
open PySem PySem.Spec PyProof.Rows L2
theorem Dts.app {H : Hp} : ∀ {xs ys : List V} {ds es : List PyData}, Dts H xs ds → Dts H ys es → Dts H (xs ++ ys) (ds ++ es)
  | _, _, _, _, .nil, s => s
  | _, _, _, _, .cons h r, s => .cons h (r.app s)
theorem Dts.ints {H : Hp} : ∀ {xs : List V} {ns : List Int}, Dts H xs (ns.map PyData.int) → xs = ns.map V.int
  | _, [], h => by cases h; rfl
  | _, n :: ns, h => by
    cases h with
    | cons a r =>
      cases a
      rw [r.ints]
      rfl
theorem Dts.of_ints {H : Hp} : ∀ ns : List Int, Dts H (ns.map V.int) (ns.map PyData.int)
  | [] => .nil
  | n :: ns => .cons (.int n) (Dts.of_ints ns)
theorem Dts.bools {H : Hp} : ∀ {xs : List V} {ns : List Bool}, Dts H xs (ns.map PyData.bool) → xs = ns.map V.bl
  | _, [], h => by cases h; rfl
  | _, n :: ns, h => by
    cases h with
    | cons a r =>
      cases a
      rw [r.bools]
      rfl
theorem Dts.length {H : Hp} : ∀ {xs : List V} {ds : List PyData}, Dts H xs ds → xs.length = ds.length
  | _, _, .nil => rfl
  | _, _, .cons _ r => by rw [List.length_cons, List.length_cons, r.length]
theorem Dts.same {H H' : Hp} {xs : List V} {ds : List PyData} (h : Dts H xs ds) (s : Same H H') : Dts H' xs ds := h.but s.but
theorem Dts.get {H : Hp} : ∀ {xs : List V} {ds : List PyData} {i : Nat} {x : V}, Dts H xs ds → xs[i]? = some x → ∃ d, ds[i]? = some d ∧ Dt H x d
  | _, _, _, _, .nil, e => by simp at e
  | _, _, 0, _, .cons h _, e => by simp at e; subst e; exact ⟨_, rfl, h⟩
  | _, _, i + 1, _, .cons _ r, e => by
    obtain ⟨d, e1, e2⟩ := r.get (i := i) (by simpa using e)
    exact ⟨d, by simpa using e1, e2⟩
theorem Dts.get' {H : Hp} : ∀ {xs : List V} {ds : List PyData} {i : Nat} {d : PyData}, Dts H xs ds → ds[i]? = some d → ∃ x, xs[i]? = some x ∧ Dt H x d
  | _, _, _, _, .nil, e => by simp at e
  | _, _, 0, _, .cons h _, e => by simp at e; subst e; exact ⟨_, rfl, h⟩
  | _, _, i + 1, _, .cons _ r, e => by
    obtain ⟨d, e1, e2⟩ := r.get' (i := i) (by simpa using e)
    exact ⟨d, by simpa using e1, e2⟩
/-- what the turns below n give -/
def outs (n : Nat) (f : Nat → Option PyData) : List PyData := (List.range n).filterMap f
theorem outs_some {n : Nat} {f : Nat → Option PyData} {d : PyData} (h : f n = some d) : outs (n + 1) f = outs n f ++ [d] := by
  unfold outs
  rw [List.range_succ, List.filterMap_append, List.filterMap_cons_some h]
  rfl
theorem outs_none {n : Nat} {f : Nat → Option PyData} (h : f n = none) : outs (n + 1) f = outs n f := by
  unfold outs
  rw [List.range_succ, List.filterMap_append, List.filterMap_cons_none h]
  simp
theorem outs_len (n : Nat) (f : Nat → Option PyData) : (outs n f).length ≤ n := by
  have h := List.length_filterMap_le f (List.range n)
  rw [List.length_range] at h
  exact h
theorem outs_all {n : Nat} {g : Nat → PyData} : outs n (fun i => some (g i)) = (List.range n).map g := by
  unfold outs
  rw [List.filterMap_eq_map']
theorem outs_congr {n : Nat} {f g : Nat → Option PyData} (h : ∀ i, i < n → f i = g i) : outs n f = outs n g := by
  unfold outs
  have key : ∀ l : List Nat, (∀ i ∈ l, f i = g i) → l.filterMap f = l.filterMap g := by
    intro l
    induction l with
    | nil => intro _; rfl
    | cons a r ih => intro hl; rw [List.filterMap_cons, List.filterMap_cons, hl a (by simp), ih fun i hi => hl i (by simp [hi])]
  exact key _ fun i hi => h i (List.mem_range.mp hi)
theorem del_upd {H : Hp} {p : Addr} {o : HO} : del (upd H p o) p = del H p := by
  funext b
  by_cases h : b = p
  · rw [h, del_same, del_same]
  · rw [del_ne h, del_ne h, upd_ne h]
theorem del_new {H : Hp} {p : Addr} (h : H p = none) : del H p = H := by
  funext b
  by_cases e : b = p
  · rw [e, del_same, h]
  · rw [del_ne e]
theorem _root_.L2.Same.ofDel {H : Hp} {p : Addr} : Same (L2.del H p) H := fun a o e => by
  by_cases h : a = p
  · rw [h, del_same] at e; cases e
  · rw [del_ne h] at e; exact e
theorem _root_.L2.Same.toDel {H H' : Hp} {p : Addr} (s : Same H H') (h : H p = none) : Same H (L2.del H' p) := fun a o e => by
  rw [del_ne (ne_of_none e h)]
  exact s a o e
theorem _root_.L2.Same.del {H H' : Hp} {p : Addr} (s : Same H H') : Same (L2.del H p) (L2.del H' p) := fun a o e => by
  by_cases h : a = p
  · rw [h, del_same] at e; cases e
  · rw [del_ne h] at e ⊢; exact s a o e
theorem But.del {H H' : Hp} {p : Addr} (s : But H H') : But (L2.del H p) (L2.del H' p) := fun a o n e => by
  by_cases h : a = p
  · rw [h, del_same] at e; cases e
  · rw [del_ne h] at e ⊢; exact s a o n e
theorem But.toDel {H H' : Hp} {p : Addr} (s : But H H') (h : H p = none) : But H (L2.del H' p) := fun a o n e => by
  rw [del_ne (ne_of_none e h)]
  exact s a o n e
/-- one turn: D the new list's address -/
def Turn1 (g : TG) (tt : TT) (te : TE) (vs : List Nat) (σ : L2.St) (D : Addr) (x : V) (H' : Hp) (o : Option PyData) : Prop :=
  ∀ (Y : V → Hp → Prop) (N : Hp → Prop), (∀ y d H4, o = some d → Same H' H4 → Dt (del H4 D) y d → Y y H4) → (∀ H3, o = none → Same H' H3 → N H3) →
    g x (wipe σ vs) H' fun σ2 H2 => wipe σ2 vs = wipe σ vs ∧ tt σ2 H2 fun b H3 => if b = true then te σ2 H3 Y else N H3
/-- one turn that draws: J the word -/
def TurnJ (J : Nat → Hp → Prop) (i : Nat) (g : TG) (tt : TT) (te : TE) (vs : List Nat) (σ : L2.St) (D : Addr) (x : V) (H' : Hp) (P : PyData → Prop) : Prop :=
  ∀ (Y : V → Hp → Prop) (N : Hp → Prop), (∀ y d H4, P d → But H' H4 → J (i + 1) H4 → Dt (del H4 D) y d → Y y H4) → (∀ H3, But H' H3 → J (i + 1) H3 → N H3) →
    g x (wipe σ vs) H' fun σ2 H2 => wipe σ2 vs = wipe σ vs ∧ tt σ2 H2 fun b H3 => if b = true then te σ2 H3 Y else N H3
section
variable {K : PySem.W.Frag} {a : Addr} {xs : List V} {g : TG} {tt : TT} {te tl : TE} {ta : TA} {vs : List Nat} {σ : L2.St} {H : Hp} {Q : VK} {f : Nat → Option PyData}
def PvC (H : Hp) (f : Nat → Option PyData) (D : Addr) (i : Nat) (H' : Hp) : Prop := H D = none ∧ Same H H' ∧ ∃ ys, H' D = some (.lst ys) ∧ Dts (del H' D) ys (outs i f)
theorem pvc_start {D : Addr} (h : H D = none) : PvC H f D 0 (upd H D (.lst [])) := ⟨h, Same.new h, [], upd_same, .nil⟩
theorem pvc_turn {D : Addr} {i : Nat} {x : V} {H' : Hp} (hi : i < 100000) (p : PvC H f D i H') (t : Same H H' → H' D ≠ none → Turn1 g tt te vs σ D x H' (f i)) :
    g x (wipe σ vs) H' fun σ2 H2 => wipe σ2 vs = wipe σ vs ∧ tt σ2 H2 fun b H3 =>
      if b = true then te σ2 H3 fun y H4 => ∃ acc, H4 D = some (.lst acc) ∧ acc.length < sizeLine ∧ PvC H f D (i + 1) (upd H4 D (.lst (acc ++ [y]))) else PvC H f D (i + 1) H3 := by
  obtain ⟨p1, p2, ys, p3, p4⟩ := p
  refine t p2 (by rw [p3]; simp) _ _ (fun y d H4 e s4 hd => ?_) (fun H3 e s3 => ⟨p1, p2.trans s3, ys, s3 _ _ p3, by rw [outs_none e]; exact p4.same s3.del⟩)
  have lz : ys.length < sizeLine := by
    have := p4.length
    have := outs_len i f
    exact Nat.lt_of_lt_of_le (by omega) (show 100000 ≤ sizeLine by decide)
  refine ⟨ys, s4 _ _ p3, lz, p1, (p2.trans s4).mut p1, _, upd_same, ?_⟩
  rw [outs_some e, del_upd]
  exact (p4.same s4.del).app (.cons hd .nil)
theorem pvc_end {D : Addr} {n : Nat} {H' : Hp} (p : PvC H f D n H') (q : ∀ D ys H', H D = none → Same H H' → H' D = some (.lst ys) → Dts (del H' D) ys (outs n f) → Q (.ref D) H') : Q (.ref D) H' := by
  obtain ⟨p1, p2, ys, p3, p4⟩ := p
  exact q D ys H' p1 p2 p3 p4
/-- behind the source of a comprehension, of a for: over a list, a tuple, a range -/
def LcB (J : It) (g : TG) (tt : TT) (te : TE) (vs : List Nat) (σ : L2.St) (H1 : Hp) (Q : VK) : Prop := ∀ D, H1 D = none → ∃ W : Nat → Nat → Hp → Prop, (∃ m, W 0 m (upd H1 D (.lst []))) ∧ ∀ i m H, W i m H →
  (J.stop i H ∧ Q (.ref D) H) ∨ (J.go i H ∧ ∃ Nx : Hp → Prop, (∀ H', Nx H' → ∃ m', m' < m ∧ W (i + 1) m' H') ∧ ∀ x H', J.yld i H x H' → g x (wipe σ vs) H' fun σ2 H2 => wipe σ2 vs = wipe σ vs ∧ tt σ2 H2 fun b H3 =>
    if b = true then te σ2 H3 fun y H4 => ∃ acc, H4 D = some (.lst acc) ∧ acc.length < sizeLine ∧ Nx (upd H4 D (.lst (acc ++ [y]))) else Nx H3)
def InL (K : PySem.W.Frag) (R : It → Hp → Prop) (x : V) (H1 : Hp) : Prop := ∃ a, x = .ref a ∧ (∃ xs, SqL K H1 a xs) ∧ R (Itl K a) H1
def InT (K : PySem.W.Frag) (R : It → Hp → Prop) (x : V) (H1 : Hp) : Prop := ∃ a, x = .ref a ∧ (∃ xs, SqT K H1 a xs) ∧ R (Itt K a) H1
def InR1 (R : It → Hp → Prop) (vs : List V) (H1 : Hp) : Prop := ∃ j : Int, vs = [.int j] ∧ -(2 ^ 62) ≤ j ∧ j < 2 ^ 62 ∧ R (Itr 0 j.toNat) H1
def InR2 (R : It → Hp → Prop) (vs : List V) (H1 : Hp) : Prop := ∃ i j : Int, vs = [.int i, .int j] ∧ (-(2 ^ 62) ≤ i ∧ i < 2 ^ 62 ∧ -(2 ^ 62) ≤ j ∧ j < 2 ^ 62) ∧ R (Itr i (j - i).toNat) H1
def InR3 (R : It → Hp → Prop) (vs : List V) (H1 : Hp) : Prop := ∃ (i j c : Int) (n : Nat), vs = [.int i, .int j, .int c] ∧ RgC i j c n ∧ R (Itc i c n) H1
def ForB (g : TG) (tb : TS) (D : Ends) (σ : L2.St) (J : It) (H1 : Hp) : Prop := ∃ W : Nat → Nat → L2.St → Hp → Prop, (∃ m, W 0 m σ H1) ∧ ∀ i m σ H, W i m σ H →
  (J.stop i H ∧ D.nx σ H) ∨ (J.go i H ∧ ∃ N : L2.St → Hp → Prop, (∀ σ' H', N σ' H' → ∃ m', m' < m ∧ W (i + 1) m' σ' H') ∧ ∀ x H', J.yld i H x H' → g x σ H' fun σ2 H2 => tb { D with nx := N, ct := N, bk := D.nx } σ2 H2)
section
variable {wi : TI} {tb : TS} {D : Ends}
theorem g_lc (q : wi σ H fun J H1 => LcB J g tt te vs σ H1 Q) : tLc wi g tt te vs σ H Q := q
theorem g_for (q : wi σ H (ForB g tb D σ)) : tFor wi g tb D σ H := q
theorem g_iL {R : It → Hp → Prop} (q : tl σ H (InL K R)) : iList K tl σ H R := q
theorem g_iT {R : It → Hp → Prop} (q : tl σ H (InT K R)) : iTup K tl σ H R := q
theorem g_iR1 {R : It → Hp → Prop} (q : ta σ H (InR1 R)) : iRng1 ta σ H R := q
theorem g_iR2 {R : It → Hp → Prop} (q : ta σ H (InR2 R)) : iRng2 ta σ H R := q
theorem g_iR3 {R : It → Hp → Prop} (q : ta σ H (InR3 R)) : iRng3 ta σ H R := q
end
abbrev EndC (H : Hp) (Q : VK) (n : Nat) (f : Nat → Option PyData) : Prop := ∀ D ys H', H D = none → Same H H' → H' D = some (.lst ys) → Dts (del H' D) ys (outs n f) → Q (.ref D) H'
theorem lcL (hx : SqL K H a xs) (hz : xs.length ≤ 100000) (f : Nat → Option PyData) (q : EndC H Q xs.length f)
    (t : ∀ D i x H', xs[i]? = some x → Same H H' → H' D ≠ none → H D = none → Turn1 g tt te vs σ D x H' (f i)) : InL K (fun J H1 => LcB J g tt te vs σ H1 Q) (.ref a) H :=
  ⟨a, rfl, ⟨xs, hx⟩, fun D hD => lc_list (xs := xs) (PvC H f D) (pvc_start hD) (fun i H' _ p => p.2.1.seq hx) (fun i x H' hi p => pvc_turn (by have := (List.getElem?_eq_some_iff.mp hi).1; omega) p fun s n => t D i x H' hi s n hD) fun H' p => pvc_end p q⟩
theorem _root_.L2.Same.tupl {H H' : Hp} (e : Same H H') (h : SqT K H a xs) : SqT K H' a xs := by
  rcases h with (h | ⟨o, h⟩) | h
  · exact .inl (.inl (e _ _ h))
  · exact .inl (.inr ⟨o, e _ _ h⟩)
  · exact .inr h
theorem lcT (hx : SqT K H a xs) (hz : xs.length ≤ 100000) (f : Nat → Option PyData) (q : EndC H Q xs.length f)
    (t : ∀ D i x H', xs[i]? = some x → Same H H' → H' D ≠ none → H D = none → Turn1 g tt te vs σ D x H' (f i)) : InT K (fun J H1 => LcB J g tt te vs σ H1 Q) (.ref a) H :=
  ⟨a, rfl, ⟨xs, hx⟩, fun D hD => lc_tup (xs := xs) (PvC H f D) (pvc_start hD) (fun i H' _ p => p.2.1.tupl hx) (fun i x H' hi p => pvc_turn (by have := (List.getElem?_eq_some_iff.mp hi).1; omega) p fun s n => t D i x H' hi s n hD) fun H' p => pvc_end p q⟩
theorem lcR1 {n : Int} (hn : n ≤ 100000) (hm : -100000 ≤ n) (f : Nat → Option PyData) (q : EndC H Q n.toNat f)
    (t : ∀ D (i : Nat) H', (i : Int) < n → Same H H' → H' D ≠ none → H D = none → Turn1 g tt te vs σ D (.int i) H' (f i)) : InR1 (fun J H1 => LcB J g tt te vs σ H1 Q) [.int n] H :=
  ⟨n, rfl, by omega, by omega, fun D hD => lc_range (lo := 0) (n := n.toNat) (PvC H f D) (pvc_start hD) (fun i H' hi p => by
    rw [Int.zero_add]
    exact pvc_turn (by omega) p fun s n => t D i H' (by omega) s n hD) fun H' p => pvc_end p q⟩
theorem lcR2 {lo n : Int} (h1 : -100000 ≤ lo) (h3 : lo ≤ 100000) (h2 : n ≤ 100000) (h4 : -100000 ≤ n) (h5 : n - lo ≤ 100000) (f : Nat → Option PyData) (q : EndC H Q (n - lo).toNat f)
    (t : ∀ D (i : Nat) H', lo + i < n → Same H H' → H' D ≠ none → H D = none → Turn1 g tt te vs σ D (.int (lo + i)) H' (f i)) : InR2 (fun J H1 => LcB J g tt te vs σ H1 Q) [.int lo, .int n] H :=
  ⟨lo, n, rfl, ⟨by omega, by omega, by omega, by omega⟩, fun D hD => lc_range (lo := lo) (n := (n - lo).toNat) (PvC H f D) (pvc_start hD) (fun i H' hi p => pvc_turn (by omega) p fun s n => t D i H' (by omega) s n hD) fun H' p => pvc_end p q⟩
section
variable {tb : TS} {nx bk ct : L2.St → Hp → Prop} {rt : VK}
/-- for x in list: Pv the word -/
theorem forL (hx : SqL K H a xs) (Pv : Nat → L2.St → Hp → Prop) (h0 : Pv 0 σ H) (hl : ∀ i σ' H', i ≤ xs.length → Pv i σ' H' → SqL K H' a xs)
    (hs : ∀ i x σ' H', xs[i]? = some x → Pv i σ' H' → g x σ' H' fun σ2 H2 => tb ⟨Pv (i + 1), rt, nx, Pv (i + 1)⟩ σ2 H2) (hd : ∀ σ' H', Pv xs.length σ' H' → nx σ' H') : InL K (ForB g tb ⟨nx, rt, bk, ct⟩ σ) (.ref a) H :=
  ⟨a, rfl, ⟨xs, hx⟩, for_list Pv h0 hl hs hd⟩
theorem forT (hx : SqT K H a xs) (Pv : Nat → L2.St → Hp → Prop) (h0 : Pv 0 σ H) (hl : ∀ i σ' H', i ≤ xs.length → Pv i σ' H' → SqT K H' a xs)
    (hs : ∀ i x σ' H', xs[i]? = some x → Pv i σ' H' → g x σ' H' fun σ2 H2 => tb ⟨Pv (i + 1), rt, nx, Pv (i + 1)⟩ σ2 H2) (hd : ∀ σ' H', Pv xs.length σ' H' → nx σ' H') : InT K (ForB g tb ⟨nx, rt, bk, ct⟩ σ) (.ref a) H :=
  ⟨a, rfl, ⟨xs, hx⟩, for_tup Pv h0 hl hs hd⟩
theorem forR1 {n : Int} (h1 : -1000000 ≤ n) (h2 : n ≤ 1000000) (Pv : Nat → L2.St → Hp → Prop) (h0 : Pv 0 σ H)
    (hs : ∀ (i : Nat) σ' H', (i : Int) < n → Pv i σ' H' → g (.int i) σ' H' fun σ2 H2 => tb ⟨Pv (i + 1), rt, nx, Pv (i + 1)⟩ σ2 H2) (hd : ∀ σ' H', Pv n.toNat σ' H' → nx σ' H') : InR1 (ForB g tb ⟨nx, rt, bk, ct⟩ σ) [.int n] H :=
  ⟨n, rfl, by omega, by omega, for_range (lo := 0) (n := n.toNat) Pv h0 (fun i σ' H' hi p => by
    rw [Int.zero_add]
    exact hs i σ' H' (by omega) p) hd⟩
theorem forR2 {lo n : Int} (h1 : -1000000 ≤ lo) (h2 : lo ≤ 1000000) (h3 : -1000000 ≤ n) (h4 : n ≤ 1000000) (Pv : Nat → L2.St → Hp → Prop) (h0 : Pv 0 σ H)
    (hs : ∀ (i : Nat) σ' H', lo + i < n → Pv i σ' H' → g (.int (lo + i)) σ' H' fun σ2 H2 => tb ⟨Pv (i + 1), rt, nx, Pv (i + 1)⟩ σ2 H2) (hd : ∀ σ' H', Pv (n - lo).toNat σ' H' → nx σ' H') : InR2 (ForB g tb ⟨nx, rt, bk, ct⟩ σ) [.int lo, .int n] H :=
  ⟨lo, n, rfl, ⟨by omega, by omega, by omega, by omega⟩, for_range (lo := lo) (n := (n - lo).toNat) Pv h0 (fun i σ' H' hi p => hs i σ' H' (by omega) p) hd⟩
end
/-! with draws -/
def PvJ (J : Nat → Hp → Prop) (H : Hp) (P : PyData → Prop) (D : Addr) (i : Nat) (H' : Hp) : Prop := H D = none ∧ But H H' ∧ J i H' ∧ ∃ ys ds, H' D = some (.lst ys) ∧ Dts (del H' D) ys ds ∧ ds.length ≤ i ∧ ∀ d ∈ ds, P d
theorem notboxy {H : Hp} : ∀ {ys : List V} {ds : List PyData}, Dts H ys ds → (∀ d ∈ ds, ∀ b, d ≠ .bool b) → boxy (.lst ys) = false := by
  intro ys ds h n
  cases h with
  | nil => rfl
  | cons h1 r =>
    cases r with
    | nil => cases h1 <;> rfl
    | cons h2 r =>
      cases h2 with
      | bl b => exact absurd rfl (n _ (by simp) b)
      | _ => cases h1 <;> rfl
theorem pvj_turn {J : Nat → Hp → Prop} {P : PyData → Prop} {D : Addr} {i : Nat} {x : V} {H' : Hp} (hi : i < 100000) (nb : ∀ d, P d → ∀ b, d ≠ .bool b) (st : ∀ i H' o, H D = none → J i H' → H' D ≠ none → J i (upd H' D o)) (p : PvJ J H P D i H') (t : But H H' → H' D ≠ none → J i H' → TurnJ J i g tt te vs σ D x H' P) :
    g x (wipe σ vs) H' fun σ2 H2 => wipe σ2 vs = wipe σ vs ∧ tt σ2 H2 fun b H3 =>
      if b = true then te σ2 H3 fun y H4 => ∃ acc, H4 D = some (.lst acc) ∧ acc.length < sizeLine ∧ PvJ J H P D (i + 1) (upd H4 D (.lst (acc ++ [y]))) else PvJ J H P D (i + 1) H3 := by
  obtain ⟨p1, p2, p5, ys, ds, p3, p4, p6, p7⟩ := p
  have nbx := notboxy p4 fun d hd b => nb d (p7 d hd) b
  refine t p2 (by rw [p3]; simp) p5 _ _ (fun y d H4 e s4 j4 hd => ?_) (fun H3 s3 j3 => ⟨p1, p2.trans s3, j3, ys, ds, s3 _ _ nbx p3, p4.but s3.del, Nat.le_succ_of_le p6, p7⟩)
  have lz : ys.length < sizeLine := by
    have := p4.length
    exact Nat.lt_of_lt_of_le (by omega) (show 100000 ≤ sizeLine by decide)
  have e4 := s4 _ _ nbx p3
  refine ⟨ys, e4, lz, p1, (p2.trans s4).mut p1, st _ _ _ p1 j4 (by rw [e4]; simp), _, ds ++ [d], upd_same, ?_, by simp; omega, ?_⟩
  · rw [del_upd]
    exact (p4.but s4.del).app (.cons hd .nil)
  · intro z hz
    rcases List.mem_append.mp hz with hz | hz
    · exact p7 z hz
    · rw [List.mem_singleton.mp hz]; exact e
theorem lcR1J {n : Int} (hn : n ≤ 100000) (hm : -100000 ≤ n) (J : Nat → Hp → Prop) (P : PyData → Prop) (nb : ∀ d, P d → ∀ b, d ≠ .bool b) (st : ∀ D i H' o, H D = none → J i H' → H' D ≠ none → J i (upd H' D o)) (j0 : ∀ D o, H D = none → J 0 (upd H D o))
    (q : ∀ D ys ds H', H D = none → But H H' → J n.toNat H' → H' D = some (.lst ys) → Dts (L2.del H' D) ys ds → ds.length ≤ n.toNat → (∀ d ∈ ds, P d) → Q (.ref D) H')
    (t : ∀ D (i : Nat) H', (i : Int) < n → But H H' → H' D ≠ none → H D = none → J i H' → TurnJ J i g tt te vs σ D (.int i) H' P) : InR1 (fun J H1 => LcB J g tt te vs σ H1 Q) [.int n] H :=
  ⟨n, rfl, by omega, by omega, fun D hD => lc_range (lo := 0) (n := n.toNat) (PvJ J H P D) ⟨hD, (Same.new hD).but, j0 D _ hD, [], [], upd_same, .nil, Nat.zero_le _, by simp⟩ (fun i H' hi p => by
    rw [Int.zero_add]
    exact pvj_turn (by omega) nb (st D) p fun s n j => t D i H' (by omega) s n hD j) fun H' p => by
      obtain ⟨p1, p2, p5, ys, ds, p3, p4, p6, p7⟩ := p
      exact q D ys ds H' p1 p2 p5 p3 p4 p6 p7⟩
/-! ### range with a step, while, dicts -/
theorem forR3 {lo hi c : Int} {n : Nat} {tb : TS} {nx bk ct : L2.St → Hp → Prop} {rt : VK} (hr : RgC lo hi c n) (Pv : Nat → L2.St → Hp → Prop) (h0 : Pv 0 σ H)
    (hs : ∀ (i : Nat) σ' H', i < n → Pv i σ' H' → g (.int (lo + (i : Int) * c)) σ' H' fun σ2 H2 => tb ⟨Pv (i + 1), rt, nx, Pv (i + 1)⟩ σ2 H2) (hd : ∀ σ' H', Pv n σ' H' → nx σ' H') : InR3 (ForB g tb ⟨nx, rt, bk, ct⟩ σ) [.int lo, .int hi, .int c] H :=
  ⟨lo, hi, c, n, rfl, hr, for_rangeC Pv h0 hs hd⟩
/-- range(lo, -1, -c) -/
theorem rg_down {lo c : Int} (h1 : 0 < c) (h2 : c < 1000000) (h3 : -1000000 < lo) (h4 : lo < 1000000) : RgC lo (-1) (-c) (if lo < 0 then 0 else (lo / c + 1).toNat) := by
  have e : Builtin.Range.rangeSize lo (-1) (-c) = ((if lo < 0 then 0 else (lo / c + 1).toNat : Nat) : Int) := by
    unfold Builtin.Range.rangeSize
    rw [if_neg (by omega)]
    by_cases h : lo < 0
    · rw [if_pos h, if_neg (by omega)]
      rfl
    · rw [if_neg h, if_pos (by omega), Int.neg_neg]
      have q : 0 ≤ lo / c := Int.ediv_nonneg (by omega) (by omega)
      rw [Int.toNat_of_nonneg (by omega)]
      congr 2
      omega
  have q : lo / c ≤ 1000000 := by
    by_cases h : lo < 0
    · have := Int.ediv_neg_of_neg_of_pos h h1
      omega
    · have := Int.ediv_le_self c (show 0 ≤ lo by omega)
      omega
  generalize hN : (if lo < 0 then 0 else (lo / c + 1).toNat : Nat) = N at e ⊢
  have bN : (N : Int) ≤ 1000001 ∧ (lo < 0 → N = 0) := by
    rw [← hN]
    by_cases h : lo < 0
    · rw [if_pos h]
      exact ⟨by decide, fun _ => rfl⟩
    · rw [if_neg h]
      exact ⟨by omega, fun z => absurd z h⟩
  refine ⟨by omega, by omega, ?_, e⟩
  unfold Builtin.Range.small
  rw [e]
  obtain ⟨b1, _⟩ := bN
  have b0 : (0 : Int) ≤ (N : Int) := Int.natCast_nonneg N
  generalize (N : Int) = M at b0 b1
  simp only [Builtin.Range.rangeFitsLong, Bool.and_eq_true, Bool.or_eq_true, decide_eq_true_eq, beq_iff_eq]
  clear hN e q
  split <;> (refine ⟨by omega, .inr ?_⟩; rw [Bool.and_eq_true, decide_eq_true_eq, decide_eq_true_eq]; omega)
section
variable {c : TT} {tb : TS} {nx bk ct : L2.St → Hp → Prop} {rt : VK}
/-- while: Wd the word with its measure -/
theorem whileW (Wd : Nat → L2.St → Hp → Prop) (m0 : Nat) (w0 : Wd m0 σ H) (hs : ∀ m σ' H', Wd m σ' H' → c σ' H' fun b H1 => if b = true then
    ∃ N : L2.St → Hp → Prop, (∀ τ G, N τ G → ∃ m', m' < m ∧ Wd m' τ G) ∧ tb ⟨N, rt, nx, N⟩ σ' H1 else nx σ' H1) : tWhile c tb ⟨nx, rt, bk, ct⟩ σ H := ⟨Wd, ⟨m0, w0⟩, hs⟩
theorem g_dget {td ty : TE} (q : td σ H fun x H1 => ty σ H1 fun y H2 => ∃ a v, x = .ref a ∧ DGet H2 a y (some v) ∧ Q v H2) : tDGet td ty σ H Q := q
theorem g_lock {t : TS} {d : Addr} {kvs : List (Key × V)} (h : H d = some (.dK kvs)) (q : ∀ od, t ⟨fun τ G => G d = some (.frz od (.dK kvs)) ∧ nx τ (upd G d (.dK kvs)), fun v G => G d = some (.frz od (.dK kvs)) ∧ rt v (upd G d (.dK kvs)),
    fun τ G => G d = some (.frz od (.dK kvs)) ∧ bk τ (upd G d (.dK kvs)), fun τ G => G d = some (.frz od (.dK kvs)) ∧ ct τ (upd G d (.dK kvs))⟩ σ (upd H d (.frz od (.dK kvs)))) : tLock t ⟨nx, rt, bk, ct⟩ σ H := ⟨d, _, h, trivial, q⟩
def InK (R : It → Hp → Prop) (x : V) (H1 : Hp) : Prop := ∃ d o, x = .ref d ∧ ((∃ kvs, H1 d = some (.frz o (.dK kvs)) ∧ R (Itk d o kvs) H1) ∨ ∃ kvs, H1 d = some (.frz o (.dT kvs)) ∧ R (Itkt d o kvs) H1)
theorem g_iK {td : TE} {R : It → Hp → Prop} (q : td σ H (InK R)) : iKeys td σ H R := q
/-- for k in d, d locked -/
theorem forK {d : Addr} {o : Obj} {kvs : List (Key × V)} (hx : H d = some (.frz o (.dK kvs))) (Pv : Nat → L2.St → Hp → Prop) (h0 : Pv 0 σ H) (hl : ∀ i σ' H', Pv i σ' H' → H' d = some (.frz o (.dK kvs)))
    (hs : ∀ i k v σ' H', kvs[i]? = some (k, v) → Pv i σ' H' → g (kV k) σ' H' fun σ2 H2 => tb ⟨Pv (i + 1), rt, nx, Pv (i + 1)⟩ σ2 H2) (hd : ∀ σ' H', Pv kvs.length σ' H' → nx σ' H') : InK (ForB g tb ⟨nx, rt, bk, ct⟩ σ) (.ref d) H := by
  refine ⟨d, o, rfl, .inl ⟨kvs, hx, fun i m τ G => m = kvs.length - i ∧ i ≤ kvs.length ∧ Pv i τ G, ⟨_, rfl, Nat.zero_le _, h0⟩, fun i m τ G z => ?_⟩⟩
  obtain ⟨rfl, li, p⟩ := z
  by_cases h : i < kvs.length
  · refine .inr ⟨⟨hl i τ G p, h⟩, Pv (i + 1), fun τ' G' p' => ⟨_, by omega, rfl, h, p'⟩, fun x G' y => ?_⟩
    obtain ⟨rfl, k, v, e, rfl⟩ := y
    exact hs i k v τ _ e p
  · have e : i = kvs.length := by omega
    subst e
    exact .inl ⟨⟨hl _ τ G p, Nat.le_refl _⟩, hd τ G p⟩
end
def DcB (J : It) (g : TG) (tt : TT) (tk tv : TE) (vs : List Nat) (σ : L2.St) (H1 : Hp) (Q : VK) : Prop := ∀ D, H1 D = none → ∃ W : Nat → Nat → Hp → Prop, (∃ m, W 0 m (upd H1 D (.dK []))) ∧ ∀ i m H, W i m H →
  (J.stop i H ∧ Q (.ref D) H) ∨ (J.go i H ∧ ∃ Nx : Hp → Prop, (∀ H', Nx H' → ∃ m', m' < m ∧ W (i + 1) m' H') ∧ ∀ x H', J.yld i H x H' → g x (wipe σ vs) H' fun σ2 H2 => wipe σ2 vs = wipe σ vs ∧ tt σ2 H2 fun b H3 =>
    if b = true then tk σ2 H3 fun y H4 => tv σ2 H4 fun z H5 => ∃ kvs k, y = kV k ∧ H5 D = some (.dK kvs) ∧ kvs.length < sizeLine ∧ Nx (upd H5 D (.dK (putK kvs k z))) else Nx H3)
theorem g_dc {wi : TI} {tk tv : TE} (q : wi σ H fun J H1 => DcB J g tt tk tv vs σ H1 Q) : tDc wi g tt tk tv vs σ H Q := q
/-- {k: f(k) for k in range(n) if p(k)}, the values ints -/
def kvI (n : Nat) (p : Int → Bool) (f : Int → Int) : List (Key × V) := (((List.range n).map fun (i : Nat) => (i : Int)).filter p).map fun i => (Sum.inl i, .int (f i))
theorem kvI_keys {n : Nat} {p : Int → Bool} {f : Int → Int} {z : Key × V} (h : z ∈ kvI n p f) : ∃ i : Int, 0 ≤ i ∧ i < n ∧ p i = true ∧ z = (Sum.inl i, .int (f i)) := by
  obtain ⟨i, hi, rfl⟩ := List.mem_map.mp h
  obtain ⟨h1, h2⟩ := List.mem_filter.mp hi
  obtain ⟨j, hj, rfl⟩ := List.mem_map.mp h1
  exact ⟨_, by omega, by have := List.mem_range.mp hj; omega, h2, rfl⟩
theorem kvI_val {n : Nat} {p : Int → Bool} {f : Int → Int} {i : Int} (h : ∃ z ∈ kvI n p f, z.1 = Sum.inl i) : valV (kvI n p f) (Sum.inl i) = some (.int (f i)) := by
  unfold valV
  obtain ⟨z, hz, e⟩ := h
  cases q : (kvI n p f).find? (fun kv => decide (kv.1 = Sum.inl i)) with
  | none =>
    have := List.find?_eq_none.mp q z hz
    simp [e] at this
  | some y =>
    have hy := List.mem_of_find?_eq_some q
    have py := List.find?_some q
    obtain ⟨j, _, _, _, rfl⟩ := kvI_keys hy
    have ej : j = i := by simpa using py
    rw [ej]
    rfl
theorem kvI_none {n : Nat} {p : Int → Bool} {f : Int → Int} : valV (kvI n p f) (Sum.inl (n : Int)) = none := by
  unfold valV
  rw [List.find?_eq_none.mpr fun z hz => ?_]
  · rfl
  · obtain ⟨j, _, h, _, rfl⟩ := kvI_keys hz
    have : j ≠ (n : Int) := by omega
    simpa using this
theorem kvI_step {n : Nat} {p : Int → Bool} {f : Int → Int} : kvI (n + 1) p f = if p (n : Int) = true then putK (kvI n p f) (Sum.inl (n : Int)) (.int (f n)) else kvI n p f := by
  have e : kvI (n + 1) p f = kvI n p f ++ if p (n : Int) = true then [(Sum.inl (n : Int), .int (f n))] else [] := by
    unfold kvI
    rw [List.range_succ, List.map_append, List.filter_append, List.map_append]
    congr 1
    by_cases h : p (n : Int) = true
    · rw [if_pos h]
      simp [h]
    · rw [if_neg h]
      simp [h]
  rw [e]
  by_cases h : p (n : Int) = true
  · rw [if_pos h, if_pos h, putK_new _ kvI_none]
  · rw [if_neg h, if_neg h, List.append_nil]
theorem kvI_len {n : Nat} {p : Int → Bool} {f : Int → Int} : (kvI n p f).length ≤ n := by
  unfold kvI
  rw [List.length_map]
  have := List.length_filter_le p ((List.range n).map fun (i : Nat) => (i : Int))
  rwa [List.length_map, List.length_range] at this
theorem dcR1 {n : Nat} {tk tv : TE} {p : Int → Bool} {f : Int → Int} (hn : n ≤ 100000) (q : ∀ D H', H D = none → Same H H' → H' D = some (.dK (kvI n p f)) → Q (.ref D) H')
    (t : ∀ D (i : Nat) H', i < n → Same H H' → H D = none → ∀ (Y : V → V → Hp → Prop) (N : Hp → Prop), (∀ H4, p (i : Int) = true → Same H' H4 → Y (.int i) (.int (f i)) H4) → (∀ H3, p (i : Int) = false → Same H' H3 → N H3) →
      g (.int i) (wipe σ vs) H' fun σ2 H2 => wipe σ2 vs = wipe σ vs ∧ tt σ2 H2 fun b H3 => if b = true then tk σ2 H3 fun y H4 => tv σ2 H4 fun z H5 => Y y z H5 else N H3) : InR1 (fun J H1 => DcB J g tt tk tv vs σ H1 Q) [.int (n : Int)] H := by
  refine ⟨n, rfl, by omega, by omega, fun D hD => ?_⟩
  refine ⟨fun i m G => m = n - i ∧ i ≤ n ∧ Same H G ∧ G D = some (.dK (kvI i p f)), ⟨_, rfl, Nat.zero_le _, Same.new hD, upd_same⟩, fun i m G z => ?_⟩
  obtain ⟨rfl, li, sG, eG⟩ := z
  by_cases h : i < n
  · refine .inr ⟨by show i < (n : Int).toNat; omega, fun G' => Same H G' ∧ G' D = some (.dK (kvI (i + 1) p f)), fun G' p' => ⟨_, by omega, rfl, h, p'⟩, fun x G' y => ?_⟩
    obtain ⟨rfl, rfl⟩ := (y : G' = G ∧ x = .int (0 + (i : Int)))
    rw [Int.zero_add]
    refine t D i _ h sG hD _ _ (fun H4 hp s4 => ?_) (fun H3 hp s3 => ?_)
    · refine ⟨kvI i p f, Sum.inl (i : Int), rfl, s4 _ _ eG, Nat.lt_of_le_of_lt kvI_len (Nat.lt_of_lt_of_le (by omega : i < 100001) (by decide)), (sG.trans s4).mut hD, ?_⟩
      rw [upd_same, kvI_step, if_pos hp]
    · refine ⟨sG.trans s3, ?_⟩
      rw [kvI_step, if_neg (by rw [hp]; decide)]
      exact s3 _ _ eG
  · have e : i = n := by omega
    subst e
    exact .inl ⟨by show (i : Int).toNat ≤ i; omega, q D G hD sG eG⟩
end
end Z
set_option Elab.async false
set_option linter.all false
set_option maxRecDepth 100000
set_option maxHeartbeats 4000000
/-! More named readings and their steps. -/
namespace Z
open PySem PySem.Spec PyProof.Rows L2
theorem sz5 : (100000 : Nat) ≤ sizeLine := by decide
section
variable {X : Cx}
def rInt : List V → Hp → VK → Prop := fun xs H Q => (∃ i, xs = [.int i] ∧ Q (.int i) H) ∨ ∃ k, xs = [.bl k] ∧ Q (.int (if k then 1 else 0)) H
theorem z_int : CallR X (.type "int") rInt := call_int1
def rAbs : List V → Hp → VK → Prop := fun xs H Q => ∃ i, xs = [.int i] ∧ Q (.int (if i < 0 then -i else i)) H
theorem z_abs : CallR X (.builtin "abs") rAbs := call_abs
def rMax2 : List V → Hp → VK → Prop := fun xs H Q => ∃ i j, xs = [.int i, .int j] ∧ Q (.int (if j > i then j else i)) H
theorem z_max2 (hc : X.calm = true) : CallR X (.builtin "max") rMax2 := call_max2 hc
def rMin2 : List V → Hp → VK → Prop := fun xs H Q => ∃ i j, xs = [.int i, .int j] ∧ Q (.int (if j < i then j else i)) H
theorem z_min2 (hc : X.calm = true) : CallR X (.builtin "min") rMin2 := call_min2 hc
end
section
variable {K : PySem.W.Frag} {σ : L2.St} {H : Hp} {Q rt : VK} {nx bk ct : L2.St → Hp → Prop} {v : V} {a b p : Addr} {xs ys : List V} {td ty tv te : TE}
theorem g_int {i : Int} (q : Q (.int i) H) : rInt [.int i] H Q := .inl ⟨i, rfl, q⟩
theorem g_intB {k : Bool} (q : Q (.int (if k then 1 else 0)) H) : rInt [.bl k] H Q := .inr ⟨k, rfl, q⟩
theorem g_abs {i : Int} (q : Q (.int (i.natAbs : Int)) H) : rAbs [.int i] H Q := ⟨i, rfl, by
  have e : (if i < 0 then -i else i) = (i.natAbs : Int) := by split <;> omega
  rw [e]
  exact q⟩
theorem g_max2 {i j : Int} (q : Q (.int (max i j)) H) : rMax2 [.int i, .int j] H Q := ⟨i, j, rfl, by
  have e : (if j > i then j else i) = max i j := by split <;> omega
  rw [e]
  exact q⟩
theorem g_min2 {i j : Int} (q : Q (.int (min i j)) H) : rMin2 [.int i, .int j] H Q := ⟨i, j, rfl, by
  have e : (if j < i then j else i) = min i j := by split <;> omega
  rw [e]
  exact q⟩
theorem g_sum {ns : List Int} (h : SqL K H a (ns.map V.int)) (q : Q (.int ns.sum) H) : rSum K [.ref a] H Q := ⟨a, ns, rfl, h, q⟩
theorem g_all {bs : List Bool} (h : SqL K H a (bs.map V.bl)) (q : Q (.bl (bs.all id)) H) : rAll K [.ref a] H Q := ⟨a, bs, rfl, h, q⟩
theorem g_any {bs : List Bool} (h : SqL K H a (bs.map V.bl)) (q : Q (.bl (bs.any id)) H) : rAny K [.ref a] H Q := ⟨a, bs, rfl, h, q⟩
theorem g_cat (h1 : H a = some (.lst xs)) (h2 : H b = some (.lst ys)) (l : xs.length + ys.length ≤ sizeLine) (q : ∀ p, H p = none → Q (.ref p) (upd H p (.lst (xs ++ ys)))) : rCat (.ref a) (.ref b) H Q := ⟨a, b, xs, ys, rfl, rfl, h1, h2, l, q⟩
theorem g_rep {k : Int} (h1 : H a = some (.lst [v])) (l : 0 ≤ k ∧ k ≤ 100000) (q : ∀ p, H p = none → Q (.ref p) (upd H p (.lst (List.replicate k.toNat v)))) : rRep (.ref a) (.int k) H Q := by
  have := sz5
  refine ⟨a, k, [v], rfl, rfl, h1, by omega, by omega, by rw [List.length_singleton]; omega, fun p hp => ?_⟩
  have e : (List.replicate k.toNat [v]).flatten = List.replicate k.toNat v := by
    generalize k.toNat = n
    induction n with
    | zero => rfl
    | succ n ih => rw [List.replicate_succ, List.replicate_succ, List.flatten_cons, ih]; rfl
  rw [e]
  exact q p hp
theorem g_extend (h1 : H a = some (.lst xs)) (h2 : H b = some (.lst ys)) (l : xs.length + ys.length ≤ sizeLine) (q : Q .non (upd H a (.lst (xs ++ ys)))) : rExtend (.ref a) [.ref b] H Q := ⟨a, b, xs, ys, rfl, rfl, h1, h2, l, q⟩
theorem g_pop {y : V} (h1 : H a = some (.lst xs)) (h2 : xs[xs.length - 1]? = some y) (q : Q y (upd H a (.lst xs.dropLast))) : rPop (.ref a) [] H Q := ⟨a, xs, y, rfl, rfl, h1, h2, q⟩
theorem g_sl {r : V → Option Int → Option Int → Hp → VK → Prop} {tl th : TO} (q : te σ H fun x H1 => tl σ H1 fun l H2 => th σ H2 fun u H3 => r x l u H3 Q) : L2.tSl r te tl th σ H Q := q
theorem g_nopart {R : Option Int → Hp → Prop} (q : R none H) : tNoPart σ H R := q
theorem g_part {R : Option Int → Hp → Prop} (q : te σ H fun x H1 => ∃ i, x = .int i ∧ R (some i) H1) : tPart te σ H R := q
theorem g_slL {lo hi : Option Int} (h : SqL K H a xs) (q : ∀ p, H p = none → Q (.ref p) (upd H p (.lst (cutV xs lo hi)))) : rSlL K (.ref a) lo hi H Q := ⟨a, xs, rfl, h, q⟩
theorem g_dput (q : tv σ H fun v H1 => td σ H1 fun x H2 => ty σ H2 fun y H3 => ∃ a H4, x = .ref a ∧ DPut H3 a y v H4 ∧ nx σ H4) : sDPut td ty tv ⟨nx, rt, bk, ct⟩ σ H := q
theorem g_lstrg {t : L2.St → Hp → (Int → Int → Hp → Prop) → Prop} (q : t σ H fun a b H1 => RgOk a b ∧ ∀ q, H1 q = none → Q (.ref q) (upd H1 q (.lst (rgV a b)))) : tLstRg t σ H Q := q
theorem g_rg1 {ta : TE} {R : Int → Int → Hp → Prop} (q : ta σ H fun x H1 => ∃ n, x = .int n ∧ R 0 n H1) : tRg1 ta σ H R := q
theorem g_exi {n : Int} {R : Int → Prop} (q : R n) : ∃ m, V.int n = .int m ∧ R m := ⟨n, rfl, q⟩
theorem g_listOf {a : Addr} {ys : List V} (h : SqL K H a ys ∨ SqT K H a ys) (q : ∀ l, H l = none → Q (.ref l) (upd H l (.lst ys))) : rListOf K [.ref a] H Q := ⟨a, ys, rfl, h, q⟩
theorem g_rd {ns : List Int} {x : Nat} (h : H a = some (.lst (ns.map V.int))) (hx : x < ns.length) (q : Q (.int (ns.getD x 0)) H) : rIxL K (.ref a) (.int (x : Int)) H Q :=
  ⟨a, _, _, _, rfl, rfl, .of h, atI_nat (v := .int (ns.getD x 0)) (by
    rw [List.getElem?_map, List.getElem?_eq_getElem hx, List.getD_eq_getElem?_getD, List.getElem?_eq_getElem hx]
    rfl), q⟩
theorem g_rdI {ns : List Int} {z : Int} (h : H a = some (.lst (ns.map V.int))) (h0 : 0 ≤ z) (hx : z < (ns.length : Int)) (q : Q (.int (ns.getD z.toNat 0)) H) : rIxL K (.ref a) (.int z) H Q := by
  obtain ⟨x, rfl⟩ := Int.eq_ofNat_of_zero_le h0
  exact g_rd h (by omega) q
theorem ix_of {n : Nat} {z : Int} (h0 : 0 ≤ z) (h : z < n) : ixN n z = some z.toNat := by
  unfold ixN
  rw [if_pos h0, if_pos h]
theorem g_dnew (q : ∀ p, H p = none → Q (.ref p) (upd H p (.dK []))) : tDNewK σ H Q := q
/-! the head of a goal, cheaply told -/
section
variable {x y : V} {R : Hp → Prop} {R2 : L2.St → Hp → Prop} {C : Int → Int → Prop} {g : Int → Int → V} {lo hi : Option Int} {vs : List V} {n : Nat} {t : TGs} {A : Prop} {T : String}
theorem k_ixL (q : rIxL K x y H Q) : rIxL K x y H Q := q
theorem k_slL (q : rSlL K x lo hi H Q) : rSlL K x lo hi H Q := q
theorem k_listOf (q : rListOf K vs H Q) : rListOf K vs H Q := q
theorem k_rep (q : rRep x y H Q) : rRep x y H Q := q
theorem k_cat (q : rCat x y H Q) : rCat x y H Q := q
theorem k_len (q : Z.rLen K vs H Q) : Z.rLen K vs H Q := q
theorem k_tyL (q : tyV K T x H ∧ A) : tyV K T x H ∧ A := q
theorem k_gT (q : gTup K n t x σ H R2) : gTup K n t x σ H R2 := q
theorem k_gL (q : gLst K n t x σ H R2) : gLst K n t x σ H R2 := q
theorem k_setL (q : rSetL x y v H R) : rSetL x y v H R := q
theorem k_new (q : vs.length ≤ sizeLine ∧ A) : vs.length ≤ sizeLine ∧ A := q
theorem g_new (h : Nat.ble vs.length 100000 = true) (q : A) : vs.length ≤ sizeLine ∧ A := ⟨Nat.le_trans (Nat.le_of_ble_eq_true h) sz5, q⟩
theorem k_I (q : rI C g x y H Q) : rI C g x y H Q := q
end
theorem g_isN (q : Q (.bl (decide (v = .non))) H) : Q (.bl (decide (v = .non))) H := q
end
end Z
set_option Elab.async false
set_option linter.all false
set_option maxRecDepth 100000
set_option maxHeartbeats 4000000
/-! Text sizes of data; filters with draws. -/
namespace Z
open PySem PySem.Spec PyProof.Rows L2
mutual
/-- ints that are no greater than shown below -/
def okI : PyData → Bool
  | .none => true
  | .bool _ => true
  | .int i => decide (i.natAbs < 10 ^ 400)
  | .str _ => true
  | .list xs => okIs xs
  | .tuple xs => okIs xs
  | .dict kvs => kvs.isEmpty
def okIs : List PyData → Bool
  | [] => true
  | x :: xs => okI x && okIs xs
end
mutual
def wt : PyData → Nat
  | .none => 4
  | .bool _ => 5
  | .int _ => 401
  | .str x => (reprText x).length
  | .list xs => wts xs + 2
  | .tuple xs => wts xs + 3
  | .dict _ => 2
def wts : List PyData → Nat
  | [] => 0
  | x :: xs => wt x + 2 + wts xs
end
theorem join_le (xs : List PyData) : (Str.join ", " (PyData.shownAll xs)).length ≤ piled (PyData.shownAll xs) := by
  cases xs with
  | nil => rw [PyData.shownAll_nil]; exact Nat.le_refl _
  | cons x xs =>
    have := join_length_add (PyData.shownAll (x :: xs)) (by rw [PyData.shownAll_cons]; simp)
    omega
theorem neg_text (n : Nat) : (toString (Int.negSucc n) : String) = "-" ++ toString (((n + 1 : Nat)) : Int) := rfl
theorem int_le {i : Int} (h : okI (.int i) = true) : (PyData.shown (.int i)).length ≤ 401 := by
  rw [PyData.shown_int]
  unfold okI at h
  rw [decide_eq_true_eq] at h
  cases i with
  | ofNat n =>
    have := toString_length_le (v := Int.ofNat n) (k := 400) (Int.natCast_nonneg n) (by decide) (by
      have e : (Int.ofNat n).natAbs = n := rfl
      rw [e] at h
      show ((n : Nat) : Int) < 10 ^ 400
      exact_mod_cast h)
    omega
  | negSucc n =>
    have := toString_length_le (v := ((n + 1 : Nat) : Int)) (k := 400) (Int.natCast_nonneg _) (by decide) (by
      have e : (Int.negSucc n).natAbs = n + 1 := rfl
      rw [e] at h
      exact_mod_cast h)
    rw [neg_text, PySem.ofString_length, String.length_append]
    rw [PySem.ofString_length] at this
    show 1 + _ ≤ 401
    omega
mutual
theorem shown_wt : ∀ d : PyData, okI d = true → d.shown.length ≤ wt d
  | .none, _ => by rw [PyData.shown_none]; decide
  | .bool b, _ => by rw [PyData.shown_bool]; cases b <;> decide
  | .int i, h => int_le h
  | .str x, _ => by rw [PyData.shown_str]; exact Nat.le_refl _
  | .list xs, h => by
    have h2 := shown_wts xs (by unfold okI at h; exact h)
    have h3 := join_le xs
    rw [PyData.shown_list, PySem.Str.length_append, PySem.Str.length_append]
    show 1 + (Str.join ", " (PyData.shownAll xs)).length + 1 ≤ wts xs + 2
    omega
  | .tuple xs, h => by
    have h2 := shown_wts xs (by unfold okI at h; exact h)
    have h3 := join_le xs
    rw [PyData.shown_tuple, PySem.Str.length_append, PySem.Str.length_append]
    have h4 : (if (xs.length == 1) = true then ((",)" : String) : Str) else ((")" : String) : Str)).length ≤ 2 := by split <;> decide
    show 1 + (Str.join ", " (PyData.shownAll xs)).length + _ ≤ wts xs + 3
    split at h4 <;> (rename_i z; simp only [z]; first | (show _ + 2 ≤ _; omega) | (show _ + 1 ≤ _; omega))
  | .dict kvs, h => by
    unfold okI at h
    cases kvs with
    | nil => rw [PyData.shown_dict]; decide
    | cons a b => cases h
theorem shown_wts : ∀ xs : List PyData, okIs xs = true → piled (PyData.shownAll xs) ≤ wts xs
  | [], _ => by rw [PyData.shownAll_nil]; exact Nat.le_refl _
  | x :: xs, h => by
    unfold okIs at h
    rw [Bool.and_eq_true] at h
    have h1 := shown_wt x h.1
    have h2 := shown_wts xs h.2
    rw [PyData.shownAll_cons, piled_cons]
    show _ ≤ wt x + 2 + wts xs
    omega
end
mutual
theorem showable_ok : ∀ d : PyData, okI d = true → d.showable = true
  | .none, _ => by simp only [PyData.showable]
  | .bool b, _ => by simp only [PyData.showable]
  | .int i, h => by
    unfold okI at h
    rw [decide_eq_true_eq] at h
    simp only [PyData.showable, decide_eq_true_eq]
    by_cases e : i.natAbs = 0
    · rw [e]; decide
    · exact (Nat.log2_lt e).mpr (Nat.lt_of_lt_of_le h (by decide +kernel))
  | .str x, _ => by simp only [PyData.showable]
  | .list xs, h => by simp only [PyData.showable]; exact showables_ok xs (by unfold okI at h; exact h)
  | .tuple xs, h => by simp only [PyData.showable]; exact showables_ok xs (by unfold okI at h; exact h)
  | .dict kvs, h => by
    unfold okI at h
    cases kvs with
    | nil => simp only [PyData.showable, PyData.showableKv]
    | cons a b => cases h
theorem showables_ok : ∀ xs : List PyData, okIs xs = true → PyData.showableAll xs = true
  | [], _ => by simp only [PyData.showableAll]
  | x :: xs, h => by
    unfold okIs at h
    rw [Bool.and_eq_true] at h
    simp only [PyData.showableAll, Bool.and_eq_true]
    exact ⟨showable_ok x h.1, showables_ok xs h.2⟩
end
theorem g_repr {H : Hp} {Q : VK} {a : Addr} {d : PyData} (h : Dt H (.ref a) d) (o : okI d = true) (e : d.depth ≤ 50) (l : Nat.ble (wt d) 100000 = true) (q : Q (.str d.shown) H) : rRepr [.ref a] H Q :=
  ⟨a, d, rfl, h, showable_ok d o, e, Nat.le_trans (shown_wt d o) (Nat.le_trans (Nat.le_of_ble_eq_true l) sz5), q⟩
/-! ### filters with draws -/
def nV (l : List Nat) : List V := l.map fun (x : Nat) => V.int x
theorem nV_ints (l : List Nat) : nV l = (l.map fun (x : Nat) => (x : Int)).map V.int := by
  unfold nV
  rw [List.map_map]
  rfl
theorem nV_boxy (l : List Nat) : boxy (.lst (nV l)) = false := by
  cases l with
  | nil => rfl
  | cons a l =>
    cases l with
    | nil => rfl
    | cons b l => rfl
theorem int_boxy (l : List Int) : boxy (.lst (l.map V.int)) = false := by
  cases l with
  | nil => rfl
  | cons a l =>
    cases l with
    | nil => rfl
    | cons b l => rfl
section
variable {K : PySem.W.Frag} {g : TG} {tt : TT} {te : TE} {vs : List Nat} {σ : L2.St} {H : Hp} {Q : VK}
theorem filter_snoc {p : Nat → Bool} {i : Nat} (b : Bool) : ∃ p' : Nat → Bool, (List.range (i + 1)).filter p' = (List.range i).filter p ++ if b then [i] else [] := by
  refine ⟨fun j => if j = i then b else p j, ?_⟩
  rw [List.range_succ, List.filter_append]
  congr 1
  · refine List.filter_congr fun j hj => ?_
    have := List.mem_range.mp hj
    rw [if_neg (by omega)]
  · cases b <;> simp
theorem lcR1F {n : Int} (hn : n ≤ 100000) (hm : -100000 ≤ n) (J : Nat → Hp → Prop) (st : ∀ D i H' o, H D = none → J i H' → H' D ≠ none → J i (upd H' D o)) (j0 : ∀ D o, H D = none → J 0 (upd H D o))
    (q : ∀ D p H', H D = none → But H H' → J n.toNat H' → H' D = some (.lst (nV ((List.range n.toNat).filter p))) → Q (.ref D) H')
    (t : ∀ D (i : Nat) H', (i : Int) < n → But H H' → H' D ≠ none → H D = none → J i H' → ∀ (Y : V → Hp → Prop) (N : Hp → Prop), (∀ H4, But H' H4 → J (i + 1) H4 → Y (.int i) H4) → (∀ H3, But H' H3 → J (i + 1) H3 → N H3) →
      g (.int i) (wipe σ vs) H' fun σ2 H2 => wipe σ2 vs = wipe σ vs ∧ tt σ2 H2 fun b H3 => if b = true then te σ2 H3 Y else N H3) : InR1 (fun J H1 => LcB J g tt te vs σ H1 Q) [.int n] H := by
  refine ⟨n, rfl, by omega, by omega, fun D hD => lc_range (lo := 0) (n := n.toNat) (fun i H' => But H H' ∧ J i H' ∧ ∃ p, H' D = some (.lst (nV ((List.range i).filter p)))) ⟨(Same.new hD).but, j0 D _ hD, fun _ => true, upd_same⟩ (fun i H' hi p => ?_) fun H' ⟨p1, p2, p, p3⟩ => q D p H' hD p1 p2 p3⟩
  obtain ⟨p1, p2, p, p3⟩ := p
  rw [Int.zero_add]
  have ll : (nV ((List.range i).filter p)).length < sizeLine := by
    unfold nV
    rw [List.length_map]
    have := List.length_filter_le p (List.range i)
    rw [List.length_range] at this
    exact Nat.lt_of_lt_of_le (by omega : _ < 100000) sz5
  obtain ⟨py, ey⟩ := filter_snoc (p := p) (i := i) true
  obtain ⟨pn, en⟩ := filter_snoc (p := p) (i := i) false
  refine t D i H' (by omega) p1 (by rw [p3]; simp) hD p2 _ _ (fun H4 b4 j4 => ?_) (fun H3 b3 j3 => ?_)
  · have e4 := b4 _ _ (nV_boxy _) p3
    refine ⟨_, e4, ll, (p1.trans b4).mut hD, st D _ _ _ hD j4 (by rw [e4]; simp), py, ?_⟩
    rw [upd_same, ey]
    unfold nV
    rw [List.map_append]
    rfl
  · refine ⟨p1.trans b3, j3, pn, ?_⟩
    rw [en, if_neg (by decide), List.append_nil]
    exact b3 _ _ (nV_boxy _) p3
end
end Z
set_option Elab.async false
set_option linter.all false
set_option maxRecDepth 100000
set_option maxHeartbeats 2000000
/-! k58: what the defs reckon, as plain functions. -/
namespace Z
/-- ways(many, kinds) -/
def W (m k : Int) : Int := if m < 0 then 0 else if 0 < k then PySem.W.mcComb (m + k - 1) m else if m = 0 then 1 else 0
/-- the sum of count_staying over its first n turns -/
def csum (lo c s o : Int) : Nat → Int
  | 0 => 0
  | n + 1 => csum lo c s o n + (W (lo + (n : Int) * (-c)) o - W (lo + (n : Int) * (-c) - s) o)
/-- the number of turns of range(lo, -1, -c) -/
def turns (lo c : Int) : Nat := if lo < 0 then 0 else (lo / c + 1).toNat
def cs (c i s : Int) : Int := PySem.W.mcComb c s * csum (i - (c - s)) c s (c - s) (turns (i - (c - s)) c)
/-- count_wheels -/
def cw (c i : Int) : Int := ((List.range c.toNat).map fun (k : Nat) => cs c i (1 + (k : Int))).sum
/-- stretch, from k on, at most so many turns more -/
def stF (c : Int) (bare : List Int) (f : Int) : Nat → Int → Int
  | 0, k => k
  | n + 1, k => if (f - k) % c ∈ bare then stF c bare f n (k + 1) else k
/-- the functions that are not bare -/
def freeOf (n : Nat) (bare : List Int) : List Int := ((List.range n).map fun (i : Nat) => (i : Int)).filter fun i => decide (i ∉ bare)
def st (n : Nat) (bare : List Int) (f : Int) : Int := stF n bare f n 1
/-- count_within's inner product over a list of others -/
def prodW (ls : List Int) (bare : List Int) (f : Int) (os : List Int) : Int :=
  os.foldl (fun p o => if o ≠ f then p * (ls.getD o.toNat 0 * (ls.length : Int) + st ls.length bare o) else p) (st ls.length bare f ^ 2)
def sumW (ls : List Int) (bare : List Int) (fs : List Int) : Int := fs.foldl (fun a f => a + prodW ls bare f (freeOf ls.length bare)) 0
def within (ls : List Int) (bare : List Int) : Int := sumW ls bare (freeOf ls.length bare) / (ls.length : Int)
/-! ### stretch ends -/
theorem stF_step {c : Int} {bare : List Int} {f k : Int} {n : Nat} (h : (f - k) % c ∈ bare) : stF c bare f (n + 1) k = stF c bare f n (k + 1) := if_pos h
theorem stF_stop {c : Int} {bare : List Int} {f k : Int} {n : Nat} (h : (f - k) % c ∉ bare) : stF c bare f n k = k := by
  cases n with
  | zero => rfl
  | succ n => exact if_neg h
/-- there is a function that is not bare: so among any count functions in a row -/
theorem free_in_row {c : Int} {bare : List Int} {f g : Int} (hc : 0 < c) (hg : 0 ≤ g ∧ g < c) (hn : g ∉ bare) : ∃ j : Nat, (j : Int) < c ∧ (f - (1 + (j : Int))) % c ∉ bare := by
  refine ⟨((f - 1 - g) % c).toNat, ?_, ?_⟩
  · have := Int.emod_nonneg (f - 1 - g) (Int.ne_of_gt hc)
    have := Int.emod_lt_of_pos (f - 1 - g) hc
    omega
  · have h0 := Int.emod_nonneg (f - 1 - g) (Int.ne_of_gt hc)
    rw [Int.toNat_of_nonneg h0]
    have e : (f - (1 + (f - 1 - g) % c)) % c = g := by
      have h1 := Int.emod_add_mul_ediv (f - 1 - g) c
      have e2 : f - (1 + (f - 1 - g) % c) = g + c * ((f - 1 - g) / c) := by omega
      rw [e2, Int.add_mul_emod_self_left]
      exact Int.emod_eq_of_lt hg.1 hg.2
    rw [e]
    exact hn
end Z
set_option Elab.async false
set_option linter.all false
set_option maxRecDepth 100000
set_option maxHeartbeats 2000000
namespace Z
open PySem PySem.Spec PyProof.Rows L2
def top (i : Nat) : Stmt := PySem.Challenge.pw_ringstays_k58_wheels_counted.main.body.getD i (.Pass ⟨0, 0, 0, 0⟩)
abbrev s_InvalidCount___init__ : Stmt := inClass (top 3) 0
abbrev s_InvalidGroup___init__ : Stmt := inClass (top 4) 0
abbrev s_InvalidInlinedCount___init__ : Stmt := inClass (top 5) 0
abbrev s_InvalidStaying___init__ : Stmt := inClass (top 6) 0
abbrev s_InvalidLimits___init__ : Stmt := inClass (top 7) 0
abbrev s_is_list : Stmt := top 9
abbrev s_is_whole : Stmt := top 10
abbrev s_is_between : Stmt := top 11
abbrev s_is_function : Stmt := top 12
abbrev s_are_functions : Stmt := top 13
abbrev s_is_rising : Stmt := top 14
abbrev s_is_group_of : Stmt := top 15
abbrev s_check_count : Stmt := top 18
abbrev s_check_inlined : Stmt := top 22
abbrev s_ways : Stmt := top 23
abbrev s_count_staying : Stmt := top 24
abbrev s_count_wheels : Stmt := top 25
abbrev s_are_limits : Stmt := top 26
abbrev s_stretch : Stmt := top 27
abbrev s_count_within : Stmt := top 28
abbrev s__law_cell : Stmt := top 30
abbrev s__law_box : Stmt := top 31
abbrev s__law_take : Stmt := top 32
abbrev s__law_rounds : Stmt := top 33
abbrev s__law_lists : Stmt := top 34
abbrev s__law_listed : Stmt := top 35
abbrev s__law_choose : Stmt := top 36
abbrev s__law_series : Stmt := top 37
abbrev s__law_due : Stmt := top 38
abbrev s__law_all_due : Stmt := top 39
abbrev s__law_boxes : Stmt := top 40
abbrev s__law_within : Stmt := top 41
abbrev s__law_within_sum : Stmt := top 42
abbrev s__law_told : Stmt := top 43
abbrev s__law_question : Stmt := top 44
abbrev s__law_limits : Stmt := top 45
abbrev s__law_counted : Stmt := top 46
abbrev s__law_refused_right : Stmt := top 47
abbrev s__law_right : Stmt := top 48
abbrev s_law : Stmt := top 49
local macro_rules | `(tactic| walk_at "hp") => `(tactic| first | assumption | exact upd_same | exact (upd_ne (by assumption)).trans (by assumption))
local macro_rules | `(tactic| walk_at "side") => `(tactic| first | assumption | omega | (exact ⟨by omega, by omega⟩) | (exact Or.inl ⟨by omega, by omega⟩) | (exact Or.inr ⟨by omega, by omega⟩) | (exact ⟨by omega, by omega, by omega⟩))
local macro_rules | `(tactic| walk_at "st") => `(tactic| first
  | (with_reducible first
  | refine g_seq ?_ | refine g_asg ?_ | refine g_op ?_ | refine g_var rfl ?_ | refine g_c ?_ | refine g_I0 ?_ | refine g_cons ?_ | refine g_nil ?_ | refine g_name rfl ?_ | refine g_ret ?_ | refine g_ifs ?_ | refine g_test ?_ | refine g_bl ?_
  | refine g_cb ?_ | refine g_call ?_ | refine g_drop ?_ | refine g_next ?_ | refine g_and ?_ | refine g_or ?_ | refine g_not ?_ | refine g_if ?_ | refine g_notV ?_ | refine g_andV ?_ | refine g_orV ?_ | refine g_chain ?_ | refine g_un ?_ | refine g_U ?_ | refine g_lst ?_ | refine g_tup ?_ | refine g_sub ?_ | refine g_B ?_ | refine g_int1 ?_ | refine g_trub ?_
  | refine g_eq rfl ?_ | refine g_ne rfl ?_ | refine g_tt ?_ | refine g_ff ?_ | refine g_nt ?_ | refine g_nf ?_ | refine g_retN ?_ | refine g_rs ?_ | refine g_lc ?_ | refine g_for ?_ | refine g_iL ?_ | refine g_iT ?_ | refine g_iR1 ?_ | refine g_iR2 ?_ | refine g_iR3 ?_ | refine g_yes ?_ | refine g_truth ?_ | refine g_gcons ?_ | refine g_gnil ?_ | refine g_par ?_ | refine g_par3 ?_ | refine g_ex2 ?_ | refine g_ex3 ?_ | refine g_bm ?_ | refine g_bm0 ?_ | refine g_aug rfl ?_ | refine g_ipI ?_ | refine g_iK ?_ | refine g_dc ?_ | refine g_dget ?_ | refine g_int ?_ | refine g_intB ?_ | refine g_abs ?_ | refine g_max2 ?_ | refine g_min2 ?_ | refine g_sl ?_ | refine g_nopart ?_ | refine g_part ?_ | refine g_dput ?_ | refine g_lstrg ?_ | refine g_rg1 ?_ | refine g_exi ?_)
  | ((with_reducible refine k_slL ?_); refine g_slL (SqL.of (by walk_at "hp")) ?_) | ((with_reducible refine k_listOf ?_); refine g_listOf (.inl (SqL.of (by walk_at "hp"))) ?_) | ((with_reducible refine k_rep ?_); refine g_rep (by walk_at "hp") (by omega) ?_) | ((with_reducible refine k_len ?_); refine g_len (SqL.of (by walk_at "hp")) ?_) | ((with_reducible refine k_len ?_); refine g_len (by assumption) ?_) | ((with_reducible refine k_tyL ?_); refine g_tyL (by walk_at "hp") ?_) | ((with_reducible refine k_gT ?_); refine g_gT (SqT.of (by walk_at "hp")) rfl ?_) | ((with_reducible refine k_gL ?_); refine g_gL (SqL.of (by walk_at "hp")) rfl ?_) | ((with_reducible refine k_ixL ?_); refine g_ixL (SqL.of (by walk_at "hp")) rfl ?_) | ((with_reducible refine k_ixL ?_); refine g_rd (by walk_at "hp") (by walk_at "side") ?_) | ((with_reducible refine k_ixL ?_); refine g_rdI (by walk_at "hp") (by omega) (by omega) ?_) | ((with_reducible refine k_setL ?_); refine g_setL (by walk_at "hp") rfl ?_) | ((with_reducible refine k_new ?_); refine g_new rfl ?_) | ((with_reducible refine k_I ?_); refine g_I (by walk_at "side") ?_))
local macro_rules | `(tactic| walk_at "go") => `(tactic| repeat walk_at "st")

/-- the built-in names that the text asks, none of them bound by it; constants -/
structure Bl (K : PySem.W.Frag) (mg : Str → Option Value) : Prop where
  int_ : mg "int" = none
  len_ : mg "len" = none
  range_ : mg "range" = none
  isinstance_ : mg "isinstance" = none
  bool_ : mg "bool" = none
  list_ : mg "list" = none
  tuple_ : mg "tuple" = none
  abs_ : mg "abs" = none
  sum_ : mg "sum" = none
  all_ : mg "all" = none
  repr_ : mg "repr" = none
  max_ : mg "max" = none
  min_ : mg "min" = none
  MOST_LENGTHS : ∃ t, mg "MOST_LENGTHS" = some (.int 12 t)
  MOST_INLINED_CALLS : ∃ t, mg "MOST_INLINED_CALLS" = some (.int 400 t)
  MOST_LIMIT : ∃ t, mg "MOST_LIMIT" = some (.int (10 ^ 18) t)
  comb : mg "comb" = some (.builtin "math.comb")
  sys : sysB K = true
/-! ### promises -/
def spIsList : Sp := fun vs H Q _ => ∃ x t, vs = [x] ∧ Kn H x t ∧ ∀ H', Same H H' → Q (.bl (isK "list" t || isK "tuple" t)) H'
abbrev wholeV (x : V) : Bool := match x with
  | .int _ => true
  | _ => false
def spWhole : Sp := fun vs H Q _ => ∃ x t, vs = [x] ∧ Kn H x t ∧ Q (.bl (wholeV x)) H
/-- a whole number from a to b -/
def betw (x : V) (a b : Int) : Bool := match x with
  | .int i => decide (a ≤ i ∧ i ≤ b)
  | _ => false
def spBetw : Sp := fun vs H Q _ => ∃ x t a b, vs = [x, .int a, .int b] ∧ Kn H x t ∧ Q (.bl (betw x a b)) H
def spFunction : Sp := fun vs H Q _ => ∃ x t n, vs = [x, .int n] ∧ Kn H x t ∧ Q (.bl (betw x 0 (n - 1))) H
def spWays : Sp := fun vs H Q _ => ∃ m k, vs = [.int m, .int k] ∧ m ≤ 4000 ∧ k ≤ 4000 ∧ Q (.int (W m k)) H
/-- an own error of the class x with the value v -/
def Err (K : PySem.W.Frag) (x : Str) (v : V) (H : Hp) (E : XK) : Prop := ∀ d H', H d = none → Same H H' → H' d = some (.xd [(("given" : Str), v)]) → E (.ref (He.ga K x)) (some d) H'
def spCheck (K : PySem.W.Frag) (x : Str) (a b : Int) : Sp := fun vs H Q E => ∃ v t, vs = [v] ∧ Kn H v t ∧ (betw v a b = true → Q .non H) ∧ (betw v a b = false → Err K x v H E)
section
variable {P : Program} {w : World} {K : PySem.W.Frag} {mg : Str → Option Value} {base : Heap} {f : Addr} {fd : FuncData}
theorem sc_is_list : FnScope ["value"] ["value"] (defScope s_is_list) := ⟨rfl, rfl, rfl, by decide +kernel, rfl, by decide +kernel, by decide +kernel⟩
theorem sc_is_whole : FnScope ["value"] ["value"] (defScope s_is_whole) := ⟨rfl, rfl, rfl, by decide +kernel, rfl, by decide +kernel, by decide +kernel⟩
theorem sc_is_between : FnScope ["value", "least", "most"] ["value", "least", "most"] (defScope s_is_between) := ⟨rfl, rfl, rfl, by decide +kernel, rfl, by decide +kernel, by decide +kernel⟩
theorem sc_is_function : FnScope ["value", "count"] ["value", "count"] (defScope s_is_function) := ⟨rfl, rfl, rfl, by decide +kernel, rfl, by decide +kernel, by decide +kernel⟩
theorem sc_ways : FnScope ["many", "kinds"] ["many", "kinds"] (defScope s_ways) := ⟨rfl, rfl, rfl, by decide +kernel, rfl, by decide +kernel, by decide +kernel⟩
theorem sc_check_count : FnScope ["count"] ["count"] (defScope s_check_count) := ⟨rfl, rfl, rfl, by decide +kernel, rfl, by decide +kernel, by decide +kernel⟩
theorem sc_check_inlined : FnScope ["inlined"] ["inlined"] (defScope s_check_inlined) := ⟨rfl, rfl, rfl, by decide +kernel, rfl, by decide +kernel, by decide +kernel⟩
theorem fn_is_list (F : Df K mg "is_list" s_is_list f fd) (B : Bl K mg) : Fn P w K mg base "is_list" 1 ["value"] spIsList := by
  refine F.fn sc_is_list (fun vs H Q E h => ?_) (fun _ _ _ _ _ _ us hl => match us, hl with | [_], _ => rfl) (fun cdv A outer s H vs Q E hr gd h => ?_)
  · obtain ⟨x, t, rfl, _⟩ := h
    rfl
  obtain ⟨x, t, rfl, k, q⟩ := h
  refine ⟨_, (pss_one (ps_ret (pe_callB (z_isiT (K := K)) rfl B.isinstance_ (by decide +kernel) (pa_cons (pv 0) (pa_cons (pe_tup (pa_cons (pe_bltn (v := .ty "list") rfl B.list_ (by decide +kernel) rfl) (pa_cons (pe_bltn (v := .ty "tuple") rfl B.tuple_ (by decide +kernel) rfl) pa_nil))) pa_nil))))), ?_⟩
  walk_at "go"
  intro p hp
  walk_at "go"
  exact g_isiT2 (k.same (Same.new hp)) upd_same (q _ (Same.new hp))
theorem fn_is_whole (F : Df K mg "is_whole" s_is_whole f fd) (B : Bl K mg) : Fn P w K mg base "is_whole" 1 ["value"] spWhole := by
  refine F.fn sc_is_whole (fun vs H Q E h => ?_) (fun _ _ _ _ _ _ us hl => match us, hl with | [_], _ => rfl) (fun cdv A outer s H vs Q E hr gd h => ?_)
  · obtain ⟨x, t, rfl, _⟩ := h
    rfl
  obtain ⟨x, t, rfl, k, q⟩ := h
  refine ⟨_, (pss_one (ps_ret (pe_and (pe_callB (z_isi (K := K)) rfl B.isinstance_ (by decide +kernel) (pa_cons (pv 0) (pa_cons (pe_bltn (v := .ty "int") rfl B.int_ (by decide +kernel) rfl) pa_nil))) (pe_one (pe_not (pe_callB (z_isi (K := K)) rfl B.isinstance_ (by decide +kernel) (pa_cons (pv 0) (pa_cons (pe_bltn (v := .ty "bool") rfl B.bool_ (by decide +kernel) rfl) pa_nil)))))))), ?_⟩
  walk_at "go"
  refine g_isi k ?_
  walk_at "go"
  refine g_iteb (fun h => ?_) (fun h => ?_)
  · walk_at "go"
    refine g_isi k ?_
    walk_at "go"
    have e : (!isK "bool" t) = wholeV x := by
      cases k <;> first | rfl | (cases h)
    rw [e]
    exact q
  · have e : false = wholeV x := by
      cases k <;> first | rfl | (cases h)
    rw [e]
    exact q
theorem fn_is_between (F : Df K mg "is_between" s_is_between f fd) (F_is_whole : Fn P w K mg base "is_whole" 1 ["value"] spWhole) : Fn P w K mg base "is_between" 2 ["value", "least", "most"] spBetw := by
  refine F.fn sc_is_between (fun vs H Q E h => ?_) (fun _ _ _ _ _ _ us hl => match us, hl with | [_, _, _], _ => rfl) (fun cdv A outer s H vs Q E hr gd h => ?_)
  · obtain ⟨x, t, a, b, rfl, _⟩ := h
    rfl
  obtain ⟨x, t, a, b, rfl, k, q⟩ := h
  cases k with
  | int i =>
    refine ⟨_, (pss_one (ps_ret (pe_and (fcall F_is_whole (hr.mono (by decide)) gd (passes_call (takes_of rfl rfl rfl rfl) fun _ _ _ _ h => h) (pa_cons (pv 0) pa_nil)) (pe_one (pe_chain op_le op_le (pv 1) (pv 0) (pv 2)))))), ?_⟩
    walk_at "go"
    refine ⟨_, _, rfl, .int i, ?_⟩
    walk_at "go"
    have e : betw (.int i) a b = (decide (a ≤ i) && decide (i ≤ b)) := by
      show decide (a ≤ i ∧ i ≤ b) = _
      rw [Bool.decide_and]
    rw [e] at q
    refine g_ite (fun h => ?_) (fun h => ?_)
    · walk_at "go"
      rw [decide_eq_true h] at q
      exact q
    · rw [decide_eq_false h] at q
      exact q
  | _ =>
    refine ⟨_, (pss_one (ps_ret (pe_and (fcall F_is_whole (hr.mono (by decide)) gd (passes_call (takes_of rfl rfl rfl rfl) fun _ _ _ _ h => h) (pa_cons (pv 0) pa_nil)) (pe_one (pe_chain op_le op_le (pv 1) (pv 0) (pv 2)))))), ?_⟩
    walk_at "go"
    refine ⟨_, _, rfl, by first | exact .non | exact .bl _ | exact .str _ | (exact .lst (by assumption)) | (exact .tup (by assumption)) | (exact .dK (by assumption)), ?_⟩
    walk_at "go"
    exact q
theorem fn_is_function (F : Df K mg "is_function" s_is_function f fd) (B : Bl K mg) : Fn P w K mg base "is_function" 1 ["value", "count"] spFunction := by
  refine F.fn sc_is_function (fun vs H Q E h => ?_) (fun _ _ _ _ _ _ us hl => match us, hl with | [_, _], _ => rfl) (fun cdv A outer s H vs Q E hr gd h => ?_)
  · obtain ⟨x, t, n, rfl, _⟩ := h
    rfl
  obtain ⟨x, t, n, rfl, k, q⟩ := h
  refine ⟨_, (pss_one (ps_ret (pe_and (pe_callB (z_isi (K := K)) rfl B.isinstance_ (by decide +kernel) (pa_cons (pv 0) (pa_cons (pe_bltn (v := .ty "int") rfl B.int_ (by decide +kernel) rfl) pa_nil))) (pe_and (pe_not (pe_callB (z_isi (K := K)) rfl B.isinstance_ (by decide +kernel) (pa_cons (pv 0) (pa_cons (pe_bltn (v := .ty "bool") rfl B.bool_ (by decide +kernel) rfl) pa_nil)))) (pe_one (pe_chain op_le op_lt pe_int (pv 0) (pv 1))))))), ?_⟩
  have k2 := k
  cases k with
  | int i =>
    walk_at "go"
    refine g_isi (.int i) ?_
    walk_at "go"
    refine g_iteb (fun _ => ?_) (fun h => absurd h (by decide))
    walk_at "go"
    refine g_isi (.int i) ?_
    walk_at "go"
    walk_at "go"
    refine g_iteb (fun _ => ?_) (fun h => absurd h (by decide))
    walk_at "go"
    have e : betw (.int i) 0 (n - 1) = (decide (0 ≤ i) && decide (i < n)) := by
      show decide (0 ≤ i ∧ i ≤ n - 1) = _
      rw [Bool.decide_and]
      congr 1
      exact decide_eq_decide.mpr (by omega)
    rw [e] at q
    refine g_ite (fun h => ?_) (fun h => ?_)
    · walk_at "go"
      rw [decide_eq_true h] at q
      exact q
    · rw [decide_eq_false h] at q
      exact q
  | bl b =>
    walk_at "go"
    refine g_isi (.bl b) ?_
    walk_at "go"
    refine g_iteb (fun _ => ?_) (fun h => absurd h (by decide))
    walk_at "go"
    refine g_isi (.bl b) ?_
    walk_at "go"
    walk_at "go"
    refine g_iteb (fun h => absurd h (by decide)) (fun _ => ?_)
    exact q
  | _ =>
    walk_at "go"
    refine g_isi k2 ?_
    walk_at "go"
    refine g_iteb (fun h => absurd h (by decide)) (fun _ => ?_)
    exact q
theorem fn_ways (F : Df K mg "ways" s_ways f fd) (T : Bl K mg) (B : Bl K mg := T) : Fn P w K mg base "ways" 1 ["many", "kinds"] spWays := by
  refine F.fn sc_ways (fun vs H Q E h => ?_) (fun _ _ _ _ _ _ us hl => match us, hl with | [_, _], _ => rfl) (fun cdv A outer s H vs Q E hr gd h => ?_)
  · obtain ⟨x, t, rfl, _⟩ := h
    rfl
  obtain ⟨m, k, rfl, h1, h2, q⟩ := h
  refine ⟨_, (pss_cons (ps_if (pt_cmpR op_lt (pv 0) pe_int (nomark _)) (pss_one (ps_ret pe_int)) pss_nil)
      (pss_one (ps_ret (pe_ifExp (pt_cmpR op_gt (pv 1) pe_int (nomark _)) (pe_callBfun cr_comb rfl T.comb (pa_cons (pe_op op_sub (pe_op op_add (pv 0) (pv 1)) pe_int) (pa_cons (pv 0) pa_nil))) (pe_callTy z_int rfl B.int_ (by decide +kernel) (pa_cons (pe_cmpR op_eq (pv 0) pe_int (nomark _)) pa_nil)))))), ?_⟩
  walk_at "go"
  unfold W at q
  refine g_ite (fun h => ?_) (fun h => ?_)
  · walk_at "go"
    rw [if_pos h] at q
    exact q
  rw [if_neg h] at q
  walk_at "go"
  refine g_ite (fun h3 => ?_) (fun h3 => ?_)
  · rw [if_pos h3] at q
    walk_at "go"
    exact ⟨_, _, rfl, by omega, by omega, by omega, by omega, q⟩
  · rw [if_neg h3] at q
    walk_at "go"
    by_cases h4 : m = 0
    · rw [if_pos h4] at q
      rw [decide_eq_true (congrArg V.int h4), if_pos rfl]
      exact q
    · rw [if_neg h4] at q
      rw [decide_eq_false (fun z => h4 (V.int.inj z)), if_neg (by decide)]
      exact q
theorem fn_check_count (F : Df K mg "check_count" s_check_count f fd) (T : Bl K mg) (F_is_between : Fn P w K mg base "is_between" 2 ["value", "least", "most"] spBetw) (X_InvalidCount : Exn P w K mg base "InvalidCount") :
    Fn P w K mg base "check_count" 3 ["count"] (spCheck K "InvalidCount" 1 12) := by
  refine F.fn sc_check_count (fun vs H Q E h => ?_) (fun _ _ _ _ _ _ us hl => match us, hl with | [_], _ => rfl) (fun cdv A outer s H vs Q E hr gd h => ?_)
  · obtain ⟨x, t, rfl, _⟩ := h
    rfl
  obtain ⟨v, t, rfl, k, q1, q2⟩ := h
  refine ⟨_, (pss_one (ps_if (pt_not (pt_val (fcall F_is_between (hr.mono (by decide)) gd (passes_call (takes_of rfl rfl rfl rfl) fun _ _ _ _ h => h) (pa_cons (pv 0) (pa_cons pe_int (pa_cons (gint T.MOST_LENGTHS) pa_nil)))))) (pss_one (ps_rs X_InvalidCount (hr.mono (by decide)) (takes_of rfl rfl rfl rfl) (pv 0))) pss_nil)), ?_⟩
  walk_at "go"
  refine ⟨_, _, _, _, rfl, k, ?_⟩
  walk_at "go"
  cases e : betw v 1 12 with
  | true =>
    walk_at "go"
    exact q1 e
  | false =>
    walk_at "go"
    refine rs_ok ?_
    exact q2 e
theorem fn_check_inlined (F : Df K mg "check_inlined" s_check_inlined f fd) (T : Bl K mg) (F_is_between : Fn P w K mg base "is_between" 2 ["value", "least", "most"] spBetw) (X_InvalidInlinedCount : Exn P w K mg base "InvalidInlinedCount") :
    Fn P w K mg base "check_inlined" 3 ["inlined"] (spCheck K "InvalidInlinedCount" 0 400) := by
  refine F.fn sc_check_inlined (fun vs H Q E h => ?_) (fun _ _ _ _ _ _ us hl => match us, hl with | [_], _ => rfl) (fun cdv A outer s H vs Q E hr gd h => ?_)
  · obtain ⟨x, t, rfl, _⟩ := h
    rfl
  obtain ⟨v, t, rfl, k, q1, q2⟩ := h
  refine ⟨_, (pss_one (ps_if (pt_not (pt_val (fcall F_is_between (hr.mono (by decide)) gd (passes_call (takes_of rfl rfl rfl rfl) fun _ _ _ _ h => h) (pa_cons (pv 0) (pa_cons pe_int (pa_cons (gint T.MOST_INLINED_CALLS) pa_nil)))))) (pss_one (ps_rs X_InvalidInlinedCount (hr.mono (by decide)) (takes_of rfl rfl rfl rfl) (pv 0))) pss_nil)), ?_⟩
  walk_at "go"
  refine ⟨_, _, _, _, rfl, k, ?_⟩
  walk_at "go"
  cases e : betw v 0 400 with
  | true =>
    walk_at "go"
    exact q1 e
  | false =>
    walk_at "go"
    refine rs_ok ?_
    exact q2 e
end
end Z
set_option Elab.async false
set_option linter.all false
set_option maxRecDepth 100000
set_option maxHeartbeats 2000000
namespace Z
open PySem PySem.Spec PyProof.Rows L2
local macro_rules | `(tactic| walk_at "hp") => `(tactic| first | assumption | exact upd_same | exact (upd_ne (by assumption)).trans (by assumption))
local macro_rules | `(tactic| walk_at "side") => `(tactic| first | assumption | omega | (exact ⟨by omega, by omega⟩) | (exact Or.inl ⟨by omega, by omega⟩) | (exact Or.inr ⟨by omega, by omega⟩) | (exact ⟨by omega, by omega, by omega⟩))
local macro_rules | `(tactic| walk_at "st") => `(tactic| first
  | (with_reducible first
  | refine g_seq ?_ | refine g_asg ?_ | refine g_op ?_ | refine g_var rfl ?_ | refine g_c ?_ | refine g_I0 ?_ | refine g_cons ?_ | refine g_nil ?_ | refine g_name rfl ?_ | refine g_ret ?_ | refine g_ifs ?_ | refine g_test ?_ | refine g_bl ?_
  | refine g_cb ?_ | refine g_call ?_ | refine g_drop ?_ | refine g_next ?_ | refine g_and ?_ | refine g_or ?_ | refine g_not ?_ | refine g_if ?_ | refine g_notV ?_ | refine g_andV ?_ | refine g_orV ?_ | refine g_chain ?_ | refine g_un ?_ | refine g_U ?_ | refine g_lst ?_ | refine g_tup ?_ | refine g_sub ?_ | refine g_B ?_ | refine g_int1 ?_ | refine g_trub ?_
  | refine g_eq rfl ?_ | refine g_ne rfl ?_ | refine g_tt ?_ | refine g_ff ?_ | refine g_nt ?_ | refine g_nf ?_ | refine g_retN ?_ | refine g_rs ?_ | refine g_lc ?_ | refine g_for ?_ | refine g_iL ?_ | refine g_iT ?_ | refine g_iR1 ?_ | refine g_iR2 ?_ | refine g_iR3 ?_ | refine g_yes ?_ | refine g_truth ?_ | refine g_gcons ?_ | refine g_gnil ?_ | refine g_par ?_ | refine g_par3 ?_ | refine g_ex2 ?_ | refine g_ex3 ?_ | refine g_bm ?_ | refine g_bm0 ?_ | refine g_aug rfl ?_ | refine g_ipI ?_ | refine g_iK ?_ | refine g_dc ?_ | refine g_dget ?_ | refine g_int ?_ | refine g_intB ?_ | refine g_abs ?_ | refine g_max2 ?_ | refine g_min2 ?_ | refine g_sl ?_ | refine g_nopart ?_ | refine g_part ?_ | refine g_dput ?_ | refine g_lstrg ?_ | refine g_rg1 ?_ | refine g_exi ?_)
  | ((with_reducible refine k_slL ?_); refine g_slL (SqL.of (by walk_at "hp")) ?_) | ((with_reducible refine k_listOf ?_); refine g_listOf (.inl (SqL.of (by walk_at "hp"))) ?_) | ((with_reducible refine k_rep ?_); refine g_rep (by walk_at "hp") (by omega) ?_) | ((with_reducible refine k_len ?_); refine g_len (SqL.of (by walk_at "hp")) ?_) | ((with_reducible refine k_len ?_); refine g_len (by assumption) ?_) | ((with_reducible refine k_tyL ?_); refine g_tyL (by walk_at "hp") ?_) | ((with_reducible refine k_gT ?_); refine g_gT (SqT.of (by walk_at "hp")) rfl ?_) | ((with_reducible refine k_gL ?_); refine g_gL (SqL.of (by walk_at "hp")) rfl ?_) | ((with_reducible refine k_ixL ?_); refine g_ixL (SqL.of (by walk_at "hp")) rfl ?_) | ((with_reducible refine k_ixL ?_); refine g_rd (by walk_at "hp") (by walk_at "side") ?_) | ((with_reducible refine k_ixL ?_); refine g_rdI (by walk_at "hp") (by omega) (by omega) ?_) | ((with_reducible refine k_setL ?_); refine g_setL (by walk_at "hp") rfl ?_) | ((with_reducible refine k_new ?_); refine g_new rfl ?_) | ((with_reducible refine k_I ?_); refine g_I (by walk_at "side") ?_))
local macro_rules | `(tactic| walk_at "go") => `(tactic| repeat walk_at "st")

/-- a list or a tuple of values of known kinds -/
inductive Sq (H : Hp) : V → List V → Prop
  | lst {a : Addr} {xs : List V} (e : H a = some (.lst xs)) : Sq H (.ref a) xs
  | tup {a : Addr} {xs : List V} (e : H a = some (.tup xs)) : Sq H (.ref a) xs
def Kns (H : Hp) (xs : List V) : Prop := ∀ y ∈ xs, ∃ t, Kn H y t
theorem Kns.same {H H' : Hp} {xs : List V} (h : Kns H xs) (s : Same H H') : Kns H' xs := fun y hy => let ⟨t, k⟩ := h y hy; ⟨t, k.same s⟩
/-- b: are all items of x, a list or a tuple, as p tells -/
inductive Alls (H : Hp) (p : V → Bool) : V → Bool → Prop
  | yes {x : V} {xs : List V} (s : Sq H x xs) (k : Kns H xs) (l : xs.length ≤ 1000) : Alls H p x (xs.all p)
  | no {x : V} {t : String} (k : Kn H x t) (h1 : isK "list" t = false) (h2 : isK "tuple" t = false) : Alls H p x false
theorem Alls.same {H H' : Hp} {p : V → Bool} {x : V} {b : Bool} (h : Alls H p x b) (s : Same H H') : Alls H' p x b := by
  cases h with
  | yes q k l =>
    cases q with
    | lst e => exact .yes (.lst (s _ _ e)) (k.same s) l
    | tup e => exact .yes (.tup (s _ _ e)) (k.same s) l
  | no k h1 h2 => exact .no (k.same s) h1 h2
def spFunctions : Sp := fun vs H Q _ => ∃ x n b, vs = [x, .int n] ∧ Alls H (betw · 0 (n - 1)) x b ∧ ∀ H', Same H H' → Q (.bl b) H'
/-- rising -/
def rising : List Int → Bool
  | a :: b :: r => decide (a < b) && rising (b :: r)
  | _ => true
def spRising : Sp := fun vs H Q _ => ∃ x ns, vs = [x] ∧ Sq H x (ns.map V.int) ∧ ns.length ≤ 1000 ∧ ∀ H', Same H H' → Q (.bl (rising ns)) H'
def unI : V → Int
  | .int i => i
  | _ => 0
def grp (n : Int) (xs : List V) : Bool := xs.all (betw · 0 (n - 1)) && rising (xs.map unI)
inductive Grp (H : Hp) (n : Int) : V → Bool → Prop
  | yes {x : V} {xs : List V} (s : Sq H x xs) (k : Kns H xs) (l : xs.length ≤ 1000) : Grp H n x (grp n xs)
  | no {x : V} {t : String} (k : Kn H x t) (h1 : isK "list" t = false) (h2 : isK "tuple" t = false) : Grp H n x false
def spGroup : Sp := fun vs H Q _ => ∃ x n b, vs = [x, .int n] ∧ Grp H n x b ∧ ∀ H', Same H H' → Q (.bl b) H'
theorem Grp.same {H H' : Hp} {n : Int} {x : V} {b : Bool} (g : Grp H n x b) (s : Same H H') : Grp H' n x b := by
  cases g with
  | yes q k l =>
    cases q with
    | lst e => exact .yes (.lst (s _ _ e)) (k.same s) l
    | tup e => exact .yes (.tup (s _ _ e)) (k.same s) l
  | no k h1 h2 => exact .no (k.same s) h1 h2
theorem betw_int {x : V} {a b : Int} (h : betw x a b = true) : x = .int (unI x) ∧ a ≤ unI x ∧ unI x ≤ b := by
  cases x with
  | int i => exact ⟨rfl, of_decide_eq_true h⟩
  | _ => cases h
theorem all_ints {xs : List V} {a b : Int} (h : xs.all (betw · a b) = true) : xs = (xs.map unI).map V.int ∧ ∀ i ∈ xs.map unI, a ≤ i ∧ i ≤ b := by
  induction xs with
  | nil => exact ⟨rfl, by simp⟩
  | cons x r ih =>
    obtain ⟨h1, h2⟩ := Bool.and_eq_true_iff.mp (show (betw x a b && r.all (betw · a b)) = true from h)
    obtain ⟨e1, e2⟩ := ih h2
    obtain ⟨e3, e4⟩ := betw_int h1
    refine ⟨?_, fun i hi => ?_⟩
    · show x :: r = V.int (unI x) :: (r.map unI).map V.int
      rw [← e3, ← e1]
    · rcases List.mem_cons.mp hi with hi | hi
      · rw [hi]; exact e4
      · exact e2 i hi
theorem outs_map {xs : List V} {p : V → Bool} : outs xs.length (fun i => (xs[i]?).map fun x => PyData.bool (p x)) = (xs.map p).map PyData.bool := by
  have e : outs xs.length (fun i => (xs[i]?).map fun x => PyData.bool (p x)) = outs xs.length (fun i => some (PyData.bool (p (xs.getD i .non)))) := outs_congr fun i hi => by
    rw [List.getElem?_eq_getElem hi, List.getD_eq_getElem?_getD, List.getElem?_eq_getElem hi]
    rfl
  rw [e, outs_all]
  refine List.ext_getElem (by simp) fun i h1 h2 => ?_
  simp at h1
  simp [List.getD_eq_getElem?_getD, List.getElem?_eq_getElem h1]
theorem all_map {xs : List V} {p : V → Bool} : (xs.map p).all id = xs.all p := by
  induction xs with
  | nil => rfl
  | cons x r ih => rw [List.map_cons, List.all_cons, List.all_cons, ih]; rfl
section
variable {P : Program} {w : World} {K : PySem.W.Frag} {mg : Str → Option Value} {base : Heap} {f : Addr} {fd : FuncData}
theorem sc_are_functions : FnScope ["value", "count", "item"] ["value", "count"] (defScope s_are_functions) := ⟨rfl, rfl, rfl, by decide +kernel, rfl, by decide +kernel, by decide +kernel⟩
theorem sc_is_rising : FnScope ["items", "at"] ["items"] (defScope s_is_rising) := ⟨rfl, rfl, rfl, by decide +kernel, rfl, by decide +kernel, by decide +kernel⟩
theorem sc_is_group_of : FnScope ["value", "count"] ["value", "count"] (defScope s_is_group_of) := ⟨rfl, rfl, rfl, by decide +kernel, rfl, by decide +kernel, by decide +kernel⟩
theorem sc_are_limits : FnScope ["value", "limit"] ["value"] (defScope s_are_limits) := ⟨rfl, rfl, rfl, by decide +kernel, rfl, by decide +kernel, by decide +kernel⟩
theorem fn_are_functions (F : Df K mg "are_functions" s_are_functions f fd) (B : Bl K mg) (F_is_list : Fn P w K mg base "is_list" 1 ["value"] spIsList) (F_is_function : Fn P w K mg base "is_function" 1 ["value", "count"] spFunction) :
    Fn P w K mg base "are_functions" 2 ["value", "count"] spFunctions := by
  refine F.fn sc_are_functions (fun vs H Q E h => ?_) (fun _ _ _ _ _ _ us hl => match us, hl with | [_, _], _ => rfl) (fun cdv A outer s H vs Q E hr gd h => ?_)
  · obtain ⟨x, t, n, rfl, _⟩ := h
    rfl
  obtain ⟨x, n, b, rfl, ha, q⟩ := h
  have turn : ∀ {xs : List V} {H1 H' : Hp} {D : Addr} {i : Nat} {y : V}, Kns H1 xs → xs[i]? = some y → Same H1 H' → Turn1 (gName 2) tYes (tCall spFunction [] E0 (tCons (tVar 2) (tCons (tVar 1) tNil))) [2] [some x, some (.int n), none] D y H' ((xs[i]?).map fun z => PyData.bool (betw z 0 (n - 1))) := by
    intro xs H1 H' D i y hk hi hs Y N yes no
    walk_at "go"
    refine ⟨rfl, ?_⟩
    walk_at "go"
    obtain ⟨t, k⟩ := hk y (List.mem_of_getElem? hi)
    exact ⟨y, t, n, rfl, k.same hs, yes _ _ _ (by rw [hi]; rfl) (Same.refl _) (.bl _)⟩
  cases ha with
  | no k h1 h2 =>
    refine ⟨_, (pss_one (ps_ret (pe_and (fcall F_is_list (hr.mono (by decide)) gd (passes_call (takes_of rfl rfl rfl rfl) fun _ _ _ _ h => h) (pa_cons (pv 0) pa_nil)) (pe_one (pe_callB (z_all (K := K) rfl) rfl B.all_ (by decide +kernel) (pa_cons (pe_lc (own := [("item", 2)]) (g := gName 2) rfl sc_are_functions.nd (z_piL (K := K) (pv 0)) (blkOk_by (own := [("item", 2)]) (N := ["value", "count", "item"]) (sc := defScope s_are_functions) (by decide +kernel)) (fun _ _ _ _ _ => pg_name (i := 2) sc_are_functions.nd rfl (Or.inl rfl)) (fun _ _ _ _ _ => pts_nil) (fun _ _ _ _ _ => fcall F_is_function (hr.mono (by decide)) gd passL (pa_cons (pv 2) (pa_cons (pv 1) pa_nil)))) pa_nil)))))), ?_⟩
    walk_at "go"
    refine ⟨x, _, rfl, k, fun H1 s1 => ?_⟩
    rw [h1, h2]
    walk_at "go"
    exact q _ s1
  | @yes xs sq kn l =>
    cases sq with
    | @lst a _ e =>
      refine ⟨_, (pss_one (ps_ret (pe_and (fcall F_is_list (hr.mono (by decide)) gd (passes_call (takes_of rfl rfl rfl rfl) fun _ _ _ _ h => h) (pa_cons (pv 0) pa_nil)) (pe_one (pe_callB (z_all (K := K) rfl) rfl B.all_ (by decide +kernel) (pa_cons (pe_lc (own := [("item", 2)]) (g := gName 2) rfl sc_are_functions.nd (z_piL (K := K) (pv 0)) (blkOk_by (own := [("item", 2)]) (N := ["value", "count", "item"]) (sc := defScope s_are_functions) (by decide +kernel)) (fun _ _ _ _ _ => pg_name (i := 2) sc_are_functions.nd rfl (Or.inl rfl)) (fun _ _ _ _ _ => pts_nil) (fun _ _ _ _ _ => fcall F_is_function (hr.mono (by decide)) gd passL (pa_cons (pv 2) (pa_cons (pv 1) pa_nil)))) pa_nil)))))), ?_⟩
      walk_at "go"
      refine ⟨_, _, rfl, .lst e, fun H1 s1 => ?_⟩
      refine ⟨true, rfl, ?_⟩
      walk_at "go"
      refine lcL (xs := xs) (SqL.of (s1 _ _ e)) (by omega) (fun i => (xs[i]?).map fun z => PyData.bool (betw z 0 (n - 1))) (fun D ys H2 hD s2 h2 d2 => ?_) (fun D i y H' hi hs _ _ => turn (kn.same s1) hi hs)
      rw [outs_map] at d2
      walk_at "go"
      refine ⟨D, _, rfl, SqL.of (by rw [h2, d2.bools]), ?_⟩
      rw [all_map]
      exact q _ (s1.trans s2)
    | @tup a _ e =>
      refine ⟨_, (pss_one (ps_ret (pe_and (fcall F_is_list (hr.mono (by decide)) gd (passes_call (takes_of rfl rfl rfl rfl) fun _ _ _ _ h => h) (pa_cons (pv 0) pa_nil)) (pe_one (pe_callB (z_all (K := K) rfl) rfl B.all_ (by decide +kernel) (pa_cons (pe_lc (own := [("item", 2)]) (g := gName 2) rfl sc_are_functions.nd (z_piT (K := K) (pv 0)) (blkOk_by (own := [("item", 2)]) (N := ["value", "count", "item"]) (sc := defScope s_are_functions) (by decide +kernel)) (fun _ _ _ _ _ => pg_name (i := 2) sc_are_functions.nd rfl (Or.inl rfl)) (fun _ _ _ _ _ => pts_nil) (fun _ _ _ _ _ => fcall F_is_function (hr.mono (by decide)) gd passL (pa_cons (pv 2) (pa_cons (pv 1) pa_nil)))) pa_nil)))))), ?_⟩
      walk_at "go"
      refine ⟨_, _, rfl, .tup e, fun H1 s1 => ?_⟩
      refine ⟨true, rfl, ?_⟩
      walk_at "go"
      refine lcT (xs := xs) (SqT.of (s1 _ _ e)) (by omega) (fun i => (xs[i]?).map fun z => PyData.bool (betw z 0 (n - 1))) (fun D ys H2 hD s2 h2 d2 => ?_) (fun D i y H' hi hs _ _ => turn (kn.same s1) hi hs)
      rw [outs_map] at d2
      walk_at "go"
      refine ⟨D, _, rfl, SqL.of (by rw [h2, d2.bools]), ?_⟩
      rw [all_map]
      exact q _ (s1.trans s2)
theorem at_ok {xs : List V} {n : Nat} {v : V} {j : Int} (h : xs[n]? = some v) (e : j = (n : Int)) : atI xs j = some v := by
  rw [e]
  exact atI_nat h
theorem ints_at {ns : List Int} {i : Nat} (h : i < ns.length) : (ns.map V.int)[i]? = some (V.int (ns.getD i 0)) := by
  rw [List.getElem?_map, List.getElem?_eq_getElem h, List.getD_eq_getElem?_getD, List.getElem?_eq_getElem h]
  rfl
theorem rising_all : ∀ ns : List Int, ((List.range (ns.length - 1)).map fun i => decide (ns.getD i 0 < ns.getD (i + 1) 0)).all id = rising ns
  | [] => rfl
  | [_] => rfl
  | a :: b :: r => by
    have ih := rising_all (b :: r)
    have e : (a :: b :: r).length - 1 = ((b :: r).length - 1) + 1 := by simp
    rw [e, List.range_succ_eq_map, List.map_cons, List.map_map, List.all_cons]
    show (decide (a < b) && _) = (decide (a < b) && rising (b :: r))
    rw [← ih]
    rfl
theorem fn_is_rising (F : Df K mg "is_rising" s_is_rising f fd) (B : Bl K mg) : Fn P w K mg base "is_rising" 1 ["items"] spRising := by
  refine F.fn sc_is_rising (fun vs H Q E h => ?_) (fun _ _ _ _ _ _ us hl => match us, hl with | [_], _ => rfl) (fun cdv A outer s H vs Q E hr gd h => ?_)
  · obtain ⟨x, t, rfl, _⟩ := h
    rfl
  obtain ⟨x, ns, rfl, sq, l, q⟩ := h
  have fin : ∀ {D ys H2}, Same H H2 → H2 D = some (.lst ys) → Dts (L2.del H2 D) ys (outs ((ns.length : Int) - 1).toNat fun i => some (PyData.bool (decide (ns.getD i 0 < ns.getD (i + 1) 0)))) → rAll K [.ref D] H2 Q := by
    intro D ys H2 s2 h2 d2
    have e : ((ns.length : Int) - 1).toNat = ns.length - 1 := by omega
    rw [outs_all, e] at d2
    have d3 : ys = ((List.range (ns.length - 1)).map fun i => decide (ns.getD i 0 < ns.getD (i + 1) 0)).map V.bl := Dts.bools (by rw [List.map_map]; exact d2)
    refine ⟨D, _, rfl, SqL.of (by rw [h2, d3]), ?_⟩
    rw [rising_all]
    exact q _ s2
  cases sq with
  | @lst a _ e =>
    refine ⟨_, (pss_one (ps_ret (pe_callB (z_all (K := K) rfl) rfl B.all_ (by decide +kernel) (pa_cons (pe_lc (own := [("at", 1)]) (g := gName 1) rfl sc_is_rising.nd (pi_range1 rfl B.range_ (pa_cons (pe_op op_sub (pe_callB (z_len (K := K)) rfl B.len_ (by decide +kernel) (pa_cons (pv 0) pa_nil)) pe_int) pa_nil)) (blkOk_by (own := [("at", 1)]) (N := ["items", "at"]) (sc := defScope s_is_rising) (by decide +kernel)) (fun _ _ _ _ _ => pg_name (i := 1) sc_is_rising.nd rfl (Or.inl rfl)) (fun _ _ _ _ _ => pts_nil) (fun _ _ _ _ _ => pe_cmpR op_lt (pe_ix (z_ixL (K := K)) (pv 0) (pv 1) (fun _ _ => rfl)) (pe_ix (z_ixL (K := K)) (pv 0) (pe_op op_add (pv 1) pe_int) (fun _ _ => rfl)) (nomark _))) pa_nil)))), ?_⟩
    walk_at "go"
    rw [List.length_map]
    refine lcR1 (by omega) (by omega) (fun i => some (.bool (decide (ns.getD i 0 < ns.getD (i + 1) 0)))) (fun D ys H2 hD s2 h2 d2 => ?_) (fun D i H' hi hs _ _ => ?_)
    · walk_at "go"
      exact fin s2 h2 d2
    · intro Y N yes no
      walk_at "go"
      refine ⟨rfl, ?_⟩
      walk_at "go"
      refine g_ixL (SqL.of (hs _ _ e)) (at_ok (ints_at (i := i) (by omega)) rfl) ?_
      walk_at "go"
      refine g_ixL (SqL.of (hs _ _ e)) (at_ok (ints_at (i := i + 1) (by omega)) rfl) ?_
      walk_at "go"
      exact yes _ _ _ rfl (Same.refl _) (.bl _)
  | @tup a _ e =>
    refine ⟨_, (pss_one (ps_ret (pe_callB (z_all (K := K) rfl) rfl B.all_ (by decide +kernel) (pa_cons (pe_lc (own := [("at", 1)]) (g := gName 1) rfl sc_is_rising.nd (pi_range1 rfl B.range_ (pa_cons (pe_op op_sub (pe_callB (z_len (K := K)) rfl B.len_ (by decide +kernel) (pa_cons (pv 0) pa_nil)) pe_int) pa_nil)) (blkOk_by (own := [("at", 1)]) (N := ["items", "at"]) (sc := defScope s_is_rising) (by decide +kernel)) (fun _ _ _ _ _ => pg_name (i := 1) sc_is_rising.nd rfl (Or.inl rfl)) (fun _ _ _ _ _ => pts_nil) (fun _ _ _ _ _ => pe_cmpR op_lt (pe_ix (z_ixT (K := K)) (pv 0) (pv 1) (fun _ _ => rfl)) (pe_ix (z_ixT (K := K)) (pv 0) (pe_op op_add (pv 1) pe_int) (fun _ _ => rfl)) (nomark _))) pa_nil)))), ?_⟩
    walk_at "go"
    refine g_lenT (SqT.of e) ?_
    walk_at "go"
    rw [List.length_map]
    refine lcR1 (by omega) (by omega) (fun i => some (.bool (decide (ns.getD i 0 < ns.getD (i + 1) 0)))) (fun D ys H2 hD s2 h2 d2 => ?_) (fun D i H' hi hs _ _ => ?_)
    · walk_at "go"
      exact fin s2 h2 d2
    · intro Y N yes no
      walk_at "go"
      refine ⟨rfl, ?_⟩
      walk_at "go"
      refine g_ixT (SqT.of (hs _ _ e)) (at_ok (ints_at (i := i) (by omega)) rfl) ?_
      walk_at "go"
      refine g_ixT (SqT.of (hs _ _ e)) (at_ok (ints_at (i := i + 1) (by omega)) rfl) ?_
      walk_at "go"
      exact yes _ _ _ rfl (Same.refl _) (.bl _)
theorem fn_is_group_of (F : Df K mg "is_group_of" s_is_group_of f fd) (B : Bl K mg) (F_are_functions : Fn P w K mg base "are_functions" 2 ["value", "count"] spFunctions) (F_is_rising : Fn P w K mg base "is_rising" 1 ["items"] spRising) :
    Fn P w K mg base "is_group_of" 3 ["value", "count"] spGroup := by
  refine F.fn sc_is_group_of (fun vs H Q E h => ?_) (fun _ _ _ _ _ _ us hl => match us, hl with | [_, _], _ => rfl) (fun cdv A outer s H vs Q E hr gd h => ?_)
  · obtain ⟨x, t, n, rfl, _⟩ := h
    rfl
  obtain ⟨x, n, b, rfl, g, q⟩ := h
  refine ⟨_, (pss_one (ps_ret (pe_and (fcall F_are_functions (hr.mono (by decide)) gd (passes_call (takes_of rfl rfl rfl rfl) fun _ _ _ _ h => h) (pa_cons (pv 0) (pa_cons (pv 1) pa_nil))) (pe_one (fcall F_is_rising (hr.mono (by decide)) gd (passes_call (takes_of rfl rfl rfl rfl) fun _ _ _ _ h => h) (pa_cons (pv 0) pa_nil)))))), ?_⟩
  walk_at "go"
  cases g with
  | no k h1 h2 =>
    refine ⟨x, n, _, rfl, .no k h1 h2, fun H1 s1 => ?_⟩
    walk_at "go"
    exact q _ s1
  | @yes xs sq kn l =>
    refine ⟨x, n, _, rfl, .yes sq kn l, fun H1 s1 => ?_⟩
    walk_at "go"
    unfold grp at q
    refine g_iteb (fun h => ?_) (fun h => ?_)
    · walk_at "go"
      rw [h] at q
      obtain ⟨e, _⟩ := all_ints h
      refine ⟨x, xs.map unI, rfl, ?_, by rw [List.length_map]; exact l, fun H2 s2 => q _ (s1.trans s2)⟩
      rw [← e]
      cases sq with
      | lst e => exact .lst (s1 _ _ e)
      | tup e => exact .tup (s1 _ _ e)
    · rw [h] at q
      exact q _ s1
def spLimits : Sp := fun vs H Q _ => ∃ x b, vs = [x] ∧ Alls H (betw · 1 (10 ^ 18)) x b ∧ ((∃ xs, Sq H x xs ∧ (xs.length = 0 ∨ 12 < xs.length)) → ∀ H', Same H H' → Q (.bl false) H') ∧
  ((∀ xs, Sq H x xs → 1 ≤ xs.length ∧ xs.length ≤ 12) → ∀ H', Same H H' → Q (.bl b) H')
theorem fn_are_limits (F : Df K mg "are_limits" s_are_limits f fd) (B : Bl K mg) (T : Bl K mg) (F_is_list : Fn P w K mg base "is_list" 1 ["value"] spIsList) (F_is_between : Fn P w K mg base "is_between" 2 ["value", "least", "most"] spBetw) :
    Fn P w K mg base "are_limits" 3 ["value"] spLimits := by
  refine F.fn sc_are_limits (fun vs H Q E h => ?_) (fun _ _ _ _ _ _ us hl => match us, hl with | [_], _ => rfl) (fun cdv A outer s H vs Q E hr gd h => ?_)
  · obtain ⟨x, t, rfl, _⟩ := h
    rfl
  obtain ⟨x, b, rfl, ha, q1, q2⟩ := h
  have turn : ∀ {xs : List V} {H1 H' : Hp} {D : Addr} {i : Nat} {y : V}, Kns H1 xs → xs[i]? = some y → Same H1 H' → Turn1 (gName 1) tYes (tCall spBetw [] E0 (tCons (tVar 1) (tCons (tC (.int 1)) (tCons (tC (.int (10 ^ 18))) tNil)))) [1] [some x, none] D y H' ((xs[i]?).map fun z => PyData.bool (betw z 1 (10 ^ 18))) := by
    intro xs H1 H' D i y hk hi hs Y N yes no
    walk_at "go"
    refine ⟨rfl, ?_⟩
    walk_at "go"
    obtain ⟨t, k⟩ := hk y (List.mem_of_getElem? hi)
    exact ⟨y, t, _, _, rfl, k.same hs, yes _ _ _ (by rw [hi]; rfl) (Same.refl _) (.bl _)⟩
  cases ha with
  | @no t k h1 h2 =>
    refine ⟨_, (pss_cons (ps_if (PW.pt (pw_or (pt_not (pt_val (fcall F_is_list (hr.mono (by decide)) gd (passes_call (takes_of rfl rfl rfl rfl) fun _ _ _ _ h => h) (pa_cons (pv 0) pa_nil)))) (pw_or1 (pt_not (pt_chain op_le op_le pe_int (pe_callB (z_len (K := K)) rfl B.len_ (by decide +kernel) (pa_cons (pv 0) pa_nil)) (gint T.MOST_LENGTHS)))))) (pss_one (ps_ret pe_bl)) pss_nil)
      (pss_one (ps_ret (pe_callB (z_all (K := K) rfl) rfl B.all_ (by decide +kernel) (pa_cons (pe_lc (own := [("limit", 1)]) (g := gName 1) rfl sc_are_limits.nd (z_piL (K := K) (pv 0)) (blkOk_by (own := [("limit", 1)]) (N := ["value", "limit"]) (sc := defScope s_are_limits) (by decide +kernel)) (fun _ _ _ _ _ => pg_name (i := 1) sc_are_limits.nd rfl (Or.inl rfl)) (fun _ _ _ _ _ => pts_nil) (fun _ _ _ _ _ => fcall F_is_between (hr.mono (by decide)) gd passL (pa_cons (pv 1) (pa_cons pe_int (pa_cons (gint T.MOST_LIMIT) pa_nil))))) pa_nil))))), ?_⟩
    walk_at "go"
    refine ⟨x, _, rfl, k, fun H1 s1 => ?_⟩
    rw [h1, h2]
    walk_at "go"
    refine q2 (fun xs sq => ?_) _ s1
    exfalso
    cases sq with
    | lst e => cases k <;> first | (cases h1; done) | (rename_i e2; rw [e] at e2; cases e2)
    | tup e => cases k <;> first | (cases h2; done) | (rename_i e2; rw [e] at e2; cases e2)
  | @yes xs sq kn l =>
    have out : (¬ (1 : Int) ≤ (xs.length : Int) ∨ ¬ (xs.length : Int) ≤ 12) → ∀ H', Same H H' → Q (.bl false) H' := fun h => q1 ⟨xs, sq, by omega⟩
    have uniq : ∀ ys, Sq H x ys → ys = xs := fun ys s2 => by
      cases sq with
      | lst e => cases s2 with
        | lst e2 => rw [e] at e2; cases e2; rfl
        | tup e2 => rw [e] at e2; cases e2
      | tup e => cases s2 with
        | lst e2 => rw [e] at e2; cases e2
        | tup e2 => rw [e] at e2; cases e2; rfl
    cases sq with
    | @lst a _ e =>
      refine ⟨_, (pss_cons (ps_if (PW.pt (pw_or (pt_not (pt_val (fcall F_is_list (hr.mono (by decide)) gd (passes_call (takes_of rfl rfl rfl rfl) fun _ _ _ _ h => h) (pa_cons (pv 0) pa_nil)))) (pw_or1 (pt_not (pt_chain op_le op_le pe_int (pe_callB (z_len (K := K)) rfl B.len_ (by decide +kernel) (pa_cons (pv 0) pa_nil)) (gint T.MOST_LENGTHS)))))) (pss_one (ps_ret pe_bl)) pss_nil)
      (pss_one (ps_ret (pe_callB (z_all (K := K) rfl) rfl B.all_ (by decide +kernel) (pa_cons (pe_lc (own := [("limit", 1)]) (g := gName 1) rfl sc_are_limits.nd (z_piL (K := K) (pv 0)) (blkOk_by (own := [("limit", 1)]) (N := ["value", "limit"]) (sc := defScope s_are_limits) (by decide +kernel)) (fun _ _ _ _ _ => pg_name (i := 1) sc_are_limits.nd rfl (Or.inl rfl)) (fun _ _ _ _ _ => pts_nil) (fun _ _ _ _ _ => fcall F_is_between (hr.mono (by decide)) gd passL (pa_cons (pv 1) (pa_cons pe_int (pa_cons (gint T.MOST_LIMIT) pa_nil))))) pa_nil))))), ?_⟩
      walk_at "go"
      refine ⟨_, _, rfl, .lst e, fun H1 s1 => ?_⟩
      refine ⟨true, rfl, ?_⟩
      walk_at "go"
      refine g_len (SqL.of (s1 _ _ e)) ?_
      walk_at "go"
      refine g_ite (fun c1 => ?_) (fun c1 => ?_)
      · walk_at "go"
        refine g_iten (fun c2 => ?_) (fun c2 => ?_)
        · walk_at "go"
          exact out (.inr c2) _ s1
        · walk_at "go"
          refine lcL (xs := xs) (SqL.of (s1 _ _ e)) (by omega) (fun i => (xs[i]?).map fun z => PyData.bool (betw z 1 (10 ^ 18))) (fun D ys H2 hD s2 h2 d2 => ?_) (fun D i y H' hi hs _ _ => turn (kn.same s1) hi hs)
          rw [outs_map] at d2
          walk_at "go"
          refine ⟨D, _, rfl, SqL.of (by rw [h2, d2.bools]), ?_⟩
          rw [all_map]
          exact q2 (fun ys s2 => by rw [uniq ys s2]; omega) _ (s1.trans s2)
      · walk_at "go"
        exact out (.inl c1) _ s1
    | @tup a _ e =>
      refine ⟨_, (pss_cons (ps_if (PW.pt (pw_or (pt_not (pt_val (fcall F_is_list (hr.mono (by decide)) gd (passes_call (takes_of rfl rfl rfl rfl) fun _ _ _ _ h => h) (pa_cons (pv 0) pa_nil)))) (pw_or1 (pt_not (pt_chain op_le op_le pe_int (pe_callB (z_len (K := K)) rfl B.len_ (by decide +kernel) (pa_cons (pv 0) pa_nil)) (gint T.MOST_LENGTHS)))))) (pss_one (ps_ret pe_bl)) pss_nil)
      (pss_one (ps_ret (pe_callB (z_all (K := K) rfl) rfl B.all_ (by decide +kernel) (pa_cons (pe_lc (own := [("limit", 1)]) (g := gName 1) rfl sc_are_limits.nd (z_piT (K := K) (pv 0)) (blkOk_by (own := [("limit", 1)]) (N := ["value", "limit"]) (sc := defScope s_are_limits) (by decide +kernel)) (fun _ _ _ _ _ => pg_name (i := 1) sc_are_limits.nd rfl (Or.inl rfl)) (fun _ _ _ _ _ => pts_nil) (fun _ _ _ _ _ => fcall F_is_between (hr.mono (by decide)) gd passL (pa_cons (pv 1) (pa_cons pe_int (pa_cons (gint T.MOST_LIMIT) pa_nil))))) pa_nil))))), ?_⟩
      walk_at "go"
      refine ⟨_, _, rfl, .tup e, fun H1 s1 => ?_⟩
      refine ⟨true, rfl, ?_⟩
      walk_at "go"
      refine g_lenT (SqT.of (s1 _ _ e)) ?_
      walk_at "go"
      refine g_ite (fun c1 => ?_) (fun c1 => ?_)
      · walk_at "go"
        refine g_iten (fun c2 => ?_) (fun c2 => ?_)
        · walk_at "go"
          exact out (.inr c2) _ s1
        · walk_at "go"
          refine lcT (xs := xs) (SqT.of (s1 _ _ e)) (by omega) (fun i => (xs[i]?).map fun z => PyData.bool (betw z 1 (10 ^ 18))) (fun D ys H2 hD s2 h2 d2 => ?_) (fun D i y H' hi hs _ _ => turn (kn.same s1) hi hs)
          rw [outs_map] at d2
          walk_at "go"
          refine ⟨D, _, rfl, SqL.of (by rw [h2, d2.bools]), ?_⟩
          rw [all_map]
          exact q2 (fun ys s2 => by rw [uniq ys s2]; omega) _ (s1.trans s2)
      · walk_at "go"
        exact out (.inl c1) _ s1
end
end Z
set_option Elab.async false
set_option linter.all false
set_option maxRecDepth 100000
set_option maxHeartbeats 2000000
namespace Z
open PySem PySem.Spec PyProof.Rows L2
local macro_rules | `(tactic| walk_at "hp") => `(tactic| first | assumption | exact upd_same | exact (upd_ne (by assumption)).trans (by assumption))
local macro_rules | `(tactic| walk_at "side") => `(tactic| first | assumption | omega | (exact ⟨by omega, by omega⟩) | (exact Or.inl ⟨by omega, by omega⟩) | (exact Or.inr ⟨by omega, by omega⟩) | (exact ⟨by omega, by omega, by omega⟩))
local macro_rules | `(tactic| walk_at "st") => `(tactic| first
  | (with_reducible first
  | refine g_seq ?_ | refine g_asg ?_ | refine g_op ?_ | refine g_var rfl ?_ | refine g_c ?_ | refine g_I0 ?_ | refine g_cons ?_ | refine g_nil ?_ | refine g_name rfl ?_ | refine g_ret ?_ | refine g_ifs ?_ | refine g_test ?_ | refine g_bl ?_
  | refine g_cb ?_ | refine g_call ?_ | refine g_drop ?_ | refine g_next ?_ | refine g_and ?_ | refine g_or ?_ | refine g_not ?_ | refine g_if ?_ | refine g_notV ?_ | refine g_andV ?_ | refine g_orV ?_ | refine g_chain ?_ | refine g_un ?_ | refine g_U ?_ | refine g_lst ?_ | refine g_tup ?_ | refine g_sub ?_ | refine g_B ?_ | refine g_int1 ?_ | refine g_trub ?_
  | refine g_eq rfl ?_ | refine g_ne rfl ?_ | refine g_tt ?_ | refine g_ff ?_ | refine g_nt ?_ | refine g_nf ?_ | refine g_retN ?_ | refine g_rs ?_ | refine g_lc ?_ | refine g_for ?_ | refine g_iL ?_ | refine g_iT ?_ | refine g_iR1 ?_ | refine g_iR2 ?_ | refine g_iR3 ?_ | refine g_yes ?_ | refine g_truth ?_ | refine g_gcons ?_ | refine g_gnil ?_ | refine g_par ?_ | refine g_par3 ?_ | refine g_ex2 ?_ | refine g_ex3 ?_ | refine g_bm ?_ | refine g_bm0 ?_ | refine g_aug rfl ?_ | refine g_ipI ?_ | refine g_iK ?_ | refine g_dc ?_ | refine g_dget ?_ | refine g_int ?_ | refine g_intB ?_ | refine g_abs ?_ | refine g_max2 ?_ | refine g_min2 ?_ | refine g_sl ?_ | refine g_nopart ?_ | refine g_part ?_ | refine g_dput ?_ | refine g_lstrg ?_ | refine g_rg1 ?_ | refine g_exi ?_)
  | ((with_reducible refine k_slL ?_); refine g_slL (SqL.of (by walk_at "hp")) ?_) | ((with_reducible refine k_listOf ?_); refine g_listOf (.inl (SqL.of (by walk_at "hp"))) ?_) | ((with_reducible refine k_rep ?_); refine g_rep (by walk_at "hp") (by omega) ?_) | ((with_reducible refine k_len ?_); refine g_len (SqL.of (by walk_at "hp")) ?_) | ((with_reducible refine k_len ?_); refine g_len (by assumption) ?_) | ((with_reducible refine k_tyL ?_); refine g_tyL (by walk_at "hp") ?_) | ((with_reducible refine k_gT ?_); refine g_gT (SqT.of (by walk_at "hp")) rfl ?_) | ((with_reducible refine k_gL ?_); refine g_gL (SqL.of (by walk_at "hp")) rfl ?_) | ((with_reducible refine k_ixL ?_); refine g_ixL (SqL.of (by walk_at "hp")) rfl ?_) | ((with_reducible refine k_ixL ?_); refine g_rd (by walk_at "hp") (by walk_at "side") ?_) | ((with_reducible refine k_ixL ?_); refine g_rdI (by walk_at "hp") (by omega) (by omega) ?_) | ((with_reducible refine k_setL ?_); refine g_setL (by walk_at "hp") rfl ?_) | ((with_reducible refine k_new ?_); refine g_new rfl ?_) | ((with_reducible refine k_I ?_); refine g_I (by walk_at "side") ?_))
local macro_rules | `(tactic| walk_at "go") => `(tactic| repeat walk_at "st")

/-! ### the promises of counts -/
def spStaying (K : PySem.W.Frag) : Sp := fun vs H Q E => ∃ c i s tc ti ts, vs = [c, i, s] ∧ Kn H c tc ∧ Kn H i ti ∧ Kn H s ts ∧ (betw c 1 12 = false → Err K "InvalidCount" c H E) ∧ (betw c 1 12 = true → betw i 0 400 = false → Err K "InvalidInlinedCount" i H E) ∧
  (betw c 1 12 = true → betw i 0 400 = true → betw s 1 (unI c) = false → Err K "InvalidStaying" s H E) ∧ (betw c 1 12 = true → betw i 0 400 = true → betw s 1 (unI c) = true → ∀ H', Same H H' → Q (.int (cs (unI c) (unI i) (unI s))) H')
def spWheels (K : PySem.W.Frag) : Sp := fun vs H Q E => ∃ c i tc ti, vs = [c, i] ∧ Kn H c tc ∧ Kn H i ti ∧ (betw c 1 12 = false → Err K "InvalidCount" c H E) ∧ (betw c 1 12 = true → betw i 0 400 = false → Err K "InvalidInlinedCount" i H E) ∧
  (betw c 1 12 = true → betw i 0 400 = true → ∀ H', Same H H' → Q (.int (cw (unI c) (unI i))) H')
def spStretch : Sp := fun vs H Q _ => ∃ c x f bare, vs = [.int c, x, .int f] ∧ Sq H x (bare.map V.int) ∧ 0 < c ∧ c ≤ 1000 ∧ (∃ g, 0 ≤ g ∧ g < c ∧ g ∉ bare) ∧ Q (.int (stF c bare f c.toNat 1)) H
theorem inV_ints {z : Int} {ns : List Int} : inV (.int z) (ns.map V.int) = decide (z ∈ ns) := by
  unfold inV
  rw [List.any_map]
  show ns.any (fun y => y == z) = _
  induction ns with
  | nil => rfl
  | cons a r ih =>
    rw [List.any_cons, ih]
    by_cases h : a = z
    · rw [beq_iff_eq.mpr h, Bool.true_or]
      exact (decide_eq_true (List.mem_cons.mpr (.inl h.symm))).symm
    · rw [beq_eq_false_iff_ne.mpr h, Bool.false_or]
      by_cases h2 : z ∈ r
      · rw [decide_eq_true h2, decide_eq_true (List.mem_cons_of_mem a h2)]
      · rw [decide_eq_false h2, decide_eq_false fun q => (List.mem_cons.mp q).elim (fun q => h q.symm) h2]
theorem flat_ints {ns : List Int} : (ns.map V.int).all flatV = true := by
  rw [List.all_map]
  exact List.all_eq_true.mpr fun _ _ => rfl
theorem Err.back {K : PySem.W.Frag} {x : Str} {v : V} {H H1 : Hp} {E : XK} (e : Err K x v H E) (s : Same H H1) : Err K x v H1 E := fun d G h1 h2 h3 => e d G (s.free h1) (s.trans h2) h3
theorem Sq.seq {K : PySem.W.Frag} {H : Hp} {x : V} {xs : List V} (s : Sq H x xs) : ∃ a, x = .ref a ∧ (SqL K H a xs ∨ SqT K H a xs) := by
  cases s with
  | @lst a _ e => exact ⟨a, rfl, .inl (SqL.of e)⟩
  | @tup a _ e => exact ⟨a, rfl, .inr (SqT.of e)⟩
theorem comb_small : ∀ c : Fin 13, ∀ s : Fin 13, -(2 ^ 64) < PySem.W.mcComb (c.val : Int) (s.val : Int) ∧ PySem.W.mcComb (c.val : Int) (s.val : Int) < 2 ^ 64 := by decide +kernel
theorem comb_sm {c s : Int} (h1 : 0 ≤ c) (h2 : c ≤ 12) (h3 : 0 ≤ s) (h4 : s ≤ 12) : -(2 ^ 64) < PySem.W.mcComb c s ∧ PySem.W.mcComb c s < 2 ^ 64 := by
  have := comb_small ⟨c.toNat, by omega⟩ ⟨s.toNat, by omega⟩
  simp only [Int.toNat_of_nonneg h1, Int.toNat_of_nonneg h3] at this
  exact this
section
variable {P : Program} {w : World} {K : PySem.W.Frag} {mg : Str → Option Value} {base : Heap} {f : Addr} {fd : FuncData}
theorem sc_stretch : FnScope ["count", "bare", "function", "found"] ["count", "bare", "function"] (defScope s_stretch) := ⟨rfl, rfl, rfl, by decide +kernel, rfl, by decide +kernel, by decide +kernel⟩
theorem sc_count_staying : FnScope ["count", "inlined", "staying", "found", "others", "left"] ["count", "inlined", "staying"] (defScope s_count_staying) := ⟨rfl, rfl, rfl, by decide +kernel, rfl, by decide +kernel, by decide +kernel⟩
theorem sc_count_wheels : FnScope ["count", "inlined", "staying"] ["count", "inlined"] (defScope s_count_wheels) := ⟨rfl, rfl, rfl, by decide +kernel, rfl, by decide +kernel, by decide +kernel⟩
theorem fn_stretch (F : Df K mg "stretch" s_stretch f fd) : Fn P w K mg base "stretch" 1 ["count", "bare", "function"] spStretch := by
  refine F.fn sc_stretch (fun vs H Q E h => ?_) (fun _ _ _ _ _ _ us hl => match us, hl with | [_, _, _], _ => rfl) (fun cdv A outer s H vs Q E hr gd h => ?_)
  · obtain ⟨c, x, f, bare, rfl, _⟩ := h
    rfl
  obtain ⟨c, x, f, bare, rfl, sq, c0, c1, fr, q⟩ := h
  obtain ⟨a, rfl, sq2⟩ := sq.seq (K := K)
  refine ⟨_, (pss_cons (ps_set (i := 3) sc_stretch.nd rfl (Or.inl rfl) pe_int)
      (pss_cons (ps_while (passes_of rfl) (pt_cmpR (z_in (K := K)) (pe_op op_mod (pe_op op_sub (pv 2) (pv 3)) (pv 0)) (pv 1) (by rfl)) (pss_one (ps_aug (i := 3) sc_stretch.nd rfl (Or.inl rfl) pe_int ip_add)))
      (pss_one (ps_ret (pv 3))))), ?_⟩
  walk_at "go"
  refine whileW (fun m τ G => ∃ k : Int, m ≤ 1000 ∧ τ = [some (.int c), some (.ref a), some (.int f), some (.int k)] ∧ G = H ∧ stF c bare f m k = stF c bare f c.toNat 1 ∧ ∃ j : Nat, j < m ∧ (f - (k + (j : Int))) % c ∉ bare) c.toNat ?_ ?_
  · obtain ⟨g, g0, g1, g2⟩ := fr
    obtain ⟨j, j1, j2⟩ := free_in_row (f := f) c0 ⟨g0, g1⟩ g2
    exact ⟨1, by omega, rfl, rfl, rfl, j, by omega, j2⟩
  · rintro m τ G ⟨k, lm, rfl, rfl, e, j, j1, j2⟩
    walk_at "go"
    refine g_in sq2 rfl flat_ints ?_
    rw [inV_ints]
    walk_at "go"
    cases m with
    | zero => omega
    | succ m =>
      refine g_ite (fun h => ?_) (fun h => ?_)
      · refine ⟨_, fun _ _ n => n, ?_⟩
        walk_at "go"
        refine ⟨m, by omega, k + 1, by omega, rfl, rfl, by rw [← e, stF_step h], ?_⟩
        cases j with
        | zero =>
          rw [show k + ((0 : Nat) : Int) = k by omega] at j2
          exact absurd h j2
        | succ j => exact ⟨j, by omega, by rw [show k + 1 + (j : Int) = k + ((j + 1 : Nat) : Int) by omega]; exact j2⟩
      · walk_at "go"
        rw [stF_stop h] at e
        rw [e]
        exact q
theorem fn_count_staying (F : Df K mg "count_staying" s_count_staying f fd) (B : Bl K mg) (T : Bl K mg) (F_check_count : Fn P w K mg base "check_count" 3 ["count"] (spCheck K "InvalidCount" 1 12))
    (F_check_inlined : Fn P w K mg base "check_inlined" 3 ["inlined"] (spCheck K "InvalidInlinedCount" 0 400)) (F_is_between : Fn P w K mg base "is_between" 2 ["value", "least", "most"] spBetw) (F_ways : Fn P w K mg base "ways" 1 ["many", "kinds"] spWays) (X_InvalidStaying : Exn P w K mg base "InvalidStaying") :
    Fn P w K mg base "count_staying" 4 ["count", "inlined", "staying"] (spStaying K) := by
  refine F.fn sc_count_staying (fun vs H Q E h => ?_) (fun _ _ _ _ _ _ us hl => match us, hl with | [_, _, _], _ => rfl) (fun cdv A outer s H vs Q E hr gd h => ?_)
  · obtain ⟨c, i, s, _, _, _, rfl, _⟩ := h
    rfl
  obtain ⟨c, i, s, tc, ti, ts, rfl, kc, ki, ks, q1, q2, q3, q4⟩ := h
  refine ⟨_, (pss_cons (ps_expr (fcall F_check_count (hr.mono (by decide)) gd (passes_call (takes_of rfl rfl rfl rfl) fun _ _ _ _ h => h) (pa_cons (pv 0) pa_nil)))
      (pss_cons (ps_expr (fcall F_check_inlined (hr.mono (by decide)) gd (passes_call (takes_of rfl rfl rfl rfl) fun _ _ _ _ h => h) (pa_cons (pv 1) pa_nil)))
      (pss_cons (ps_if (pt_not (pt_val (fcall F_is_between (hr.mono (by decide)) gd (passes_call (takes_of rfl rfl rfl rfl) fun _ _ _ _ h => h) (pa_cons (pv 2) (pa_cons pe_int (pa_cons (pv 0) pa_nil)))))) (pss_one (ps_rs X_InvalidStaying (hr.mono (by decide)) (takes_of rfl rfl rfl rfl) (pv 2))) pss_nil)
      (pss_cons (ps_par (i := 3) (j := 4) rfl sc_count_staying.nd rfl rfl (by decide) rfl rfl (pa_cons pe_int (pa_cons (pe_op op_sub (pv 0) (pv 2)) pa_nil)) (by rfl))
      (pss_cons (ps_for (passes_of rfl) rfl (pi_range3 rfl B.range_ (pa_cons (pe_op op_sub (pv 1) (pv 4)) (pa_cons (pe_un un_neg pe_int) (pa_cons (pe_un un_neg (pv 0)) pa_nil)))) (pg_name (i := 5) sc_count_staying.nd rfl (Or.inl rfl)) (pss_one (ps_aug (i := 3) sc_count_staying.nd rfl (Or.inl rfl) (pe_op op_sub (fcall F_ways (hr.mono (by decide)) gd (passes_call (takes_of rfl rfl rfl rfl) fun _ _ _ _ h => h) (pa_cons (pv 5) (pa_cons (pv 4) pa_nil))) (fcall F_ways (hr.mono (by decide)) gd (passes_call (takes_of rfl rfl rfl rfl) fun _ _ _ _ h => h) (pa_cons (pe_op op_sub (pv 5) (pv 2)) (pa_cons (pv 4) pa_nil)))) ip_add)))
      (pss_one (ps_ret (pe_op op_mul (pe_callBfun cr_comb rfl T.comb (pa_cons (pv 0) (pa_cons (pv 2) pa_nil))) (pv 3))))))))), ?_⟩
  walk_at "go"
  refine ⟨c, tc, rfl, kc, fun hc => ?_, q1⟩
  walk_at "go"
  refine ⟨i, ti, rfl, ki, fun hi => ?_, fun e => q2 hc e⟩
  obtain ⟨ec, c1, c2⟩ := betw_int hc
  obtain ⟨ei, i1, i2⟩ := betw_int hi
  rw [ec] at q3 q4 ⊢
  rw [ei] at q4 ⊢
  generalize unI c = c' at *
  generalize unI i = i' at *
  walk_at "go"
  refine ⟨s, ts, 1, c', rfl, ks, ?_⟩
  walk_at "go"
  cases hs : betw s 1 c' with
  | false =>
    walk_at "go"
    refine rs_ok ?_
    exact q3 (ec ▸ hc) hi hs
  | true =>
    have q5 := q4 (ec ▸ hc) (ei ▸ hi) hs
    obtain ⟨es, s1, s2⟩ := betw_int hs
    rw [es]
    generalize unI s = s' at *
    walk_at "go"
    have rg := rg_down (lo := i' - (c' - s')) (c := c') (by omega) (by omega) (by omega) (by omega)
    refine forR3 rg (fun n τ G => ∃ z, τ = [some (.int c'), some (.int i'), some (.int s'), some (.int (csum (i' - (c' - s')) c' s' (c' - s') n)), some (.int (c' - s')), z] ∧ G = H) ⟨none, rfl, rfl⟩ ?_ ?_
    · rintro n τ G hn ⟨z, rfl, rfl⟩
      have hl : (n : Int) * (-c') ≤ 0 := Int.mul_nonpos_of_nonneg_of_nonpos (by omega) (by omega)
      walk_at "go"
      refine ⟨_, _, rfl, by omega, by omega, ?_⟩
      walk_at "go"
      refine ⟨_, _, rfl, by omega, by omega, ?_⟩
      walk_at "go"
      exact ⟨_, rfl, rfl⟩
    · rintro τ G ⟨z, rfl, rfl⟩
      walk_at "go"
      refine ⟨_, _, rfl, by omega, by omega, by omega, by omega, ?_⟩
      walk_at "go"
      refine g_I (show CMul _ _ from Or.inl (comb_sm (c := c') (s := s') (by omega) (by omega) (by omega) (by omega))) ?_
      exact q5 _ (Same.refl _)
theorem outs_cw {c i : Int} (h : 0 ≤ c) : outs ((c + 1) - 1).toNat (fun k => some (PyData.int (cs c i (1 + (k : Int))))) = (((List.range c.toNat).map fun (k : Nat) => cs c i (1 + (k : Int)))).map PyData.int := by
  rw [outs_all, List.map_map, show c + 1 - 1 = c by omega]
  rfl
theorem fn_count_wheels (F : Df K mg "count_wheels" s_count_wheels f fd) (B : Bl K mg) (F_check_count : Fn P w K mg base "check_count" 3 ["count"] (spCheck K "InvalidCount" 1 12))
    (F_check_inlined : Fn P w K mg base "check_inlined" 3 ["inlined"] (spCheck K "InvalidInlinedCount" 0 400)) (F_count_staying : Fn P w K mg base "count_staying" 4 ["count", "inlined", "staying"] (spStaying K)) :
    Fn P w K mg base "count_wheels" 5 ["count", "inlined"] (spWheels K) := by
  refine F.fn sc_count_wheels (fun vs H Q E h => ?_) (fun _ _ _ _ _ _ us hl => match us, hl with | [_, _], _ => rfl) (fun cdv A outer s H vs Q E hr gd h => ?_)
  · obtain ⟨c, i, _, _, rfl, _⟩ := h
    rfl
  obtain ⟨c, i, tc, ti, rfl, kc, ki, q1, q2, q4⟩ := h
  refine ⟨_, (pss_cons (ps_expr (fcall F_check_count (hr.mono (by decide)) gd (passes_call (takes_of rfl rfl rfl rfl) fun _ _ _ _ h => h) (pa_cons (pv 0) pa_nil)))
      (pss_cons (ps_expr (fcall F_check_inlined (hr.mono (by decide)) gd (passes_call (takes_of rfl rfl rfl rfl) fun _ _ _ _ h => h) (pa_cons (pv 1) pa_nil)))
      (pss_one (ps_ret (pe_callB (z_sum (K := K) rfl) rfl B.sum_ (by decide +kernel) (pa_cons (pe_lc (own := [("staying", 2)]) (g := gName 2) rfl sc_count_wheels.nd (pi_range2 rfl B.range_ (pa_cons pe_int (pa_cons (pe_op op_add (pv 0) pe_int) pa_nil))) (blkOk_by (own := [("staying", 2)]) (N := ["count", "inlined", "staying"]) (sc := defScope s_count_wheels) (by decide +kernel)) (fun _ _ _ _ _ => pg_name (i := 2) sc_count_wheels.nd rfl (Or.inl rfl)) (fun _ _ _ _ _ => pts_nil) (fun _ _ _ _ _ => fcall F_count_staying (hr.mono (by decide)) gd passL (pa_cons (pv 0) (pa_cons (pv 1) (pa_cons (pv 2) pa_nil))))) pa_nil)))))), ?_⟩
  walk_at "go"
  refine ⟨c, tc, rfl, kc, fun hc => ?_, q1⟩
  walk_at "go"
  refine ⟨i, ti, rfl, ki, fun hi => ?_, fun e => q2 hc e⟩
  have q5 := q4 hc hi
  obtain ⟨ec, c1, c2⟩ := betw_int hc
  obtain ⟨ei, i1, i2⟩ := betw_int hi
  rw [ec, ei]
  generalize unI c = c' at *
  generalize unI i = i' at *
  walk_at "go"
  refine lcR2 (by omega) (by omega) (by omega) (by omega) (by omega) (fun k => some (PyData.int (cs c' i' (1 + (k : Int))))) (fun D ys H2 hD s2 h2 d2 => ?_) (fun D k H' hk hs _ _ Y N yes no => ?_)
  · rw [outs_cw (by omega)] at d2
    walk_at "go"
    exact ⟨D, _, rfl, SqL.of (by rw [h2, d2.ints]), q5 _ s2⟩
  · walk_at "go"
    refine ⟨rfl, ?_⟩
    walk_at "go"
    have b1 : betw (.int c') 1 12 = true := decide_eq_true ⟨c1, c2⟩
    have b2 : betw (.int i') 0 400 = true := decide_eq_true ⟨i1, i2⟩
    have b3 : betw (.int (1 + (k : Int))) 1 c' = true := decide_eq_true ⟨by omega, by omega⟩
    refine ⟨_, _, _, _, _, _, rfl, .int _, .int _, .int _, fun e => absurd (b1.symm.trans e) (by decide), fun _ e => absurd (b2.symm.trans e) (by decide), fun _ _ e => absurd (b3.symm.trans e) (by decide), fun _ _ _ H4 s4 => ?_⟩
    exact yes _ _ _ rfl s4 (.int _)
end
end Z
set_option Elab.async false
set_option linter.all false
set_option maxRecDepth 100000
set_option maxHeartbeats 4000000
namespace Z
open PySem PySem.Spec PyProof.Rows L2
local macro_rules | `(tactic| walk_at "hp") => `(tactic| first | assumption | exact upd_same | exact (upd_ne (by assumption)).trans (by assumption))
local macro_rules | `(tactic| walk_at "side") => `(tactic| first | assumption | omega | (exact ⟨by omega, by omega⟩) | (exact Or.inl ⟨by omega, by omega⟩) | (exact Or.inr ⟨by omega, by omega⟩) | (exact ⟨by omega, by omega, by omega⟩))
local macro_rules | `(tactic| walk_at "st") => `(tactic| first
  | (with_reducible first
  | refine g_seq ?_ | refine g_asg ?_ | refine g_op ?_ | refine g_var rfl ?_ | refine g_c ?_ | refine g_I0 ?_ | refine g_cons ?_ | refine g_nil ?_ | refine g_name rfl ?_ | refine g_ret ?_ | refine g_ifs ?_ | refine g_test ?_ | refine g_bl ?_
  | refine g_cb ?_ | refine g_call ?_ | refine g_drop ?_ | refine g_next ?_ | refine g_and ?_ | refine g_or ?_ | refine g_not ?_ | refine g_if ?_ | refine g_notV ?_ | refine g_andV ?_ | refine g_orV ?_ | refine g_chain ?_ | refine g_un ?_ | refine g_U ?_ | refine g_lst ?_ | refine g_tup ?_ | refine g_sub ?_ | refine g_B ?_ | refine g_int1 ?_ | refine g_trub ?_
  | refine g_eq rfl ?_ | refine g_ne rfl ?_ | refine g_tt ?_ | refine g_ff ?_ | refine g_nt ?_ | refine g_nf ?_ | refine g_retN ?_ | refine g_rs ?_ | refine g_lc ?_ | refine g_for ?_ | refine g_iL ?_ | refine g_iT ?_ | refine g_iR1 ?_ | refine g_iR2 ?_ | refine g_iR3 ?_ | refine g_yes ?_ | refine g_truth ?_ | refine g_gcons ?_ | refine g_gnil ?_ | refine g_par ?_ | refine g_par3 ?_ | refine g_ex2 ?_ | refine g_ex3 ?_ | refine g_bm ?_ | refine g_bm0 ?_ | refine g_aug rfl ?_ | refine g_ipI ?_ | refine g_iK ?_ | refine g_dc ?_ | refine g_dget ?_ | refine g_int ?_ | refine g_intB ?_ | refine g_abs ?_ | refine g_max2 ?_ | refine g_min2 ?_ | refine g_sl ?_ | refine g_nopart ?_ | refine g_part ?_ | refine g_dput ?_ | refine g_lstrg ?_ | refine g_rg1 ?_ | refine g_exi ?_)
  | ((with_reducible refine k_slL ?_); refine g_slL (SqL.of (by walk_at "hp")) ?_) | ((with_reducible refine k_listOf ?_); refine g_listOf (.inl (SqL.of (by walk_at "hp"))) ?_) | ((with_reducible refine k_rep ?_); refine g_rep (by walk_at "hp") (by omega) ?_) | ((with_reducible refine k_len ?_); refine g_len (SqL.of (by walk_at "hp")) ?_) | ((with_reducible refine k_len ?_); refine g_len (by assumption) ?_) | ((with_reducible refine k_tyL ?_); refine g_tyL (by walk_at "hp") ?_) | ((with_reducible refine k_gT ?_); refine g_gT (SqT.of (by walk_at "hp")) rfl ?_) | ((with_reducible refine k_gL ?_); refine g_gL (SqL.of (by walk_at "hp")) rfl ?_) | ((with_reducible refine k_ixL ?_); refine g_ixL (SqL.of (by walk_at "hp")) rfl ?_) | ((with_reducible refine k_ixL ?_); refine g_rd (by walk_at "hp") (by walk_at "side") ?_) | ((with_reducible refine k_ixL ?_); refine g_rdI (by walk_at "hp") (by omega) (by omega) ?_) | ((with_reducible refine k_setL ?_); refine g_setL (by walk_at "hp") rfl ?_) | ((with_reducible refine k_new ?_); refine g_new rfl ?_) | ((with_reducible refine k_I ?_); refine g_I (by walk_at "side") ?_))
local macro_rules | `(tactic| walk_at "go") => `(tactic| repeat walk_at "st")

def LimGood (H : Hp) (x : V) (ls : List Int) : Prop := Sq H x (ls.map V.int) ∧ 1 ≤ ls.length ∧ ls.length ≤ 12 ∧ ∀ l ∈ ls, 1 ≤ l ∧ l ≤ 10 ^ 18
def LimBad (H : Hp) (x : V) : Prop := ∃ b, Alls H (betw · 1 (10 ^ 18)) x b ∧ (b = false ∨ ∃ xs, Sq H x xs ∧ (xs.length = 0 ∨ 12 < xs.length))
def BareGood (H : Hp) (n : Nat) (y : V) (bs : List Int) : Prop := Sq H y (bs.map V.int) ∧ bs.length ≤ 1000 ∧ (∀ b ∈ bs, 0 ≤ b ∧ b < n) ∧ rising bs = true ∧ bs.length ≠ n ∧ ∃ g : Int, 0 ≤ g ∧ g < n ∧ g ∉ bs
def BareBad (H : Hp) (n : Nat) (y : V) : Prop := Grp H n y false ∨ ∃ bs : List Int, Sq H y (bs.map V.int) ∧ bs.length ≤ 1000 ∧ grp n (bs.map V.int) = true ∧ bs.length = n
def spWithin (K : PySem.W.Frag) : Sp := fun vs H Q E => ∃ x y, vs = [x, y] ∧ ((LimBad H x ∧ Err K "InvalidLimits" x H E) ∨ (∃ ls, LimGood H x ls ∧ BareBad H ls.length y ∧ Err K "InvalidGroup" y H E) ∨
  ∃ ls bs, LimGood H x ls ∧ BareGood H ls.length y bs ∧ ∀ H', Same H H' → Q (.int (within ls bs)) H')
/-! ### bounds -/
theorem stF_le (c : Int) (bare : List Int) (f : Int) : ∀ (n : Nat) (k : Int), k ≤ stF c bare f n k ∧ stF c bare f n k ≤ k + n
  | 0, k => ⟨Int.le_refl _, by show k ≤ k + 0; omega⟩
  | n + 1, k => by
    by_cases h : (f - k) % c ∈ bare
    · rw [stF_step h]
      have := stF_le c bare f n (k + 1)
      omega
    · rw [stF_stop h]
      omega
theorem st_le {n : Nat} {bare : List Int} {f : Int} : 1 ≤ st n bare f ∧ st n bare f ≤ n + 1 := by
  have := stF_le n bare f n 1
  unfold st
  omega
theorem getD_mem {ls : List Int} {i : Nat} (h : i < ls.length) : ls.getD i 0 ∈ ls := by
  rw [List.getD_eq_getElem?_getD, List.getElem?_eq_getElem h]
  exact List.getElem_mem h
def stepW (ls bs : List Int) (f : Int) (p o : Int) : Int := if o ≠ f then p * (ls.getD o.toNat 0 * (ls.length : Int) + st ls.length bs o) else p
theorem prodW_snoc {ls bs : List Int} {f : Int} {os : List Int} {o : Int} : prodW ls bs f (os ++ [o]) = stepW ls bs f (prodW ls bs f os) o := by
  unfold prodW
  rw [List.foldl_append]
  rfl
theorem sumW_snoc {ls bs : List Int} {fs : List Int} {f : Int} : sumW ls bs (fs ++ [f]) = sumW ls bs fs + prodW ls bs f (freeOf ls.length bs) := by
  unfold sumW
  rw [List.foldl_append]
  rfl
theorem take_snoc {α : Type} {l : List α} {i : Nat} {x : α} (h : l[i]? = some x) : l.take (i + 1) = l.take i ++ [x] := by
  rw [List.take_succ, h]
  rfl
theorem lim_bound {ls bs : List Int} (h : ∀ l ∈ ls, 1 ≤ l ∧ l ≤ 10 ^ 18) (h2 : ls.length ≤ 12) {o : Int} (ho : 0 ≤ o ∧ o < ls.length) :
    (ls.getD o.toNat 0).natAbs < 2 ^ 60 ∧ (ls.getD o.toNat 0 * (ls.length : Int) + st ls.length bs o).natAbs < 2 ^ 70 := by
  have := h _ (getD_mem (ls := ls) (i := o.toNat) (by omega))
  have q := st_le (n := ls.length) (bare := bs) (f := o)
  generalize ls.getD o.toNat 0 = l at *
  have e : l * (ls.length : Int) ≤ l * 12 := Int.mul_le_mul_of_nonneg_left (by omega) (by omega)
  have e0 : 0 ≤ l * (ls.length : Int) := Int.mul_nonneg (by omega) (by omega)
  omega
theorem prod_bound {ls bs : List Int} {f : Int} (h : ∀ l ∈ ls, 1 ≤ l ∧ l ≤ 10 ^ 18) (h2 : ls.length ≤ 12) : ∀ {os : List Int}, (∀ o ∈ os, 0 ≤ o ∧ o < ls.length) → (prodW ls bs f os).natAbs < 2 ^ (10 + 70 * os.length) := by
  have key : ∀ (os : List Int) (p : Int) (a : Nat), p.natAbs < 2 ^ a → (∀ o ∈ os, 0 ≤ o ∧ o < ls.length) → (os.foldl (stepW ls bs f) p).natAbs < 2 ^ (a + 70 * os.length) := by
    intro os
    induction os with
    | nil => intro p a hp _; simpa using hp
    | cons o r ih =>
      intro p a hp ho
      have h1 := (lim_bound (bs := bs) h h2 (ho o (by simp))).2
      have e : (stepW ls bs f p o).natAbs < 2 ^ (a + 70) := by
        unfold stepW
        split
        · exact wide_lt hp h1
        · exact Nat.lt_of_lt_of_le hp (Nat.pow_le_pow_right (by decide) (by omega))
      have := ih _ (a + 70) e fun o ho' => ho o (by simp [ho'])
      rw [show a + 70 * (o :: r).length = a + 70 + 70 * r.length by simp; omega]
      exact this
  intro os ho
  refine key os _ 10 ?_ ho
  have q := st_le (n := ls.length) (bare := bs) (f := f)
  have e : st ls.length bs f ^ 2 = st ls.length bs f * st ls.length bs f := by rw [Int.pow_succ, Int.pow_succ, Int.pow_zero, Int.one_mul]
  rw [e]
  have e2 : st ls.length bs f * st ls.length bs f ≤ 13 * 13 := Int.mul_le_mul (by omega) (by omega) (by omega) (by omega)
  have e3 : 0 ≤ st ls.length bs f * st ls.length bs f := Int.mul_nonneg (by omega) (by omega)
  omega
theorem free_mem {n : Nat} {bs : List Int} {i : Int} (h : i ∈ freeOf n bs) : 0 ≤ i ∧ i < n ∧ i ∉ bs := by
  obtain ⟨h1, h2⟩ := List.mem_filter.mp h
  obtain ⟨j, hj, rfl⟩ := List.mem_map.mp h1
  have := List.mem_range.mp hj
  exact ⟨by omega, by omega, by simpa using h2⟩
theorem kvI_free {n : Nat} {bs : List Int} {f : Int → Int} : kvI n (fun i => decide (i ∉ bs)) f = (freeOf n bs).map fun i => (Sum.inl i, .int (f i)) := rfl
theorem kvI_get {n : Nat} {bs : List Int} {f : Int → Int} {i : Int} (h : i ∈ freeOf n bs) : valV (kvI n (fun i => decide (i ∉ bs)) f) (Sum.inl i) = some (.int (f i)) :=
  kvI_val ⟨(Sum.inl i, .int (f i)), by rw [kvI_free]; exact List.mem_map.mpr ⟨i, h, rfl⟩, rfl⟩
section
variable {P : Program} {w : World} {K : PySem.W.Frag} {mg : Str → Option Value} {base : Heap} {f : Addr} {fd : FuncData}
theorem sc_count_within : FnScope ["limits", "bare", "count", "sizes", "found", "function", "product", "other", "one"] ["limits", "bare"] (defScope s_count_within) := ⟨rfl, rfl, rfl, by decide +kernel, rfl, by decide +kernel, by decide +kernel⟩
theorem fn_count_within (F : Df K mg "count_within" s_count_within f fd) (B : Bl K mg) (F_are_limits : Fn P w K mg base "are_limits" 3 ["value"] spLimits) (F_is_group_of : Fn P w K mg base "is_group_of" 3 ["value", "count"] spGroup)
    (F_stretch : Fn P w K mg base "stretch" 1 ["count", "bare", "function"] spStretch) (X_InvalidLimits : Exn P w K mg base "InvalidLimits") (X_InvalidGroup : Exn P w K mg base "InvalidGroup") :
    Fn P w K mg base "count_within" 4 ["limits", "bare"] (spWithin K) := by
  refine F.fn sc_count_within (fun vs H Q E h => ?_) (fun _ _ _ _ _ _ us hl => match us, hl with | [_, _], _ => rfl) (fun cdv A outer s H vs Q E hr gd h => ?_)
  · obtain ⟨x, y, rfl, _⟩ := h
    rfl
  obtain ⟨x, y, rfl, h⟩ := h
  rcases h with ⟨bad, q⟩ | h
  · -- limits that are none
    refine ⟨_, (pss_cons (ps_if (pt_not (pt_val (fcall F_are_limits (hr.mono (by decide)) gd (passes_call (takes_of rfl rfl rfl rfl) fun _ _ _ _ h => h) (pa_cons (pv 0) pa_nil)))) (pss_one (ps_rs X_InvalidLimits (hr.mono (by decide)) (takes_of rfl rfl rfl rfl) (pv 0))) pss_nil)
      (pss_cons (ps_set (i := 2) sc_count_within.nd rfl (Or.inr rfl) (pe_callB (z_len (K := K)) rfl B.len_ (by decide +kernel) (pa_cons (pv 0) pa_nil)))
      (pss_cons (ps_if (PW.pt (pw_or (pt_not (pt_val (fcall F_is_group_of (hr.mono (by decide)) gd (passes_call (takes_of rfl rfl rfl rfl) fun _ _ _ _ h => h) (pa_cons (pv 1) (pa_cons (pv 2) pa_nil))))) (pw_or1 (pt_cmpR op_eq (pe_callB (z_len (K := K)) rfl B.len_ (by decide +kernel) (pa_cons (pv 1) pa_nil)) (pv 2) (nomark _))))) (pss_one (ps_rs X_InvalidGroup (hr.mono (by decide)) (takes_of rfl rfl rfl rfl) (pv 1))) pss_nil)
      (pss_cons (ps_par (i := 3) (j := 4) rfl sc_count_within.nd rfl rfl (by decide) rfl rfl (pa_cons (pe_dc (own := [("one", 8)]) (g := gName 8) rfl sc_count_within.nd (pi_range1 rfl B.range_ (pa_cons (pv 2) pa_nil)) (blkOk_by (own := [("one", 8)]) (N := ["limits", "bare", "count", "sizes", "found", "function", "product", "other", "one"]) (sc := defScope s_count_within) (by decide +kernel)) (fun _ _ _ _ _ => pg_name (i := 8) sc_count_within.nd rfl (Or.inl rfl)) (fun _ _ _ _ _ => pts_one (pt_cmpR (z_notIn (K := K)) (pv 8) (pv 1) (by rfl))) (fun _ _ _ _ _ => pv 8) (fun _ _ _ _ _ => fcall F_stretch (hr.mono (by decide)) gd passL (pa_cons (pv 2) (pa_cons (pv 1) (pa_cons (pv 8) pa_nil))))) (pa_cons pe_int pa_nil)) (by rfl))
      (pss_cons (ps_lock (ps_for (passes_of rfl) rfl (pi_keys (pv 3)) (pg_name (i := 5) sc_count_within.nd rfl (Or.inl rfl)) (pss_cons (ps_set (i := 6) sc_count_within.nd rfl (Or.inl rfl) (pe_op op_pow (pe_dget (hu_of hr) (pv 3) (pv 5) (fun _ _ => rfl)) pe_int))
      (pss_cons (ps_for (passes_of rfl) rfl (pi_keys (pv 3)) (pg_name (i := 7) sc_count_within.nd rfl (Or.inl rfl)) (pss_one (ps_if (pt_cmpR op_ne (pv 7) (pv 5) (nomark _)) (pss_one (ps_aug (i := 6) sc_count_within.nd rfl (Or.inl rfl) (pe_op op_add (pe_op op_mulW (pe_ix (z_ixL (K := K)) (pv 0) (pv 7) (fun _ _ => rfl)) (pv 2)) (pe_dget (hu_of hr) (pv 3) (pv 7) (fun _ _ => rfl))) ip_mulW)) pss_nil)))
      (pss_one (ps_aug (i := 4) sc_count_within.nd rfl (Or.inl rfl) (pv 6) ip_add))))))
      (pss_one (ps_ret (pe_op op_fdiv (pv 4) (pv 2))))))))), ?_⟩
    walk_at "go"
    obtain ⟨b, al, hb⟩ := bad
    have fin : ∀ H1, Same H H1 → _ := fun H1 s1 => rs_ok (C := He.ga K "InvalidLimits") (W := fun cls d _ G => E cls d G) (σ := [some x, some y, none, none, none, none, none, none, none]) (q.back s1)
    refine ⟨x, b, rfl, al, fun _ H1 s1 => ?_, fun h H1 s1 => ?_⟩
    · walk_at "go"
      exact fin H1 s1
    · have eb : b = false := by
        rcases hb with hb | ⟨xs, s1, h1⟩
        · exact hb
        · have := h xs s1
          omega
      rw [eb]
      walk_at "go"
      exact fin H1 s1
  have good : ∀ {ls}, LimGood H x ls → ∀ {R : VK} {E'}, (∀ H1, Same H H1 → R (.bl true) H1) → spLimits [x] H R E' := by
    intro ls hl R E' r
    obtain ⟨l1, l2, l3, l4⟩ := hl
    have ea : (ls.map V.int).all (betw · 1 (10 ^ 18)) = true := by
      rw [List.all_map]
      exact List.all_eq_true.mpr fun l h => decide_eq_true (l4 l h)
    have u : ∀ xs, Sq H x xs → xs = ls.map V.int := fun xs s2 => by
      cases l1 with
      | lst e => cases s2 with
        | lst e2 => rw [e] at e2; cases e2; rfl
        | tup e2 => rw [e] at e2; cases e2
      | tup e => cases s2 with
        | lst e2 => rw [e] at e2; cases e2
        | tup e2 => rw [e] at e2; cases e2; rfl
    refine ⟨x, _, rfl, .yes l1 (fun y hy => ?_) (by rw [List.length_map]; omega), fun ⟨xs, s2, h⟩ => ?_, fun _ H1 s1 => by rw [ea]; exact r H1 s1⟩
    · obtain ⟨i, _, rfl⟩ := List.mem_map.mp hy
      exact ⟨_, .int i⟩
    · rw [u xs s2, List.length_map] at h
      omega
  have kints : ∀ (H1 : Hp) (bs : List Int), Kns H1 (bs.map V.int) := fun H1 bs y hy => by
    obtain ⟨i, _, rfl⟩ := List.mem_map.mp hy
    exact ⟨_, .int i⟩
  rcases h with ⟨ls, hl, hb, q⟩ | ⟨ls, bs, hl, hb, q⟩
  · -- a group that is none
    have ⟨l1, _, _, _⟩ := hl
    obtain ⟨a, rfl, sq2⟩ := l1.seq (K := K)
    refine ⟨_, (pss_cons (ps_if (pt_not (pt_val (fcall F_are_limits (hr.mono (by decide)) gd (passes_call (takes_of rfl rfl rfl rfl) fun _ _ _ _ h => h) (pa_cons (pv 0) pa_nil)))) (pss_one (ps_rs X_InvalidLimits (hr.mono (by decide)) (takes_of rfl rfl rfl rfl) (pv 0))) pss_nil)
      (pss_cons (ps_set (i := 2) sc_count_within.nd rfl (Or.inr rfl) (pe_callB (z_len (K := K)) rfl B.len_ (by decide +kernel) (pa_cons (pv 0) pa_nil)))
      (pss_cons (ps_if (PW.pt (pw_or (pt_not (pt_val (fcall F_is_group_of (hr.mono (by decide)) gd (passes_call (takes_of rfl rfl rfl rfl) fun _ _ _ _ h => h) (pa_cons (pv 1) (pa_cons (pv 2) pa_nil))))) (pw_or1 (pt_cmpR op_eq (pe_callB (z_len (K := K)) rfl B.len_ (by decide +kernel) (pa_cons (pv 1) pa_nil)) (pv 2) (nomark _))))) (pss_one (ps_rs X_InvalidGroup (hr.mono (by decide)) (takes_of rfl rfl rfl rfl) (pv 1))) pss_nil)
      (pss_cons (ps_par (i := 3) (j := 4) rfl sc_count_within.nd rfl rfl (by decide) rfl rfl (pa_cons (pe_dc (own := [("one", 8)]) (g := gName 8) rfl sc_count_within.nd (pi_range1 rfl B.range_ (pa_cons (pv 2) pa_nil)) (blkOk_by (own := [("one", 8)]) (N := ["limits", "bare", "count", "sizes", "found", "function", "product", "other", "one"]) (sc := defScope s_count_within) (by decide +kernel)) (fun _ _ _ _ _ => pg_name (i := 8) sc_count_within.nd rfl (Or.inl rfl)) (fun _ _ _ _ _ => pts_one (pt_cmpR (z_notIn (K := K)) (pv 8) (pv 1) (by rfl))) (fun _ _ _ _ _ => pv 8) (fun _ _ _ _ _ => fcall F_stretch (hr.mono (by decide)) gd passL (pa_cons (pv 2) (pa_cons (pv 1) (pa_cons (pv 8) pa_nil))))) (pa_cons pe_int pa_nil)) (by rfl))
      (pss_cons (ps_lock (ps_for (passes_of rfl) rfl (pi_keys (pv 3)) (pg_name (i := 5) sc_count_within.nd rfl (Or.inl rfl)) (pss_cons (ps_set (i := 6) sc_count_within.nd rfl (Or.inl rfl) (pe_op op_pow (pe_dget (hu_of hr) (pv 3) (pv 5) (fun _ _ => rfl)) pe_int))
      (pss_cons (ps_for (passes_of rfl) rfl (pi_keys (pv 3)) (pg_name (i := 7) sc_count_within.nd rfl (Or.inl rfl)) (pss_one (ps_if (pt_cmpR op_ne (pv 7) (pv 5) (nomark _)) (pss_one (ps_aug (i := 6) sc_count_within.nd rfl (Or.inl rfl) (pe_op op_add (pe_op op_mulW (pe_ix (z_ixL (K := K)) (pv 0) (pv 7) (fun _ _ => rfl)) (pv 2)) (pe_dget (hu_of hr) (pv 3) (pv 7) (fun _ _ => rfl))) ip_mulW)) pss_nil)))
      (pss_one (ps_aug (i := 4) sc_count_within.nd rfl (Or.inl rfl) (pv 6) ip_add))))))
      (pss_one (ps_ret (pe_op op_fdiv (pv 4) (pv 2))))))))), ?_⟩
    walk_at "go"
    refine good hl fun H1 s1 => ?_
    walk_at "go"
    refine ⟨a, _, rfl, sq2.imp s1.seq s1.tupl, ?_⟩
    walk_at "go"
    rw [List.length_map]
    rcases hb with g | ⟨bs, sq, lb, g, e⟩
    · refine ⟨y, _, _, rfl, g.same s1, fun H2 s2 => ?_⟩
      walk_at "go"
      exact rs_ok (q.back (s1.trans s2))
    · obtain ⟨a2, rfl, sq3⟩ := sq.seq (K := K)
      refine ⟨_, _, _, rfl, .yes (by cases sq with | lst e => exact .lst (s1 _ _ e) | tup e => exact .tup (s1 _ _ e)) (kints _ _) (by rw [List.length_map]; omega), fun H2 s2 => ?_⟩
      rw [g]
      walk_at "go"
      refine ⟨a2, _, rfl, sq3.imp (s1.trans s2).seq (s1.trans s2).tupl, ?_⟩
      walk_at "go"
      rw [List.length_map, decide_eq_true (by rw [e])]
      walk_at "go"
      exact rs_ok (q.back (s1.trans s2))
  · have ⟨l1, l2, l3, l4⟩ := hl
    have ⟨b1, b2, b3, b4, b5, b6⟩ := hb
    obtain ⟨a, rfl, sq2⟩ := l1.seq (K := K)
    obtain ⟨a2, rfl, sq3⟩ := b1.seq (K := K)
    refine ⟨_, (pss_cons (ps_if (pt_not (pt_val (fcall F_are_limits (hr.mono (by decide)) gd (passes_call (takes_of rfl rfl rfl rfl) fun _ _ _ _ h => h) (pa_cons (pv 0) pa_nil)))) (pss_one (ps_rs X_InvalidLimits (hr.mono (by decide)) (takes_of rfl rfl rfl rfl) (pv 0))) pss_nil)
      (pss_cons (ps_set (i := 2) sc_count_within.nd rfl (Or.inr rfl) (pe_callB (z_len (K := K)) rfl B.len_ (by decide +kernel) (pa_cons (pv 0) pa_nil)))
      (pss_cons (ps_if (PW.pt (pw_or (pt_not (pt_val (fcall F_is_group_of (hr.mono (by decide)) gd (passes_call (takes_of rfl rfl rfl rfl) fun _ _ _ _ h => h) (pa_cons (pv 1) (pa_cons (pv 2) pa_nil))))) (pw_or1 (pt_cmpR op_eq (pe_callB (z_len (K := K)) rfl B.len_ (by decide +kernel) (pa_cons (pv 1) pa_nil)) (pv 2) (nomark _))))) (pss_one (ps_rs X_InvalidGroup (hr.mono (by decide)) (takes_of rfl rfl rfl rfl) (pv 1))) pss_nil)
      (pss_cons (ps_par (i := 3) (j := 4) rfl sc_count_within.nd rfl rfl (by decide) rfl rfl (pa_cons (pe_dc (own := [("one", 8)]) (g := gName 8) rfl sc_count_within.nd (pi_range1 rfl B.range_ (pa_cons (pv 2) pa_nil)) (blkOk_by (own := [("one", 8)]) (N := ["limits", "bare", "count", "sizes", "found", "function", "product", "other", "one"]) (sc := defScope s_count_within) (by decide +kernel)) (fun _ _ _ _ _ => pg_name (i := 8) sc_count_within.nd rfl (Or.inl rfl)) (fun _ _ _ _ _ => pts_one (pt_cmpR (z_notIn (K := K)) (pv 8) (pv 1) (by rfl))) (fun _ _ _ _ _ => pv 8) (fun _ _ _ _ _ => fcall F_stretch (hr.mono (by decide)) gd passL (pa_cons (pv 2) (pa_cons (pv 1) (pa_cons (pv 8) pa_nil))))) (pa_cons pe_int pa_nil)) (by rfl))
      (pss_cons (ps_lock (ps_for (passes_of rfl) rfl (pi_keys (pv 3)) (pg_name (i := 5) sc_count_within.nd rfl (Or.inl rfl)) (pss_cons (ps_set (i := 6) sc_count_within.nd rfl (Or.inl rfl) (pe_op op_pow (pe_dget (hu_of hr) (pv 3) (pv 5) (fun _ _ => rfl)) pe_int))
      (pss_cons (ps_for (passes_of rfl) rfl (pi_keys (pv 3)) (pg_name (i := 7) sc_count_within.nd rfl (Or.inl rfl)) (pss_one (ps_if (pt_cmpR op_ne (pv 7) (pv 5) (nomark _)) (pss_one (ps_aug (i := 6) sc_count_within.nd rfl (Or.inl rfl) (pe_op op_add (pe_op op_mulW (pe_ix (z_ixQ (K := K)) (pv 0) (pv 7) (fun _ _ => rfl)) (pv 2)) (pe_dget (hu_of hr) (pv 3) (pv 7) (fun _ _ => rfl))) ip_mulW)) pss_nil)))
      (pss_one (ps_aug (i := 4) sc_count_within.nd rfl (Or.inl rfl) (pv 6) ip_add))))))
      (pss_one (ps_ret (pe_op op_fdiv (pv 4) (pv 2))))))))), ?_⟩
    walk_at "go"
    refine good hl fun H1 s1 => ?_
    walk_at "go"
    refine ⟨a, _, rfl, sq2.imp s1.seq s1.tupl, ?_⟩
    walk_at "go"
    rw [List.length_map]
    have bq : ∀ {G}, Same H G → Sq G (.ref a2) (bs.map V.int) := fun {G} sg => by cases b1 with | lst e => exact .lst (sg _ _ e) | tup e => exact .tup (sg _ _ e)
    have eg : grp (ls.length : Int) (bs.map V.int) = true := by
      unfold grp
      rw [Bool.and_eq_true]
      constructor
      · rw [List.all_map]
        exact List.all_eq_true.mpr fun b h => decide_eq_true (by have := b3 b h; omega)
      · rw [List.map_map, show unI ∘ V.int = id from rfl, List.map_id]
        exact b4
    refine ⟨_, _, _, rfl, .yes (bq s1) (kints _ _) (by rw [List.length_map]; omega), fun H2 s2 => ?_⟩
    rw [eg]
    walk_at "go"
    have s12 := s1.trans s2
    refine ⟨a2, _, rfl, sq3.imp s12.seq s12.tupl, ?_⟩
    walk_at "go"
    rw [List.length_map, decide_eq_false (fun z => b5 (by have := V.int.inj z; omega))]
    walk_at "go"
    refine dcR1 (p := fun i => decide (i ∉ bs)) (f := st ls.length bs) (by omega) (fun d H3 hd s3 e3 => ?_) (fun D i H' hi hs _ Y N yes no => ?_)
    · -- behind the dict
      walk_at "go"
      refine g_lock e3 fun od => ?_
      walk_at "go"
      have kv := kvI_free (n := ls.length) (bs := bs) (f := st ls.length bs)
      have hat : ∀ {i : Nat} {k : Key} {v : V}, (kvI ls.length (fun i => decide (i ∉ bs)) (st ls.length bs))[i]? = some (k, v) → ∃ z, (freeOf ls.length bs)[i]? = some z ∧ k = Sum.inl z ∧ z ∈ freeOf ls.length bs := fun {i k v} e => by
        rw [kv, List.getElem?_map] at e
        cases q2 : (freeOf ls.length bs)[i]? with
        | none => rw [q2] at e; cases e
        | some z =>
          rw [q2] at e
          cases e
          exact ⟨z, rfl, rfl, List.mem_of_getElem? q2⟩
      have len : (kvI ls.length (fun i => decide (i ∉ bs)) (st ls.length bs)).length = (freeOf ls.length bs).length := by rw [kv, List.length_map]
      have et : (freeOf ls.length bs).take (kvI ls.length (fun i => decide (i ∉ bs)) (st ls.length bs)).length = freeOf ls.length bs := by rw [len]; exact List.take_length
      have sL := s12.trans s3
      have na : ∀ {b o}, H b = some o → b ≠ d := fun {b o} e => ne_of_none e (s12.free hd)
      have sF : Same H (upd H3 d (.frz od (.dK (kvI ls.length (fun i => decide (i ∉ bs)) (st ls.length bs))))) := fun b o e => (upd_ne (na e)).trans (sL b o e)
      have get : ∀ {z}, z ∈ freeOf ls.length bs → DGet (upd H3 d (.frz od (.dK (kvI ls.length (fun i => decide (i ∉ bs)) (st ls.length bs))))) d (.int z) (some (.int (st ls.length bs z))) := fun {z} hz =>
        .inl ⟨_, Sum.inl z, .inr ⟨od, upd_same⟩, rfl, (kvI_get hz).symm⟩
      refine forK (d := d) upd_same (fun i τ G => ∃ z1 z2 z3, τ = [some (.ref a), some (.ref a2), some (.int ls.length), some (.ref d), some (.int (sumW ls bs ((freeOf ls.length bs).take i))), z1, z2, z3, none] ∧ G = upd H3 d (.frz od (.dK (kvI ls.length (fun i => decide (i ∉ bs)) (st ls.length bs)))))
        ⟨none, none, none, rfl, rfl⟩ (fun i τ G ⟨_, _, _, _, e⟩ => by rw [e]; exact upd_same) ?_ ?_
      · rintro i k v τ G hi ⟨z1, z2, z3, rfl, rfl⟩
        obtain ⟨z, hz, rfl, mz⟩ := hat hi
        have hq := st_le (n := ls.length) (bare := bs) (f := z)
        walk_at "go"
        refine ⟨d, .int (st ls.length bs z), rfl, get mz, ?_⟩
        refine ⟨_, _, rfl, rfl, ⟨by decide, by decide, by omega⟩, ?_⟩
        walk_at "go"
        refine forK (d := d) upd_same (fun j τ G => ∃ z3, τ = [some (.ref a), some (.ref a2), some (.int ls.length), some (.ref d), some (.int (sumW ls bs ((freeOf ls.length bs).take i))), some (.int z), some (.int (prodW ls bs z ((freeOf ls.length bs).take j))), z3, none] ∧ G = upd H3 d (.frz od (.dK (kvI ls.length (fun i => decide (i ∉ bs)) (st ls.length bs)))))
          ⟨z3, rfl, rfl⟩ (fun i τ G ⟨_, _, e⟩ => by rw [e]; exact upd_same) ?_ ?_
        · rintro j k v τ G hj ⟨z4, rfl, rfl⟩
          obtain ⟨o, ho, rfl, mo⟩ := hat hj
          obtain ⟨o1, o2, _⟩ := free_mem mo
          have bo := lim_bound (bs := bs) l4 l3 ⟨o1, o2⟩
          walk_at "go"
          by_cases ne : o ≠ z
          · rw [show (!decide (kV (Sum.inl o) = V.int z)) = true from by show (!decide (V.int o = V.int z)) = true; simpa using ne]
            walk_at "go"
            have lz : (ls.length : Int).natAbs < 2 ^ 4 := by omega
            have pl : ((freeOf ls.length bs).take j).length ≤ 12 := by
              have h1 : ((freeOf ls.length bs).take j).length ≤ (freeOf ls.length bs).length := List.length_take_le' ..
              have h2 : (freeOf ls.length bs).length ≤ ls.length := by rw [← len]; exact kvI_len
              omega
            have pb := prod_bound (bs := bs) (f := z) l4 l3 (os := (freeOf ls.length bs).take j) fun o ho => by
              obtain ⟨h1, h2, _⟩ := free_mem (List.mem_of_mem_take ho)
              exact ⟨h1, h2⟩
            have rd : (ls.map V.int)[o.toNat]? = some (.int (ls.getD o.toNat 0)) := ints_at (by omega)
            have rd2 : atI (ls.map V.int) o = some (.int (ls.getD o.toNat 0)) := at_ok rd (by omega)
            have rest : ∀ {R : VK}, R (.int (ls.getD o.toNat 0)) (upd H3 d (.frz od (.dK (kvI ls.length (fun i => decide (i ∉ bs)) (st ls.length bs))))) → rIx K (.ref a) (.int o) (upd H3 d (.frz od (.dK (kvI ls.length (fun i => decide (i ∉ bs)) (st ls.length bs))))) R := fun {R} r => by
              rcases sq2 with e | e
              · exact .inl ⟨a, _, o, _, rfl, rfl, sF.seq e, rd2, r⟩
              · exact .inr (.inl ⟨a, _, o, _, rfl, rfl, sF.tupl e, rd2, r⟩)
            refine rest ?_
            walk_at "go"
            refine ⟨_, _, rfl, rfl, wide_mul (a := 60) (b := 4) bo.1 lz (by decide) (by decide) (by decide), ?_⟩
            walk_at "go"
            refine ⟨d, .int (st ls.length bs o), rfl, get mo, ?_⟩
            walk_at "go"
            refine g_ipMW (wide_mul pb bo.2 (by omega) (by decide) (by omega)) ?_
            walk_at "go"
            refine ⟨some (.int o), ?_, rfl⟩
            rw [take_snoc ho, prodW_snoc]
            unfold stepW
            rw [if_pos ne]
            rfl
          · rw [show (!decide (kV (Sum.inl o) = V.int z)) = false from by show (!decide (V.int o = V.int z)) = false; simpa using ne]
            walk_at "go"
            refine ⟨some (.int o), ?_, rfl⟩
            rw [take_snoc ho, prodW_snoc]
            unfold stepW
            rw [if_neg ne]
            rfl
        · rintro τ G ⟨z4, rfl, rfl⟩
          walk_at "go"
          refine ⟨some (.int z), some (.int (prodW ls bs z (freeOf ls.length bs))), z4, ?_, rfl⟩
          rw [take_snoc hz, sumW_snoc, et]
          rfl
      · rintro τ G ⟨z1, z2, z3, rfl, rfl⟩
        walk_at "go"
        refine ⟨upd_same, ?_⟩
        walk_at "go"
        rw [et]
        refine q _ fun b o e => ?_
        exact (upd_ne (na e)).trans ((upd_ne (na e)).trans (sL b o e))
    · -- one item of the dict
      walk_at "go"
      refine ⟨rfl, ?_⟩
      walk_at "go"
      have s2' := s12.trans hs
      refine ⟨a2, _, rfl, sq3.imp s2'.seq s2'.tupl, rfl, flat_ints, ?_⟩
      refine ⟨_, rfl, ?_⟩
      rw [if_pos rfl, inV_ints]
      refine g_iten (fun h => ?_) (fun h => ?_)
      · walk_at "go"
        refine ⟨_, _, _, bs, rfl, bq s2', by omega, by omega, b6, ?_⟩
        exact yes _ (by simpa using h) (Same.refl _)
      · exact no _ (by simpa using h) (Same.refl _)
end
end Z
set_option Elab.async false
set_option linter.all false
set_option maxRecDepth 100000
set_option maxHeartbeats 4000000
namespace Z
open PySem PySem.Spec PyProof.Rows L2
local macro_rules | `(tactic| walk_at "hp") => `(tactic| first | assumption | exact upd_same | exact (upd_ne (by assumption)).trans (by assumption))
local macro_rules | `(tactic| walk_at "side") => `(tactic| first | assumption | omega | (exact ⟨by omega, by omega⟩) | (exact Or.inl ⟨by omega, by omega⟩) | (exact Or.inr ⟨by omega, by omega⟩) | (exact ⟨by omega, by omega, by omega⟩))
local macro_rules | `(tactic| walk_at "st") => `(tactic| first
  | (with_reducible first
  | refine g_seq ?_ | refine g_asg ?_ | refine g_op ?_ | refine g_var rfl ?_ | refine g_c ?_ | refine g_I0 ?_ | refine g_cons ?_ | refine g_nil ?_ | refine g_name rfl ?_ | refine g_ret ?_ | refine g_ifs ?_ | refine g_test ?_ | refine g_bl ?_
  | refine g_cb ?_ | refine g_call ?_ | refine g_drop ?_ | refine g_next ?_ | refine g_and ?_ | refine g_or ?_ | refine g_not ?_ | refine g_if ?_ | refine g_notV ?_ | refine g_andV ?_ | refine g_orV ?_ | refine g_chain ?_ | refine g_un ?_ | refine g_U ?_ | refine g_lst ?_ | refine g_tup ?_ | refine g_sub ?_ | refine g_B ?_ | refine g_int1 ?_ | refine g_trub ?_
  | refine g_eq rfl ?_ | refine g_ne rfl ?_ | refine g_tt ?_ | refine g_ff ?_ | refine g_nt ?_ | refine g_nf ?_ | refine g_retN ?_ | refine g_rs ?_ | refine g_lc ?_ | refine g_for ?_ | refine g_iL ?_ | refine g_iT ?_ | refine g_iR1 ?_ | refine g_iR2 ?_ | refine g_iR3 ?_ | refine g_yes ?_ | refine g_truth ?_ | refine g_gcons ?_ | refine g_gnil ?_ | refine g_par ?_ | refine g_par3 ?_ | refine g_ex2 ?_ | refine g_ex3 ?_ | refine g_bm ?_ | refine g_bm0 ?_ | refine g_aug rfl ?_ | refine g_ipI ?_ | refine g_iK ?_ | refine g_dc ?_ | refine g_dget ?_ | refine g_int ?_ | refine g_intB ?_ | refine g_abs ?_ | refine g_max2 ?_ | refine g_min2 ?_ | refine g_sl ?_ | refine g_nopart ?_ | refine g_part ?_ | refine g_dput ?_ | refine g_lstrg ?_ | refine g_rg1 ?_ | refine g_exi ?_)
  | ((with_reducible refine k_slL ?_); refine g_slL (SqL.of (by walk_at "hp")) ?_) | ((with_reducible refine k_listOf ?_); refine g_listOf (.inl (SqL.of (by walk_at "hp"))) ?_) | ((with_reducible refine k_rep ?_); refine g_rep (by walk_at "hp") (by omega) ?_) | ((with_reducible refine k_len ?_); refine g_len (SqL.of (by walk_at "hp")) ?_) | ((with_reducible refine k_len ?_); refine g_len (by assumption) ?_) | ((with_reducible refine k_tyL ?_); refine g_tyL (by walk_at "hp") ?_) | ((with_reducible refine k_gT ?_); refine g_gT (SqT.of (by walk_at "hp")) rfl ?_) | ((with_reducible refine k_gL ?_); refine g_gL (SqL.of (by walk_at "hp")) rfl ?_) | ((with_reducible refine k_ixL ?_); refine g_ixL (SqL.of (by walk_at "hp")) rfl ?_) | ((with_reducible refine k_ixL ?_); refine g_rd (by walk_at "hp") (by walk_at "side") ?_) | ((with_reducible refine k_ixL ?_); refine g_rdI (by walk_at "hp") (by omega) (by omega) ?_) | ((with_reducible refine k_setL ?_); refine g_setL (by walk_at "hp") rfl ?_) | ((with_reducible refine k_new ?_); refine g_new rfl ?_) | ((with_reducible refine k_I ?_); refine g_I (by walk_at "side") ?_))
local macro_rules | `(tactic| walk_at "go") => `(tactic| repeat walk_at "st")

/-- the box: g left of the great number, f whether it is great, m, c its counter -/
def Box (b : Addr) (n : Nat) (H : Hp) : Prop := ∃ (g : Int) (f : Bool) (m c : Int), H b = some (.lst [.int g, .bl f, .int m, .int c]) ∧ 0 ≤ g ∧ 0 ≤ m ∧ m < 2147483629 ∧ 0 ≤ c ∧ c ≤ n
theorem Box.same {b : Addr} {n : Nat} {H H' : Hp} (h : Box b n H) (s : Same H H') : Box b n H' := by
  obtain ⟨g, f, m, c, e, r⟩ := h
  exact ⟨g, f, m, c, s _ _ e, r⟩
theorem Box.mono {b : Addr} {n m : Nat} {H : Hp} (h : Box b n H) (l : n ≤ m) : Box b m H := by
  obtain ⟨g, f, m, c, e, h1, h2, h3, h4, h5⟩ := h
  exact ⟨g, f, m, c, e, h1, h2, h3, h4, by omega⟩
theorem Box.ne {b a : Addr} {n : Nat} {H : Hp} (h : Box b n H) (e : H a = none) : b ≠ a := by
  obtain ⟨g, f, m, c, e2, _⟩ := h
  exact ne_of_none e2 e
theorem Box.upd {b a : Addr} {n : Nat} {H : Hp} {o : HO} (h : Box b n H) (e : b ≠ a) : Box b n (upd H a o) := by
  obtain ⟨g, f, m, c, e2, r⟩ := h
  exact ⟨g, f, m, c, (upd_ne e).trans e2, r⟩
def spTake : Sp := fun vs H Q _ => ∃ (b : Addr) (n : Nat) (k : Int), vs = [.ref b, .int k] ∧ 0 < k ∧ k < 1073741824 ∧ n < 100000 ∧ Box b n H ∧ ∀ (d : Int) H', 0 ≤ d → d < k → But H H' → Box b (n + 1) H' → Q (.int d) H'
def spCell (K : PySem.W.Frag) : Sp := fun vs H Q _ => ∃ (a : Addr) (ns : List Int) (k : Nat), vs = [.ref a, .int k] ∧ k < 1000 ∧ SqL K H a (ns.map V.int) ∧ ∀ (d : Int) H', Same H H' → Q (.int d) H'
def spBox : Sp := fun vs H Q _ => ∃ i : Int, vs = [.int i] ∧ ∀ b H', Same H H' → H b = none → Box b 0 H' → Q (.ref b) H'
section
variable {P : Program} {w : World} {K : PySem.W.Frag} {mg : Str → Option Value} {base : Heap} {f : Addr} {fd : FuncData}
theorem sc__law_take : FnScope ["_law_box_here", "_law_many", "_law_digit", "_law_mixed"] ["_law_box_here", "_law_many"] (defScope s__law_take) := ⟨rfl, rfl, rfl, by decide +kernel, rfl, by decide +kernel, by decide +kernel⟩
theorem sc__law_box : FnScope ["_law_great"] ["_law_great"] (defScope s__law_box) := ⟨rfl, rfl, rfl, by decide +kernel, rfl, by decide +kernel, by decide +kernel⟩
theorem fn_box (F : Df K mg "_law_box" s__law_box f fd) (B : Bl K mg) : Fn P w K mg base "_law_box" 1 ["_law_great"] spBox := by
  refine F.fn sc__law_box (fun vs H Q E h => ?_) (fun _ _ _ _ _ _ us hl => match us, hl with | [_], _ => rfl) (fun cdv A outer s H vs Q E hr gd h => ?_)
  · obtain ⟨i, rfl, _⟩ := h
    rfl
  obtain ⟨i, rfl, q⟩ := h
  refine ⟨_, (pss_one (ps_ret (pe_lst (pa_cons (pe_callB z_abs rfl B.abs_ (by decide +kernel) (pa_cons (pv 0) pa_nil)) (pa_cons (pe_cmpR op_ge (pe_callB z_abs rfl B.abs_ (by decide +kernel) (pa_cons (pv 0) pa_nil)) (pe_op op_pow pe_int pe_int) (nomark _)) (pa_cons (pe_op op_mod (pe_callTy z_int rfl B.int_ (by decide +kernel) (pa_cons (pe_callB z_abs rfl B.abs_ (by decide +kernel) (pa_cons (pv 0) pa_nil)) pa_nil)) pe_int) (pa_cons pe_int pa_nil))))))), ?_⟩
  walk_at "go"
  intro p hp
  exact q p _ (Same.new hp) hp ⟨_, _, _, 0, upd_same, by omega, by omega, by omega, by omega, by omega⟩
theorem fn_take (F : Df K mg "_law_take" s__law_take f fd) (B : Bl K mg) : Fn P w K mg base "_law_take" 1 ["_law_box_here", "_law_many"] spTake := by
  refine F.fn sc__law_take (fun vs H Q E h => ?_) (fun _ _ _ _ _ _ us hl => match us, hl with | [_, _], _ => rfl) (fun cdv A outer s H vs Q E hr gd h => ?_)
  · obtain ⟨b, n, k, rfl, _⟩ := h
    rfl
  obtain ⟨b, n, k, rfl, k0, k1, n0, ⟨g, fl, m, c, hb, g0, m0, m1, c0, c1⟩, q⟩ := h
  refine ⟨_, (pss_cons (ps_if (PW.pt (pw_and (z_truth (K := K) (pe_ix (z_ixL (K := K)) (pv 0) pe_int (fun _ _ => rfl)) (by intro _; rfl)) (pw_and1 (pt_cmpR op_gt (pe_ix (z_ixL (K := K)) (pv 0) pe_int (fun _ _ => rfl)) pe_int (nomark _))))) (pss_cons (ps_set (i := 2) sc__law_take.nd rfl (Or.inl rfl) (pe_op op_mod (pe_callTy z_int rfl B.int_ (by decide +kernel) (pa_cons (pe_ix (z_ixL (K := K)) (pv 0) pe_int (fun _ _ => rfl)) pa_nil)) (pv 1)))
      (pss_cons (ps_asg (pe_op op_fdiv (pe_ix (z_ixL (K := K)) (pv 0) pe_int (fun _ _ => rfl)) (pv 1)) (pg_sub (pv 0) pe_int set_list))
      (pss_one (ps_ret (pv 2))))) pss_nil)
      (pss_cons (ps_asg (pe_op op_add (pe_ix (z_ixL (K := K)) (pv 0) pe_int (fun _ _ => rfl)) pe_int) (pg_sub (pv 0) pe_int set_list))
      (pss_cons (ps_set (i := 3) sc__law_take.nd rfl (Or.inl rfl) (pe_op op_mod (pe_callTy z_int rfl B.int_ (by decide +kernel) (pa_cons (pe_op op_pow (pe_op op_add (pe_op op_add (pe_ix (z_ixL (K := K)) (pv 0) pe_int (fun _ _ => rfl)) (pe_op op_mul pe_int (pe_ix (z_ixL (K := K)) (pv 0) pe_int (fun _ _ => rfl)))) pe_int) pe_int) pa_nil)) pe_int))
      (pss_one (ps_ret (pe_op op_mod (pe_op op_fdiv (pe_op op_mod (pe_callTy z_int rfl B.int_ (by decide +kernel) (pa_cons (pe_op op_pow (pe_op op_add (pe_op op_mul (pv 3) pe_int) (pe_op op_mul pe_int (pe_ix (z_ixL (K := K)) (pv 0) pe_int (fun _ _ => rfl)))) pe_int) pa_nil)) pe_int) pe_int) (pv 1))))))), ?_⟩
  walk_at "go"
  have fin : ∀ (d : Int) g' c', 0 ≤ g' → 0 ≤ c' → c' ≤ ((n + 1 : Nat) : Int) → 0 ≤ d → d < k → Q (.int d) (upd H b (.lst [.int g', .bl fl, .int m, .int c'])) := fun d g' c' h1 h2 h3 h4 h5 =>
    q d _ h4 h5 (fun a o ne e => (upd_ne (fun z => by subst z; rw [hb] at e; cases e; cases ne)).trans e) ⟨g', fl, m, c', upd_same, h1, m0, m1, h2, h3⟩
  refine g_iteb (fun hf => ?_) (fun hf => ?_)
  walk_at "go"
  refine g_ite (fun hg => ?_) (fun hg => ?_)
  · walk_at "go"
    exact fin _ _ _ (Int.ediv_nonneg g0 (by omega)) c0 (by omega) (Int.emod_nonneg _ (by omega)) (Int.emod_lt_of_pos _ k0)
  all_goals
    walk_at "go"
    have d0 := Int.emod_nonneg ((m + 15485863 * (c + 1) + 179424673) ^ 5) (show (2147483647 : Int) ≠ 0 by decide)
    have d1 := Int.emod_lt_of_pos ((m + 15485863 * (c + 1) + 179424673) ^ 5) (show (0 : Int) < 2147483647 by decide)
    walk_at "go"
    exact fin _ _ _ g0 (by omega) (by omega) (Int.emod_nonneg _ (by omega)) (Int.emod_lt_of_pos _ k0)
end
end Z
set_option Elab.async false
set_option linter.all false
set_option maxRecDepth 100000
set_option maxHeartbeats 4000000
namespace Z
open PySem PySem.Spec PyProof.Rows L2
local macro_rules | `(tactic| walk_at "hp") => `(tactic| first | assumption | exact upd_same | exact (upd_ne (by assumption)).trans (by assumption))
local macro_rules | `(tactic| walk_at "side") => `(tactic| first | assumption | omega | (exact ⟨by omega, by omega⟩) | (exact Or.inl ⟨by omega, by omega⟩) | (exact Or.inr ⟨by omega, by omega⟩) | (exact ⟨by omega, by omega, by omega⟩))
local macro_rules | `(tactic| walk_at "st") => `(tactic| first
  | (with_reducible first
  | refine g_seq ?_ | refine g_asg ?_ | refine g_op ?_ | refine g_var rfl ?_ | refine g_c ?_ | refine g_I0 ?_ | refine g_cons ?_ | refine g_nil ?_ | refine g_name rfl ?_ | refine g_ret ?_ | refine g_ifs ?_ | refine g_test ?_ | refine g_bl ?_
  | refine g_cb ?_ | refine g_call ?_ | refine g_drop ?_ | refine g_next ?_ | refine g_and ?_ | refine g_or ?_ | refine g_not ?_ | refine g_if ?_ | refine g_notV ?_ | refine g_andV ?_ | refine g_orV ?_ | refine g_chain ?_ | refine g_un ?_ | refine g_U ?_ | refine g_lst ?_ | refine g_tup ?_ | refine g_sub ?_ | refine g_B ?_ | refine g_int1 ?_ | refine g_trub ?_
  | refine g_eq rfl ?_ | refine g_ne rfl ?_ | refine g_tt ?_ | refine g_ff ?_ | refine g_nt ?_ | refine g_nf ?_ | refine g_retN ?_ | refine g_rs ?_ | refine g_lc ?_ | refine g_for ?_ | refine g_iL ?_ | refine g_iT ?_ | refine g_iR1 ?_ | refine g_iR2 ?_ | refine g_iR3 ?_ | refine g_yes ?_ | refine g_truth ?_ | refine g_gcons ?_ | refine g_gnil ?_ | refine g_par ?_ | refine g_par3 ?_ | refine g_ex2 ?_ | refine g_ex3 ?_ | refine g_bm ?_ | refine g_bm0 ?_ | refine g_aug rfl ?_ | refine g_ipI ?_ | refine g_iK ?_ | refine g_dc ?_ | refine g_dget ?_ | refine g_int ?_ | refine g_intB ?_ | refine g_abs ?_ | refine g_max2 ?_ | refine g_min2 ?_ | refine g_sl ?_ | refine g_nopart ?_ | refine g_part ?_ | refine g_dput ?_ | refine g_lstrg ?_ | refine g_rg1 ?_ | refine g_exi ?_)
  | ((with_reducible refine k_slL ?_); refine g_slL (SqL.of (by walk_at "hp")) ?_) | ((with_reducible refine k_listOf ?_); refine g_listOf (.inl (SqL.of (by walk_at "hp"))) ?_) | ((with_reducible refine k_rep ?_); refine g_rep (by walk_at "hp") (by omega) ?_) | ((with_reducible refine k_len ?_); refine g_len (SqL.of (by walk_at "hp")) ?_) | ((with_reducible refine k_len ?_); refine g_len (by assumption) ?_) | ((with_reducible refine k_tyL ?_); refine g_tyL (by walk_at "hp") ?_) | ((with_reducible refine k_gT ?_); refine g_gT (SqT.of (by walk_at "hp")) rfl ?_) | ((with_reducible refine k_gL ?_); refine g_gL (SqL.of (by walk_at "hp")) rfl ?_) | ((with_reducible refine k_ixL ?_); refine g_ixL (SqL.of (by walk_at "hp")) rfl ?_) | ((with_reducible refine k_ixL ?_); refine g_rd (by walk_at "hp") (by walk_at "side") ?_) | ((with_reducible refine k_ixL ?_); refine g_rdI (by walk_at "hp") (by omega) (by omega) ?_) | ((with_reducible refine k_setL ?_); refine g_setL (by walk_at "hp") rfl ?_) | ((with_reducible refine k_new ?_); refine g_new rfl ?_) | ((with_reducible refine k_I ?_); refine g_I (by walk_at "side") ?_))
local macro_rules | `(tactic| walk_at "go") => `(tactic| repeat walk_at "st")

/-- the law's choose -/
def chooseL (m : Int) : Nat → Int
  | 0 => 1
  | k + 1 => chooseL m k * (m - k) / ((k : Int) + 1)
/-- a row of ints by its places -/
def rowV (n : Nat) (g : Nat → Int) : List V := (List.range n).map fun j => V.int (g j)
theorem rowV_len {n : Nat} {g : Nat → Int} : (rowV n g).length = n := by unfold rowV; rw [List.length_map, List.length_range]
theorem rowV_at {n j : Nat} {g : Nat → Int} (h : j < n) : (rowV n g)[j]? = some (V.int (g j)) := by
  unfold rowV
  rw [List.getElem?_map, List.getElem?_range h]
  rfl
theorem rowV_set {n j : Nat} {g : Nat → Int} {x : Int} : (rowV n g).set j (V.int x) = rowV n fun i => if i = j then x else g i := by
  unfold rowV
  apply List.ext_getElem?
  intro i
  rw [List.getElem?_set]
  by_cases h : i < n
  · rw [List.getElem?_map, List.getElem?_map, List.getElem?_range h, List.length_map, List.length_range]
    by_cases e : j = i
    · subst e
      simp [h]
    · rw [if_neg e]
      simp [Ne.symm e]
  · rw [List.getElem?_eq_none (by simp; omega), List.getElem?_eq_none (by simp; omega)]
    split
    · split
      · rename_i e h2
        simp at h2
        omega
      · rfl
    · rfl
/-- prefix sums -/
def preS (f : Nat → Int) : Nat → Int
  | 0 => f 0
  | j + 1 => f (j + 1) + preS f j
def preN : Nat → (Nat → Int) → Nat → Int
  | 0, f => f
  | t + 1, f => preS (preN t f)
/-- sums in steps of c -/
def preC (c : Nat) (f : Nat → Int) : Nat → Int
  | j => if h : 0 < c ∧ c ≤ j then f j + preC c f (j - c) else f j
termination_by j => j
decreasing_by omega
def base0 (c s : Nat) (j : Nat) : Int := (if j = c - s then 1 else 0) + (if j = c then -1 else 0)
theorem rowV_congr {n : Nat} {f g : Nat → Int} (h : ∀ j, j < n → f j = g j) : rowV n f = rowV n g := by
  unfold rowV
  exact List.map_congr_left fun j hj => by rw [h j (List.mem_range.mp hj)]
theorem row_at {n j : Nat} {g : Nat → Int} {k : Int} (h : j < n) (e : k = (j : Int)) : atI (rowV n g) k = some (V.int (g j)) := by
  rw [e]
  exact atI_nat (rowV_at h)
theorem ixN_nat' {n j : Nat} (hj : j < n) : ixN n (j : Int) = some j := by
  unfold ixN
  rw [if_pos (by omega), if_pos (by omega)]
  simp
theorem row_ix {n j : Nat} {g : Nat → Int} {k : Int} (h : j < n) (e : k = (j : Int)) : ixN (rowV n g).length k = some j := by
  rw [e, rowV_len]
  exact ixN_nat' h
theorem preC_lt {c : Nat} {f : Nat → Int} {j : Nat} (h : j < c) : preC c f j = f j := by
  unfold preC
  rw [dif_neg (by omega)]
theorem preC_add {c : Nat} {f : Nat → Int} {j : Nat} (h : 0 < c) : preC c f (c + j) = f (c + j) + preC c f j := by
  rw [preC, dif_pos ⟨h, by omega⟩, Nat.add_sub_cancel_left]
theorem choose_bound : ∀ c, c ≤ 12 → ∀ s, s ≤ 12 → -(2 ^ 64) < chooseL (c : Nat) s ∧ chooseL (c : Nat) s < 2 ^ 64 := by decide +kernel
def stage (c s : Nat) : Nat → Nat → Int
  | 0, _ => 0
  | 1, j => if j = c - s then 1 else 0
  | _ + 2, j => base0 c s j
def ser (c i s : Nat) : Int := chooseL c s * preC c (preN (c - s) (base0 c s)) i
theorem cut_ints (ns : List Int) (lo hi : Option Int) : ∃ ms : List Int, cutV (ns.map V.int) lo hi = ms.map V.int := by
  unfold cutV
  rw [← List.map_drop, ← List.map_take]
  exact ⟨_, rfl⟩
section
variable {P : Program} {w : World} {K : PySem.W.Frag} {mg : Str → Option Value} {base : Heap} {f : Addr} {fd : FuncData}
theorem sc__law_cell : FnScope ["_law_script", "_law_k"] ["_law_script", "_law_k"] (defScope s__law_cell) := ⟨rfl, rfl, rfl, by decide +kernel, rfl, by decide +kernel, by decide +kernel⟩
theorem sc__law_choose : FnScope ["_law_many", "_law_few", "_law_found", "_law_k"] ["_law_many", "_law_few"] (defScope s__law_choose) := ⟨rfl, rfl, rfl, by decide +kernel, rfl, by decide +kernel, by decide +kernel⟩
theorem sc__law_series : FnScope ["_law_count", "_law_inlined", "_law_staying", "_law_row", "_law_at", "_law_turn", "_law_k"] ["_law_count", "_law_inlined", "_law_staying"] (defScope s__law_series) := ⟨rfl, rfl, rfl, by decide +kernel, rfl, by decide +kernel, by decide +kernel⟩
theorem fn_cell (F : Df K mg "_law_cell" s__law_cell f fd) (B : Bl K mg) : Fn P w K mg base "_law_cell" 1 ["_law_script", "_law_k"] (spCell K) := by
  refine F.fn sc__law_cell (fun vs H Q E h => ?_) (fun _ _ _ _ _ _ us hl => match us, hl with | [_, _], _ => rfl) (fun cdv A outer s H vs Q E hr gd h => ?_)
  · obtain ⟨a, ns, k, rfl, _⟩ := h
    rfl
  obtain ⟨a, ns, k, rfl, hk, ha, q⟩ := h
  refine ⟨_, (pss_one (ps_ret (pe_ifExp (pt_cmpR op_lt (pv 1) (pe_callB (z_len (K := K)) rfl B.len_ (by decide +kernel) (pa_cons (pv 0) pa_nil)) (nomark _)) (pe_ix (z_ixL (K := K)) (pv 0) (pv 1) (fun _ _ => rfl)) (pe_op op_add (pe_op op_mul pe_int (pv 1)) (pe_op op_mod (pe_callTy z_int rfl B.int_ (by decide +kernel) (pa_cons (pe_callB (z_sum (K := K) rfl) rfl B.sum_ (by decide +kernel) (pa_cons (pe_slice (z_slL (K := K)) (pv 0) po_none (po_some pe_int)) pa_nil)) pa_nil)) pe_int))))), ?_⟩
  walk_at "go"
  refine g_ite (fun h => ?_) (fun h => ?_)
  · rw [List.length_map] at h
    walk_at "go"
    exact g_ixL ha (at_ok (ints_at (i := k) (by omega)) rfl) (q _ _ (Same.refl _))
  · walk_at "go"
    refine g_slL ha fun p hp => ?_
    obtain ⟨ms, e⟩ := cut_ints ns none (some 1)
    rw [e]
    walk_at "go"
    refine g_sum (.of upd_same) ?_
    walk_at "go"
    exact q _ _ (Same.new hp)
def spChoose : Sp := fun vs H Q _ => ∃ (m : Int) (k : Nat), vs = [.int m, .int k] ∧ k ≤ 12 ∧ (-100 ≤ m ∧ m ≤ 100) ∧ ∀ H', Same H H' → Q (.int (chooseL m k)) H'
theorem fn_choose (F : Df K mg "_law_choose" s__law_choose f fd) (B : Bl K mg) : Fn P w K mg base "_law_choose" 1 ["_law_many", "_law_few"] spChoose := by
  refine F.fn sc__law_choose (fun vs H Q E h => ?_) (fun _ _ _ _ _ _ us hl => match us, hl with | [_, _], _ => rfl) (fun cdv A outer s H vs Q E hr gd h => ?_)
  · obtain ⟨m, k, rfl, _⟩ := h
    rfl
  obtain ⟨m, k, rfl, hk, hm, q⟩ := h
  refine ⟨_, (pss_cons (ps_set (i := 2) sc__law_choose.nd rfl (Or.inl rfl) pe_int)
      (pss_cons (ps_for (passes_of rfl) rfl (pi_range1 rfl B.range_ (pa_cons (pv 1) pa_nil)) (pg_name (i := 3) sc__law_choose.nd rfl (Or.inl rfl)) (pss_one (ps_set (i := 2) sc__law_choose.nd rfl (Or.inl rfl) (pe_op op_fdiv (pe_op op_mul (pv 2) (pe_op op_sub (pv 0) (pv 3))) (pe_op op_add (pv 3) pe_int)))))
      (pss_one (ps_ret (pv 2))))), ?_⟩
  walk_at "go"
  refine forR1 (by omega) (by omega) (fun i τ G => ∃ z, τ = [some (.int m), some (.int k), some (.int (chooseL m i)), z] ∧ Same H G) ⟨none, rfl, Same.refl _⟩ ?_ ?_
  · rintro i τ G hi ⟨z, rfl, sG⟩
    walk_at "go"
    exact ⟨_, rfl, sG⟩
  · rintro τ G ⟨z, rfl, sG⟩
    walk_at "go"
    exact q _ sG
def spSeries : Sp := fun vs H Q _ => ∃ c i s : Nat, vs = [.int c, .int i, .int s] ∧ 1 ≤ c ∧ c ≤ 12 ∧ i ≤ 400 ∧ 1 ≤ s ∧ s ≤ c ∧ ∀ H', Same H H' → Q (.int (ser c i s)) H'
theorem fn_series (F : Df K mg "_law_series" s__law_series f fd) (B : Bl K mg) (F__law_choose : Fn P w K mg base "_law_choose" 1 ["_law_many", "_law_few"] spChoose) : Fn P w K mg base "_law_series" 2 ["_law_count", "_law_inlined", "_law_staying"] spSeries := by
  refine F.fn sc__law_series (fun vs H Q E h => ?_) (fun _ _ _ _ _ _ us hl => match us, hl with | [_, _, _], _ => rfl) (fun cdv A outer s H vs Q E hr gd h => ?_)
  · obtain ⟨c, i, s, rfl, _⟩ := h
    rfl
  obtain ⟨c, i, s, rfl, c1, c2, i2, s1, s2, q⟩ := h
  refine ⟨_, (pss_cons (ps_set (i := 3) sc__law_series.nd rfl (Or.inl rfl) (pe_op op_rep (pe_lst (pa_cons pe_int pa_nil)) (pe_op op_add (pv 1) pe_int)))
      (pss_cons (ps_for (passes_of rfl) rfl (z_piL (K := K) (pe_lst (pa_cons (pe_op op_sub (pv 0) (pv 2)) (pa_cons (pv 0) pa_nil)))) (pg_name (i := 4) sc__law_series.nd rfl (Or.inl rfl)) (pss_one (ps_if (pt_cmpR op_le (pv 4) (pv 1) (nomark _)) (pss_one (ps_asg (pe_op op_add (pe_ix (z_ixL (K := K)) (pv 3) (pv 4) (fun _ _ => rfl)) (pe_ifExp (pt_cmpR op_eq (pv 4) (pe_op op_sub (pv 0) (pv 2)) (nomark _)) pe_int (pe_un un_neg pe_int))) (pg_sub (pv 3) (pv 4) set_list))) pss_nil)))
      (pss_cons (ps_for (passes_of rfl) rfl (pi_range1 rfl B.range_ (pa_cons (pe_op op_sub (pv 0) (pv 2)) pa_nil)) (pg_name (i := 5) sc__law_series.nd rfl (Or.inl rfl)) (pss_one (ps_for (passes_of rfl) rfl (pi_range2 rfl B.range_ (pa_cons pe_int (pa_cons (pe_op op_add (pv 1) pe_int) pa_nil))) (pg_name (i := 6) sc__law_series.nd rfl (Or.inl rfl)) (pss_one (ps_asg (pe_op op_add (pe_ix (z_ixL (K := K)) (pv 3) (pv 6) (fun _ _ => rfl)) (pe_ix (z_ixL (K := K)) (pv 3) (pe_op op_sub (pv 6) pe_int) (fun _ _ => rfl))) (pg_sub (pv 3) (pv 6) set_list))))))
      (pss_cons (ps_for (passes_of rfl) rfl (pi_range2 rfl B.range_ (pa_cons (pv 0) (pa_cons (pe_op op_add (pv 1) pe_int) pa_nil))) (pg_name (i := 6) sc__law_series.nd rfl (Or.inl rfl)) (pss_one (ps_asg (pe_op op_add (pe_ix (z_ixL (K := K)) (pv 3) (pv 6) (fun _ _ => rfl)) (pe_ix (z_ixL (K := K)) (pv 3) (pe_op op_sub (pv 6) (pv 0)) (fun _ _ => rfl))) (pg_sub (pv 3) (pv 6) set_list))))
      (pss_one (ps_ret (pe_op op_mul (fcall F__law_choose (hr.mono (by decide)) gd (passes_call (takes_of rfl rfl rfl rfl) fun _ _ _ _ h => h) (pa_cons (pv 0) (pa_cons (pv 2) pa_nil))) (pe_ix (z_ixL (K := K)) (pv 3) (pv 1) (fun _ _ => rfl))))))))), ?_⟩
  walk_at "go"
  intro p0 hp0
  walk_at "go"
  intro p hp
  have e0 : List.replicate ((i : Int) + 1).toNat (V.int 0) = rowV (i + 1) (stage c s 0) := by
    rw [show ((i : Int) + 1).toNat = i + 1 by omega]
    unfold rowV
    show _ = (List.range (i + 1)).map fun _ => V.int 0
    rw [List.map_const', List.length_range]
  rw [e0]
  have hpn : H p = none := (Same.new hp0).free hp
  walk_at "go"
  intro l hl
  have npl : p ≠ l := fun z => by subst z; rw [upd_same] at hl; cases hl
  have S3 : Same H (upd (upd (upd H p0 (.lst [V.int 0])) p (.lst (rowV (i + 1) (stage c s 0)))) l (.lst [.int ((c : Int) - s), .int c])) := ((Same.new hp0).mut hpn).trans (Same.new hl)
  refine forL (.of upd_same) (fun k τ G => ∃ z4, τ = [some (.int c), some (.int i), some (.int s), some (.ref p), z4, none, none] ∧ Same H G ∧ G p = some (.lst (rowV (i + 1) (stage c s k))) ∧ G l = some (.lst [.int ((c : Int) - s), .int c]))
    ⟨none, rfl, S3, (upd_ne npl).trans upd_same, upd_same⟩ (fun k τ G _ ⟨_, _, _, _, e⟩ => .of e) ?_ ?_
  · rintro k x τ G hx ⟨z4, rfl, sG, eG, el⟩
    have put : ∀ {t : Nat}, t < i + 1 → ∀ d : Int, (∀ j, (if j = t then stage c s k t + d else stage c s k j) = stage c s (k + 1) j) → (rowV (i + 1) (stage c s k)).set t (V.int (stage c s k t + d)) = rowV (i + 1) (stage c s (k + 1)) := fun {t} h d q => by
      rw [rowV_set]
      exact rowV_congr fun j _ => q j
    have skip : ∀ {t : Nat}, i < t → (∀ j, j ≠ t → stage c s k j = stage c s (k + 1) j) → rowV (i + 1) (stage c s k) = rowV (i + 1) (stage c s (k + 1)) := fun {t} h q => rowV_congr fun j hj => q j (by omega)
    have hk : k = 0 ∨ k = 1 := by
      have := (List.getElem?_eq_some_iff.mp hx).1
      simp at this
      omega
    rcases hk with rfl | rfl
    · obtain rfl : V.int ((c : Int) - s) = x := by simpa using hx
      have q0 : ∀ j, (if j = c - s then stage c s 0 (c - s) + 1 else stage c s 0 j) = stage c s (0 + 1) j := fun j => by
        show (if j = c - s then (0 : Int) + 1 else 0) = if j = c - s then 1 else 0
        split <;> rfl
      walk_at "go"
      refine g_ite (fun h => ?_) (fun h => ?_)
      · walk_at "go"
        refine g_ixL (.of eG) (row_at (j := c - s) (by omega) (by omega)) ?_
        walk_at "go"
        rw [decide_eq_true rfl]
        walk_at "go"
        refine g_setL eG (row_ix (j := c - s) (by omega) (by omega)) ?_
        refine ⟨_, rfl, sG.mut hpn, ?_, (upd_ne npl.symm).trans el⟩
        rw [upd_same, put (by omega) 1 q0]
      · walk_at "go"
        refine ⟨_, rfl, sG, ?_, el⟩
        rw [eG, skip (t := c - s) (by omega) fun j hj => by rw [← q0 j, if_neg hj]]
    · obtain rfl : V.int (c : Int) = x := by simpa using hx
      have q0 : ∀ j, (if j = c then stage c s 1 c + (-1) else stage c s 1 j) = stage c s (1 + 1) j := fun j => by
        show (if j = c then (if c = c - s then (1 : Int) else 0) + (-1) else (if j = c - s then 1 else 0)) = (if j = c - s then 1 else 0) + (if j = c then -1 else 0)
        by_cases h : j = c
        · rw [if_pos h, if_pos h, if_neg (by omega : ¬ c = c - s), if_neg (by omega : ¬ j = c - s)]
        · rw [if_neg h, if_neg h, Int.add_zero]
      walk_at "go"
      refine g_ite (fun h => ?_) (fun h => ?_)
      · walk_at "go"
        refine g_ixL (.of eG) (row_at (j := c) (by omega) (by omega)) ?_
        walk_at "go"
        rw [decide_eq_false (fun z => by have := V.int.inj z; omega)]
        walk_at "go"
        refine g_setL eG (row_ix (j := c) (by omega) (by omega)) ?_
        refine ⟨_, rfl, sG.mut hpn, ?_, (upd_ne npl.symm).trans el⟩
        rw [upd_same, put (by omega) (-1) q0]
      · walk_at "go"
        refine ⟨_, rfl, sG, ?_, el⟩
        rw [eG, skip (t := c) (by omega) fun j hj => by rw [← q0 j, if_neg hj]]
  · rintro τ G ⟨z4, rfl, sG, eG, _⟩
    walk_at "go"
    have e2 : rowV (i + 1) (stage c s 2) = rowV (i + 1) (preN 0 (base0 c s)) := rfl
    refine forR1 (by omega) (by omega) (fun t τ G => ∃ z4 z5 z6, τ = [some (.int c), some (.int i), some (.int s), some (.ref p), z4, z5, z6] ∧ Same H G ∧ G p = some (.lst (rowV (i + 1) (preN t (base0 c s)))))
      ⟨z4, none, none, rfl, sG, eG⟩ ?_ ?_
    · rintro t τ G ht ⟨z4, z5, z6, rfl, sG, eG⟩
      walk_at "go"
      refine forR2 (by omega) (by omega) (by omega) (by omega) (fun n τ G => ∃ z4 z5 z6, τ = [some (.int c), some (.int i), some (.int s), some (.ref p), z4, z5, z6] ∧ Same H G ∧ G p = some (.lst (rowV (i + 1) fun j => if j ≤ n then preS (preN t (base0 c s)) j else preN t (base0 c s) j)))
        ⟨_, _, _, rfl, sG, ?_⟩ ?_ ?_
      · rw [eG]
        congr 2
        refine rowV_congr fun j _ => ?_
        split
        · have : j = 0 := by omega
          subst this
          rfl
        · rfl
      · rintro n τ G hn ⟨z4, z5, z6, rfl, sG, eG⟩
        walk_at "go"
        refine g_ixL (.of eG) (row_at (j := n + 1) (by omega) (by omega)) ?_
        walk_at "go"
        refine g_ixL (.of eG) (row_at (j := n) (by omega) (by omega)) ?_
        walk_at "go"
        refine g_setL eG (row_ix (j := n + 1) (by omega) (by omega)) ?_
        refine ⟨_, _, _, rfl, sG.mut hpn, ?_⟩
        rw [upd_same, if_neg (by omega), if_pos (Nat.le_refl _), rowV_set]
        congr 2
        refine rowV_congr fun j _ => ?_
        by_cases h : j = n + 1
        · rw [if_pos h, if_pos (by omega), h]
          rfl
        · rw [if_neg h]
          by_cases h2 : j ≤ n
          · rw [if_pos h2, if_pos (by omega)]
          · rw [if_neg h2, if_neg (by omega)]
      · rintro τ G ⟨z4, z5, z6, rfl, sG, eG⟩
        refine ⟨_, _, _, rfl, sG, ?_⟩
        rw [eG]
        congr 2
        refine rowV_congr fun j hj => ?_
        rw [if_pos (by omega)]
        rfl
    · rintro τ G ⟨z4, z5, z6, rfl, sG, eG⟩
      rw [show ((c : Int) - s).toNat = c - s by omega] at eG
      walk_at "go"
      refine forR2 (by omega) (by omega) (by omega) (by omega) (fun n τ G => ∃ z4 z5 z6, τ = [some (.int c), some (.int i), some (.int s), some (.ref p), z4, z5, z6] ∧ Same H G ∧ G p = some (.lst (rowV (i + 1) fun j => if j < c + n then preC c (preN (c - s) (base0 c s)) j else preN (c - s) (base0 c s) j)))
        ⟨_, _, _, rfl, sG, ?_⟩ ?_ ?_
      · rw [eG]
        congr 2
        refine rowV_congr fun j _ => ?_
        split
        · rw [preC_lt (by omega)]
        · rfl
      · rintro n τ G hn ⟨z4, z5, z6, rfl, sG, eG⟩
        walk_at "go"
        refine g_ixL (.of eG) (row_at (j := c + n) (by omega) (by omega)) ?_
        walk_at "go"
        refine g_ixL (.of eG) (row_at (j := n) (by omega) (by omega)) ?_
        walk_at "go"
        refine g_setL eG (row_ix (j := c + n) (by omega) (by omega)) ?_
        refine ⟨_, _, _, rfl, sG.mut hpn, ?_⟩
        rw [upd_same, if_neg (by omega), if_pos (by omega), rowV_set]
        congr 2
        refine rowV_congr fun j _ => ?_
        by_cases h : j = c + n
        · rw [if_pos h, if_pos (by omega), h, preC_add (by omega)]
        · rw [if_neg h]
          by_cases h2 : j < c + n
          · rw [if_pos h2, if_pos (by omega)]
          · rw [if_neg h2, if_neg (by omega)]
      · rintro τ G ⟨z4, z5, z6, rfl, sG, eG⟩
        walk_at "go"
        refine ⟨c, s, rfl, by omega, by omega, fun H2 sG2 => ?_⟩
        walk_at "go"
        refine g_ixL (.of (sG2 _ _ eG)) (row_at (j := i) (by omega) rfl) ?_
        have cb := choose_bound c c2 s (by omega)
        walk_at "go"
        have q2 := q _ (sG.trans sG2)
        unfold ser at q2
        by_cases h : i < c + (((i : Int) + 1 - c).toNat)
        · rw [if_pos h]
          exact q2
        · rw [if_neg h]
          rw [preC_lt (by omega)] at q2
          exact q2
end
end Z
set_option Elab.async false
set_option linter.all false
set_option maxRecDepth 100000
set_option maxHeartbeats 4000000
namespace Z
open PySem PySem.Spec PyProof.Rows L2
local macro_rules | `(tactic| walk_at "hp") => `(tactic| first | assumption | exact upd_same | exact (upd_ne (by assumption)).trans (by assumption))
local macro_rules | `(tactic| walk_at "side") => `(tactic| first | assumption | omega | (exact ⟨by omega, by omega⟩) | (exact Or.inl ⟨by omega, by omega⟩) | (exact Or.inr ⟨by omega, by omega⟩) | (exact ⟨by omega, by omega, by omega⟩))
local macro_rules | `(tactic| walk_at "st") => `(tactic| first
  | (with_reducible first
  | refine g_seq ?_ | refine g_asg ?_ | refine g_op ?_ | refine g_var rfl ?_ | refine g_c ?_ | refine g_I0 ?_ | refine g_cons ?_ | refine g_nil ?_ | refine g_name rfl ?_ | refine g_ret ?_ | refine g_ifs ?_ | refine g_test ?_ | refine g_bl ?_
  | refine g_cb ?_ | refine g_call ?_ | refine g_drop ?_ | refine g_next ?_ | refine g_and ?_ | refine g_or ?_ | refine g_not ?_ | refine g_if ?_ | refine g_notV ?_ | refine g_andV ?_ | refine g_orV ?_ | refine g_chain ?_ | refine g_un ?_ | refine g_U ?_ | refine g_lst ?_ | refine g_tup ?_ | refine g_sub ?_ | refine g_B ?_ | refine g_int1 ?_ | refine g_trub ?_
  | refine g_eq rfl ?_ | refine g_ne rfl ?_ | refine g_tt ?_ | refine g_ff ?_ | refine g_nt ?_ | refine g_nf ?_ | refine g_retN ?_ | refine g_rs ?_ | refine g_lc ?_ | refine g_for ?_ | refine g_iL ?_ | refine g_iT ?_ | refine g_iR1 ?_ | refine g_iR2 ?_ | refine g_iR3 ?_ | refine g_yes ?_ | refine g_truth ?_ | refine g_gcons ?_ | refine g_gnil ?_ | refine g_par ?_ | refine g_par3 ?_ | refine g_ex2 ?_ | refine g_ex3 ?_ | refine g_bm ?_ | refine g_bm0 ?_ | refine g_aug rfl ?_ | refine g_ipI ?_ | refine g_iK ?_ | refine g_dc ?_ | refine g_dget ?_ | refine g_int ?_ | refine g_intB ?_ | refine g_abs ?_ | refine g_max2 ?_ | refine g_min2 ?_ | refine g_sl ?_ | refine g_nopart ?_ | refine g_part ?_ | refine g_dput ?_ | refine g_lstrg ?_ | refine g_rg1 ?_ | refine g_exi ?_)
  | ((with_reducible refine k_slL ?_); refine g_slL (SqL.of (by walk_at "hp")) ?_) | ((with_reducible refine k_listOf ?_); refine g_listOf (.inl (SqL.of (by walk_at "hp"))) ?_) | ((with_reducible refine k_rep ?_); refine g_rep (by walk_at "hp") (by omega) ?_) | ((with_reducible refine k_len ?_); refine g_len (SqL.of (by walk_at "hp")) ?_) | ((with_reducible refine k_len ?_); refine g_len (by assumption) ?_) | ((with_reducible refine k_tyL ?_); refine g_tyL (by walk_at "hp") ?_) | ((with_reducible refine k_gT ?_); refine g_gT (SqT.of (by walk_at "hp")) rfl ?_) | ((with_reducible refine k_gL ?_); refine g_gL (SqL.of (by walk_at "hp")) rfl ?_) | ((with_reducible refine k_ixL ?_); refine g_ixL (SqL.of (by walk_at "hp")) rfl ?_) | ((with_reducible refine k_ixL ?_); refine g_rd (by walk_at "hp") (by walk_at "side") ?_) | ((with_reducible refine k_ixL ?_); refine g_rdI (by walk_at "hp") (by omega) (by omega) ?_) | ((with_reducible refine k_setL ?_); refine g_setL (by walk_at "hp") rfl ?_) | ((with_reducible refine k_new ?_); refine g_new rfl ?_) | ((with_reducible refine k_I ?_); refine g_I (by walk_at "side") ?_))
local macro_rules | `(tactic| walk_at "go") => `(tactic| repeat walk_at "st")

/-! the law's own walks round a wheel -/
def stp (w : List Int) (x : Nat) : Nat := (((x : Int) + w.getD x 0) % (w.length : Int)).toNat
def itn (w : List Int) : Nat → Nat → Nat
  | 0, x => x
  | k + 1, x => stp w (itn w k x)
def lp (w : List Int) (f : Nat) : Nat → Nat × Int × List Nat
  | 0 => (stp w f, w.getD f 0, [f])
  | k + 1 => let r := lp w f k
    if r.1 = f then r else (stp w r.1, r.2.1 + w.getD r.1 0, r.2.2 ++ [r.1])
def rnd (w : List Int) : Nat :=
  let r := lp w (itn w w.length 0) w.length
  if r.2.1 ≠ (w.length : Int) then 0 else if (List.range w.length).all (fun f => decide (itn w w.length f ∈ r.2.2)) then r.2.2.length else 0
theorem stp_lt {w : List Int} {x : Nat} (h : 0 < w.length) : stp w x < w.length := by
  unfold stp
  have h1 := Int.emod_nonneg ((x : Int) + w.getD x 0) (show (w.length : Int) ≠ 0 by omega)
  have h2 := Int.emod_lt_of_pos ((x : Int) + w.getD x 0) (show (0 : Int) < w.length by omega)
  omega
theorem stp_int {w : List Int} {x : Nat} (h : 0 < w.length) : ((x : Int) + w.getD x 0) % (w.length : Int) = (stp w x : Nat) := by
  unfold stp
  have h1 := Int.emod_nonneg ((x : Int) + w.getD x 0) (show (w.length : Int) ≠ 0 by omega)
  omega
theorem itn_lt {w : List Int} {k x : Nat} (h : 0 < w.length) (hx : x < w.length) : itn w k x < w.length := by
  cases k with
  | zero => exact hx
  | succ k => exact stp_lt h
theorem lp_lt {w : List Int} {f : Nat} (h : 0 < w.length) (hf : f < w.length) : ∀ k, (lp w f k).1 < w.length ∧ (lp w f k).2.2.length ≤ k + 1 ∧ ∀ x ∈ (lp w f k).2.2, x < w.length
  | 0 => ⟨stp_lt h, Nat.le_refl _, fun x hx => by rw [List.mem_singleton.mp hx]; exact hf⟩
  | k + 1 => by
    obtain ⟨h1, h2, h3⟩ := lp_lt h hf k
    unfold lp
    dsimp only
    split
    · exact ⟨h1, by omega, h3⟩
    · refine ⟨stp_lt h, by rw [List.length_append, List.length_singleton]; omega, fun x hx => ?_⟩
      rcases List.mem_append.mp hx with hx | hx
      · exact h3 x hx
      · rw [List.mem_singleton.mp hx]; exact h1
def lists : Nat → Nat → List (List Int)
  | 0, _ => []
  | 1, t => if 0 < t then [[(t : Int)]] else []
  | m + 2, t => (List.range (t - 1)).flatMap fun i => (lists (m + 1) (t - (i + 1))).map fun r => ((1 + (i : Int)) :: r)
/-- the first n parts of the last -/
def listsTo (m t n : Nat) : List (List Int) := (List.range n).flatMap fun i => (lists (m + 1) (t - (i + 1))).map fun r => ((1 + (i : Int)) :: r)
theorem listsTo_step {m t n : Nat} : listsTo m t (n + 1) = listsTo m t n ++ (lists (m + 1) (t - (n + 1))).map fun r => ((1 + (n : Int)) :: r) := by
  unfold listsTo
  rw [List.range_succ, List.flatMap_append]
  simp
theorem lists_small : ∀ m, m < 4 → ∀ t, t < 13 → ∀ n, n < 13 → (listsTo m t n).length ≤ 2000 ∧ (lists (m + 1) t).length ≤ 2000 := by decide +kernel
theorem lists_len : ∀ m t, ∀ r ∈ lists m t, r.length = m
  | 0, _, r, h => by cases h
  | 1, t, r, h => by
    unfold lists at h
    split at h
    · rw [List.mem_singleton.mp h]; rfl
    · cases h
  | m + 2, t, r, h => by
    unfold lists at h
    obtain ⟨i, _, h2⟩ := List.mem_flatMap.mp h
    obtain ⟨r', h3, e⟩ := List.mem_map.mp h2
    rw [← e, List.length_cons, lists_len (m + 1) _ r' h3]
/-- how many of the first n wheels turn on j functions -/
def cntN (l : List (List Int)) (n j : Nat) : Int := (((l.take n).filter fun w => decide (rnd w = j)).length : Nat)
def isSmall (c i : Nat) : Bool := (decide (c < 4) && decide (i < 9)) || (decide (c = 4) && decide (i < 5))
theorem rnd_small : ∀ c, c < 5 → ∀ i, i < 9 → isSmall c i = true → ∀ w ∈ lists c (c + i), rnd w ≤ c := by decide +kernel
theorem cntN_step {l : List (List Int)} {n : Nat} {w : List Int} (h : l[n]? = some w) (j : Nat) : cntN l (n + 1) j = cntN l n j + if j = rnd w then 1 else 0 := by
  unfold cntN
  rw [List.take_succ, h, List.filter_append, List.length_append]
  simp only [Option.toList_some, List.filter_cons, List.filter_nil]
  by_cases e : rnd w = j
  · rw [if_pos e.symm, if_pos (decide_eq_true e)]
    simp
  · rw [if_neg (Ne.symm e), if_neg (by simpa using e)]
    simp
def dI (ns : List Int) : PyData := .list (ns.map PyData.int)
theorem Dts.dI {H : Hp} : ∀ {ys : List V} {l : List (List Int)} {i : Nat} {x : V}, Dts H ys (l.map Z.dI) → ys[i]? = some x → ∃ (a : Addr) (ns : List Int), l[i]? = some ns ∧ x = .ref a ∧ H a = some (.lst (ns.map V.int)) := by
  intro ys l i x h e
  obtain ⟨d, e1, e2⟩ := h.get e
  rw [List.getElem?_map] at e1
  cases q : l[i]? with
  | none => rw [q] at e1; cases e1
  | some ns =>
    rw [q] at e1
    cases e1
    cases e2 with
    | lst ea nb r => exact ⟨_, ns, rfl, rfl, by rw [← r.ints]; exact ea⟩
theorem Dt.of_ints {H : Hp} {a : Addr} {ns : List Int} (h : H a = some (.lst (ns.map V.int))) : Dt H (.ref a) (Z.dI ns) :=
  .lst h (notboxy (H := H) (Dts.of_ints ns) fun d hd b => by obtain ⟨i, _, rfl⟩ := List.mem_map.mp hd; intro z; cases z) (Dts.of_ints ns)
theorem Dts.dodge {G X : Hp} {pf D2 : Addr} {ysf : List V} {l : List (List Int)} (h1 : G pf = some (.lst ysf)) (h2 : Dts X ysf (l.map Z.dI)) : ∀ {ys2 : List V} {l2 : List (List Int)}, (∀ r ∈ l2, r ≠ []) → Dts (del G D2) ys2 (l2.map Z.dI) → Dts (del G pf) ys2 (l2.map Z.dI)
  | _, [], _, h => by cases h; exact .nil
  | _, r :: l2, hr, h => by
    cases h with
    | cons a b =>
      refine .cons ?_ (Dts.dodge h1 h2 (fun x hx => hr x (by simp [hx])) b)
      cases a with
      | @lst a xs _ ea nb q =>
        have e : xs = r.map V.int := q.ints
        rw [e] at ea
        have eg := Same.ofDel _ _ ea
        have ne : a ≠ pf := fun z => by
          rw [z, h1] at eg
          cases eg
          cases r with
          | nil => exact hr [] (by simp) rfl
          | cons r0 r' =>
            cases l with
            | nil => cases h2
            | cons l0 l' =>
              cases h2 with
              | cons y _ => cases y
        exact Dt.of_ints (by rw [del_ne ne]; exact eg)
theorem outs_get {α : Type} {g : α → PyData} : ∀ l : List α, outs l.length (fun i => (l[i]?).map g) = l.map g := by
  intro l
  unfold outs
  induction l with
  | nil => rfl
  | cons x r ih =>
    rw [List.length_cons, List.range_succ_eq_map, List.filterMap_cons_some (b := g x) (by simp), List.filterMap_map, List.map_cons, ← ih]
    congr 1
section
variable {P : Program} {w : World} {K : PySem.W.Frag} {mg : Str → Option Value} {base : Heap} {f : Addr} {fd : FuncData}
theorem sc__law_rounds : FnScope ["_law_wheel", "_law_many", "_law_here", "_law_first", "_law_gone", "_law_turn", "_law_found", "_law_function"] ["_law_wheel"] (defScope s__law_rounds) := ⟨rfl, rfl, rfl, by decide +kernel, rfl, by decide +kernel, by decide +kernel⟩
theorem sc__law_lists : FnScope ["_law_many", "_law_total", "_law_found", "_law_first", "_law_rest"] ["_law_many", "_law_total"] (defScope s__law_lists) := ⟨rfl, rfl, rfl, by decide +kernel, rfl, by decide +kernel, by decide +kernel⟩
theorem sc__law_listed : FnScope ["_law_count", "_law_inlined", "_law_found", "_law_wheel", "_law_at"] ["_law_count", "_law_inlined"] (defScope s__law_listed) := ⟨rfl, rfl, rfl, by decide +kernel, rfl, by decide +kernel, by decide +kernel⟩
def spRounds : Sp := fun vs H Q _ => ∃ (a : Addr) (ns : List Int), vs = [.ref a] ∧ H a = some (.lst (ns.map V.int)) ∧ 1 ≤ ns.length ∧ ns.length ≤ 1000 ∧ ∀ H', Same H H' → Q (.int (rnd ns)) H'
theorem fn_rounds (F : Df K mg "_law_rounds" s__law_rounds f fd) (B : Bl K mg) : Fn P w K mg base "_law_rounds" 1 ["_law_wheel"] spRounds := by
  refine F.fn sc__law_rounds (fun vs H Q E h => ?_) (fun _ _ _ _ _ _ us hl => match us, hl with | [_], _ => rfl) (fun cdv A outer s H vs Q E hr gd h => ?_)
  · obtain ⟨a, ns, rfl, _⟩ := h
    rfl
  obtain ⟨a, ns, rfl, ha, n1, n2, q⟩ := h
  refine ⟨_, (pss_cons (ps_asg (pe_tup (pa_cons (pe_callB (z_len (K := K)) rfl B.len_ (by decide +kernel) (pa_cons (pv 0) pa_nil)) (pa_cons pe_int (pa_cons pe_int (pa_cons pe_int pa_nil))))) (z_gT (K := K) rfl (pgs_cons (pg_name (i := 1) sc__law_rounds.nd rfl (Or.inl rfl)) (pgs_cons (pg_name (i := 2) sc__law_rounds.nd rfl (Or.inl rfl)) (pgs_cons (pg_name (i := 3) sc__law_rounds.nd rfl (Or.inl rfl)) (pgs_cons (pg_name (i := 4) sc__law_rounds.nd rfl (Or.inl rfl)) pgs_nil))))))
      (pss_cons (ps_for (passes_of rfl) rfl (pi_range1 rfl B.range_ (pa_cons (pv 1) pa_nil)) (pg_name (i := 5) sc__law_rounds.nd rfl (Or.inl rfl)) (pss_one (ps_set (i := 3) sc__law_rounds.nd rfl (Or.inl rfl) (pe_op op_mod (pe_callTy z_int rfl B.int_ (by decide +kernel) (pa_cons (pe_op op_add (pv 3) (pe_ix (z_ixL (K := K)) (pv 0) (pv 3) (fun _ _ => rfl))) pa_nil)) (pv 1)))))
      (pss_cons (ps_par3 (i := 2) (j := 4) (l := 6) rfl sc__law_rounds.nd rfl rfl rfl (by decide) (by decide) (by decide) rfl rfl rfl (pa_cons (pe_op op_mod (pe_callTy z_int rfl B.int_ (by decide +kernel) (pa_cons (pe_op op_add (pv 3) (pe_ix (z_ixL (K := K)) (pv 0) (pv 3) (fun _ _ => rfl))) pa_nil)) (pv 1)) (pa_cons (pe_ix (z_ixL (K := K)) (pv 0) (pv 3) (fun _ _ => rfl)) (pa_cons (pe_lst (pa_cons (pv 3) pa_nil)) pa_nil))) (by rfl))
      (pss_cons (ps_for (passes_of rfl) rfl (pi_range1 rfl B.range_ (pa_cons (pv 1) pa_nil)) (pg_name (i := 5) sc__law_rounds.nd rfl (Or.inl rfl)) (pss_one (ps_if (pt_cmpR op_ne (pv 2) (pv 3) (nomark _)) (pss_cons (ps_expr (z_bm (K := K) PySem.F.plainAttrs_list PySem.F.slot_list_append PySem.F.type_list_append mt_append (pv 6) (pa_cons (pv 2) pa_nil)))
      (pss_one (ps_par (i := 4) (j := 2) rfl sc__law_rounds.nd rfl rfl (by decide) rfl rfl (pa_cons (pe_op op_add (pv 4) (pe_ix (z_ixL (K := K)) (pv 0) (pv 2) (fun _ _ => rfl))) (pa_cons (pe_op op_mod (pe_callTy z_int rfl B.int_ (by decide +kernel) (pa_cons (pe_op op_add (pv 2) (pe_ix (z_ixL (K := K)) (pv 0) (pv 2) (fun _ _ => rfl))) pa_nil)) (pv 1)) pa_nil)) (by rfl)))) pss_nil)))
      (pss_cons (ps_if (pt_cmpR op_ne (pv 4) (pv 1) (nomark _)) (pss_one (ps_ret pe_int)) pss_nil)
      (pss_cons (ps_for (passes_of rfl) rfl (pi_range1 rfl B.range_ (pa_cons (pv 1) pa_nil)) (pg_name (i := 7) sc__law_rounds.nd rfl (Or.inl rfl)) (pss_cons (ps_set (i := 2) sc__law_rounds.nd rfl (Or.inl rfl) (pv 7))
      (pss_cons (ps_for (passes_of rfl) rfl (pi_range1 rfl B.range_ (pa_cons (pv 1) pa_nil)) (pg_name (i := 5) sc__law_rounds.nd rfl (Or.inl rfl)) (pss_one (ps_set (i := 2) sc__law_rounds.nd rfl (Or.inl rfl) (pe_op op_mod (pe_callTy z_int rfl B.int_ (by decide +kernel) (pa_cons (pe_op op_add (pv 2) (pe_ix (z_ixL (K := K)) (pv 0) (pv 2) (fun _ _ => rfl))) pa_nil)) (pv 1)))))
      (pss_one (ps_if (pt_cmpR (z_notIn (K := K)) (pv 2) (pv 6) (by rfl)) (pss_one (ps_ret pe_int)) pss_nil)))))
      (pss_one (ps_ret (pe_callB (z_len (K := K)) rfl B.len_ (by decide +kernel) (pa_cons (pv 6) pa_nil)))))))))), ?_⟩
  walk_at "go"
  intro p0 hp0
  rw [List.length_map]
  walk_at "go"
  have n3 : 0 < ns.length := n1
  have z0 : 0 < ns.length := n3
  have S0 : Same H (upd H p0 (.tup [V.int ns.length, V.int 0, V.int 0, V.int 0])) := Same.new hp0
  refine forR1 (by omega) (by omega) (fun k τ G => ∃ z5, τ = [some (.ref a), some (.int ns.length), some (.int 0), some (.int (itn ns k 0 : Nat)), some (.int 0), z5, none, none] ∧ Same H G) ⟨none, rfl, S0⟩ ?_ ?_
  · rintro k τ G hk ⟨z5, rfl, sG⟩
    have hx := itn_lt (k := k) n3 z0
    have e := sG _ _ ha
    walk_at "go"
    rw [stp_int n3]
    exact ⟨_, rfl, sG⟩
  rintro τ G ⟨z5, rfl, sG⟩
  rw [Int.toNat_natCast]
  generalize hf0 : itn ns ns.length 0 = fi
  have hfi : fi < ns.length := by rw [← hf0]; exact itn_lt n3 z0
  have e := sG _ _ ha
  walk_at "go"
  intro pf hpf
  walk_at "go"
  rw [stp_int n3]
  have npf : H pf = none := sG.free hpf
  have af : a ≠ pf := ne_of_none ha npf
  refine forR1 (by omega) (by omega) (fun k τ G => ∃ z5, τ = [some (.ref a), some (.int ns.length), some (.int ((lp ns fi k).1 : Nat)), some (.int fi), some (.int (lp ns fi k).2.1), z5, some (.ref pf), none] ∧ Same H G ∧ G pf = some (.lst (nV (lp ns fi k).2.2)))
    ⟨_, rfl, sG.mut npf, upd_same⟩ ?_ ?_
  · rintro k τ G2 hk ⟨z5, rfl, sG2, ef⟩
    obtain ⟨l1, l2, l3⟩ := lp_lt n3 hfi k
    have e := sG2 _ _ ha
    walk_at "go"
    refine g_iten (fun h => ?_) (fun h => ?_)
    · walk_at "go"
      refine g_append ef (by unfold nV; rw [List.length_map]; exact Nat.lt_of_lt_of_le (by omega : _ < 100000) sz5) ?_
      have e2 : upd G2 pf (.lst (nV (lp ns fi k).2.2 ++ [V.int ((lp ns fi k).1 : Nat)])) a = some (.lst (ns.map V.int)) := (upd_ne af).trans e
      walk_at "go"
      rw [stp_int n3]
      have hne : ¬ (lp ns fi k).1 = fi := fun z => h (by rw [z])
      have er : lp ns fi (k + 1) = (stp ns (lp ns fi k).1, (lp ns fi k).2.1 + ns.getD (lp ns fi k).1 0, (lp ns fi k).2.2 ++ [(lp ns fi k).1]) := if_neg hne
      refine ⟨some (.int k), ?_, sG2.mut npf, ?_⟩
      · rw [er]
        rfl
      · rw [upd_same, er]
        unfold nV
        rw [List.map_append]
        rfl
    · walk_at "go"
      have heq : (lp ns fi k).1 = fi := by have := V.int.inj h; omega
      have er : lp ns fi (k + 1) = lp ns fi k := if_pos heq
      rw [er]
      exact ⟨_, rfl, sG2, ef⟩
  rintro τ G2 ⟨z5, rfl, sG2, ef⟩
  rw [Int.toNat_natCast] at *
  have er : rnd ns = if (lp ns fi ns.length).2.1 ≠ (ns.length : Int) then 0 else if (List.range ns.length).all (fun f => decide (itn ns ns.length f ∈ (lp ns fi ns.length).2.2)) then (lp ns fi ns.length).2.2.length else 0 := by
    rw [← hf0]
    rfl
  generalize lp ns fi ns.length = R at er ef
  rw [er] at q
  walk_at "go"
  refine g_iten (fun h => ?_) (fun h => ?_)
  · walk_at "go"
    rw [if_pos (fun z => h (by rw [z]))] at q
    exact q _ sG2
  walk_at "go"
  rw [if_neg (fun z => z (V.int.inj h))] at q
  refine forR1 (by omega) (by omega) (fun k τ G => ∃ z2 z5 z7, τ = [some (.ref a), some (.int ns.length), z2, some (.int fi), some (.int R.2.1), z5, some (.ref pf), z7] ∧ Same H G ∧ G pf = some (.lst (nV R.2.2)) ∧ ∀ f, f < k → itn ns ns.length f ∈ R.2.2)
    ⟨_, _, _, rfl, sG2, ef, fun f h => absurd h (Nat.not_lt_zero f)⟩ ?_ ?_
  · rintro k τ G3 hk ⟨z2, z5, z7, rfl, sG3, ef3, hin⟩
    walk_at "go"
    refine forR1 (by omega) (by omega) (fun j τ G => ∃ z5, τ = [some (.ref a), some (.int ns.length), some (.int (itn ns j k : Nat)), some (.int fi), some (.int R.2.1), z5, some (.ref pf), some (.int k)] ∧ Same H G ∧ G pf = some (.lst (nV R.2.2)))
      ⟨_, rfl, sG3, ef3⟩ ?_ ?_
    · rintro j τ G4 hj ⟨z5, rfl, sG4, ef4⟩
      have hx := itn_lt (k := j) (x := k) n3 (by omega)
      have e := sG4 _ _ ha
      walk_at "go"
      rw [stp_int n3]
      exact ⟨_, rfl, sG4, ef4⟩
    · rintro τ G4 ⟨z5, rfl, sG4, ef4⟩
      rw [Int.toNat_natCast]
      walk_at "go"
      rw [nV_ints] at ef4
      refine g_notIn (.inl (.of ef4)) rfl flat_ints ?_
      rw [inV_ints]
      walk_at "go"
      refine g_iten (fun h => ?_) (fun h => ?_)
      · walk_at "go"
        rw [if_neg (fun z => h (by
          have := List.all_eq_true.mp z k (List.mem_range.mpr (by omega))
          exact List.mem_map.mpr ⟨_, of_decide_eq_true this, rfl⟩))] at q
        exact q _ sG4
      · walk_at "go"
        refine ⟨_, _, _, rfl, sG4, by rw [nV_ints]; exact ef4, fun f hf => ?_⟩
        by_cases ek : f = k
        · rw [ek]
          obtain ⟨y, hy, ey⟩ := List.mem_map.mp h
          have : y = itn ns ns.length k := by omega
          rwa [← this]
        · exact hin f (by omega)
  · rintro τ G3 ⟨z2, z5, z7, rfl, sG3, ef3, hin⟩
    walk_at "go"
    rw [if_pos (List.all_eq_true.mpr fun f hf => decide_eq_true (hin f (by have := List.mem_range.mp hf; omega)))] at q
    have el : (nV R.2.2).length = R.2.2.length := by unfold nV; rw [List.length_map]
    rw [el]
    exact q _ sG3
def spLists (d : Nat) : Sp := fun vs H Q _ => ∃ m t : Nat, vs = [.int m, .int t] ∧ 1 ≤ m ∧ m ≤ d ∧ m ≤ 4 ∧ t < 13 ∧ ∀ D ys H', H D = none → Same H H' → H' D = some (.lst ys) → Dts (del H' D) ys ((lists m t).map dI) → Q (.ref D) H'
theorem fn_lists (F : Df K mg "_law_lists" s__law_lists f fd) (B : Bl K mg) : ∀ d : Nat, Fn P w K mg base "_law_lists" (d + 1) ["_law_many", "_law_total"] (spLists d)
  | 0 => F.fn sc__law_lists (fun vs H Q E h => by obtain ⟨m, t, rfl, _⟩ := h; rfl) (fun _ _ _ _ _ _ us hl => match us, hl with | [_, _], _ => rfl) (fun cdv A outer s H vs Q E hr gd h => by obtain ⟨m, t, _, h1, h2, _⟩ := h; omega)
  | d + 1 => by
    have F__law_lists := fn_lists F B d
    refine F.fn sc__law_lists (fun vs H Q E h => ?_) (fun _ _ _ _ _ _ us hl => match us, hl with | [_, _], _ => rfl) (fun cdv A outer s H vs Q E hr gd h => ?_)
    · obtain ⟨m, t, rfl, _⟩ := h
      rfl
    obtain ⟨m, t, rfl, m1, m2, m3, t1, q⟩ := h
    refine ⟨_, (pss_cons (ps_if (pt_cmpR op_eq (pv 0) pe_int (nomark _)) (pss_one (ps_ret (pe_ifExp (pt_cmpR op_gt (pv 1) pe_int (nomark _)) (pe_lst (pa_cons (pe_lst (pa_cons (pv 1) pa_nil)) pa_nil)) (pe_lst pa_nil)))) pss_nil)
      (pss_cons (ps_set (i := 2) sc__law_lists.nd rfl (Or.inl rfl) (pe_lst pa_nil))
      (pss_cons (ps_for (passes_of rfl) rfl (pi_range2 rfl B.range_ (pa_cons pe_int (pa_cons (pv 1) pa_nil))) (pg_name (i := 3) sc__law_lists.nd rfl (Or.inr rfl)) (pss_one (ps_expr (z_bm (K := K) PySem.F.plainAttrs_list PySem.F.slot_list_extend PySem.F.type_list_extend mt_extend (pv 2) (pa_cons (pe_lc (own := [("_law_rest", 4)]) (g := gName 4) rfl sc__law_lists.nd (z_piL (K := K) (fcall F__law_lists (hr.mono (by omega)) gd (passes_call (takes_of rfl rfl rfl rfl) fun _ _ _ _ h => h) (pa_cons (pe_op op_sub (pv 0) pe_int) (pa_cons (pe_op op_sub (pv 1) (pv 3)) pa_nil)))) (blkOk_by (own := [("_law_rest", 4)]) (N := ["_law_many", "_law_total", "_law_found", "_law_first", "_law_rest"]) (sc := defScope s__law_lists) (by decide +kernel)) (fun _ _ _ _ _ => pg_name (i := 4) sc__law_lists.nd rfl (Or.inl rfl)) (fun _ _ _ _ _ => pts_nil) (fun _ _ _ _ _ => pe_op op_cat (pe_lst (pa_cons (pv 3) pa_nil)) (pv 4))) pa_nil)))))
      (pss_one (ps_ret (pv 2)))))), ?_⟩
    walk_at "go"
    refine g_ite (fun h => ?_) (fun h => ?_)
    · have em : m = 1 := by have := V.int.inj h; omega
      subst em
      walk_at "go"
      refine g_ite (fun h => ?_) (fun h => ?_)
      · walk_at "go"
        intro p hp
        walk_at "go"
        intro D hD
        have np : p ≠ D := fun z => by subst z; rw [upd_same] at hD; cases hD
        refine q D _ _ ((Same.new hp).free hD) ((Same.new hp).trans (Same.new hD)) upd_same ?_
        rw [show lists 1 t = [[(t : Int)]] from if_pos (by omega), del_upd, del_new hD]
        exact .cons (Dt.of_ints upd_same) .nil
      · walk_at "go"
        intro D hD
        refine q D _ _ hD (Same.new hD) upd_same ?_
        rw [show lists 1 t = [] from if_neg (by omega)]
        exact .nil
    have m4 : ¬ m = 1 := fun z => h (by rw [z]; rfl)
    obtain ⟨m', rfl⟩ : ∃ m', m = m' + 2 := ⟨m - 2, by omega⟩
    walk_at "go"
    intro pf hpf
    walk_at "go"
    have ee : (listsTo m' t (t - 1)) = lists (m' + 2) t := rfl
    refine forR2 (by omega) (by omega) (by omega) (by omega) (fun n τ G => ∃ z3 z4 ysf, τ = [some (.int ((m' + 2 : Nat) : Int)), some (.int t), some (.ref pf), z3, z4] ∧ Same H G ∧ G pf = some (.lst ysf) ∧ Dts (del G pf) ysf ((listsTo m' t n).map dI))
      ⟨_, _, _, rfl, Same.new hpf, upd_same, .nil⟩ ?_ ?_
    · rintro n τ G hn ⟨z3, z4, ysf, rfl, sG, ef, df⟩
      walk_at "go"
      refine ⟨m' + 1, t - (n + 1), by congr 2 <;> simp <;> omega, by omega, by omega, by omega, by omega, fun D ys G1 hD s1 eD dD => ?_⟩
      refine lcL (.of eD) (by rw [dD.length, List.length_map]; have := (lists_small m' (by omega) (t - (n + 1)) (by omega) 0 (by omega)).2; omega) (fun i => ((lists (m' + 1) (t - (n + 1)))[i]?).map fun r => dI ((1 + (n : Int)) :: r)) (fun D2 ys2 G2 hD2 s2 eD2 dD2 => ?_) ?_
      · walk_at "go"
        have e1 : G2 pf = some (.lst ysf) := s2 _ _ (s1 _ _ ef)
        have l1 := df.length
        have l2 := dD2.length
        rw [List.length_map] at l1
        have b1 := (lists_small m' (by omega) t (by omega) n (by omega)).1
        have b2 := (lists_small m' (by omega) (t - (n + 1)) (by omega) 0 (by omega)).2
        have l3 : ys.length = (lists (m' + 1) (t - (n + 1))).length := by rw [dD.length, List.length_map]
        rw [l3, outs_get] at dD2
        have l2 := dD2.length
        rw [List.length_map] at l2
        refine g_extend e1 eD2 (Nat.le_trans (by omega) sz5) ?_
        walk_at "go"
        have nf : H pf = none := hpf
        refine ⟨_, _, _, rfl, ((sG.trans s1).trans s2).mut nf, upd_same, ?_⟩
        rw [del_upd, listsTo_step, List.map_append]
        refine (df.same (s1.trans s2).del).app ?_
        have := Dts.dodge (l2 := (lists (m' + 1) (t - (n + 1))).map fun r => ((1 + (n : Int)) :: r)) e1 df (fun r hr => by obtain ⟨_, _, rfl⟩ := List.mem_map.mp hr; simp) (by rw [List.map_map]; exact dD2)
        exact this
      · intro D2 i x G2 hx s2 nD2 hD2 Y N yes no
        obtain ⟨a, ns, en, rfl, ea⟩ := dD.dI hx
        have ea2 := s2 _ _ (Same.ofDel _ _ ea)
        walk_at "go"
        refine ⟨rfl, ?_⟩
        walk_at "go"
        intro p hp
        walk_at "go"
        have hb : ns.length = m' + 1 := lists_len _ _ _ (List.mem_of_getElem? en)
        have npa : a ≠ p := ne_of_none ea2 hp
        refine g_cat upd_same ((upd_ne npa).trans ea2) (by rw [List.length_map]; exact Nat.le_trans (show 1 + ns.length ≤ 100000 by omega) sz5) fun p2 hp2 => ?_
        refine yes _ (dI ((1 + (n : Int)) :: ns)) _ (by rw [en]; rfl) ((Same.new hp).trans (Same.new hp2)) (Dt.of_ints ?_)
        have np2 : p2 ≠ D2 := fun z => by
          subst z
          have := (Same.new (o := .lst [V.int (1 + (n : Int))]) hp).free hp2
          exact nD2 this
        rw [del_ne np2]
        exact upd_same
    · rintro τ G ⟨z3, z4, ysf, rfl, sG, ef, df⟩
      walk_at "go"
      rw [show ((t : Int) - 1).toNat = t - 1 by omega, ee] at df
      exact q _ _ _ hpf sG ef df
def spListed : Sp := fun vs H Q _ => ∃ c i : Nat, vs = [.int c, .int i] ∧ 1 ≤ c ∧ isSmall c i = true ∧ ∀ D H', H D = none → Same H H' → H' D = some (.lst (rowV (c + 1) (cntN (lists c (c + i)) (lists c (c + i)).length))) → Q (.ref D) H'
theorem fn_listed (F : Df K mg "_law_listed" s__law_listed f fd) (B : Bl K mg) (F__law_lists : Fn P w K mg base "_law_lists" 5 ["_law_many", "_law_total"] (spLists 4)) (F__law_rounds : Fn P w K mg base "_law_rounds" 1 ["_law_wheel"] spRounds) :
    Fn P w K mg base "_law_listed" 6 ["_law_count", "_law_inlined"] spListed := by
  refine F.fn sc__law_listed (fun vs H Q E h => ?_) (fun _ _ _ _ _ _ us hl => match us, hl with | [_, _], _ => rfl) (fun cdv A outer s H vs Q E hr gd h => ?_)
  · obtain ⟨c, i, rfl, _⟩ := h
    rfl
  obtain ⟨c, i, rfl, c1, sm, q⟩ := h
  refine ⟨_, (pss_cons (ps_set (i := 2) sc__law_listed.nd rfl (Or.inl rfl) (pe_op op_rep (pe_lst (pa_cons pe_int pa_nil)) (pe_op op_add (pv 0) pe_int)))
      (pss_cons (ps_for (passes_of rfl) rfl (z_piL (K := K) (fcall F__law_lists (hr.mono (by decide)) gd (passes_call (takes_of rfl rfl rfl rfl) fun _ _ _ _ h => h) (pa_cons (pv 0) (pa_cons (pe_op op_add (pv 0) (pv 1)) pa_nil)))) (pg_name (i := 3) sc__law_listed.nd rfl (Or.inl rfl)) (pss_cons (ps_set (i := 4) sc__law_listed.nd rfl (Or.inl rfl) (fcall F__law_rounds (hr.mono (by decide)) gd (passes_call (takes_of rfl rfl rfl rfl) fun _ _ _ _ h => h) (pa_cons (pv 3) pa_nil)))
      (pss_one (ps_asg (pe_op op_add (pe_ix (z_ixL (K := K)) (pv 2) (pv 4) (fun _ _ => rfl)) pe_int) (pg_sub (pv 2) (pv 4) set_list)))))
      (pss_one (ps_ret (pv 2))))), ?_⟩
  have sm2 : c ≤ 4 ∧ i < 9 ∧ c + i < 13 := by
    unfold isSmall at sm
    simp only [Bool.or_eq_true, Bool.and_eq_true, decide_eq_true_eq] at sm
    omega
  obtain ⟨c4, i9, ci⟩ := sm2
  walk_at "go"
  intro p0 hp0
  walk_at "go"
  intro p hp
  have hpn : H p = none := (Same.new hp0).free hp
  have e0 : List.replicate ((c : Int) + 1).toNat (V.int 0) = rowV (c + 1) (cntN (lists c (c + i)) 0) := by
    rw [show ((c : Int) + 1).toNat = c + 1 by omega]
    unfold rowV
    show _ = (List.range (c + 1)).map fun _ => V.int 0
    rw [List.map_const', List.length_range]
  rw [e0]
  walk_at "go"
  refine ⟨c, c + i, by congr 2, by omega, by omega, by omega, by omega, fun D ys G1 hD s1 eD dD => ?_⟩
  have S1 := ((Same.new (o := .lst [V.int 0]) hp0).trans (Same.new hp)).trans s1
  have npD : p ≠ D := fun z => by subst z; rw [upd_same] at hD; cases hD
  have lD : ys.length = (lists c (c + i)).length := by rw [dD.length, List.length_map]
  have ep := s1 _ _ (upd_same (H := upd H p0 (.lst [V.int 0])) (a := p) (o := .lst (rowV (c + 1) (cntN (lists c (c + i)) 0))))
  refine forL (.of eD) (fun n τ G => ∃ z3 z4, τ = [some (.int c), some (.int i), some (.ref p), z3, z4] ∧ Same (del G1 p) (del G p) ∧ G p = some (.lst (rowV (c + 1) (cntN (lists c (c + i)) n))))
    ⟨_, _, rfl, Same.refl _, ep⟩ (fun n τ G _ ⟨_, _, _, s, _⟩ => .of (by have := s _ _ ((del_ne npD.symm).trans eD); rwa [del_ne npD.symm] at this)) ?_ ?_
  · rintro n x τ G hx ⟨z3, z4, rfl, sG, eG⟩
    obtain ⟨a, ns, en, rfl, ea⟩ := dD.dI hx
    have ea1 := Same.ofDel _ _ ea
    have nap : a ≠ p := fun z => by
      rw [z, ep] at ea1
      have hl := lists_len _ _ _ (List.mem_of_getElem? en)
      have e3 : rowV (c + 1) (cntN (lists c (c + i)) 0) = ns.map V.int := HO.lst.inj (Option.some.inj ea1)
      have e4 := congrArg List.length e3
      rw [rowV_len, List.length_map, hl] at e4
      omega
    have ea2 : G a = some (.lst (ns.map V.int)) := by have := sG _ _ ((del_ne nap).trans ea1); rwa [del_ne nap] at this
    have nl := lists_len _ _ _ (List.mem_of_getElem? en)
    walk_at "go"
    refine ⟨a, ns, rfl, ea2, by omega, by omega, fun G2 s2 => ?_⟩
    have hr := rnd_small c (by omega) i i9 sm ns (List.mem_of_getElem? en)
    have eG2 := s2 _ _ eG
    walk_at "go"
    refine g_ixL (.of eG2) (row_at (j := rnd ns) (by omega) rfl) ?_
    walk_at "go"
    refine g_setL eG2 (row_ix (j := rnd ns) (by omega) rfl) ?_
    refine ⟨_, _, rfl, ?_, ?_⟩
    · rw [del_upd]
      exact sG.trans s2.del
    · rw [upd_same, rowV_set]
      congr 2
      refine rowV_congr fun j _ => ?_
      rw [cntN_step en]
      split
      · rename_i e; rw [e]
      · omega
  · rintro τ G ⟨z3, z4, rfl, sG, eG⟩
    walk_at "go"
    rw [lD] at eG
    refine q _ _ hpn (fun b o e => ?_) eG
    have nb : b ≠ p := ne_of_none e hpn
    have := sG b o ((del_ne nb).trans (S1 b o e))
    rwa [del_ne nb] at this
end
end Z
set_option Elab.async false
set_option linter.all false
set_option maxRecDepth 100000
set_option maxHeartbeats 4000000
namespace Z
open PySem PySem.Spec PyProof.Rows L2
local macro_rules | `(tactic| walk_at "hp") => `(tactic| first | assumption | exact upd_same | exact (upd_ne (by assumption)).trans (by assumption))
local macro_rules | `(tactic| walk_at "side") => `(tactic| first | assumption | omega | (exact ⟨by omega, by omega⟩) | (exact Or.inl ⟨by omega, by omega⟩) | (exact Or.inr ⟨by omega, by omega⟩) | (exact ⟨by omega, by omega, by omega⟩))
local macro_rules | `(tactic| walk_at "st") => `(tactic| first
  | (with_reducible first
  | refine g_seq ?_ | refine g_asg ?_ | refine g_op ?_ | refine g_var rfl ?_ | refine g_c ?_ | refine g_I0 ?_ | refine g_cons ?_ | refine g_nil ?_ | refine g_name rfl ?_ | refine g_ret ?_ | refine g_ifs ?_ | refine g_test ?_ | refine g_bl ?_
  | refine g_cb ?_ | refine g_call ?_ | refine g_drop ?_ | refine g_next ?_ | refine g_and ?_ | refine g_or ?_ | refine g_not ?_ | refine g_if ?_ | refine g_notV ?_ | refine g_andV ?_ | refine g_orV ?_ | refine g_chain ?_ | refine g_un ?_ | refine g_U ?_ | refine g_lst ?_ | refine g_tup ?_ | refine g_sub ?_ | refine g_B ?_ | refine g_int1 ?_ | refine g_trub ?_
  | refine g_eq rfl ?_ | refine g_ne rfl ?_ | refine g_tt ?_ | refine g_ff ?_ | refine g_nt ?_ | refine g_nf ?_ | refine g_retN ?_ | refine g_rs ?_ | refine g_lc ?_ | refine g_for ?_ | refine g_iL ?_ | refine g_iT ?_ | refine g_iR1 ?_ | refine g_iR2 ?_ | refine g_iR3 ?_ | refine g_yes ?_ | refine g_truth ?_ | refine g_gcons ?_ | refine g_gnil ?_ | refine g_par ?_ | refine g_par3 ?_ | refine g_ex2 ?_ | refine g_ex3 ?_ | refine g_bm ?_ | refine g_bm0 ?_ | refine g_aug rfl ?_ | refine g_ipI ?_ | refine g_iK ?_ | refine g_dc ?_ | refine g_dget ?_ | refine g_int ?_ | refine g_intB ?_ | refine g_abs ?_ | refine g_max2 ?_ | refine g_min2 ?_ | refine g_sl ?_ | refine g_nopart ?_ | refine g_part ?_ | refine g_dput ?_ | refine g_lstrg ?_ | refine g_rg1 ?_ | refine g_exi ?_)
  | ((with_reducible refine k_slL ?_); refine g_slL (SqL.of (by walk_at "hp")) ?_) | ((with_reducible refine k_listOf ?_); refine g_listOf (.inl (SqL.of (by walk_at "hp"))) ?_) | ((with_reducible refine k_rep ?_); refine g_rep (by walk_at "hp") (by omega) ?_) | ((with_reducible refine k_len ?_); refine g_len (SqL.of (by walk_at "hp")) ?_) | ((with_reducible refine k_len ?_); refine g_len (by assumption) ?_) | ((with_reducible refine k_tyL ?_); refine g_tyL (by walk_at "hp") ?_) | ((with_reducible refine k_gT ?_); refine g_gT (SqT.of (by walk_at "hp")) rfl ?_) | ((with_reducible refine k_gL ?_); refine g_gL (SqL.of (by walk_at "hp")) rfl ?_) | ((with_reducible refine k_ixL ?_); refine g_ixL (SqL.of (by walk_at "hp")) rfl ?_) | ((with_reducible refine k_ixL ?_); refine g_rd (by walk_at "hp") (by walk_at "side") ?_) | ((with_reducible refine k_ixL ?_); refine g_rdI (by walk_at "hp") (by omega) (by omega) ?_) | ((with_reducible refine k_setL ?_); refine g_setL (by walk_at "hp") rfl ?_) | ((with_reducible refine k_new ?_); refine g_new rfl ?_) | ((with_reducible refine k_I ?_); refine g_I (by walk_at "side") ?_))
local macro_rules | `(tactic| walk_at "go") => `(tactic| repeat walk_at "st")

/-! the law's own boxes -/
def bstep (l : List (List Int)) (n : Nat) : List (List Int) := (List.range n).flatMap fun (i : Nat) => l.map fun r => r ++ [1 + (i : Int)]
theorem bstep_step {l : List (List Int)} {n : Nat} : bstep l (n + 1) = bstep l n ++ l.map fun r => r ++ [1 + (n : Int)] := by
  unfold bstep
  rw [List.range_succ, List.flatMap_append]
  simp
theorem bstep_len {l : List (List Int)} : ∀ n, (bstep l n).length = n * l.length
  | 0 => by simp [bstep]
  | n + 1 => by rw [bstep_step, List.length_append, bstep_len n, List.length_map, Nat.succ_mul]
def mostB (ls bs : List Int) (f : Nat) : Nat := if (f : Int) ∈ bs then 1 else (ls.getD f 0 * (ls.length : Int)).toNat
def boxesTo (ls bs : List Int) : Nat → List (List Int)
  | 0 => [[]]
  | n + 1 => bstep (boxesTo ls bs n) (mostB ls bs n)
def boxes (ls bs : List Int) : List (List Int) := boxesTo ls bs ls.length
theorem boxesTo_len {ls bs : List Int} : ∀ n, ∀ r ∈ boxesTo ls bs n, r.length = n
  | 0, r, h => by rw [List.mem_singleton.mp h]; rfl
  | n + 1, r, h => by
    obtain ⟨i, _, h2⟩ := List.mem_flatMap.mp (show r ∈ bstep (boxesTo ls bs n) (mostB ls bs n) from h)
    obtain ⟨r', h3, e⟩ := List.mem_map.mp h2
    rw [← e, List.length_append, boxesTo_len n r' h3]
    rfl
theorem mostB_le {ls bs : List Int} {f : Nat} (h : ls.length ≤ 3) (h2 : ∀ l ∈ ls, 1 ≤ l ∧ l ≤ 2) : mostB ls bs f ≤ 6 := by
  unfold mostB
  split
  · omega
  · by_cases hf : f < ls.length
    · have := h2 _ (getD_mem hf)
      generalize ls.getD f 0 = x at this
      have e : x = 1 ∨ x = 2 := by omega
      rcases e with rfl | rfl <;> omega
    · rw [List.getD_eq_getElem?_getD, List.getElem?_eq_none (by omega)]
      simp
theorem boxesTo_most {ls bs : List Int} (h : ls.length ≤ 3) (h2 : ∀ l ∈ ls, 1 ≤ l ∧ l ≤ 2) : ∀ n, (boxesTo ls bs n).length ≤ 6 ^ n
  | 0 => Nat.le_refl _
  | n + 1 => by
    show (bstep (boxesTo ls bs n) (mostB ls bs n)).length ≤ 6 ^ (n + 1)
    rw [bstep_len, Nat.pow_succ, Nat.mul_comm]
    exact Nat.mul_le_mul (boxesTo_most h h2 n) (mostB_le h h2)
section
variable {P : Program} {w : World} {K : PySem.W.Frag} {mg : Str → Option Value} {base : Heap} {f : Addr} {fd : FuncData}
theorem sc__law_boxes : FnScope ["_law_limits_here", "_law_bare", "_law_found", "_law_function", "_law_most", "_law_longer", "_law_length", "_law_one"] ["_law_limits_here", "_law_bare"] (defScope s__law_boxes) := ⟨rfl, rfl, rfl, by decide +kernel, rfl, by decide +kernel, by decide +kernel⟩
theorem sc__law_within : FnScope ["_law_limits_here", "_law_bare", "_law_free", "_law_found", "_law_mask", "_law_corner", "_law_weight", "_law_k", "_law_limit", "_law_bit", "_law_wheels", "_law_function", "_law_wheel"] ["_law_limits_here", "_law_bare"] (defScope s__law_within) := ⟨rfl, rfl, rfl, by decide +kernel, rfl, by decide +kernel, by decide +kernel⟩
theorem sc__law_within_sum : FnScope ["_law_limits_here", "_law_bare", "_law_many", "_law_free", "_law_found", "_law_sizes", "_law_function", "_law_turn", "_law_part", "_law_other", "_law_k"] ["_law_limits_here", "_law_bare"] (defScope s__law_within_sum) := ⟨rfl, rfl, rfl, by decide +kernel, rfl, by decide +kernel, by decide +kernel⟩
def spBoxes : Sp := fun vs H Q _ => ∃ (a b : Addr) (ls bs : List Int), vs = [.ref a, .ref b] ∧ H a = some (.lst (ls.map V.int)) ∧ H b = some (.lst (bs.map V.int)) ∧ 1 ≤ ls.length ∧ ls.length ≤ 3 ∧ (∀ l ∈ ls, 1 ≤ l ∧ l ≤ 2) ∧
  ∀ D ys H', H D = none → Same H H' → H' D = some (.lst ys) → Dts (del H' D) ys ((boxes ls bs).map dI) → Q (.ref D) H'
theorem fn_boxes (F : Df K mg "_law_boxes" s__law_boxes f fd) (B : Bl K mg) : Fn P w K mg base "_law_boxes" 1 ["_law_limits_here", "_law_bare"] spBoxes := by
  refine F.fn sc__law_boxes (fun vs H Q E h => ?_) (fun _ _ _ _ _ _ us hl => match us, hl with | [_, _], _ => rfl) (fun cdv A outer s H vs Q E hr gd h => ?_)
  · obtain ⟨a, b, ls, bs, rfl, _⟩ := h
    rfl
  obtain ⟨a, b, ls, bs, rfl, ha, hb, n1, n2, l12, q⟩ := h
  refine ⟨_, (pss_cons (ps_set (i := 2) sc__law_boxes.nd rfl (Or.inl rfl) (pe_lst (pa_cons (pe_lst pa_nil) pa_nil)))
      (pss_cons (ps_for (passes_of rfl) rfl (pi_range1 rfl B.range_ (pa_cons (pe_callB (z_len (K := K)) rfl B.len_ (by decide +kernel) (pa_cons (pv 0) pa_nil)) pa_nil)) (pg_name (i := 3) sc__law_boxes.nd rfl (Or.inl rfl)) (pss_cons (ps_set (i := 4) sc__law_boxes.nd rfl (Or.inl rfl) (pe_ifExp (pt_cmpR (z_in (K := K)) (pv 3) (pv 1) (by rfl)) pe_int (pe_op op_mul (pe_ix (z_ixL (K := K)) (pv 0) (pv 3) (fun _ _ => rfl)) (pe_callB (z_len (K := K)) rfl B.len_ (by decide +kernel) (pa_cons (pv 0) pa_nil)))))
      (pss_cons (ps_set (i := 5) sc__law_boxes.nd rfl (Or.inl rfl) (pe_lst pa_nil))
      (pss_cons (ps_for (passes_of rfl) rfl (pi_range2 rfl B.range_ (pa_cons pe_int (pa_cons (pe_op op_add (pv 4) pe_int) pa_nil))) (pg_name (i := 6) sc__law_boxes.nd rfl (Or.inr rfl)) (pss_one (ps_expr (z_bm (K := K) PySem.F.plainAttrs_list PySem.F.slot_list_extend PySem.F.type_list_extend mt_extend (pv 5) (pa_cons (pe_lc (own := [("_law_one", 7)]) (g := gName 7) rfl sc__law_boxes.nd (z_piL (K := K) (pv 2)) (blkOk_by (own := [("_law_one", 7)]) (N := ["_law_limits_here", "_law_bare", "_law_found", "_law_function", "_law_most", "_law_longer", "_law_length", "_law_one"]) (sc := defScope s__law_boxes) (by decide +kernel)) (fun _ _ _ _ _ => pg_name (i := 7) sc__law_boxes.nd rfl (Or.inl rfl)) (fun _ _ _ _ _ => pts_nil) (fun _ _ _ _ _ => pe_op op_cat (pv 7) (pe_lst (pa_cons (pv 6) pa_nil)))) pa_nil)))))
      (pss_one (ps_set (i := 2) sc__law_boxes.nd rfl (Or.inl rfl) (pv 5)))))))
      (pss_one (ps_ret (pv 2))))), ?_⟩
  walk_at "go"
  intro p0 hp0
  walk_at "go"
  intro p1 hp1
  have ea0 := (((Same.new hp0).trans (Same.new hp1)) _ _ ha : (upd (upd H p0 (.lst [])) p1 (.lst [.ref p0])) a = _)
  walk_at "go"
  rw [List.length_map]
  have n01 : p0 ≠ p1 := fun z => by subst z; rw [upd_same] at hp1; cases hp1
  refine forR1 (by omega) (by omega) (fun n τ G => ∃ D ys z3 z4 z5 z6 z7, τ = [some (.ref a), some (.ref b), some (.ref D), z3, z4, z5, z6, z7] ∧ Same H G ∧ H D = none ∧ G D = some (.lst ys) ∧ Dts (del G D) ys ((boxesTo ls bs n).map dI))
    ⟨p1, _, none, none, none, none, none, rfl, (Same.new hp0).trans (Same.new hp1), (Same.new hp0).free hp1, upd_same, ?_⟩ ?_ ?_
  · rw [del_upd, del_new hp1]
    exact .cons (Dt.of_ints (ns := []) upd_same) .nil
  · rintro n τ G hn ⟨D, ys, z3, z4, z5, z6, z7, rfl, sG, hD, eD, dD⟩
    have ea := sG _ _ ha
    have eb := sG _ _ hb
    walk_at "go"
    refine g_in (.inl (.of eb)) rfl flat_ints ?_
    rw [inV_ints]
    have mb := mostB_le (ls := ls) (bs := bs) (f := n) n2 l12
    have lb := boxesTo_most (ls := ls) (bs := bs) n2 l12 n
    have lb2 : 6 ^ n ≤ 6 ^ 3 := Nat.pow_le_pow_right (by decide) (by omega)
    walk_at "go"
    have rest : ∀ {R : VK}, R (.int (mostB ls bs n)) G → if decide ((n : Int) ∈ bs) = true then tC (V.int 1) [some (.ref a), some (.ref b), some (.ref D), some (.int n), z4, z5, z6, z7] G R else
        tOp (rI CMul fun i j => V.int (i * j)) (tOp (rIxL K) (tVar 0) (tVar 3)) (tCB (Z.rLen K) (tCons (tVar 0) tNil)) [some (.ref a), some (.ref b), some (.ref D), some (.int n), z4, z5, z6, z7] G R := fun {R} r => by
      unfold mostB at r
      refine g_ite (fun h => ?_) (fun h => ?_)
      · rw [if_pos h] at r
        walk_at "go"
        exact r
      · rw [if_neg h] at r
        walk_at "go"
        have hl := l12 _ (getD_mem (ls := ls) (i := n) (by omega))
        rw [List.length_map]
        refine g_I (.inl ⟨by omega, by omega⟩) ?_
        have e0 : 0 ≤ ls.getD n 0 * (ls.length : Int) := Int.mul_nonneg (by omega) (by omega)
        rw [Int.toNat_of_nonneg e0] at r
        exact r
    refine rest ?_
    walk_at "go"
    intro pf hpf
    have nf : H pf = none := sG.free hpf
    have sG1 : Same G (upd G pf (.lst [])) := Same.new hpf
    walk_at "go"
    refine forR2 (by omega) (by omega) (by omega) (by omega) (fun k τ G2 => ∃ z6 z7 ysf, τ = [some (.ref a), some (.ref b), some (.ref D), some (.int n), some (.int (mostB ls bs n)), some (.ref pf), z6, z7] ∧ Same G G2 ∧ G2 pf = some (.lst ysf) ∧ Dts (del G2 pf) ysf ((bstep (boxesTo ls bs n) k).map dI))
      ⟨_, _, _, rfl, sG1, upd_same, .nil⟩ ?_ ?_
    · rintro k τ G2 hk ⟨z6, z7, ysf, rfl, s2, ef, df⟩
      have eD2 := s2 _ _ eD
      have ly : ys.length = (boxesTo ls bs n).length := by rw [dD.length, List.length_map]
      walk_at "go"
      refine lcL (.of eD2) (by omega) (fun i => ((boxesTo ls bs n)[i]?).map fun r => dI (r ++ [1 + (k : Int)])) (fun D3 ys3 G3 hD3 s3 eD3 dD3 => ?_) ?_
      · walk_at "go"
        have e1 : G3 pf = some (.lst ysf) := s3 _ _ ef
        rw [ly, outs_get] at dD3
        have l1 := df.length
        have l2 := dD3.length
        rw [List.length_map, bstep_len] at l1
        rw [List.length_map] at l2
        have l3 : k * (boxesTo ls bs n).length ≤ 6 * 216 := Nat.mul_le_mul (by omega) (by omega)
        refine g_extend e1 eD3 (Nat.le_trans (by omega) sz5) ?_
        walk_at "go"
        refine ⟨_, _, _, rfl, (s2.trans s3).mut hpf, upd_same, ?_⟩
        rw [del_upd, bstep_step, List.map_append]
        refine (df.same s3.del).app ?_
        exact Dts.dodge (l2 := (boxesTo ls bs n).map fun r => r ++ [1 + (k : Int)]) e1 df (fun r hr => by obtain ⟨_, _, rfl⟩ := List.mem_map.mp hr; simp) (by rw [List.map_map]; exact dD3)
      · intro D3 i x G3 hx s3 nD3 hD3 Y N yes no
        obtain ⟨a2, ns, en, rfl, ea2⟩ := dD.dI hx
        have ea3 := s3 _ _ (s2 _ _ (Same.ofDel _ _ ea2))
        walk_at "go"
        refine ⟨rfl, ?_⟩
        walk_at "go"
        intro p hp
        walk_at "go"
        have hb : ns.length = n := boxesTo_len _ _ (List.mem_of_getElem? en)
        have npa : a2 ≠ p := ne_of_none ea3 hp
        refine g_cat ((upd_ne npa).trans ea3) upd_same (by rw [List.length_map]; exact Nat.le_trans (show ns.length + 1 ≤ 100000 by omega) sz5) fun p2 hp2 => ?_
        refine yes _ (dI (ns ++ [1 + (k : Int)])) _ (by rw [en]; rfl) ((Same.new hp).trans (Same.new hp2)) (Dt.of_ints ?_)
        have np2 : p2 ≠ D3 := fun z => by
          subst z
          have := (Same.new (o := .lst [V.int (1 + (k : Int))]) hp).free hp2
          exact nD3 this
        rw [del_ne np2, upd_same, List.map_append]
        rfl
    · rintro τ G2 ⟨z6, z7, ysf, rfl, s2, ef, df⟩
      walk_at "go"
      rw [show (((mostB ls bs n : Nat) : Int) + 1 - 1).toNat = mostB ls bs n by omega] at df
      exact ⟨_, _, _, _, _, _, _, rfl, sG.trans s2, nf, ef, df⟩
  · rintro τ G ⟨D, ys, z3, z4, z5, z6, z7, rfl, sG, hD, eD, dD⟩
    walk_at "go"
    rw [Int.toNat_natCast] at dD
    exact q _ _ _ hD sG eD dD
end
end Z
set_option Elab.async false
set_option linter.all false
set_option maxRecDepth 100000
set_option maxHeartbeats 4000000
namespace Z
open PySem PySem.Spec PyProof.Rows L2
local macro_rules | `(tactic| walk_at "hp") => `(tactic| first | assumption | exact upd_same | exact (upd_ne (by assumption)).trans (by assumption))
local macro_rules | `(tactic| walk_at "side") => `(tactic| first | assumption | omega | (exact ⟨by omega, by omega⟩) | (exact Or.inl ⟨by omega, by omega⟩) | (exact Or.inr ⟨by omega, by omega⟩) | (exact ⟨by omega, by omega, by omega⟩))
local macro_rules | `(tactic| walk_at "st") => `(tactic| first
  | (with_reducible first
  | refine g_seq ?_ | refine g_asg ?_ | refine g_op ?_ | refine g_var rfl ?_ | refine g_c ?_ | refine g_I0 ?_ | refine g_cons ?_ | refine g_nil ?_ | refine g_name rfl ?_ | refine g_ret ?_ | refine g_ifs ?_ | refine g_test ?_ | refine g_bl ?_
  | refine g_cb ?_ | refine g_call ?_ | refine g_drop ?_ | refine g_next ?_ | refine g_and ?_ | refine g_or ?_ | refine g_not ?_ | refine g_if ?_ | refine g_notV ?_ | refine g_andV ?_ | refine g_orV ?_ | refine g_chain ?_ | refine g_un ?_ | refine g_U ?_ | refine g_lst ?_ | refine g_tup ?_ | refine g_sub ?_ | refine g_B ?_ | refine g_int1 ?_ | refine g_trub ?_
  | refine g_eq rfl ?_ | refine g_ne rfl ?_ | refine g_tt ?_ | refine g_ff ?_ | refine g_nt ?_ | refine g_nf ?_ | refine g_retN ?_ | refine g_rs ?_ | refine g_lc ?_ | refine g_for ?_ | refine g_iL ?_ | refine g_iT ?_ | refine g_iR1 ?_ | refine g_iR2 ?_ | refine g_iR3 ?_ | refine g_yes ?_ | refine g_truth ?_ | refine g_gcons ?_ | refine g_gnil ?_ | refine g_par ?_ | refine g_par3 ?_ | refine g_ex2 ?_ | refine g_ex3 ?_ | refine g_bm ?_ | refine g_bm0 ?_ | refine g_aug rfl ?_ | refine g_ipI ?_ | refine g_iK ?_ | refine g_dc ?_ | refine g_dget ?_ | refine g_int ?_ | refine g_intB ?_ | refine g_abs ?_ | refine g_max2 ?_ | refine g_min2 ?_ | refine g_sl ?_ | refine g_nopart ?_ | refine g_part ?_ | refine g_dput ?_ | refine g_lstrg ?_ | refine g_rg1 ?_ | refine g_exi ?_)
  | ((with_reducible refine k_slL ?_); refine g_slL (SqL.of (by walk_at "hp")) ?_) | ((with_reducible refine k_listOf ?_); refine g_listOf (.inl (SqL.of (by walk_at "hp"))) ?_) | ((with_reducible refine k_rep ?_); refine g_rep (by walk_at "hp") (by omega) ?_) | ((with_reducible refine k_len ?_); refine g_len (SqL.of (by walk_at "hp")) ?_) | ((with_reducible refine k_len ?_); refine g_len (by assumption) ?_) | ((with_reducible refine k_tyL ?_); refine g_tyL (by walk_at "hp") ?_) | ((with_reducible refine k_gT ?_); refine g_gT (SqT.of (by walk_at "hp")) rfl ?_) | ((with_reducible refine k_gL ?_); refine g_gL (SqL.of (by walk_at "hp")) rfl ?_) | ((with_reducible refine k_ixL ?_); refine g_ixL (SqL.of (by walk_at "hp")) rfl ?_) | ((with_reducible refine k_ixL ?_); refine g_rd (by walk_at "hp") (by walk_at "side") ?_) | ((with_reducible refine k_ixL ?_); refine g_rdI (by walk_at "hp") (by omega) (by omega) ?_) | ((with_reducible refine k_setL ?_); refine g_setL (by walk_at "hp") rfl ?_) | ((with_reducible refine k_new ?_); refine g_new rfl ?_) | ((with_reducible refine k_I ?_); refine g_I (by walk_at "side") ?_))
local macro_rules | `(tactic| walk_at "go") => `(tactic| repeat walk_at "st")

theorem outs_free {n : Nat} {bs : List Int} : outs n (fun i => if decide ((i : Int) ∈ bs) = true then none else some (.int i)) = (freeOf n bs).map PyData.int := by
  unfold outs freeOf
  induction n with
  | zero => rfl
  | succ n ih =>
    rw [List.range_succ, List.filterMap_append, ih, List.map_append, List.filter_append, List.map_append]
    congr 1
    by_cases h : (n : Int) ∈ bs
    · simp [h]
    · simp [h]
theorem free_len {n : Nat} {bs : List Int} : (freeOf n bs).length ≤ n := by
  unfold freeOf
  have := List.length_filter_le (fun i => decide (i ∉ bs)) ((List.range n).map fun (i : Nat) => (i : Int))
  rwa [List.length_map, List.length_range] at this
theorem free_at {n : Nat} {bs : List Int} {k : Nat} (h : k < (freeOf n bs).length) : 0 ≤ (freeOf n bs).getD k 0 ∧ (freeOf n bs).getD k 0 < n := by
  have := free_mem (getD_mem h)
  exact ⟨this.1, this.2.1⟩
/-! the law's own count within limits -/
def ck (ls fr : List Int) (m : Nat) : Nat → List Int × Int
  | 0 => (List.replicate ls.length 1, 1)
  | k + 1 => let r := ck ls fr m k
    let f := (fr.getD k 0).toNat
    if m / 2 ^ k % 2 = 1 then (r.1.set f 2, r.2 * (ls.getD f 0 - 1)) else (r.1.set f 1, r.2 * (2 - ls.getD f 0))
def posn (l : List (List Int)) : Nat := (l.filter fun w => decide (0 < rnd w)).length
def wlT (ls bs : List Int) (m : Nat) : Int := let r := ck ls (freeOf ls.length bs) m (freeOf ls.length bs).length
  r.2 * (posn (boxes r.1 bs) : Nat)
def wl (ls bs : List Int) : Nat → Int
  | 0 => 0
  | m + 1 => wl ls bs m + if m < 2 ^ (freeOf ls.length bs).length then wlT ls bs m else 0
theorem ck_ok {ls fr : List Int} {m : Nat} (h : ∀ l ∈ ls, 1 ≤ l ∧ l ≤ 10 ^ 18) (hf : ∀ k, k < fr.length → 0 ≤ fr.getD k 0 ∧ fr.getD k 0 < ls.length) : ∀ k, k ≤ fr.length →
    (ck ls fr m k).1.length = ls.length ∧ (∀ l ∈ (ck ls fr m k).1, 1 ≤ l ∧ l ≤ 2) ∧ (ck ls fr m k).2.natAbs < 2 ^ (1 + 60 * k)
  | 0, _ => ⟨List.length_replicate, fun l hl => by rw [List.eq_of_mem_replicate hl]; omega, by show (1 : Int).natAbs < 2 ^ 1; decide⟩
  | k + 1, hk => by
    obtain ⟨h1, h2, h3⟩ := ck_ok h hf k (by omega)
    obtain ⟨f1, f2⟩ := hf k (by omega)
    have lf := h _ (getD_mem (ls := ls) (i := (fr.getD k 0).toNat) (by omega))
    have e : 1 + 60 * (k + 1) = 1 + 60 * k + 60 := by omega
    unfold ck
    dsimp only
    split
    · refine ⟨by rw [List.length_set]; exact h1, fun l hl => ?_, ?_⟩
      · rcases List.mem_or_eq_of_mem_set hl with hl | hl
        · exact h2 l hl
        · omega
      · rw [e]
        exact wide_lt h3 (by omega)
    · refine ⟨by rw [List.length_set]; exact h1, fun l hl => ?_, ?_⟩
      · rcases List.mem_or_eq_of_mem_set hl with hl | hl
        · exact h2 l hl
        · omega
      · rw [e]
        exact wide_lt h3 (by omega)
theorem pow_at {k : Nat} (h : k < 3) : atI [V.int 1, V.int 2, V.int 4] (k : Int) = some (.int ((2 ^ k : Nat) : Int)) := by
  have : k = 0 ∨ k = 1 ∨ k = 2 := by omega
  rcases this with rfl | rfl | rfl <;> rfl
theorem pow_at8 {k : Nat} (h : k < 4) : atI [V.int 1, V.int 2, V.int 4, V.int 8] (k : Int) = some (.int ((2 ^ k : Nat) : Int)) := by
  have : k = 0 ∨ k = 1 ∨ k = 2 ∨ k = 3 := by omega
  rcases this with rfl | rfl | rfl | rfl <;> rfl
theorem pow_small {k : Nat} (h : k < 4) : 0 < 2 ^ k ∧ 2 ^ k ≤ 8 := by
  have : k = 0 ∨ k = 1 ∨ k = 2 ∨ k = 3 := by omega
  rcases this with rfl | rfl | rfl | rfl <;> decide
theorem outs_posn {l : List (List Int)} : outs l.length (fun i => (l[i]?).bind fun w => if 0 < rnd w then some (dI w) else none) = (l.filter fun w => decide (0 < rnd w)).map dI := by
  unfold outs
  induction l with
  | nil => rfl
  | cons x r ih =>
    rw [List.length_cons, List.range_succ_eq_map]
    by_cases h : 0 < rnd x
    · rw [List.filterMap_cons_some (b := dI x) (by simp [h]), List.filterMap_map, List.filter_cons_of_pos (by simpa using h), List.map_cons, ← ih]
      congr 1
    · rw [List.filterMap_cons_none (by simp [h]), List.filterMap_map, List.filter_cons_of_neg (by simpa using h), ← ih]
      congr 1
section
variable {P : Program} {w : World} {K : PySem.W.Frag} {mg : Str → Option Value} {base : Heap} {f : Addr} {fd : FuncData}
def spWL : Sp := fun vs H Q _ => ∃ (a b : Addr) (ls bs : List Int), vs = [.ref a, .ref b] ∧ H a = some (.lst (ls.map V.int)) ∧ H b = some (.lst (bs.map V.int)) ∧ 1 ≤ ls.length ∧ ls.length ≤ 3 ∧ (∀ l ∈ ls, 1 ≤ l ∧ l ≤ 10 ^ 18) ∧
  ∀ H', Same H H' → Q (.int (wl ls bs 8)) H'
theorem fn_lwithin (F : Df K mg "_law_within" s__law_within f fd) (B : Bl K mg) (F__law_boxes : Fn P w K mg base "_law_boxes" 1 ["_law_limits_here", "_law_bare"] spBoxes) (F__law_rounds : Fn P w K mg base "_law_rounds" 1 ["_law_wheel"] spRounds) :
    Fn P w K mg base "_law_within" 2 ["_law_limits_here", "_law_bare"] spWL := by
  refine F.fn sc__law_within (fun vs H Q E h => ?_) (fun _ _ _ _ _ _ us hl => match us, hl with | [_, _], _ => rfl) (fun cdv A outer s H vs Q E hr gd h => ?_)
  · obtain ⟨a, b, ls, bs, rfl, _⟩ := h
    rfl
  obtain ⟨a, b, ls, bs, rfl, ha, hb, n1, n2, lb, q⟩ := h
  refine ⟨_, (pss_cons (ps_setLc (i := 2) (own := [("_law_function", 11)]) (g := gName 11) rfl sc__law_within.nd rfl rfl (sw_true rfl rfl rfl (by decide +kernel)) (pi_range1 rfl B.range_ (pa_cons (pe_callB (z_len (K := K)) rfl B.len_ (by decide +kernel) (pa_cons (pv 0) pa_nil)) pa_nil)) (blkOk_by (own := [("_law_function", 11)]) (N := ["_law_limits_here", "_law_bare", "_law_free", "_law_found", "_law_mask", "_law_corner", "_law_weight", "_law_k", "_law_limit", "_law_bit", "_law_wheels", "_law_function", "_law_wheel"]) (sc := defScope s__law_within) (by decide +kernel)) (fun _ _ _ _ _ => pg_name (i := 11) sc__law_within.nd rfl (Or.inl rfl)) (fun _ _ _ _ _ => pts_one (pt_cmpR (z_notIn (K := K)) (pv 11) (pv 1) (by rfl))) (fun _ _ _ _ _ => pv 11))
      (pss_cons (ps_set (i := 3) sc__law_within.nd rfl (Or.inl rfl) pe_int)
      (pss_cons (ps_for (passes_of rfl) rfl (pi_range1 rfl B.range_ (pa_cons (pe_op op_pow pe_int pe_int) pa_nil)) (pg_name (i := 4) sc__law_within.nd rfl (Or.inl rfl)) (pss_cons (ps_par (i := 5) (j := 6) rfl sc__law_within.nd rfl rfl (by decide) rfl rfl (pa_cons (pe_op op_rep (pe_lst (pa_cons pe_int pa_nil)) (pe_callB (z_len (K := K)) rfl B.len_ (by decide +kernel) (pa_cons (pv 0) pa_nil))) (pa_cons pe_int pa_nil)) (by rfl))
      (pss_cons (ps_for (passes_of rfl) rfl (pi_range1 rfl B.range_ (pa_cons (pe_callB (z_len (K := K)) rfl B.len_ (by decide +kernel) (pa_cons (pv 2) pa_nil)) pa_nil)) (pg_name (i := 7) sc__law_within.nd rfl (Or.inl rfl)) (pss_cons (ps_par (i := 8) (j := 9) rfl sc__law_within.nd rfl rfl (by decide) rfl rfl (pa_cons (pe_ix (z_ixL (K := K)) (pv 0) (pe_ix (z_ixL (K := K)) (pv 2) (pv 7) (fun _ _ => rfl)) (fun _ _ => rfl)) (pa_cons (pe_op op_mod (pe_callTy z_int rfl B.int_ (by decide +kernel) (pa_cons (pe_op op_fdiv (pv 4) (pe_ix (z_ixL (K := K)) (pe_lst (pa_cons pe_int (pa_cons pe_int (pa_cons pe_int pa_nil)))) (pv 7) (fun _ _ => rfl))) pa_nil)) pe_int) pa_nil)) (by rfl))
      (pss_cons (ps_asg (pe_op op_add pe_int (pv 9)) (pg_sub (pv 5) (pe_ix (z_ixL (K := K)) (pv 2) (pv 7) (fun _ _ => rfl)) set_list))
      (pss_one (ps_set (i := 6) sc__law_within.nd rfl (Or.inl rfl) (pe_op op_mulW (pv 6) (pe_ifExp (pt_cmpR op_eq (pv 9) pe_int (nomark _)) (pe_op op_sub (pv 8) pe_int) (pe_op op_sub pe_int (pv 8)))))))))
      (pss_one (ps_if (pt_cmpR op_lt (pv 4) (pe_ix (z_ixL (K := K)) (pe_lst (pa_cons pe_int (pa_cons pe_int (pa_cons pe_int (pa_cons pe_int pa_nil))))) (pe_callB (z_len (K := K)) rfl B.len_ (by decide +kernel) (pa_cons (pv 2) pa_nil)) (fun _ _ => rfl)) (nomark _)) (pss_cons (ps_set (i := 10) sc__law_within.nd rfl (Or.inl rfl) (fcall F__law_boxes (hr.mono (by decide)) gd (passes_call (takes_of rfl rfl rfl rfl) fun _ _ _ _ h => h) (pa_cons (pv 5) (pa_cons (pv 1) pa_nil))))
      (pss_one (ps_set (i := 3) sc__law_within.nd rfl (Or.inl rfl) (pe_op op_add (pv 3) (pe_op op_mulW (pv 6) (pe_callB (z_len (K := K)) rfl B.len_ (by decide +kernel) (pa_cons (pe_lc (own := [("_law_wheel", 12)]) (g := gName 12) rfl sc__law_within.nd (z_piL (K := K) (pv 10)) (blkOk_by (own := [("_law_wheel", 12)]) (N := ["_law_limits_here", "_law_bare", "_law_free", "_law_found", "_law_mask", "_law_corner", "_law_weight", "_law_k", "_law_limit", "_law_bit", "_law_wheels", "_law_function", "_law_wheel"]) (sc := defScope s__law_within) (by decide +kernel)) (fun _ _ _ _ _ => pg_name (i := 12) sc__law_within.nd rfl (Or.inl rfl)) (fun _ _ _ _ _ => pts_one (pt_cmpR op_gt (fcall F__law_rounds (hr.mono (by decide)) gd passL (pa_cons (pv 12) pa_nil)) pe_int (nomark _))) (fun _ _ _ _ _ => pv 12)) pa_nil))))))) pss_nil)))))
      (pss_one (ps_ret (pv 3)))))), ?_⟩
  walk_at "go"
  rw [List.length_map]
  refine lcR1 (by omega) (by omega) (fun i => if decide ((i : Int) ∈ bs) = true then none else some (.int i)) (fun D ys H1 hD s1 eD dD => ?_) ?_
  · rw [Int.toNat_natCast, outs_free] at dD
    have ey := dD.ints
    subst ey
    have wstep : ∀ m, wl ls bs (m + 1) = wl ls bs m + if m < 2 ^ (freeOf ls.length bs).length then (ck ls (freeOf ls.length bs) m (freeOf ls.length bs).length).2 * (posn (boxes (ck ls (freeOf ls.length bs) m (freeOf ls.length bs).length).1 bs) : Nat) else 0 := fun m => rfl
    have fl := free_len (n := ls.length) (bs := bs)
    have fa : ∀ k, k < (freeOf ls.length bs).length → 0 ≤ (freeOf ls.length bs).getD k 0 ∧ (freeOf ls.length bs).getD k 0 < ls.length := fun k h => free_at h
    have cok := fun m k hk => ck_ok (m := m) lb fa k hk
    generalize freeOf ls.length bs = fr at *
    walk_at "go"
    refine forR1 (by decide) (by decide) (fun m τ G => ∃ z4 z5 z6 z7 z8 z9 z10, τ = [some (.ref a), some (.ref b), some (.ref D), some (.int (wl ls bs m)), z4, z5, z6, z7, z8, z9, z10, none, none] ∧ Same H1 G)
      ⟨none, none, none, none, none, none, none, rfl, Same.refl _⟩ ?_ ?_
    · rintro m τ G hm ⟨z4, z5, z6, z7, z8, z9, z10, rfl, sG⟩
      have ea := sG _ _ (s1 _ _ ha)
      walk_at "go"
      intro p0 hp0
      have ea1 := (Same.new (o := .lst [V.int 1]) hp0) _ _ ea
      walk_at "go"
      rw [List.length_map]
      refine g_rep upd_same (by omega) fun pc hpc => ?_
      have S1 : Same G (upd (upd G p0 (.lst [V.int 1])) pc (.lst (List.replicate (ls.length : Int).toNat (V.int 1)))) := (Same.new hp0).trans (Same.new hpc)
      have pcG : G pc = none := (Same.new hp0).free hpc
      have eD1 := S1 _ _ (sG _ _ eD)
      walk_at "go"
      rw [List.length_map]
      refine forR1 (by omega) (by omega) (fun k τ G2 => ∃ z7 z8 z9, τ = [some (.ref a), some (.ref b), some (.ref D), some (.int (wl ls bs m)), some (.int m), some (.ref pc), some (.int (ck ls fr m k).2), z7, z8, z9, z10, none, none] ∧ Same G G2 ∧ G2 pc = some (.lst ((ck ls fr m k).1.map V.int)))
        ⟨z7, z8, z9, rfl, S1, ?_⟩ ?_ ?_
      · rw [upd_same]
        show _ = some (HO.lst ((List.replicate ls.length 1).map V.int))
        rw [List.map_replicate, Int.toNat_natCast]
      · rintro k τ G2 hk ⟨z7, z8, z9, rfl, s2, ec⟩
        obtain ⟨c1, c2, c3⟩ := cok m k (by omega)
        have fk := fa k (by omega)
        have ea2 := s2 _ _ ea
        have eD2 := s2 _ _ (sG _ _ eD)
        have pk := pow_small (k := k) (by omega)
        walk_at "go"
        intro p hp
        have s3 : Same G2 (upd G2 p (.lst [V.int 1, V.int 2, V.int 4])) := Same.new hp
        have eD3 := s3 _ _ eD2
        have ec3 := s3 _ _ ec
        walk_at "go"
        refine g_ixL (.of upd_same) (pow_at (by omega)) ?_
        refine g_I ⟨by omega, by omega⟩ ?_
        walk_at "go"
        rw [show ((m : Int) / ((2 ^ k : Nat) : Int)) % 2 = ((m / 2 ^ k % 2 : Nat) : Int) by rw [Int.natCast_emod, Int.natCast_ediv]; rfl]
        refine g_setL ec3 (by rw [List.length_map, c1]; exact ix_of fk.1 fk.2) ?_
        walk_at "go"
        have lf := lb _ (getD_mem (ls := ls) (i := (fr.getD k 0).toNat) (by omega))
        have S2 : Same G (upd (upd G2 p (.lst [V.int 1, V.int 2, V.int 4])) pc (.lst (((ck ls fr m k).1.map V.int).set (fr.getD k 0).toNat (V.int (1 + ((m / 2 ^ k % 2 : Nat) : Int)))))) := (s2.trans s3).mut pcG
        by_cases hb2 : m / 2 ^ k % 2 = 1
        · have er : ck ls fr m (k + 1) = ((ck ls fr m k).1.set (fr.getD k 0).toNat 2, (ck ls fr m k).2 * (ls.getD (fr.getD k 0).toNat 0 - 1)) := if_pos hb2
          rw [hb2] at S2 ⊢
          refine g_ite (fun _ => ?_) (fun h => absurd rfl h)
          walk_at "go"
          refine g_I (wide_mul (a := 1 + 60 * k) (b := 60) c3 (by omega) (by omega) (by decide) (by omega)) ?_
          rw [er]
          refine ⟨_, _, _, rfl, S2, ?_⟩
          rw [upd_same, List.map_set]
          rfl
        · have er : ck ls fr m (k + 1) = ((ck ls fr m k).1.set (fr.getD k 0).toNat 1, (ck ls fr m k).2 * (2 - ls.getD (fr.getD k 0).toNat 0)) := if_neg hb2
          have hb3 : m / 2 ^ k % 2 = 0 := by omega
          rw [hb3] at S2 ⊢
          refine g_ite (fun h => absurd (V.int.inj h) (by decide)) (fun _ => ?_)
          walk_at "go"
          refine g_I (wide_mul (a := 1 + 60 * k) (b := 60) c3 (by omega) (by omega) (by decide) (by omega)) ?_
          rw [er]
          refine ⟨_, _, _, rfl, S2, ?_⟩
          rw [upd_same, List.map_set]
          rfl
      · rintro τ G2 ⟨z7, z8, z9, rfl, s2, ec⟩
        rw [Int.toNat_natCast] at ec
        have eD2 := s2 _ _ (sG _ _ eD)
        have eb2 := s2 _ _ (sG _ _ (s1 _ _ hb))
        obtain ⟨c1, c2, c3⟩ := cok m fr.length (Nat.le_refl _)
        have pk := pow_small (k := fr.length) (by omega)
        walk_at "go"
        intro p hp
        have s3 : Same G2 (upd G2 p (.lst [V.int 1, V.int 2, V.int 4, V.int 8])) := Same.new hp
        have eD3 := s3 _ _ eD2
        have eb3 := s3 _ _ eb2
        have ec3 := s3 _ _ ec
        walk_at "go"
        rw [List.length_map]
        refine g_ixL (.of upd_same) (pow_at8 (by omega)) ?_
        walk_at "go"
        rw [Int.toNat_natCast]
        refine g_ite (fun h => ?_) (fun h => ?_)
        · walk_at "go"
          refine ⟨pc, b, _, bs, rfl, ec3, eb3, by omega, by omega, c2, fun Dw yw G4 hDw s4 ew dw => ?_⟩
          walk_at "go"
          have lw : yw.length = (boxes (ck ls fr m fr.length).1 bs).length := by rw [dw.length, List.length_map]
          have lw2 := boxesTo_most (ls := (ck ls fr m fr.length).1) (bs := bs) (by omega) c2 (ck ls fr m fr.length).1.length
          have lw3 : 6 ^ (ck ls fr m fr.length).1.length ≤ 6 ^ 3 := Nat.pow_le_pow_right (by decide) (by omega)
          have lw4 : (boxes (ck ls fr m fr.length).1 bs).length ≤ 6 ^ (ck ls fr m fr.length).1.length := lw2
          refine lcL (.of ew) (by omega) (fun i => ((boxes (ck ls fr m fr.length).1 bs)[i]?).bind fun w => if 0 < rnd w then some (dI w) else none) (fun D5 y5 G5 hD5 s5 e5 d5 => ?_) ?_
          · rw [lw, outs_posn] at d5
            have l5 := d5.length
            rw [List.length_map] at l5
            walk_at "go"
            rw [l5]
            have lp : posn (boxes (ck ls fr m fr.length).1 bs) ≤ (boxes (ck ls fr m fr.length).1 bs).length := List.length_filter_le ..
            refine g_I (wide_mul (a := 1 + 60 * fr.length) (b := 60) c3 (by unfold posn at lp; omega) (by omega) (by decide) (by omega)) ?_
            walk_at "go"
            rw [wstep, if_pos (by omega)]
            exact ⟨_, _, _, _, _, _, _, rfl, (sG.trans s2).trans (s3.trans (s4.trans s5))⟩
          · intro D6 i x G6 hx s6 nD6 hD6 Y N yes no
            obtain ⟨a2, ns, en, rfl, ea2⟩ := dw.dI hx
            have ea3 := s6 _ _ (Same.ofDel _ _ ea2)
            have nl : ns.length = (ck ls fr m fr.length).1.length := boxesTo_len _ _ (List.mem_of_getElem? en)
            walk_at "go"
            refine ⟨rfl, ?_⟩
            walk_at "go"
            refine ⟨a2, ns, rfl, ea3, by omega, by omega, fun G7 s7 => ?_⟩
            walk_at "go"
            refine g_ite (fun h => ?_) (fun h => ?_)
            · walk_at "go"
              refine yes _ (dI ns) _ (by rw [en]; show (if 0 < rnd ns then _ else _) = _; rw [if_pos (by omega)]) s7 (Dt.of_ints ?_)
              have na6 : a2 ≠ D6 := ne_of_none (Same.ofDel _ _ ea2) hD6
              rw [del_ne na6]
              exact s7 _ _ ea3
            · exact no _ (by rw [en]; show (if 0 < rnd ns then _ else _) = _; rw [if_neg (by omega)]) s7
        · walk_at "go"
          rw [wstep, if_neg (by omega), Int.add_zero]
          exact ⟨_, _, _, _, _, _, _, rfl, (sG.trans s2).trans s3⟩
    · rintro τ G ⟨z4, z5, z6, z7, z8, z9, z10, rfl, sG⟩
      walk_at "go"
      exact q _ (s1.trans sG)
  · intro D i H1 hi s1 nD hD Y N yes no
    have eb := s1 _ _ hb
    walk_at "go"
    refine ⟨rfl, ?_⟩
    walk_at "go"
    refine g_notIn (.inl (.of eb)) rfl flat_ints ?_
    rw [inV_ints]
    walk_at "go"
    refine g_iten (fun h => ?_) (fun h => ?_)
    · walk_at "go"
      exact yes _ (.int i) _ (by rw [decide_eq_false h]; rfl) (Same.refl _) (.int _)
    · exact no _ (by rw [decide_eq_true h]; rfl) (Same.refl _)
end
end Z
set_option Elab.async false
set_option linter.all false
set_option maxRecDepth 100000
set_option maxHeartbeats 4000000
namespace Z
open PySem PySem.Spec PyProof.Rows L2
local macro_rules | `(tactic| walk_at "hp") => `(tactic| first | assumption | exact upd_same | exact (upd_ne (by assumption)).trans (by assumption))
local macro_rules | `(tactic| walk_at "side") => `(tactic| first | assumption | omega | (exact ⟨by omega, by omega⟩) | (exact Or.inl ⟨by omega, by omega⟩) | (exact Or.inr ⟨by omega, by omega⟩) | (exact ⟨by omega, by omega, by omega⟩))
local macro_rules | `(tactic| walk_at "st") => `(tactic| first
  | (with_reducible first
  | refine g_seq ?_ | refine g_asg ?_ | refine g_op ?_ | refine g_var rfl ?_ | refine g_c ?_ | refine g_I0 ?_ | refine g_cons ?_ | refine g_nil ?_ | refine g_name rfl ?_ | refine g_ret ?_ | refine g_ifs ?_ | refine g_test ?_ | refine g_bl ?_
  | refine g_cb ?_ | refine g_call ?_ | refine g_drop ?_ | refine g_next ?_ | refine g_and ?_ | refine g_or ?_ | refine g_not ?_ | refine g_if ?_ | refine g_notV ?_ | refine g_andV ?_ | refine g_orV ?_ | refine g_chain ?_ | refine g_un ?_ | refine g_U ?_ | refine g_lst ?_ | refine g_tup ?_ | refine g_sub ?_ | refine g_B ?_ | refine g_int1 ?_ | refine g_trub ?_
  | refine g_eq rfl ?_ | refine g_ne rfl ?_ | refine g_tt ?_ | refine g_ff ?_ | refine g_nt ?_ | refine g_nf ?_ | refine g_retN ?_ | refine g_rs ?_ | refine g_lc ?_ | refine g_for ?_ | refine g_iL ?_ | refine g_iT ?_ | refine g_iR1 ?_ | refine g_iR2 ?_ | refine g_iR3 ?_ | refine g_yes ?_ | refine g_truth ?_ | refine g_gcons ?_ | refine g_gnil ?_ | refine g_par ?_ | refine g_par3 ?_ | refine g_ex2 ?_ | refine g_ex3 ?_ | refine g_bm ?_ | refine g_bm0 ?_ | refine g_aug rfl ?_ | refine g_ipI ?_ | refine g_iK ?_ | refine g_dc ?_ | refine g_dget ?_ | refine g_int ?_ | refine g_intB ?_ | refine g_abs ?_ | refine g_max2 ?_ | refine g_min2 ?_ | refine g_sl ?_ | refine g_nopart ?_ | refine g_part ?_ | refine g_dput ?_ | refine g_lstrg ?_ | refine g_rg1 ?_ | refine g_exi ?_)
  | ((with_reducible refine k_slL ?_); refine g_slL (SqL.of (by walk_at "hp")) ?_) | ((with_reducible refine k_listOf ?_); refine g_listOf (.inl (SqL.of (by walk_at "hp"))) ?_) | ((with_reducible refine k_rep ?_); refine g_rep (by walk_at "hp") (by omega) ?_) | ((with_reducible refine k_len ?_); refine g_len (SqL.of (by walk_at "hp")) ?_) | ((with_reducible refine k_len ?_); refine g_len (by assumption) ?_) | ((with_reducible refine k_tyL ?_); refine g_tyL (by walk_at "hp") ?_) | ((with_reducible refine k_gT ?_); refine g_gT (SqT.of (by walk_at "hp")) rfl ?_) | ((with_reducible refine k_gL ?_); refine g_gL (SqL.of (by walk_at "hp")) rfl ?_) | ((with_reducible refine k_ixL ?_); refine g_ixL (SqL.of (by walk_at "hp")) rfl ?_) | ((with_reducible refine k_ixL ?_); refine g_rd (by walk_at "hp") (by walk_at "side") ?_) | ((with_reducible refine k_ixL ?_); refine g_rdI (by walk_at "hp") (by omega) (by omega) ?_) | ((with_reducible refine k_setL ?_); refine g_setL (by walk_at "hp") rfl ?_) | ((with_reducible refine k_new ?_); refine g_new rfl ?_) | ((with_reducible refine k_I ?_); refine g_I (by walk_at "side") ?_))
local macro_rules | `(tactic| walk_at "go") => `(tactic| repeat walk_at "st")

/-- stretch as a loop of so many turns -/
def stB (c : Int) (bs : List Int) (f : Int) : Nat → Int → Int
  | 0, k => k
  | n + 1, k => if (f - stB c bs f n k) % c ∈ bs then stB c bs f n k + 1 else stB c bs f n k
theorem stB_front {c : Int} {bs : List Int} {f : Int} : ∀ (n : Nat) (k : Int), stB c bs f (n + 1) k = if (f - k) % c ∈ bs then stB c bs f n (k + 1) else k
  | 0, k => rfl
  | n + 1, k => by
    have ih := stB_front (c := c) (bs := bs) (f := f) n k
    by_cases h : (f - k) % c ∈ bs
    · rw [if_pos h] at ih ⊢
      show (if (f - stB c bs f (n + 1) k) % c ∈ bs then _ else _) = _
      rw [ih]
      rfl
    · rw [if_neg h] at ih ⊢
      show (if (f - stB c bs f (n + 1) k) % c ∈ bs then stB c bs f (n + 1) k + 1 else stB c bs f (n + 1) k) = _
      rw [ih, if_neg h]
theorem stB_eq {c : Int} {bs : List Int} {f : Int} : ∀ (n : Nat) (k : Int), stB c bs f n k = stF c bs f n k
  | 0, k => rfl
  | n + 1, k => by
    rw [stB_front, stB_eq n (k + 1)]
    rfl
theorem stB_le (c : Int) (bs : List Int) (f : Int) (n : Nat) : 1 ≤ stB c bs f n 1 ∧ stB c bs f n 1 ≤ 1 + n := by
  rw [stB_eq]
  exact stF_le c bs f n 1
theorem put_len (c : List (Key × V)) (k : Key) (x : V) : (putK c k x).length ≤ c.length + 1 := by
  unfold putK
  split
  · rw [List.length_map]; omega
  · rw [List.length_append]; exact Nat.le_refl _
section
variable {P : Program} {w : World} {K : PySem.W.Frag} {mg : Str → Option Value} {base : Heap} {f : Addr} {fd : FuncData}
def spWS : Sp := fun vs H Q _ => ∃ (a b : Addr) (ls bs : List Int), vs = [.ref a, .ref b] ∧ H a = some (.lst (ls.map V.int)) ∧ H b = some (.lst (bs.map V.int)) ∧ 1 ≤ ls.length ∧ ls.length ≤ 12 ∧ (∀ l ∈ ls, 1 ≤ l ∧ l ≤ 10 ^ 18) ∧
  ∀ H', Same H H' → Q (.int (within ls bs)) H'
theorem fn_lsum (F : Df K mg "_law_within_sum" s__law_within_sum f fd) (B : Bl K mg) : Fn P w K mg base "_law_within_sum" 1 ["_law_limits_here", "_law_bare"] spWS := by
  refine F.fn sc__law_within_sum (fun vs H Q E h => ?_) (fun _ _ _ _ _ _ us hl => match us, hl with | [_, _], _ => rfl) (fun cdv A outer s H vs Q E hr gd h => ?_)
  · obtain ⟨a, b, ls, bs, rfl, _⟩ := h
    rfl
  obtain ⟨a, b, ls, bs, rfl, ha, hb, n1, n2, lb, q⟩ := h
  refine ⟨_, (pss_cons (ps_par3 (i := 2) (j := 3) (l := 4) rfl sc__law_within_sum.nd rfl rfl rfl (by decide) (by decide) (by decide) rfl rfl rfl (pa_cons (pe_callB (z_len (K := K)) rfl B.len_ (by decide +kernel) (pa_cons (pv 0) pa_nil)) (pa_cons (pe_lc (own := [("_law_k", 10)]) (g := gName 10) rfl sc__law_within_sum.nd (pi_range1 rfl B.range_ (pa_cons (pe_callB (z_len (K := K)) rfl B.len_ (by decide +kernel) (pa_cons (pv 0) pa_nil)) pa_nil)) (blkOk_by (own := [("_law_k", 10)]) (N := ["_law_limits_here", "_law_bare", "_law_many", "_law_free", "_law_found", "_law_sizes", "_law_function", "_law_turn", "_law_part", "_law_other", "_law_k"]) (sc := defScope s__law_within_sum) (by decide +kernel)) (fun _ _ _ _ _ => pg_name (i := 10) sc__law_within_sum.nd rfl (Or.inl rfl)) (fun _ _ _ _ _ => pts_one (pt_cmpR (z_notIn (K := K)) (pv 10) (pv 1) (by rfl))) (fun _ _ _ _ _ => pv 10)) (pa_cons pe_int pa_nil))) (by rfl))
      (pss_cons (ps_set (i := 5) sc__law_within_sum.nd rfl (Or.inl rfl) pe_dnewK)
      (pss_cons (ps_for (passes_of rfl) rfl (z_piL (K := K) (pv 3)) (pg_name (i := 6) sc__law_within_sum.nd rfl (Or.inl rfl)) (pss_cons (ps_dput (hu_of hr) (pv 5) (pv 6) pe_int rfl)
      (pss_one (ps_for (passes_of rfl) rfl (pi_range1 rfl B.range_ (pa_cons (pv 2) pa_nil)) (pg_name (i := 7) sc__law_within_sum.nd rfl (Or.inl rfl)) (pss_one (ps_if (pt_cmpR (z_in (K := K)) (pe_op op_mod (pe_callTy z_int rfl B.int_ (by decide +kernel) (pa_cons (pe_op op_sub (pv 6) (pe_dget (hu_of hr) (pv 5) (pv 6) (fun _ _ => rfl))) pa_nil)) (pv 2)) (pv 1) (by rfl)) (pss_one (ps_dput (hu_of hr) (pv 5) (pv 6) (pe_op op_add (pe_dget (hu_of hr) (pv 5) (pv 6) (fun _ _ => rfl)) pe_int) rfl)) pss_nil))))))
      (pss_cons (ps_for (passes_of rfl) rfl (z_piL (K := K) (pv 3)) (pg_name (i := 6) sc__law_within_sum.nd rfl (Or.inl rfl)) (pss_cons (ps_set (i := 8) sc__law_within_sum.nd rfl (Or.inl rfl) (pe_op op_pow (pe_dget (hu_of hr) (pv 5) (pv 6) (fun _ _ => rfl)) pe_int))
      (pss_cons (ps_for (passes_of rfl) rfl (z_piL (K := K) (pv 3)) (pg_name (i := 9) sc__law_within_sum.nd rfl (Or.inl rfl)) (pss_one (ps_if (pt_cmpR op_ne (pv 9) (pv 6) (nomark _)) (pss_one (ps_set (i := 8) sc__law_within_sum.nd rfl (Or.inl rfl) (pe_op op_mulW (pv 8) (pe_op op_add (pe_op op_mulW (pe_ix (z_ixL (K := K)) (pv 0) (pv 9) (fun _ _ => rfl)) (pv 2)) (pe_dget (hu_of hr) (pv 5) (pv 9) (fun _ _ => rfl)))))) pss_nil)))
      (pss_one (ps_set (i := 4) sc__law_within_sum.nd rfl (Or.inl rfl) (pe_op op_add (pv 4) (pv 8)))))))
      (pss_one (ps_ret (pe_op op_fdiv (pv 4) (pv 2)))))))), ?_⟩
  walk_at "go"
  rw [List.length_map]
  refine lcR1 (by omega) (by omega) (fun i => if decide ((i : Int) ∈ bs) = true then none else some (.int i)) (fun D ys H1 hD s1 eD dD => ?_) ?_
  · rw [Int.toNat_natCast, outs_free] at dD
    have ey := dD.ints
    subst ey
    walk_at "go"
    refine g_dnew fun dd hdd => ?_
    walk_at "go"
    have fl := free_len (n := ls.length) (bs := bs)
    have fm : ∀ {z}, z ∈ freeOf ls.length bs → 0 ≤ z ∧ z < ls.length := fun h => ⟨(free_mem h).1, (free_mem h).2.1⟩
    have hat : ∀ {i : Nat} {x : V}, ((freeOf ls.length bs).map V.int)[i]? = some x → ∃ z, (freeOf ls.length bs)[i]? = some z ∧ x = .int z ∧ z ∈ freeOf ls.length bs ∧ i < (freeOf ls.length bs).length := fun {i x} e => by
      rw [List.getElem?_map] at e
      cases q2 : (freeOf ls.length bs)[i]? with
      | none => rw [q2] at e; cases e
      | some z =>
        rw [q2] at e
        cases e
        exact ⟨z, rfl, rfl, List.mem_of_getElem? q2, (List.getElem?_eq_some_iff.mp q2).1⟩
    have sw : within ls bs = sumW ls bs ((freeOf ls.length bs).take (freeOf ls.length bs).length) / (ls.length : Int) := by rw [List.take_length]; rfl
    have pw : ∀ z, prodW ls bs z ((freeOf ls.length bs).take (freeOf ls.length bs).length) = prodW ls bs z (freeOf ls.length bs) := fun z => by rw [List.take_length]
    have ss : ∀ {i z}, (freeOf ls.length bs)[i]? = some z → sumW ls bs ((freeOf ls.length bs).take (i + 1)) = sumW ls bs ((freeOf ls.length bs).take i) + prodW ls bs z (freeOf ls.length bs) := fun h => by rw [take_snoc h, sumW_snoc]
    have tk : ∀ z ∈ freeOf ls.length bs, ∃ i, i < (freeOf ls.length bs).length ∧ (freeOf ls.length bs)[i]? = some z := fun z hz => by
      obtain ⟨i, hi, e⟩ := List.getElem_of_mem hz
      exact ⟨i, hi, by rw [List.getElem?_eq_getElem hi, e]⟩
    have pbd : ∀ (z : Int) (j : Nat), (prodW ls bs z ((freeOf ls.length bs).take j)).natAbs < 2 ^ (10 + 70 * ((freeOf ls.length bs).take j).length) := fun z j => prod_bound lb n2 fun o ho => fm (List.mem_of_mem_take ho)
    have pl : ∀ j, ((freeOf ls.length bs).take j).length ≤ 12 := fun j => by have := List.length_take_le' j (freeOf ls.length bs); omega
    have ps : ∀ {j o}, (freeOf ls.length bs)[j]? = some o → ∀ z, prodW ls bs z ((freeOf ls.length bs).take (j + 1)) = stepW ls bs z (prodW ls bs z ((freeOf ls.length bs).take j)) o := fun h z => by rw [take_snoc h, prodW_snoc]
    generalize freeOf ls.length bs = fr at *
    have nD : ∀ {b o}, H1 b = some o → b ≠ dd := fun e => ne_of_none e hdd
    have S0 : Same H1 (upd H1 dd (.dK [])) := Same.new hdd
    refine forL (.of (S0 _ _ eD)) (fun i τ G => ∃ z6 z7 kvs, τ = [some (.ref a), some (.ref b), some (.int ls.length), some (.ref D), some (.int 0), some (.ref dd), z6, z7, none, none, none] ∧ Same H1 G ∧ G dd = some (.dK kvs) ∧ kvs.length ≤ 20 * i ∧ ∀ z ∈ fr.take i, valV kvs (Sum.inl z) = some (.int (stB ls.length bs z ls.length 1)))
      ⟨none, none, [], rfl, S0, upd_same, Nat.le_refl _, fun z h => by simp at h⟩ (fun i τ G _ ⟨_, _, _, _, sG, _⟩ => .of (sG _ _ eD)) ?_ ?_
    · rintro i x τ G hx ⟨z6, z7, kvs, rfl, sG, ed, lk, vk⟩
      obtain ⟨z, hz, rfl, mz, hi⟩ := hat hx
      walk_at "go"
      refine ⟨dd, _, rfl, .inl ⟨kvs, Sum.inl z, ed, rfl, Nat.lt_of_lt_of_le (by omega : _ < 100000) sz5, rfl⟩, ?_⟩
      have lp := put_len kvs (Sum.inl z) (V.int 1)
      walk_at "go"
      refine forR1 (by omega) (by omega) (fun t τ G => ∃ z7 kvs, τ = [some (.ref a), some (.ref b), some (.int ls.length), some (.ref D), some (.int 0), some (.ref dd), some (.int z), z7, none, none, none] ∧ Same H1 G ∧ G dd = some (.dK kvs) ∧ kvs.length ≤ 20 * i + 1 + t ∧
          (∀ z' ∈ fr.take i, z' ≠ z → valV kvs (Sum.inl z') = some (.int (stB ls.length bs z' ls.length 1))) ∧ valV kvs (Sum.inl z) = some (.int (stB ls.length bs z t 1)))
        ⟨z7, _, rfl, sG.mut hdd, upd_same, by omega, fun z' h ne => ?_, ?_⟩ ?_ ?_
      · rw [valV_put, if_neg (fun e => ne (Sum.inl.inj e))]
        exact vk z' h
      · rw [valV_put, if_pos rfl]
        rfl
      · rintro t τ G2 ht ⟨z7, kvs2, rfl, s2, ed2, lk2, vk2, vz⟩
        have eb := s2 _ _ (s1 _ _ hb)
        have bz := stB_le ls.length bs z t
        walk_at "go"
        refine ⟨dd, _, rfl, .inl ⟨kvs2, Sum.inl z, .inl ed2, rfl, vz.symm⟩, ?_⟩
        walk_at "go"
        refine g_in (.inl (.of eb)) rfl flat_ints ?_
        rw [inV_ints]
        walk_at "go"
        have es : stB ls.length bs z (t + 1) 1 = if (z - stB ls.length bs z t 1) % (ls.length : Int) ∈ bs then stB ls.length bs z t 1 + 1 else stB ls.length bs z t 1 := rfl
        refine g_ite (fun h => ?_) (fun h => ?_)
        · walk_at "go"
          refine ⟨dd, _, rfl, .inl ⟨kvs2, Sum.inl z, .inl ed2, rfl, vz.symm⟩, ?_⟩
          walk_at "go"
          refine ⟨dd, _, rfl, .inl ⟨kvs2, Sum.inl z, ed2, rfl, Nat.lt_of_lt_of_le (by omega : _ < 100000) sz5, rfl⟩, ?_⟩
          have lp := put_len kvs2 (Sum.inl z) (V.int (stB ls.length bs z t 1 + 1))
          refine ⟨_, _, rfl, s2.mut hdd, upd_same, by omega, fun z' h ne => ?_, ?_⟩
          · rw [valV_put, if_neg (fun e => ne (Sum.inl.inj e))]
            exact vk2 z' h ne
          · rw [valV_put, if_pos rfl, es, if_pos h]
        · walk_at "go"
          refine ⟨_, _, rfl, s2, ed2, by omega, vk2, ?_⟩
          rw [es, if_neg h]
          exact vz
      · rintro τ G2 ⟨z7, kvs2, rfl, s2, ed2, lk2, vk2, vz⟩
        rw [Int.toNat_natCast] at lk2 vz
        refine ⟨_, _, _, rfl, s2, ed2, by omega, fun z' h => ?_⟩
        rw [take_snoc hz] at h
        rcases List.mem_append.mp h with h | h
        · by_cases e : z' = z
          · rw [e]; exact vz
          · exact vk2 z' h e
        · rw [List.mem_singleton.mp h]; exact vz
    rintro τ G0 ⟨z6, z7, kvs, rfl, sG0, ed0, lk, vk⟩
    rw [List.length_map, List.take_length] at vk
    have get : ∀ {G}, Same G0 G → ∀ {z}, z ∈ fr → DGet G dd (.int z) (some (.int (st ls.length bs z))) := fun {G} sG {z} hz => .inl ⟨kvs, Sum.inl z, .inl (sG _ _ ed0), rfl, by
      rw [vk z hz, stB_eq]
      rfl⟩
    have eD0 := sG0 _ _ eD
    have ea0 := sG0 _ _ (s1 _ _ ha)
    walk_at "go"
    refine forL (.of eD0) (fun i τ G => ∃ z6 z8 z9, τ = [some (.ref a), some (.ref b), some (.int ls.length), some (.ref D), some (.int (sumW ls bs (fr.take i))), some (.ref dd), z6, z7, z8, z9, none] ∧ G = G0)
      ⟨_, none, none, rfl, rfl⟩ (fun i τ G _ ⟨_, _, _, _, e⟩ => by rw [e]; exact .of eD0) ?_ ?_
    · rintro i x τ G hx ⟨z6, z8, z9, rfl, rfl⟩
      obtain ⟨z, hz, rfl, mz, hi⟩ := hat hx
      have hq := st_le (n := ls.length) (bare := bs) (f := z)
      walk_at "go"
      refine ⟨dd, _, rfl, get (Same.refl _) mz, ?_⟩
      walk_at "go"
      refine forL (.of eD0) (fun j τ G' => ∃ z9, τ = [some (.ref a), some (.ref b), some (.int ls.length), some (.ref D), some (.int (sumW ls bs (fr.take i))), some (.ref dd), some (.int z), z7, some (.int (prodW ls bs z (fr.take j))), z9, none] ∧ G' = G)
        ⟨z9, rfl, rfl⟩ (fun i τ G _ ⟨_, _, e⟩ => by rw [e]; exact .of eD0) ?_ ?_
      · rintro j x τ G' hj ⟨z9, rfl, rfl⟩
        obtain ⟨o, ho, rfl, mo, hjl⟩ := hat hj
        obtain ⟨o1, o2⟩ := fm mo
        have bo := lim_bound (bs := bs) lb n2 ⟨o1, o2⟩
        walk_at "go"
        by_cases ne : o ≠ z
        · rw [show (!decide (V.int o = V.int z)) = true by simpa using ne]
          walk_at "go"
          refine ⟨_, _, rfl, rfl, wide_mul (a := 60) (b := 4) bo.1 (by omega) (by decide) (by decide) (by decide), ?_⟩
          walk_at "go"
          refine ⟨dd, _, rfl, get (Same.refl _) mo, ?_⟩
          walk_at "go"
          have plj := pl j
          refine g_I (wide_mul (pbd z j) bo.2 (by omega) (by decide) (by omega)) ?_
          walk_at "go"
          refine ⟨some (.int o), ?_, rfl⟩
          rw [ps ho]
          unfold stepW
          rw [if_pos ne]
          rfl
        · rw [show (!decide (V.int o = V.int z)) = false by simpa using ne]
          walk_at "go"
          refine ⟨some (.int o), ?_, rfl⟩
          rw [ps ho]
          unfold stepW
          rw [if_neg ne]
          rfl
      · rintro τ G' ⟨z9, rfl, rfl⟩
        walk_at "go"
        refine ⟨some (.int z), some (.int (prodW ls bs z fr)), z9, ?_, rfl⟩
        rw [ss hz, List.length_map, pw]
        rfl
    · rintro τ G ⟨z6, z8, z9, rfl, rfl⟩
      walk_at "go"
      rw [List.length_map, ← sw]
      exact q _ (s1.trans sG0)
  · intro D i H1 hi s1 nD hD Y N yes no
    have eb := s1 _ _ hb
    walk_at "go"
    refine ⟨rfl, ?_⟩
    walk_at "go"
    refine g_notIn (.inl (.of eb)) rfl flat_ints ?_
    rw [inV_ints]
    walk_at "go"
    refine g_iten (fun h => ?_) (fun h => ?_)
    · walk_at "go"
      exact yes _ (.int i) _ (by rw [decide_eq_false h]; rfl) (Same.refl _) (.int _)
    · exact no _ (by rw [decide_eq_true h]; rfl) (Same.refl _)
end
end Z
set_option Elab.async false
set_option linter.all false
set_option maxRecDepth 100000
set_option maxHeartbeats 4000000
namespace Z
open PySem PySem.Spec PyProof.Rows L2
local macro_rules | `(tactic| walk_at "hp") => `(tactic| first | assumption | exact upd_same | exact (upd_ne (by assumption)).trans (by assumption))
local macro_rules | `(tactic| walk_at "side") => `(tactic| first | assumption | omega | (exact ⟨by omega, by omega⟩) | (exact Or.inl ⟨by omega, by omega⟩) | (exact Or.inr ⟨by omega, by omega⟩) | (exact ⟨by omega, by omega, by omega⟩))
local macro_rules | `(tactic| walk_at "st") => `(tactic| first
  | (with_reducible first
  | refine g_seq ?_ | refine g_asg ?_ | refine g_op ?_ | refine g_var rfl ?_ | refine g_c ?_ | refine g_I0 ?_ | refine g_cons ?_ | refine g_nil ?_ | refine g_name rfl ?_ | refine g_ret ?_ | refine g_ifs ?_ | refine g_test ?_ | refine g_bl ?_
  | refine g_cb ?_ | refine g_call ?_ | refine g_drop ?_ | refine g_next ?_ | refine g_and ?_ | refine g_or ?_ | refine g_not ?_ | refine g_if ?_ | refine g_notV ?_ | refine g_andV ?_ | refine g_orV ?_ | refine g_chain ?_ | refine g_un ?_ | refine g_U ?_ | refine g_lst ?_ | refine g_tup ?_ | refine g_sub ?_ | refine g_B ?_ | refine g_int1 ?_ | refine g_trub ?_
  | refine g_eq rfl ?_ | refine g_ne rfl ?_ | refine g_tt ?_ | refine g_ff ?_ | refine g_nt ?_ | refine g_nf ?_ | refine g_retN ?_ | refine g_rs ?_ | refine g_lc ?_ | refine g_for ?_ | refine g_iL ?_ | refine g_iT ?_ | refine g_iR1 ?_ | refine g_iR2 ?_ | refine g_iR3 ?_ | refine g_yes ?_ | refine g_truth ?_ | refine g_gcons ?_ | refine g_gnil ?_ | refine g_par ?_ | refine g_par3 ?_ | refine g_ex2 ?_ | refine g_ex3 ?_ | refine g_bm ?_ | refine g_bm0 ?_ | refine g_aug rfl ?_ | refine g_ipI ?_ | refine g_iK ?_ | refine g_dc ?_ | refine g_dget ?_ | refine g_int ?_ | refine g_intB ?_ | refine g_abs ?_ | refine g_max2 ?_ | refine g_min2 ?_ | refine g_sl ?_ | refine g_nopart ?_ | refine g_part ?_ | refine g_dput ?_ | refine g_lstrg ?_ | refine g_rg1 ?_ | refine g_exi ?_)
  | ((with_reducible refine k_slL ?_); refine g_slL (SqL.of (by walk_at "hp")) ?_) | ((with_reducible refine k_listOf ?_); refine g_listOf (.inl (SqL.of (by walk_at "hp"))) ?_) | ((with_reducible refine k_rep ?_); refine g_rep (by walk_at "hp") (by omega) ?_) | ((with_reducible refine k_len ?_); refine g_len (SqL.of (by walk_at "hp")) ?_) | ((with_reducible refine k_len ?_); refine g_len (by assumption) ?_) | ((with_reducible refine k_tyL ?_); refine g_tyL (by walk_at "hp") ?_) | ((with_reducible refine k_gT ?_); refine g_gT (SqT.of (by walk_at "hp")) rfl ?_) | ((with_reducible refine k_gL ?_); refine g_gL (SqL.of (by walk_at "hp")) rfl ?_) | ((with_reducible refine k_ixL ?_); refine g_ixL (SqL.of (by walk_at "hp")) rfl ?_) | ((with_reducible refine k_ixL ?_); refine g_rd (by walk_at "hp") (by walk_at "side") ?_) | ((with_reducible refine k_ixL ?_); refine g_rdI (by walk_at "hp") (by omega) (by omega) ?_) | ((with_reducible refine k_setL ?_); refine g_setL (by walk_at "hp") rfl ?_) | ((with_reducible refine k_new ?_); refine g_new rfl ?_) | ((with_reducible refine k_I ?_); refine g_I (by walk_at "side") ?_))
local macro_rules | `(tactic| walk_at "go") => `(tactic| repeat walk_at "st")

def Tags : List (Str × Str) := [("InvalidCount", "count"), ("InvalidInlinedCount", "inlined"), ("InvalidStaying", "staying"), ("InvalidLimits", "limits"), ("InvalidGroup", "group")]
/-- how the classes match -/
def exmB (K : PySem.W.Frag) : Bool := Tags.all fun a => Tags.all fun b => decide (PySem.W.exmOne K (.ref (He.ga K a.1)) (.ref (He.ga K b.1)) = some (decide (a.1 = b.1)))
theorem exm_of {K : PySem.W.Frag} (h : exmB K = true) {a b : Str × Str} (ha : a ∈ Tags) (hb : b ∈ Tags) : PySem.W.exmOne K (.ref (He.ga K a.1)) (.ref (He.ga K b.1)) = some (decide (a.1 = b.1)) :=
  of_decide_eq_true (List.all_eq_true.mp (List.all_eq_true.mp h a ha) b hb)
theorem Err.mono {K : PySem.W.Frag} {x : Str} {v : V} {H : Hp} {E E' : XK} (e : Err K x v H E) (h : ∀ c d G, E c d G → E' c d G) : Err K x v H E' := fun d G h1 h2 h3 => h _ _ _ (e d G h1 h2 h3)
theorem spStaying_mono {K : PySem.W.Frag} {vs : List V} {H : Hp} {Q Q' : VK} {E E' : XK} (h : spStaying K vs H Q E) (hq : ∀ v G, Q v G → Q' v G) (he : ∀ c d G, E c d G → E' c d G) : spStaying K vs H Q' E' := by
  obtain ⟨c, i, s, tc, ti, ts, h1, h2, h3, h4, a1, a2, a3, a4⟩ := h
  exact ⟨c, i, s, tc, ti, ts, h1, h2, h3, h4, fun z => (a1 z).mono he, fun z y => (a2 z y).mono he, fun a b c => (a3 a b c).mono he, fun a b c d e => hq _ _ (a4 a b c d e)⟩
theorem spWheels_mono {K : PySem.W.Frag} {vs : List V} {H : Hp} {Q Q' : VK} {E E' : XK} (h : spWheels K vs H Q E) (hq : ∀ v G, Q v G → Q' v G) (he : ∀ c d G, E c d G → E' c d G) : spWheels K vs H Q' E' := by
  obtain ⟨c, i, tc, ti, h1, h2, h3, a1, a2, a3⟩ := h
  exact ⟨c, i, tc, ti, h1, h2, h3, fun z => (a1 z).mono he, fun z y => (a2 z y).mono he, fun a b c d => hq _ _ (a3 a b c d)⟩
theorem spWithin_mono {K : PySem.W.Frag} {vs : List V} {H : Hp} {Q Q' : VK} {E E' : XK} (h : spWithin K vs H Q E) (hq : ∀ v G, Q v G → Q' v G) (he : ∀ c d G, E c d G → E' c d G) : spWithin K vs H Q' E' := by
  obtain ⟨x, y, rfl, ⟨h1, h2⟩ | ⟨ls, h1, h2, h3⟩ | ⟨ls, bs, h1, h2, h3⟩⟩ := h
  · exact ⟨x, y, rfl, .inl ⟨h1, h2.mono he⟩⟩
  · exact ⟨x, y, rfl, .inr (.inl ⟨ls, h1, h2, h3.mono he⟩)⟩
  · exact ⟨x, y, rfl, .inr (.inr ⟨ls, bs, h1, h2, fun G s => hq _ _ (h3 G s)⟩)⟩
section
variable {P : Program} {w : World} {K : PySem.W.Frag} {mg : Str → Option Value} {base : Heap} {f : Addr} {fd : FuncData}
theorem sc__law_told : FnScope ["_law_way", "_law_one", "_law_other", "_law_third", "e"] ["_law_way", "_law_one", "_law_other", "_law_third"] (defScope s__law_told) := ⟨rfl, rfl, rfl, by decide +kernel, rfl, by decide +kernel, by decide +kernel⟩
def toldE (K : PySem.W.Frag) (Q : VK) : XK := fun cls d G => ∃ t v dd, t ∈ Tags ∧ cls = .ref (He.ga K t.1) ∧ d = some dd ∧ G dd = some (.xd [(("given" : Str), v)]) ∧ ∀ D, G D = none → Q (.ref D) (upd G D (.lst [.str t.2, v]))
def toldQ (Q : VK) : VK := fun v H1 => ∀ D, H1 D = none → Q (.ref D) (upd H1 D (.lst [.str "told", v]))
def spTold (K : PySem.W.Frag) : Sp := fun vs H Q _ => ∃ (way : Int) (x y z : V), vs = [.int way, x, y, z] ∧ (((way = 0 ∨ way = 1) ∧ spStaying K [x, y, z] H (toldQ Q) (toldE K Q)) ∨ ((way = 2 ∨ way = 3) ∧ spWheels K [x, y] H (toldQ Q) (toldE K Q)) ∨
  ((way = 4 ∨ way = 5) ∧ spWithin K [x, y] H (toldQ Q) (toldE K Q)))
theorem fn_told (F : Df K mg "_law_told" s__law_told f fd) (B : Bl K mg) (hx : exmB K = true) (F_count_staying : Fn P w K mg base "count_staying" 5 ["count", "inlined", "staying"] (spStaying K)) (F_count_wheels : Fn P w K mg base "count_wheels" 5 ["count", "inlined"] (spWheels K))
    (F_count_within : Fn P w K mg base "count_within" 5 ["limits", "bare"] (spWithin K))
    (Kstaying_count_inlined_count_staying : FnK P w K mg base "count_staying" 5 ["count", "inlined", "staying"] (spStaying K) 0 ["staying", "count", "inlined"] [1, 2, 0])
    (Kinlined_count_count_wheels : FnK P w K mg base "count_wheels" 5 ["count", "inlined"] (spWheels K) 0 ["inlined", "count"] [1, 0])
    (Kbare_limits_count_within : FnK P w K mg base "count_within" 5 ["limits", "bare"] (spWithin K) 0 ["bare", "limits"] [1, 0])
    (X_InvalidCount : Exn P w K mg base "InvalidCount") (X_InvalidInlinedCount : Exn P w K mg base "InvalidInlinedCount") (X_InvalidStaying : Exn P w K mg base "InvalidStaying") (X_InvalidLimits : Exn P w K mg base "InvalidLimits") (X_InvalidGroup : Exn P w K mg base "InvalidGroup") :
    Fn P w K mg base "_law_told" 6 ["_law_way", "_law_one", "_law_other", "_law_third"] (spTold K) := by
  refine F.fn sc__law_told (fun vs H Q E h => ?_) (fun _ _ _ _ _ _ us hl => match us, hl with | [_, _, _, _], _ => rfl) (fun cdv A outer s H vs Q E hr gd h => ?_)
  · obtain ⟨way, x, y, z, rfl, _⟩ := h
    rfl
  obtain ⟨way, x, y, z, rfl, h⟩ := h
  refine ⟨_, (pss_one (ps_try_cl (i := 4) rfl rfl sc__law_told.nd rfl rfl (takes_of rfl rfl rfl rfl) (fun W pn xe tk pw => (pss_cons (ps_if (pt_cmpR op_eq (pv 0) pe_int (nomark _)) (pss_one (ps_ret (pe_lst (pa_cons pe_str (pa_cons (fcallS F_count_staying (hr.mono (by decide)) gd tk (pa_cons (pv 1) (pa_cons (pv 2) (pa_cons (pv 3) pa_nil)))) pa_nil))))) pss_nil)
      (pss_cons (ps_if (pt_cmpR op_eq (pv 0) pe_int (nomark _)) (pss_one (ps_ret (pe_lst (pa_cons pe_str (pa_cons (fcallK0S Kstaying_count_inlined_count_staying (hr.mono (by decide)) gd tk (pk_cons (pv 3) (pk_cons (pv 1) (pk_cons (pv 2) pk_nil)))) pa_nil))))) pss_nil)
      (pss_cons (ps_if (pt_cmpR op_eq (pv 0) pe_int (nomark _)) (pss_one (ps_ret (pe_lst (pa_cons pe_str (pa_cons (fcallS F_count_wheels (hr.mono (by decide)) gd tk (pa_cons (pv 1) (pa_cons (pv 2) pa_nil))) pa_nil))))) pss_nil)
      (pss_cons (ps_if (pt_cmpR op_eq (pv 0) pe_int (nomark _)) (pss_one (ps_ret (pe_lst (pa_cons pe_str (pa_cons (fcallK0S Kinlined_count_count_wheels (hr.mono (by decide)) gd tk (pk_cons (pv 2) (pk_cons (pv 1) pk_nil))) pa_nil))))) pss_nil)
      (pss_one (ps_ret (pe_lst (pa_cons pe_str (pa_cons (pe_ifExp (pt_cmpR op_eq (pv 0) pe_int (nomark _)) (fcallS F_count_within (hr.mono (by decide)) gd tk (pa_cons (pv 1) (pa_cons (pv 2) pa_nil))) (fcallK0S Kbare_limits_count_within (hr.mono (by decide)) gd tk (pk_cons (pv 2) (pk_cons (pv 1) pk_nil)))) pa_nil)))))))))) (Cls1.cons ⟨rfl, by decide, .inl X_InvalidCount.2.1⟩ (fun a oe cls d pn hz hf => (pss_one (ps_ret (pe_lst (pa_cons pe_str (pa_cons (pe_xf X_InvalidCount.1.xf X_InvalidCount.1.no hz hf (pv 4)) pa_nil)))))) (Cls1.cons ⟨rfl, by decide, .inl X_InvalidInlinedCount.2.1⟩ (fun a oe cls d pn hz hf => (pss_one (ps_ret (pe_lst (pa_cons pe_str (pa_cons (pe_xf X_InvalidInlinedCount.1.xf X_InvalidInlinedCount.1.no hz hf (pv 4)) pa_nil)))))) (Cls1.cons ⟨rfl, by decide, .inl X_InvalidStaying.2.1⟩ (fun a oe cls d pn hz hf => (pss_one (ps_ret (pe_lst (pa_cons pe_str (pa_cons (pe_xf X_InvalidStaying.1.xf X_InvalidStaying.1.no hz hf (pv 4)) pa_nil)))))) (Cls1.cons ⟨rfl, by decide, .inl X_InvalidLimits.2.1⟩ (fun a oe cls d pn hz hf => (pss_one (ps_ret (pe_lst (pa_cons pe_str (pa_cons (pe_xf X_InvalidLimits.1.xf X_InvalidLimits.1.no hz hf (pv 4)) pa_nil)))))) (Cls1.cons ⟨rfl, by decide, .inl X_InvalidGroup.2.1⟩ (fun a oe cls d pn hz hf => (pss_one (ps_ret (pe_lst (pa_cons pe_str (pa_cons (pe_xf X_InvalidGroup.1.xf X_InvalidGroup.1.no hz hf (pv 4)) pa_nil)))))) Cls1.nil))))))), ?_⟩
  have cl : ∀ {cls : Value} {d : Option Addr} {G : Hp}, toldE K Q cls d G → wCl K 4 (fun cls d _ H => E cls d H) { nx := fun x H' => Q .non H', rt := Q }
      [(.ref (He.ga K "InvalidCount"), fun a cls d => tRet (tLst (tCons (tC (.str "count")) (tCons (tXf a cls d (He.ga K "InvalidCount") "given" (tVar 4)) tNil)))),
        (.ref (He.ga K "InvalidInlinedCount"), fun a cls d => tRet (tLst (tCons (tC (.str "inlined")) (tCons (tXf a cls d (He.ga K "InvalidInlinedCount") "given" (tVar 4)) tNil)))),
        (.ref (He.ga K "InvalidStaying"), fun a cls d => tRet (tLst (tCons (tC (.str "staying")) (tCons (tXf a cls d (He.ga K "InvalidStaying") "given" (tVar 4)) tNil)))),
        (.ref (He.ga K "InvalidLimits"), fun a cls d => tRet (tLst (tCons (tC (.str "limits")) (tCons (tXf a cls d (He.ga K "InvalidLimits") "given" (tVar 4)) tNil)))),
        (.ref (He.ga K "InvalidGroup"), fun a cls d => tRet (tLst (tCons (tC (.str "group")) (tCons (tXf a cls d (He.ga K "InvalidGroup") "given" (tVar 4)) tNil))))] cls d [some (.int way), some x, some y, some z, none] G := by
    rintro cls d G ⟨t, v, dd, ht, rfl, rfl, eg, q⟩
    have step : ∀ {l : List (Value × Suite)} {nm tag : Str}, (nm, tag) ∈ Tags → (t = (nm, tag) ∨ wCl K 4 (fun cls d _ H => E cls d H) { nx := fun x H' => Q .non H', rt := Q } l (.ref (He.ga K t.1)) (some dd) [some (.int way), some x, some y, some z, none] G) → (t ≠ (nm, tag) → nm ≠ t.1) →
        wCl K 4 (fun cls d _ H => E cls d H) { nx := fun x H' => Q .non H', rt := Q } ((.ref (He.ga K nm), fun a cls d => tRet (tLst (tCons (tC (.str tag)) (tCons (tXf a cls d (He.ga K nm) "given" (tVar 4)) tNil)))) :: l) (.ref (He.ga K t.1)) (some dd) [some (.int way), some x, some y, some z, none] G := by
      intro l nm tag hm hor hne
      refine ⟨_, exm_of hx ht hm, fun e a ha => ?_, fun e => ?_⟩
      · have e1 := of_decide_eq_true e
        have e2 : t = (nm, tag) := Classical.byContradiction fun z => hne z e1.symm
        subst e2
        show tRet (tLst (tCons (tC (.str tag)) (tCons (tXf a (.ref (He.ga K nm)) (some dd) (He.ga K nm) "given" (tVar 4)) tNil))) _ _ _
        refine g_ret (g_lst (g_cons (g_c (g_cons (g_var rfl ?_)))))
        refine ⟨rfl, rfl, dd, _, v, rfl, eg, rfl, ?_⟩
        refine g_nil ⟨Nat.le_trans (Nat.le_of_ble_eq_true rfl) sz5, fun D hD => ?_⟩
        exact q D hD
      · rcases hor with rfl | h
        · exact absurd rfl (of_decide_eq_false e)
        · exact h
    have ne : ∀ {nm tag : Str}, (nm, tag) ∈ Tags → t ≠ (nm, tag) → nm ≠ t.1 := fun {nm tag} hm hn he => hn (by
      have key : ∀ a ∈ Tags, ∀ b ∈ Tags, a.1 = b.1 → a = b := by decide +kernel
      exact key _ ht _ hm he.symm)
    have m1 : ((("InvalidCount" : Str), ("count" : Str)) : Str × Str) ∈ Tags := .head _
    have m2 : ((("InvalidInlinedCount" : Str), ("inlined" : Str)) : Str × Str) ∈ Tags := .tail _ (.head _)
    have m3 : ((("InvalidStaying" : Str), ("staying" : Str)) : Str × Str) ∈ Tags := .tail _ (.tail _ (.head _))
    have m4 : ((("InvalidLimits" : Str), ("limits" : Str)) : Str × Str) ∈ Tags := .tail _ (.tail _ (.tail _ (.head _)))
    have m5 : ((("InvalidGroup" : Str), ("group" : Str)) : Str × Str) ∈ Tags := .tail _ (.tail _ (.tail _ (.tail _ (.head _))))
    have last : t ∈ Tags → t = (("InvalidCount" : Str), ("count" : Str)) ∨ t = (("InvalidInlinedCount" : Str), ("inlined" : Str)) ∨ t = (("InvalidStaying" : Str), ("staying" : Str)) ∨ t = (("InvalidLimits" : Str), ("limits" : Str)) ∨ t = (("InvalidGroup" : Str), ("group" : Str)) := fun h => by
      simpa [Tags] using h
    rcases last ht with h | h | h | h | h
    · exact step m1 (.inl h) (ne m1)
    · exact step m1 (.inr (step m2 (.inl h) (ne m2))) (ne m1)
    · exact step m1 (.inr (step m2 (.inr (step m3 (.inl h) (ne m3))) (ne m2))) (ne m1)
    · exact step m1 (.inr (step m2 (.inr (step m3 (.inr (step m4 (.inl h) (ne m4))) (ne m3))) (ne m2))) (ne m1)
    · exact step m1 (.inr (step m2 (.inr (step m3 (.inr (step m4 (.inr (step m5 (.inl h) (ne m5))) (ne m4))) (ne m3))) (ne m2))) (ne m1)
  have told : ∀ {v : V} {G : Hp}, toldQ Q v G → tNil [some (.int way), some x, some y, some z, none] G fun xs H2 => (V.str "told" :: v :: xs).length ≤ sizeLine ∧ ∀ p, H2 p = none → Q (.ref p) (upd H2 p (.lst (V.str "told" :: v :: xs))) := fun h =>
    g_nil ⟨Nat.le_trans (Nat.le_of_ble_eq_true rfl) sz5, h⟩
  rcases h with ⟨rfl | rfl, h⟩ | ⟨rfl | rfl, h⟩ | ⟨rfl | rfl, h⟩
  all_goals
    walk_at "go"
    repeat first | refine g_ite (fun z => absurd (V.int.inj z) (by decide)) (fun _ => ?_) | refine g_ite (fun _ => ?_) (fun z => absurd rfl z) | walk_at "st"
  · exact spStaying_mono h (fun v G r => told r) fun c d G r => cl r
  · exact ⟨rfl, spStaying_mono h (fun v G r => told r) fun c d G r => cl r⟩
  · exact spWheels_mono h (fun v G r => told r) fun c d G r => cl r
  · exact ⟨rfl, spWheels_mono h (fun v G r => told r) fun c d G r => cl r⟩
  · exact spWithin_mono h (fun v G r => told r) fun c d G r => cl r
  · exact ⟨rfl, spWithin_mono h (fun v G r => told r) fun c d G r => cl r⟩
end
end Z
set_option Elab.async false
set_option linter.all false
set_option maxRecDepth 100000
set_option maxHeartbeats 4000000
/-! k58: the sums. -/
namespace Z
open PySem PySem.Spec PyProof.Rows L2
abbrev fp (n : Int) (k : Nat) : Int := Builtin.Math.fallingProduct n k
def Bn : Nat → Nat → Nat
  | _, 0 => 1
  | 0, _ + 1 => 0
  | n + 1, k + 1 => Bn n k + Bn n (k + 1)
theorem fp_succ (n : Int) (k : Nat) : fp n (k + 1) = fp n k * (n - (k : Int)) := PySem.W.mc_fp_succ n k
theorem fp_zero (n : Int) : fp n 0 = 1 := PySem.W.mc_fp_zero n
theorem fp_up (n : Int) : ∀ k : Nat, fp (n + 1) (k + 1) = (n + 1) * fp n k
  | 0 => by rw [fp_succ, fp_zero, fp_zero]; simp
  | k + 1 => by
    rw [fp_succ, fp_up n k, fp_succ, Int.mul_assoc]
    congr 2
    omega
theorem fp_o : ∀ k : Nat, fp 0 (k + 1) = 0
  | 0 => by rw [fp_succ]; simp
  | k + 1 => by rw [fp_succ, fp_o k, Int.zero_mul]
theorem fp_bn : ∀ n k : Nat, fp (n : Int) k = fp (k : Int) k * (Bn n k : Nat)
  | n, 0 => by rw [fp_zero, fp_zero]; cases n <;> rfl
  | 0, k + 1 => by
    show fp 0 (k + 1) = _ * ((0 : Nat) : Int)
    rw [fp_o]; simp
  | n + 1, k + 1 => by
    have h1 := fp_bn n k
    have h2 := fp_bn n (k + 1)
    have h3 : fp ((n + 1 : Nat) : Int) (k + 1) = fp (n : Int) (k + 1) + ((k : Int) + 1) * fp (n : Int) k := by
      rw [show ((n + 1 : Nat) : Int) = (n : Int) + 1 from rfl, fp_up, fp_succ, Int.mul_comm (fp _ _), ← Int.add_mul]
      congr 1
      omega
    have h4 : fp ((k + 1 : Nat) : Int) (k + 1) = ((k : Int) + 1) * fp (k : Int) k := fp_up k k
    rw [h3, h2, h1]
    show _ = fp ((k + 1 : Nat) : Int) (k + 1) * ((Bn n k + Bn n (k + 1) : Nat) : Int)
    rw [Int.natCast_add (Bn n k), Int.mul_add, h4, Int.add_comm, Int.mul_assoc, Int.mul_assoc]
theorem fp_split (n : Int) (k : Nat) : ∀ j : Nat, fp n (k + j) = fp n k * fp (n - k) j
  | 0 => by rw [fp_zero, Int.mul_one]; rfl
  | j + 1 => by
    rw [← Nat.add_assoc, fp_succ, fp_split n k j, fp_succ, Int.mul_assoc]
    congr 2
    omega
theorem fp_pos (k : Nat) : 0 < fp (k : Int) k := by
  have := PySem.W.mc_fp_pos (n := (k : Int)) k (Int.le_refl _)
  show 0 < Builtin.Math.fallingProduct (k : Int) k
  omega
theorem bn_sym {n k : Nat} (h : k ≤ n) : Bn n k = Bn n (n - k) := by
  have a := fp_split (n : Int) k (n - k)
  have b := fp_split (n : Int) (n - k) k
  rw [show k + (n - k) = n by omega, show (n : Int) - k = ((n - k : Nat) : Int) by omega, fp_bn n k] at a
  rw [show (n - k) + k = n by omega, show (n : Int) - ((n - k : Nat) : Int) = (k : Nat) by omega, fp_bn n (n - k)] at b
  have p1 := fp_pos k
  have p2 := fp_pos (n - k)
  have e := a.symm.trans b
  have e2 : (fp (k : Int) k * fp ((n - k : Nat) : Int) (n - k)) * (Bn n k : Int) = (fp (k : Int) k * fp ((n - k : Nat) : Int) (n - k)) * (Bn n (n - k) : Int) := by
    rw [Int.mul_right_comm, e, Int.mul_right_comm, Int.mul_comm (fp ((n - k : Nat) : Int) (n - k))]
  have e3 := Int.eq_of_mul_eq_mul_left (Int.ne_of_gt (Int.mul_pos p1 p2)) e2
  exact_mod_cast e3
theorem fp_div (n k : Nat) : fp (n : Int) k / fp (k : Int) k = (Bn n k : Nat) := by
  rw [fp_bn n k, Int.mul_ediv_cancel_left _ (Int.ne_of_gt (fp_pos k))]
theorem bn_above : ∀ {n k : Nat}, n < k → Bn n k = 0
  | _, 0, h => by omega
  | 0, k + 1, _ => rfl
  | n + 1, k + 1, h => by
    show Bn n k + Bn n (k + 1) = 0
    rw [bn_above (by omega), bn_above (by omega)]
theorem comb_bn (n k : Nat) : PySem.W.mcComb (n : Int) (k : Int) = (Bn n k : Nat) := by
  by_cases h : k ≤ n
  · by_cases h2 : (k : Int) ≤ (n : Int) - k
    · rw [PySem.W.mcComb_at (m := (k : Int)) (by omega) (by omega) (by omega), Int.toNat_natCast]
      exact fp_div n k
    · rw [PySem.W.mcComb_at (m := ((n - k : Nat) : Int)) (by omega) (by omega) (by omega), Int.toNat_natCast, bn_sym h]
      exact fp_div n (n - k)
  · rw [PySem.W.mcComb_above (by omega), bn_above (by omega)]
    rfl
/-! ### ways -/
theorem W_neg {m k : Int} (h : m < 0) : W m k = 0 := if_pos h
theorem W_nat (m t : Nat) : W (m : Int) ((t + 1 : Nat) : Int) = (Bn (m + t) m : Nat) := by
  unfold W
  rw [if_neg (by omega), if_pos (by omega), show (m : Int) + ((t + 1 : Nat) : Int) - 1 = ((m + t : Nat) : Int) by omega]
  exact comb_bn (m + t) m
theorem W_zero (m : Nat) : W (m : Int) 0 = if m = 0 then 1 else 0 := by
  unfold W
  rw [if_neg (by omega), if_neg (by omega)]
  by_cases h : m = 0
  · rw [if_pos (by omega), if_pos h]
  · rw [if_neg (by omega), if_neg h]
theorem Bn_self : ∀ n, Bn n n = 1
  | 0 => rfl
  | n + 1 => by
    show Bn n n + Bn n (n + 1) = 1
    rw [Bn_self n, bn_above (by omega)]
theorem Bn_o (n : Nat) : Bn n 0 = 1 := by cases n <;> rfl
theorem W_pascal (m : Int) (t : Nat) : W m ((t + 1 : Nat) : Int) = W (m - 1) ((t + 1 : Nat) : Int) + W m (t : Int) := by
  by_cases h : m < 0
  · rw [W_neg h, W_neg (by omega), W_neg h]
    rfl
  · obtain ⟨n, rfl⟩ := Int.eq_ofNat_of_zero_le (by omega : 0 ≤ m)
    cases n with
    | zero =>
      rw [show ((0 : Nat) : Int) - 1 = -1 from rfl, W_neg (show (-1 : Int) < 0 by decide), W_nat, Bn_o]
      cases t with
      | zero => rfl
      | succ t => rw [W_nat, Bn_o]; rfl
    | succ n =>
      rw [show ((n + 1 : Nat) : Int) - 1 = (n : Nat) by omega, W_nat, W_nat]
      cases t with
      | zero =>
        rw [show (((0 : Nat)) : Int) = 0 from rfl, W_zero, if_neg (by omega)]
        show ((Bn (n + 1) (n + 1) : Nat) : Int) = (Bn n n : Nat) + 0
        rw [Bn_self, Bn_self]
        rfl
      | succ t =>
        rw [W_nat, show n + 1 + (t + 1) = (n + 1 + t) + 1 by omega, show n + (t + 1) = n + 1 + t by omega, ← Int.natCast_add]
        rfl
/-! ### the row of the series -/
def del0 (a : Nat) (j : Nat) : Int := if j = a then 1 else 0
theorem preN_del (a : Nat) : ∀ (t j : Nat), preN t (del0 a) j = W ((j : Int) - a) t
  | 0, j => by
    show del0 a j = _
    unfold del0
    by_cases h : j < a
    · rw [W_neg (by omega), if_neg (by omega)]
    · rw [show (j : Int) - a = ((j - a : Nat) : Int) by omega, show (((0 : Nat)) : Int) = 0 from rfl, W_zero]
      by_cases h2 : j = a
      · rw [if_pos h2, if_pos (by omega)]
      · rw [if_neg h2, if_neg (by omega)]
  | t + 1, 0 => by
    show preN t (del0 a) 0 = _
    rw [preN_del a t 0, W_pascal, W_neg (show ((0 : Nat) : Int) - a - 1 < 0 by omega), Int.zero_add]
  | t + 1, j + 1 => by
    show preN t (del0 a) (j + 1) + preN (t + 1) (del0 a) j = _
    rw [preN_del a t (j + 1), preN_del a (t + 1) j, W_pascal (((j + 1 : Nat) : Int) - a) t, Int.add_comm]
    congr 2
    omega
theorem preS_sub {f g h : Nat → Int} (e : ∀ j, f j = g j - h j) : ∀ j, preS f j = preS g j - preS h j
  | 0 => e 0
  | j + 1 => by
    show f (j + 1) + preS f j = g (j + 1) + preS g j - (h (j + 1) + preS h j)
    rw [e, preS_sub e j]
    omega
theorem preN_sub {f g h : Nat → Int} (e : ∀ j, f j = g j - h j) : ∀ (t j : Nat), preN t f j = preN t g j - preN t h j
  | 0, j => e j
  | t + 1, j => preS_sub (preN_sub e t) j
/-- the row behind the prefix sums, at any place -/
def rowI (c s o : Int) (x : Int) : Int := W (x - (c - s)) o - W (x - c) o
theorem row_is {c s : Nat} (h : s ≤ c) (j : Nat) : preN (c - s) (base0 c s) j = rowI c s ((c : Int) - s) j := by
  rw [preN_sub (g := del0 (c - s)) (h := del0 c) (fun j => by unfold base0 del0; split <;> split <;> rfl), preN_del, preN_del]
  unfold rowI
  rw [show ((c - s : Nat) : Int) = (c : Int) - s by omega]
def gs (c s o x : Int) : Nat → Int
  | 0 => 0
  | n + 1 => gs c s o x n + rowI c s o (x - (n : Int) * c)
theorem gs_front {c s o : Int} : ∀ (x : Int) (n : Nat), gs c s o x (n + 1) = rowI c s o x + gs c s o (x - c) n
  | x, 0 => by
    show 0 + rowI c s o (x - ((0 : Nat) : Int) * c) = _ + 0
    simp
  | x, n + 1 => by
    show gs c s o x (n + 1) + rowI c s o (x - ((n + 1 : Nat) : Int) * c) = _ + (gs c s o (x - c) n + rowI c s o (x - c - (n : Int) * c))
    rw [gs_front x n, Int.add_assoc]
    congr 3
    rw [show ((n + 1 : Nat) : Int) = (n : Int) + 1 from rfl, Int.add_mul]
    omega
theorem csum_gs {c s o x : Int} : ∀ n, csum (x - (c - s)) c s o n = gs c s o x n
  | 0 => rfl
  | n + 1 => by
    show csum (x - (c - s)) c s o n + (W (x - (c - s) + (n : Int) * (-c)) o - W (x - (c - s) + (n : Int) * (-c) - s) o) = gs c s o x n + (W (x - (n : Int) * c - (c - s)) o - W (x - (n : Int) * c - c) o)
    rw [csum_gs n, Int.mul_neg]
    congr 3 <;> omega
theorem preC_gs {c s : Nat} {o : Int} {f : Nat → Int} (hc : 0 < c) (hf : ∀ j : Nat, f j = rowI c s o j) : ∀ (n i : Nat), i / c = n → preC c f i = gs c s o i (n + 1)
  | 0, i, e => by
    have hi : i < c := by
      rcases Nat.lt_or_ge i c with h | h
      · exact h
      · have := Nat.div_pos h hc; omega
    rw [preC_lt hi, gs_front, hf]
    show _ = _ + 0
    omega
  | n + 1, i, e => by
    have hi : c ≤ i := by
      rcases Nat.lt_or_ge i c with h | h
      · rw [Nat.div_eq_of_lt h] at e; omega
      · exact h
    obtain ⟨j, rfl⟩ : ∃ j, i = c + j := ⟨i - c, by omega⟩
    rw [preC_add hc, gs_front, hf, preC_gs hc hf n j (by rw [Nat.add_div_left _ hc] at e; omega)]
    congr 2
    omega
theorem gs_short {c s o x : Int} {n : Nat} : ∀ d : Nat, (∀ k : Nat, n ≤ k → k < n + d → rowI c s o (x - (k : Int) * c) = 0) → gs c s o x (n + d) = gs c s o x n
  | 0, _ => rfl
  | d + 1, h => by
    show gs c s o x (n + d) + rowI c s o (x - ((n + d : Nat) : Int) * c) = _
    rw [gs_short d fun k h1 h2 => h k h1 (by omega), h (n + d) (by omega) (by omega), Int.add_zero]
theorem ser_cs {c i s : Nat} (c1 : 1 ≤ c) (c2 : c ≤ 12) (s1 : 1 ≤ s) (s2 : s ≤ c) : ser c i s = cs c i s := by
  have hch : ∀ c, c ≤ 12 → ∀ s, s ≤ c → chooseL (c : Nat) s = PySem.W.mcComb (c : Nat) (s : Nat) := by decide +kernel
  unfold ser cs
  rw [hch c c2 s s2]
  congr 1
  rw [preC_gs (s := s) (o := (c : Int) - s) c1 (fun j => row_is s2 j) (i / c) i rfl, csum_gs]
  have ht : turns ((i : Int) - ((c : Int) - s)) c ≤ i / c + 1 := by
    unfold turns
    have h0 : 0 ≤ (i : Int) / c := Int.ediv_nonneg (by omega) (by omega)
    split
    · exact Nat.zero_le _
    · have : ((i : Int) - (c - s)) / c ≤ (i : Int) / c := Int.ediv_le_ediv (by omega) (by omega)
      have e : (i : Int) / c = ((i / c : Nat) : Int) := by rw [Int.natCast_ediv]
      omega
  obtain ⟨d, hd⟩ := Nat.exists_eq_add_of_le ht
  rw [hd]
  refine gs_short d fun k h1 h2 => ?_
  unfold rowI
  have key : (i : Int) - (k : Int) * c - ((c : Int) - s) < 0 := by
    unfold turns at h1
    split at h1
    · have : 0 ≤ (k : Int) * c := Int.mul_nonneg (by omega) (by omega)
      omega
    · rename_i h
      have h3 : ((i : Int) - (c - s)) / c < k := by omega
      have h4 := (Int.ediv_lt_iff_lt_mul (show (0 : Int) < c by omega)).mp h3
      omega
  rw [W_neg key, W_neg (by omega)]
  rfl
theorem small_all : ((List.range 5).all fun c => (List.range 9).all fun i => !isSmall c i || (List.range 5).all fun s => !(decide (1 ≤ s) && decide (s ≤ c)) || decide (cntN (lists c (c + i)) (lists c (c + i)).length s = cs (c : Nat) (i : Nat) (s : Nat))) = true := by decide +kernel
theorem small_cs {c i s : Nat} (h : isSmall c i = true) (s1 : 1 ≤ s) (s2 : s ≤ c) : cntN (lists c (c + i)) (lists c (c + i)).length s = cs (c : Nat) (i : Nat) (s : Nat) := by
  have hb : c < 5 ∧ i < 9 := by
    unfold isSmall at h
    simp only [Bool.or_eq_true, Bool.and_eq_true, decide_eq_true_eq] at h
    omega
  have h1 := List.all_eq_true.mp (List.all_eq_true.mp small_all c (List.mem_range.mpr hb.1)) i (List.mem_range.mpr hb.2)
  rw [h] at h1
  have h2 := List.all_eq_true.mp (by simpa using h1 : (List.range 5).all (fun s => !(decide (1 ≤ s) && decide (s ≤ c)) || decide (cntN (lists c (c + i)) (lists c (c + i)).length s = cs (c : Nat) (i : Nat) (s : Nat))) = true) s (List.mem_range.mpr (by omega))
  rw [decide_eq_true s1, decide_eq_true s2] at h2
  simpa using h2
end Z
set_option Elab.async false
set_option linter.all false
set_option maxRecDepth 100000
set_option maxHeartbeats 4000000
/-! k58: the count at the corners is the told sum, for up to three functions. -/
namespace Z
open PySem PySem.Spec PyProof.Rows L2
theorem div_of {n m k : Int} (h : n = k * m) (hk : k ≠ 0) : n / k = m := by rw [h, Int.mul_ediv_cancel_left _ hk]
theorem wl_1_o (a : Int) : wl [a] [] 8 = within [a] [] := by
  have hf : freeOf 1 ([] : List Int) = [0] := by decide
  have s0 : st 1 ([] : List Int) 0 = 1 := by decide
  have p0 : posn (boxes [1] ([] : List Int)) = 1 := by decide +kernel
  have p1 : posn (boxes [2] ([] : List Int)) = 1 := by decide +kernel
  have e1 : wl [a] [] 8 = (2 - a) * 1 + (a - 1) * 1 := by
    simp [wl, wlT, ck, hf, p0, p1]
  have e2 : within [a] [] = (1) / 1 := by
    simp [within, sumW, prodW, hf, s0]
  rw [e1, e2]
  exact (div_of (by grind) (by decide)).symm
theorem wl_2_o (a b : Int) : wl [a, b] [] 8 = within [a, b] [] := by
  have hf : freeOf 2 ([] : List Int) = [0, 1] := by decide
  have s0 : st 2 ([] : List Int) 0 = 1 := by decide
  have s1 : st 2 ([] : List Int) 1 = 1 := by decide
  have p0 : posn (boxes [1, 1] ([] : List Int)) = 3 := by decide +kernel
  have p1 : posn (boxes [2, 1] ([] : List Int)) = 4 := by decide +kernel
  have p2 : posn (boxes [1, 2] ([] : List Int)) = 4 := by decide +kernel
  have p3 : posn (boxes [2, 2] ([] : List Int)) = 5 := by decide +kernel
  have e1 : wl [a, b] [] 8 = (2 - a) * (2 - b) * 3 + (a - 1) * (2 - b) * 4 + (2 - a) * (b - 1) * 4 + (a - 1) * (b - 1) * 5 := by
    simp [wl, wlT, ck, hf, p0, p1, p2, p3]
  have e2 : within [a, b] [] = (1 * (b * 2 + 1) + 1 * (a * 2 + 1)) / 2 := by
    simp [within, sumW, prodW, hf, s0, s1]
  rw [e1, e2]
  exact (div_of (by grind) (by decide)).symm
theorem wl_2_0 (a b : Int) : wl [a, b] [0] 8 = within [a, b] [0] := by
  have hf : freeOf 2 ([0] : List Int) = [1] := by decide
  have s1 : st 2 ([0] : List Int) 1 = 2 := by decide
  have p0 : posn (boxes [1, 1] ([0] : List Int)) = 2 := by decide +kernel
  have p1 : posn (boxes [1, 2] ([0] : List Int)) = 2 := by decide +kernel
  have e1 : wl [a, b] [0] 8 = (2 - b) * 2 + (b - 1) * 2 := by
    simp [wl, wlT, ck, hf, p0, p1]
  have e2 : within [a, b] [0] = (4) / 2 := by
    simp [within, sumW, prodW, hf, s1]
  rw [e1, e2]
  exact (div_of (by grind) (by decide)).symm
theorem wl_2_1 (a b : Int) : wl [a, b] [1] 8 = within [a, b] [1] := by
  have hf : freeOf 2 ([1] : List Int) = [0] := by decide
  have s0 : st 2 ([1] : List Int) 0 = 2 := by decide
  have p0 : posn (boxes [1, 1] ([1] : List Int)) = 2 := by decide +kernel
  have p1 : posn (boxes [2, 1] ([1] : List Int)) = 2 := by decide +kernel
  have e1 : wl [a, b] [1] 8 = (2 - a) * 2 + (a - 1) * 2 := by
    simp [wl, wlT, ck, hf, p0, p1]
  have e2 : within [a, b] [1] = (4) / 2 := by
    simp [within, sumW, prodW, hf, s0]
  rw [e1, e2]
  exact (div_of (by grind) (by decide)).symm
theorem wl_3_o (a b c : Int) : wl [a, b, c] [] 8 = within [a, b, c] [] := by
  have hf : freeOf 3 ([] : List Int) = [0, 1, 2] := by decide
  have s0 : st 3 ([] : List Int) 0 = 1 := by decide
  have s1 : st 3 ([] : List Int) 1 = 1 := by decide
  have s2 : st 3 ([] : List Int) 2 = 1 := by decide
  have p0 : posn (boxes [1, 1, 1] ([] : List Int)) = 16 := by decide +kernel
  have p1 : posn (boxes [2, 1, 1] ([] : List Int)) = 24 := by decide +kernel
  have p2 : posn (boxes [1, 2, 1] ([] : List Int)) = 24 := by decide +kernel
  have p3 : posn (boxes [2, 2, 1] ([] : List Int)) = 35 := by decide +kernel
  have p4 : posn (boxes [1, 1, 2] ([] : List Int)) = 24 := by decide +kernel
  have p5 : posn (boxes [2, 1, 2] ([] : List Int)) = 35 := by decide +kernel
  have p6 : posn (boxes [1, 2, 2] ([] : List Int)) = 35 := by decide +kernel
  have p7 : posn (boxes [2, 2, 2] ([] : List Int)) = 49 := by decide +kernel
  have e1 : wl [a, b, c] [] 8 = (2 - a) * (2 - b) * (2 - c) * 16 + (a - 1) * (2 - b) * (2 - c) * 24 + (2 - a) * (b - 1) * (2 - c) * 24 + (a - 1) * (b - 1) * (2 - c) * 35 + (2 - a) * (2 - b) * (c - 1) * 24 + (a - 1) * (2 - b) * (c - 1) * 35 + (2 - a) * (b - 1) * (c - 1) * 35 + (a - 1) * (b - 1) * (c - 1) * 49 := by
    simp [wl, wlT, ck, hf, p0, p1, p2, p3, p4, p5, p6, p7]
  have e2 : within [a, b, c] [] = (1 * (b * 3 + 1) * (c * 3 + 1) + 1 * (a * 3 + 1) * (c * 3 + 1) + 1 * (a * 3 + 1) * (b * 3 + 1)) / 3 := by
    simp [within, sumW, prodW, hf, s0, s1, s2]
  rw [e1, e2]
  exact (div_of (by grind) (by decide)).symm
theorem wl_3_0 (a b c : Int) : wl [a, b, c] [0] 8 = within [a, b, c] [0] := by
  have hf : freeOf 3 ([0] : List Int) = [1, 2] := by decide
  have s1 : st 3 ([0] : List Int) 1 = 2 := by decide
  have s2 : st 3 ([0] : List Int) 2 = 1 := by decide
  have p0 : posn (boxes [1, 1, 1] ([0] : List Int)) = 7 := by decide +kernel
  have p1 : posn (boxes [1, 2, 1] ([0] : List Int)) = 8 := by decide +kernel
  have p2 : posn (boxes [1, 1, 2] ([0] : List Int)) = 11 := by decide +kernel
  have p3 : posn (boxes [1, 2, 2] ([0] : List Int)) = 12 := by decide +kernel
  have e1 : wl [a, b, c] [0] 8 = (2 - b) * (2 - c) * 7 + (b - 1) * (2 - c) * 8 + (2 - b) * (c - 1) * 11 + (b - 1) * (c - 1) * 12 := by
    simp [wl, wlT, ck, hf, p0, p1, p2, p3]
  have e2 : within [a, b, c] [0] = (4 * (c * 3 + 1) + 1 * (b * 3 + 2)) / 3 := by
    simp [within, sumW, prodW, hf, s1, s2]
  rw [e1, e2]
  exact (div_of (by grind) (by decide)).symm
theorem wl_3_1 (a b c : Int) : wl [a, b, c] [1] 8 = within [a, b, c] [1] := by
  have hf : freeOf 3 ([1] : List Int) = [0, 2] := by decide
  have s0 : st 3 ([1] : List Int) 0 = 1 := by decide
  have s2 : st 3 ([1] : List Int) 2 = 2 := by decide
  have p0 : posn (boxes [1, 1, 1] ([1] : List Int)) = 7 := by decide +kernel
  have p1 : posn (boxes [2, 1, 1] ([1] : List Int)) = 11 := by decide +kernel
  have p2 : posn (boxes [1, 1, 2] ([1] : List Int)) = 8 := by decide +kernel
  have p3 : posn (boxes [2, 1, 2] ([1] : List Int)) = 12 := by decide +kernel
  have e1 : wl [a, b, c] [1] 8 = (2 - a) * (2 - c) * 7 + (a - 1) * (2 - c) * 11 + (2 - a) * (c - 1) * 8 + (a - 1) * (c - 1) * 12 := by
    simp [wl, wlT, ck, hf, p0, p1, p2, p3]
  have e2 : within [a, b, c] [1] = (1 * (c * 3 + 2) + 4 * (a * 3 + 1)) / 3 := by
    simp [within, sumW, prodW, hf, s0, s2]
  rw [e1, e2]
  exact (div_of (by grind) (by decide)).symm
theorem wl_3_2 (a b c : Int) : wl [a, b, c] [2] 8 = within [a, b, c] [2] := by
  have hf : freeOf 3 ([2] : List Int) = [0, 1] := by decide
  have s0 : st 3 ([2] : List Int) 0 = 2 := by decide
  have s1 : st 3 ([2] : List Int) 1 = 1 := by decide
  have p0 : posn (boxes [1, 1, 1] ([2] : List Int)) = 7 := by decide +kernel
  have p1 : posn (boxes [2, 1, 1] ([2] : List Int)) = 8 := by decide +kernel
  have p2 : posn (boxes [1, 2, 1] ([2] : List Int)) = 11 := by decide +kernel
  have p3 : posn (boxes [2, 2, 1] ([2] : List Int)) = 12 := by decide +kernel
  have e1 : wl [a, b, c] [2] 8 = (2 - a) * (2 - b) * 7 + (a - 1) * (2 - b) * 8 + (2 - a) * (b - 1) * 11 + (a - 1) * (b - 1) * 12 := by
    simp [wl, wlT, ck, hf, p0, p1, p2, p3]
  have e2 : within [a, b, c] [2] = (4 * (b * 3 + 1) + 1 * (a * 3 + 2)) / 3 := by
    simp [within, sumW, prodW, hf, s0, s1]
  rw [e1, e2]
  exact (div_of (by grind) (by decide)).symm
theorem wl_3_01 (a b c : Int) : wl [a, b, c] [0, 1] 8 = within [a, b, c] [0, 1] := by
  have hf : freeOf 3 ([0, 1] : List Int) = [2] := by decide
  have s2 : st 3 ([0, 1] : List Int) 2 = 3 := by decide
  have p0 : posn (boxes [1, 1, 1] ([0, 1] : List Int)) = 3 := by decide +kernel
  have p1 : posn (boxes [1, 1, 2] ([0, 1] : List Int)) = 3 := by decide +kernel
  have e1 : wl [a, b, c] [0, 1] 8 = (2 - c) * 3 + (c - 1) * 3 := by
    simp [wl, wlT, ck, hf, p0, p1]
  have e2 : within [a, b, c] [0, 1] = (9) / 3 := by
    simp [within, sumW, prodW, hf, s2]
  rw [e1, e2]
  exact (div_of (by grind) (by decide)).symm
theorem wl_3_02 (a b c : Int) : wl [a, b, c] [0, 2] 8 = within [a, b, c] [0, 2] := by
  have hf : freeOf 3 ([0, 2] : List Int) = [1] := by decide
  have s1 : st 3 ([0, 2] : List Int) 1 = 3 := by decide
  have p0 : posn (boxes [1, 1, 1] ([0, 2] : List Int)) = 3 := by decide +kernel
  have p1 : posn (boxes [1, 2, 1] ([0, 2] : List Int)) = 3 := by decide +kernel
  have e1 : wl [a, b, c] [0, 2] 8 = (2 - b) * 3 + (b - 1) * 3 := by
    simp [wl, wlT, ck, hf, p0, p1]
  have e2 : within [a, b, c] [0, 2] = (9) / 3 := by
    simp [within, sumW, prodW, hf, s1]
  rw [e1, e2]
  exact (div_of (by grind) (by decide)).symm
theorem wl_3_12 (a b c : Int) : wl [a, b, c] [1, 2] 8 = within [a, b, c] [1, 2] := by
  have hf : freeOf 3 ([1, 2] : List Int) = [0] := by decide
  have s0 : st 3 ([1, 2] : List Int) 0 = 3 := by decide
  have p0 : posn (boxes [1, 1, 1] ([1, 2] : List Int)) = 3 := by decide +kernel
  have p1 : posn (boxes [2, 1, 1] ([1, 2] : List Int)) = 3 := by decide +kernel
  have e1 : wl [a, b, c] [1, 2] 8 = (2 - a) * 3 + (a - 1) * 3 := by
    simp [wl, wlT, ck, hf, p0, p1]
  have e2 : within [a, b, c] [1, 2] = (9) / 3 := by
    simp [within, sumW, prodW, hf, s0]
  rw [e1, e2]
  exact (div_of (by grind) (by decide)).symm
end Z
set_option Elab.async false
set_option linter.all false
set_option maxRecDepth 100000
set_option maxHeartbeats 4000000
namespace Z
open PySem PySem.Spec PyProof.Rows L2
local macro_rules | `(tactic| walk_at "hp") => `(tactic| first | assumption | exact upd_same | exact (upd_ne (by assumption)).trans (by assumption))
local macro_rules | `(tactic| walk_at "side") => `(tactic| first | assumption | omega | (exact ⟨by omega, by omega⟩) | (exact Or.inl ⟨by omega, by omega⟩) | (exact Or.inr ⟨by omega, by omega⟩) | (exact ⟨by omega, by omega, by omega⟩))
local macro_rules | `(tactic| walk_at "st") => `(tactic| first
  | (with_reducible first
  | refine g_seq ?_ | refine g_asg ?_ | refine g_op ?_ | refine g_var rfl ?_ | refine g_c ?_ | refine g_I0 ?_ | refine g_cons ?_ | refine g_nil ?_ | refine g_name rfl ?_ | refine g_ret ?_ | refine g_ifs ?_ | refine g_test ?_ | refine g_bl ?_
  | refine g_cb ?_ | refine g_call ?_ | refine g_drop ?_ | refine g_next ?_ | refine g_and ?_ | refine g_or ?_ | refine g_not ?_ | refine g_if ?_ | refine g_notV ?_ | refine g_andV ?_ | refine g_orV ?_ | refine g_chain ?_ | refine g_un ?_ | refine g_U ?_ | refine g_lst ?_ | refine g_tup ?_ | refine g_sub ?_ | refine g_B ?_ | refine g_int1 ?_ | refine g_trub ?_
  | refine g_eq rfl ?_ | refine g_ne rfl ?_ | refine g_tt ?_ | refine g_ff ?_ | refine g_nt ?_ | refine g_nf ?_ | refine g_retN ?_ | refine g_rs ?_ | refine g_lc ?_ | refine g_for ?_ | refine g_iL ?_ | refine g_iT ?_ | refine g_iR1 ?_ | refine g_iR2 ?_ | refine g_iR3 ?_ | refine g_yes ?_ | refine g_truth ?_ | refine g_gcons ?_ | refine g_gnil ?_ | refine g_par ?_ | refine g_par3 ?_ | refine g_ex2 ?_ | refine g_ex3 ?_ | refine g_bm ?_ | refine g_bm0 ?_ | refine g_aug rfl ?_ | refine g_ipI ?_ | refine g_iK ?_ | refine g_dc ?_ | refine g_dget ?_ | refine g_int ?_ | refine g_intB ?_ | refine g_abs ?_ | refine g_max2 ?_ | refine g_min2 ?_ | refine g_sl ?_ | refine g_nopart ?_ | refine g_part ?_ | refine g_dput ?_ | refine g_lstrg ?_ | refine g_rg1 ?_ | refine g_exi ?_)
  | ((with_reducible refine k_slL ?_); refine g_slL (SqL.of (by walk_at "hp")) ?_) | ((with_reducible refine k_listOf ?_); refine g_listOf (.inl (SqL.of (by walk_at "hp"))) ?_) | ((with_reducible refine k_rep ?_); refine g_rep (by walk_at "hp") (by omega) ?_) | ((with_reducible refine k_len ?_); refine g_len (SqL.of (by walk_at "hp")) ?_) | ((with_reducible refine k_len ?_); refine g_len (by assumption) ?_) | ((with_reducible refine k_tyL ?_); refine g_tyL (by walk_at "hp") ?_) | ((with_reducible refine k_gT ?_); refine g_gT (SqT.of (by walk_at "hp")) rfl ?_) | ((with_reducible refine k_gL ?_); refine g_gL (SqL.of (by walk_at "hp")) rfl ?_) | ((with_reducible refine k_ixL ?_); refine g_ixL (SqL.of (by walk_at "hp")) rfl ?_) | ((with_reducible refine k_ixL ?_); refine g_rd (by walk_at "hp") (by walk_at "side") ?_) | ((with_reducible refine k_ixL ?_); refine g_rdI (by walk_at "hp") (by omega) (by omega) ?_) | ((with_reducible refine k_setL ?_); refine g_setL (by walk_at "hp") rfl ?_) | ((with_reducible refine k_new ?_); refine g_new rfl ?_) | ((with_reducible refine k_I ?_); refine g_I (by walk_at "side") ?_))
local macro_rules | `(tactic| walk_at "go") => `(tactic| repeat walk_at "st")

def pick (n : Nat) (p : Nat → Bool) : List Int := ((List.range n).filter p).map fun (x : Nat) => (x : Int)
theorem wl_within {ls : List Int} {p : Nat → Bool} (h1 : 1 ≤ ls.length) (h2 : ls.length ≤ 3) (hp : (pick ls.length p).length ≠ ls.length) : wl ls (pick ls.length p) 8 = within ls (pick ls.length p) := by
  match ls, h1, h2 with
  | [a], _, _ =>
    have e : pick 1 p = if p 0 then [0] else [] := by
      show ((List.filter p [0]).map _) = _
      cases h0 : p 0 <;> simp [h0]
    rw [show [a].length = 1 from rfl, e] at hp ⊢
    cases h0 : p 0
    · exact wl_1_o a
    · rw [h0] at hp; exact absurd rfl hp
  | [a, b], _, _ =>
    have e : pick 2 p = (if p 0 then [0] else []) ++ (if p 1 then [1] else []) := by
      show ((List.filter p [0, 1]).map _) = _
      cases h0 : p 0 <;> cases h1 : p 1 <;> simp [h0, h1]
    rw [show [a, b].length = 2 from rfl, e] at hp ⊢
    cases h0 : p 0 <;> cases h1 : p 1
    · exact wl_2_o a b
    · exact wl_2_1 a b
    · exact wl_2_0 a b
    · rw [h0, h1] at hp; exact absurd rfl hp
  | [a, b, c], _, _ =>
    have e : pick 3 p = (if p 0 then [0] else []) ++ ((if p 1 then [1] else []) ++ (if p 2 then [2] else [])) := by
      show ((List.filter p [0, 1, 2]).map _) = _
      cases h0 : p 0 <;> cases h1 : p 1 <;> cases h2 : p 2 <;> simp [h0, h1, h2]
    rw [show [a, b, c].length = 3 from rfl, e] at hp ⊢
    cases h0 : p 0 <;> cases h1 : p 1 <;> cases h2 : p 2
    · exact wl_3_o a b c
    · exact wl_3_2 a b c
    · exact wl_3_1 a b c
    · exact wl_3_12 a b c
    · exact wl_3_0 a b c
    · exact wl_3_02 a b c
    · exact wl_3_01 a b c
    · rw [h0, h1, h2] at hp; exact absurd rfl hp
section
variable {P : Program} {w : World} {K : PySem.W.Frag} {mg : Str → Option Value} {base : Heap} {f : Addr} {fd : FuncData}
theorem sc__law_due : FnScope ["_law_count", "_law_inlined", "_law_staying"] ["_law_count", "_law_inlined", "_law_staying"] (defScope s__law_due) := ⟨rfl, rfl, rfl, by decide +kernel, rfl, by decide +kernel, by decide +kernel⟩
theorem sc__law_all_due : FnScope ["_law_count", "_law_inlined", "_law_staying"] ["_law_count", "_law_inlined"] (defScope s__law_all_due) := ⟨rfl, rfl, rfl, by decide +kernel, rfl, by decide +kernel, by decide +kernel⟩
theorem sc__law_question : FnScope ["_law_box_here", "_law_way", "_law_count", "_law_inlined", "_law_staying"] ["_law_box_here"] (defScope s__law_question) := ⟨rfl, rfl, rfl, by decide +kernel, rfl, by decide +kernel, by decide +kernel⟩
theorem sc__law_limits : FnScope ["_law_box_here", "_law_way", "_law_many", "_law_limits_here", "_law_function", "_law_bare", "_law_kind", "_law_at"] ["_law_box_here"] (defScope s__law_limits) := ⟨rfl, rfl, rfl, by decide +kernel, rfl, by decide +kernel, by decide +kernel⟩
theorem small_test {σ : L2.St} {H : Hp} {R : Bool → Hp → Prop} {c i : Nat} (h0 : σ[0]? = some (some (.int c))) (h1 : σ[1]? = some (some (.int i))) (q : R (isSmall c i) H) :
    tOr (tAnd (tTest (tOp (rI0 fun i j => V.bl (decide (i < j))) (tVar 0) (tC (V.int 4)))) (tTest (tOp (rI0 fun i j => V.bl (decide (i < j))) (tVar 1) (tC (V.int 9)))))
      (tAnd (tTest (tOp rEq (tVar 0) (tC (V.int 4)))) (tTest (tOp (rI0 fun i j => V.bl (decide (i < j))) (tVar 1) (tC (V.int 5))))) σ H R := by
  have second : (decide (c < 4) && decide (i < 9)) = false → tAnd (tTest (tOp rEq (tVar 0) (tC (V.int 4)))) (tTest (tOp (rI0 fun i j => V.bl (decide (i < j))) (tVar 1) (tC (V.int 5)))) σ H R := fun e => by
    unfold isSmall at q
    rw [e, Bool.false_or] at q
    refine g_and (g_test (g_op (g_var h0 (g_c (g_eq rfl (g_bl ?_))))))
    refine g_ite (fun h => ?_) (fun h => ?_)
    · refine g_test (g_op (g_var h1 (g_c (g_I0 (g_bl ?_)))))
      rw [decide_eq_true (show c = 4 by have := V.int.inj h; omega), Bool.true_and] at q
      rw [show decide ((i : Int) < 5) = decide (i < 5) from decide_eq_decide.mpr (by omega)]
      exact q
    · rw [decide_eq_false (show ¬ c = 4 from fun z => h (by rw [z]; rfl))] at q
      exact q
  refine g_or (g_and (g_test (g_op (g_var h0 (g_c (g_I0 (g_bl ?_)))))))
  refine g_ite (fun h => ?_) (fun h => ?_)
  · refine g_test (g_op (g_var h1 (g_c (g_I0 (g_bl ?_)))))
    refine g_ite (fun h2 => ?_) (fun h2 => ?_)
    · unfold isSmall at q
      rw [decide_eq_true (show c < 4 by omega), decide_eq_true (show i < 9 by omega)] at q
      exact q
    · exact second (by rw [decide_eq_false (show ¬ i < 9 by omega), Bool.and_false])
  · exact second (by rw [decide_eq_false (show ¬ c < 4 by omega), Bool.false_and])
theorem row_cut {n : Nat} {g : Nat → Int} : cutV (rowV (n + 1) g) (some 1) none = (List.range n).map fun k => V.int (g (k + 1)) := by
  have e : rowV (n + 1) g = V.int (g 0) :: (List.range n).map fun k => V.int (g (k + 1)) := by
    unfold rowV
    rw [List.range_succ_eq_map, List.map_cons, List.map_map]
    rfl
  unfold cutV
  rw [e]
  have h1 : HT.sIx (V.int (g 0) :: (List.range n).map fun k => V.int (g (k + 1))).length 0 (some 1) = 1 := by
    simp [HT.sIx]
  have h2 : HT.sIx (V.int (g 0) :: (List.range n).map fun k => V.int (g (k + 1))).length (V.int (g 0) :: (List.range n).map fun k => V.int (g (k + 1))).length none = n + 1 := by
    simp [HT.sIx]
  rw [h1, h2, List.drop_succ_cons, List.drop_zero]
  exact List.take_of_length_le (by simp)
def spDue : Sp := fun vs H Q _ => ∃ c i s : Nat, vs = [.int c, .int i, .int s] ∧ 1 ≤ c ∧ c ≤ 12 ∧ i ≤ 400 ∧ 1 ≤ s ∧ s ≤ c ∧ ∀ H', Same H H' → Q (.int (cs c i s)) H'
theorem fn_due (F : Df K mg "_law_due" s__law_due f fd) (F__law_listed : Fn P w K mg base "_law_listed" 6 ["_law_count", "_law_inlined"] spListed) (F__law_series : Fn P w K mg base "_law_series" 6 ["_law_count", "_law_inlined", "_law_staying"] spSeries) :
    Fn P w K mg base "_law_due" 7 ["_law_count", "_law_inlined", "_law_staying"] spDue := by
  refine F.fn sc__law_due (fun vs H Q E h => ?_) (fun _ _ _ _ _ _ us hl => match us, hl with | [_, _, _], _ => rfl) (fun cdv A outer s H vs Q E hr gd h => ?_)
  · obtain ⟨c, i, s, rfl, _⟩ := h
    rfl
  obtain ⟨c, i, s, rfl, c1, c2, i2, s1, s2, q⟩ := h
  refine ⟨_, (pss_cons (ps_if (PW.pt (pw_or (PW.pt (pw_and (pt_cmpR op_lt (pv 0) pe_int (nomark _)) (pw_and1 (pt_cmpR op_lt (pv 1) pe_int (nomark _))))) (pw_or1 (PW.pt (pw_and (pt_cmpR op_eq (pv 0) pe_int (nomark _)) (pw_and1 (pt_cmpR op_lt (pv 1) pe_int (nomark _)))))))) (pss_one (ps_ret (pe_ix (z_ixL (K := K)) (fcall F__law_listed (hr.mono (by decide)) gd (passes_call (takes_of rfl rfl rfl rfl) fun _ _ _ _ h => h) (pa_cons (pv 0) (pa_cons (pv 1) pa_nil))) (pv 2) (fun _ _ => rfl)))) pss_nil)
      (pss_one (ps_ret (fcall F__law_series (hr.mono (by decide)) gd (passes_call (takes_of rfl rfl rfl rfl) fun _ _ _ _ h => h) (pa_cons (pv 0) (pa_cons (pv 1) (pa_cons (pv 2) pa_nil))))))), ?_⟩
  refine g_seq (g_ifs (small_test rfl rfl ?_))
  refine g_iteb (fun h => ?_) (fun h => ?_)
  · walk_at "go"
    refine ⟨c, i, rfl, c1, h, fun D H1 hD s1' eD => ?_⟩
    walk_at "go"
    refine g_ixL (.of eD) (row_at (j := s) (by omega) rfl) ?_
    rw [small_cs h s1 s2]
    exact q _ s1'
  · walk_at "go"
    refine ⟨c, i, s, rfl, c1, c2, i2, s1, s2, fun H1 s1' => ?_⟩
    rw [ser_cs c1 c2 s1 s2]
    exact q _ s1'
def spAllDue : Sp := fun vs H Q _ => ∃ c i : Nat, vs = [.int c, .int i] ∧ 1 ≤ c ∧ c ≤ 12 ∧ i ≤ 400 ∧ ∀ H', Same H H' → Q (.int (cw c i)) H'
theorem fn_all_due (F : Df K mg "_law_all_due" s__law_all_due f fd) (B : Bl K mg) (F__law_listed : Fn P w K mg base "_law_listed" 6 ["_law_count", "_law_inlined"] spListed) (F__law_series : Fn P w K mg base "_law_series" 6 ["_law_count", "_law_inlined", "_law_staying"] spSeries) :
    Fn P w K mg base "_law_all_due" 7 ["_law_count", "_law_inlined"] spAllDue := by
  refine F.fn sc__law_all_due (fun vs H Q E h => ?_) (fun _ _ _ _ _ _ us hl => match us, hl with | [_, _], _ => rfl) (fun cdv A outer s H vs Q E hr gd h => ?_)
  · obtain ⟨c, i, rfl, _⟩ := h
    rfl
  obtain ⟨c, i, rfl, c1, c2, i2, q⟩ := h
  refine ⟨_, (pss_cons (ps_if (PW.pt (pw_or (PW.pt (pw_and (pt_cmpR op_lt (pv 0) pe_int (nomark _)) (pw_and1 (pt_cmpR op_lt (pv 1) pe_int (nomark _))))) (pw_or1 (PW.pt (pw_and (pt_cmpR op_eq (pv 0) pe_int (nomark _)) (pw_and1 (pt_cmpR op_lt (pv 1) pe_int (nomark _)))))))) (pss_one (ps_ret (pe_callB (z_sum (K := K) rfl) rfl B.sum_ (by decide +kernel) (pa_cons (pe_slice (z_slL (K := K)) (fcall F__law_listed (hr.mono (by decide)) gd (passes_call (takes_of rfl rfl rfl rfl) fun _ _ _ _ h => h) (pa_cons (pv 0) (pa_cons (pv 1) pa_nil))) (po_some pe_int) po_none) pa_nil)))) pss_nil)
      (pss_one (ps_ret (pe_callB (z_sum (K := K) rfl) rfl B.sum_ (by decide +kernel) (pa_cons (pe_lc (own := [("_law_staying", 2)]) (g := gName 2) rfl sc__law_all_due.nd (pi_range2 rfl B.range_ (pa_cons pe_int (pa_cons (pe_op op_add (pv 0) pe_int) pa_nil))) (blkOk_by (own := [("_law_staying", 2)]) (N := ["_law_count", "_law_inlined", "_law_staying"]) (sc := defScope s__law_all_due) (by decide +kernel)) (fun _ _ _ _ _ => pg_name (i := 2) sc__law_all_due.nd rfl (Or.inl rfl)) (fun _ _ _ _ _ => pts_nil) (fun _ _ _ _ _ => fcall F__law_series (hr.mono (by decide)) gd passL (pa_cons (pv 0) (pa_cons (pv 1) (pa_cons (pv 2) pa_nil))))) pa_nil))))), ?_⟩
  refine g_seq (g_ifs (small_test rfl rfl ?_))
  refine g_iteb (fun h => ?_) (fun h => ?_)
  · walk_at "go"
    refine ⟨c, i, rfl, c1, h, fun D H1 hD s1' eD => ?_⟩
    walk_at "go"
    intro p hp
    rw [row_cut]
    walk_at "go"
    refine g_sum (ns := (List.range c).map fun (k : Nat) => cs c i (1 + (k : Int))) (.of ?_) ?_
    · rw [upd_same]
      congr 2
      rw [List.map_map]
      refine List.map_congr_left fun k hk => ?_
      have hk := List.mem_range.mp hk
      show V.int (cntN _ _ (k + 1)) = V.int (cs c i (1 + (k : Int)))
      rw [small_cs h (by omega) (by omega)]
      congr 2
      omega
    · exact q _ (s1'.trans (Same.new hp))
  · walk_at "go"
    refine lcR2 (by omega) (by omega) (by omega) (by omega) (by omega) (fun k => some (.int (cs c i (1 + (k : Int))))) (fun D ys H1 hD s1 eD dD => ?_) ?_
    · rw [outs_all] at dD
      have e : ((List.range ((c : Int) + 1 - 1).toNat).map fun (k : Nat) => PyData.int (cs c i (1 + (k : Int)))) = ((List.range c).map fun (k : Nat) => cs c i (1 + (k : Int))).map PyData.int := by
        rw [List.map_map, show ((c : Int) + 1 - 1).toNat = c by omega]
        rfl
      rw [e] at dD
      have ey := dD.ints
      subst ey
      walk_at "go"
      exact g_sum (.of eD) (q _ s1)
    · intro D k H1 hk s1 nD hD Y N yes no
      walk_at "go"
      refine ⟨rfl, ?_⟩
      walk_at "go"
      refine ⟨c, i, 1 + k, by simp, c1, c2, i2, by omega, by omega, fun H2 s2 => ?_⟩
      rw [ser_cs c1 c2 (by omega) (by omega)]
      exact yes _ (.int (cs c i (1 + (k : Int)))) _ rfl s2 (by rw [show ((1 + k : Nat) : Int) = 1 + (k : Int) by omega]; exact .int _)
/-- a question: its list -/
def QuesOk (H : Hp) (x : V) : Prop := ∃ (a : Addr) (c i s : Nat), x = .ref a ∧ 1 ≤ c ∧ c ≤ 12 ∧ i ≤ 400 ∧ 1 ≤ s ∧ s ≤ c ∧ H a = some (.lst [.int c, .int i, .int s, .int (cs c i s), .int (cw c i)])
def spQuestion : Sp := fun vs H Q _ => ∃ (b : Addr) (n : Nat), vs = [.ref b] ∧ n < 90000 ∧ Box b n H ∧ ∀ x H', But H H' → Box b (n + 5) H' → QuesOk H' x → Q x H'
theorem fn_question (F : Df K mg "_law_question" s__law_question f fd) (F__law_take : Fn P w K mg base "_law_take" 1 ["_law_box_here", "_law_many"] spTake) (F__law_due : Fn P w K mg base "_law_due" 7 ["_law_count", "_law_inlined", "_law_staying"] spDue) (F__law_all_due : Fn P w K mg base "_law_all_due" 7 ["_law_count", "_law_inlined"] spAllDue) :
    Fn P w K mg base "_law_question" 8 ["_law_box_here"] spQuestion := by
  refine F.fn sc__law_question (fun vs H Q E h => ?_) (fun _ _ _ _ _ _ us hl => match us, hl with | [_], _ => rfl) (fun cdv A outer s H vs Q E hr gd h => ?_)
  · obtain ⟨b, n, rfl, _⟩ := h
    rfl
  obtain ⟨b, n, rfl, n1, hb, q⟩ := h
  refine ⟨_, (pss_cons (ps_set (i := 1) sc__law_question.nd rfl (Or.inl rfl) (fcall F__law_take (hr.mono (by decide)) gd (passes_call (takes_of rfl rfl rfl rfl) fun _ _ _ _ h => h) (pa_cons (pv 0) (pa_cons pe_int pa_nil))))
      (pss_cons (ps_set (i := 2) sc__law_question.nd rfl (Or.inl rfl) (pe_op op_add pe_int (fcall F__law_take (hr.mono (by decide)) gd (passes_call (takes_of rfl rfl rfl rfl) fun _ _ _ _ h => h) (pa_cons (pv 0) (pa_cons (pe_ix (z_ixL (K := K)) (pe_lst (pa_cons pe_int (pa_cons pe_int (pa_cons pe_int pa_nil)))) (pv 1) (fun _ _ => rfl)) pa_nil)))))
      (pss_cons (ps_set (i := 3) sc__law_question.nd rfl (Or.inl rfl) (pe_ifExp (pt_cmpR op_eq (pv 1) pe_int (nomark _)) (fcall F__law_take (hr.mono (by decide)) gd (passes_call (takes_of rfl rfl rfl rfl) fun _ _ _ _ h => h) (pa_cons (pv 0) (pa_cons pe_int pa_nil))) (pe_ifExp (pt_cmpR op_eq (pv 1) pe_int (nomark _)) (fcall F__law_take (hr.mono (by decide)) gd (passes_call (takes_of rfl rfl rfl rfl) fun _ _ _ _ h => h) (pa_cons (pv 0) (pa_cons pe_int pa_nil))) (fcall F__law_take (hr.mono (by decide)) gd (passes_call (takes_of rfl rfl rfl rfl) fun _ _ _ _ h => h) (pa_cons (pv 0) (pa_cons pe_int pa_nil))))))
      (pss_cons (ps_set (i := 4) sc__law_question.nd rfl (Or.inl rfl) (pe_op op_add pe_int (fcall F__law_take (hr.mono (by decide)) gd (passes_call (takes_of rfl rfl rfl rfl) fun _ _ _ _ h => h) (pa_cons (pv 0) (pa_cons (pv 2) pa_nil)))))
      (pss_cons (ps_if (PW.pt (pw_and (pt_cmpR op_eq (pv 1) pe_int (nomark _)) (pw_and1 (pt_cmpR op_eq (fcall F__law_take (hr.mono (by decide)) gd (passes_call (takes_of rfl rfl rfl rfl) fun _ _ _ _ h => h) (pa_cons (pv 0) (pa_cons pe_int pa_nil))) pe_int (nomark _))))) (pss_one (ps_set (i := 3) sc__law_question.nd rfl (Or.inl rfl) pe_int)) pss_nil)
      (pss_one (ps_ret (pe_lst (pa_cons (pv 2) (pa_cons (pv 3) (pa_cons (pv 4) (pa_cons (fcall F__law_due (hr.mono (by decide)) gd (passes_call (takes_of rfl rfl rfl rfl) fun _ _ _ _ h => h) (pa_cons (pv 2) (pa_cons (pv 3) (pa_cons (pv 4) pa_nil)))) (pa_cons (fcall F__law_all_due (hr.mono (by decide)) gd (passes_call (takes_of rfl rfl rfl rfl) fun _ _ _ _ h => h) (pa_cons (pv 2) (pa_cons (pv 3) pa_nil))) pa_nil))))))))))))), ?_⟩
  walk_at "go"
  refine ⟨b, n, 3, rfl, by decide, by decide, by omega, hb, fun way H1 w0 w1 t1 hb1 => ?_⟩
  walk_at "go"
  intro p hp
  obtain ⟨k, ek, k1, k2⟩ : ∃ k : Int, atI [V.int 4, V.int 12, V.int 4] way = some (.int k) ∧ 1 ≤ k ∧ k ≤ 12 := by
    have : way = 0 ∨ way = 1 ∨ way = 2 := by omega
    rcases this with rfl | rfl | rfl
    · exact ⟨4, rfl, by decide, by decide⟩
    · exact ⟨12, rfl, by decide, by decide⟩
    · exact ⟨4, rfl, by decide, by decide⟩
  have hb1' := hb1.upd (o := .lst [V.int 4, V.int 12, V.int 4]) (hb1.ne hp)
  walk_at "go"
  refine g_ixL (.of upd_same) ek ?_
  walk_at "go"
  refine ⟨b, n + 1, k, rfl, by omega, by omega, by omega, hb1', fun d H2 d0 d1 t2 hb2 => ?_⟩
  walk_at "go"
  obtain ⟨c, hc⟩ : ∃ c : Nat, (1 + d : Int) = (c : Int) := ⟨(1 + d).toNat, by omega⟩
  rw [hc]
  have T2 : But H H2 := (t1.trans (Same.new hp).but).trans t2
  have inl : ∀ {R : VK}, (∀ (i : Nat) H3, i ≤ 400 → But H H3 → Box b (n + 3) H3 → R (.int i) H3) → if decide (V.int way = V.int 0) = true then tCall spTake [] E (tCons (tVar 0) (tCons (tC (V.int 6)) tNil)) [some (.ref b), some (.int way), some (.int c), none, none] H2 R else
      tIf (tTest (tOp rEq (tVar 1) (tC (V.int 1)))) (tCall spTake [] E (tCons (tVar 0) (tCons (tC (V.int 401)) tNil))) (tCall spTake [] E (tCons (tVar 0) (tCons (tC (V.int 40)) tNil))) [some (.ref b), some (.int way), some (.int c), none, none] H2 R := fun {R} r => by
    have one : ∀ (m : Int) , 0 < m → m ≤ 401 → tCall spTake [] E (tCons (tVar 0) (tCons (tC (V.int m)) tNil)) [some (.ref b), some (.int way), some (.int c), none, none] H2 R := fun m m0 m1 => by
      walk_at "go"
      refine ⟨b, n + 2, m, rfl, m0, by omega, by omega, hb2, fun e H3 e0 e1 t3 hb3 => ?_⟩
      have := r e.toNat H3 (by omega) (T2.trans t3) hb3
      rwa [Int.toNat_of_nonneg e0] at this
    refine g_ite (fun _ => one 6 (by decide) (by decide)) (fun _ => ?_)
    walk_at "go"
    exact g_ite (fun _ => one 401 (by decide) (by decide)) (fun _ => one 40 (by decide) (by decide))
  refine inl fun i H3 i1 T3 hb3 => ?_
  walk_at "go"
  refine ⟨b, n + 3, c, rfl, by omega, by omega, by omega, hb3, fun e H4 e0 e1 t4 hb4 => ?_⟩
  walk_at "go"
  obtain ⟨s', hs⟩ : ∃ c : Nat, (1 + e : Int) = (c : Int) := ⟨(1 + e).toNat, by omega⟩
  rw [hs]
  have T4 : But H H4 := T3.trans t4
  have fin : ∀ (i : Nat) G, i ≤ 400 → But H G → Box b (n + 5) G → tRet (tLst (tCons (tVar 2) (tCons (tVar 3) (tCons (tVar 4) (tCons (tCall spDue [] E (tCons (tVar 2) (tCons (tVar 3) (tCons (tVar 4) tNil)))) (tCons (tCall spAllDue [] E (tCons (tVar 2) (tCons (tVar 3) tNil))) tNil))))))
      { nx := fun x H' => Q V.non H', rt := Q } [some (.ref b), some (.int way), some (.int c), some (.int i), some (.int s')] G := fun i G i1 TG hg => by
    walk_at "go"
    refine ⟨c, i, s', rfl, by omega, by omega, i1, by omega, by omega, fun G1 g1 => ?_⟩
    walk_at "go"
    refine ⟨c, i, rfl, by omega, by omega, i1, fun G2 g2 => ?_⟩
    walk_at "go"
    intro D hD
    have S := (g1.trans g2).trans (Same.new (o := .lst [.int c, .int i, .int s', .int (cs c i s'), .int (cw c i)]) hD)
    exact q _ _ (TG.trans S.but) (hg.same S) ⟨D, c, i, s', rfl, by omega, by omega, i1, by omega, by omega, upd_same⟩
  refine g_ite (fun _ => ?_) (fun _ => ?_)
  · walk_at "go"
    refine ⟨b, n + 4, 3, rfl, by decide, by decide, by omega, hb4, fun e' H5 _ _ t5 hb5 => ?_⟩
    walk_at "go"
    refine g_ite (fun _ => ?_) (fun _ => ?_)
    · exact g_asg (g_c (g_name rfl (fin 400 H5 (by decide) (T4.trans t5) hb5)))
    · exact g_next (fin i H5 i1 (T4.trans t5) hb5)
  · exact g_next (fin i H4 i1 T4 (hb4.mono (by omega)))
end
end Z
set_option Elab.async false
set_option linter.all false
set_option maxRecDepth 100000
set_option maxHeartbeats 4000000
namespace Z
open PySem PySem.Spec PyProof.Rows L2
local macro_rules | `(tactic| walk_at "hp") => `(tactic| first | assumption | exact upd_same | exact (upd_ne (by assumption)).trans (by assumption))
local macro_rules | `(tactic| walk_at "side") => `(tactic| first | assumption | omega | (exact ⟨by omega, by omega⟩) | (exact Or.inl ⟨by omega, by omega⟩) | (exact Or.inr ⟨by omega, by omega⟩) | (exact ⟨by omega, by omega, by omega⟩))
local macro_rules | `(tactic| walk_at "st") => `(tactic| first
  | (with_reducible first
  | refine g_seq ?_ | refine g_asg ?_ | refine g_op ?_ | refine g_var rfl ?_ | refine g_c ?_ | refine g_I0 ?_ | refine g_cons ?_ | refine g_nil ?_ | refine g_name rfl ?_ | refine g_ret ?_ | refine g_ifs ?_ | refine g_test ?_ | refine g_bl ?_
  | refine g_cb ?_ | refine g_call ?_ | refine g_drop ?_ | refine g_next ?_ | refine g_and ?_ | refine g_or ?_ | refine g_not ?_ | refine g_if ?_ | refine g_notV ?_ | refine g_andV ?_ | refine g_orV ?_ | refine g_chain ?_ | refine g_un ?_ | refine g_U ?_ | refine g_lst ?_ | refine g_tup ?_ | refine g_sub ?_ | refine g_B ?_ | refine g_int1 ?_ | refine g_trub ?_
  | refine g_eq rfl ?_ | refine g_ne rfl ?_ | refine g_tt ?_ | refine g_ff ?_ | refine g_nt ?_ | refine g_nf ?_ | refine g_retN ?_ | refine g_rs ?_ | refine g_lc ?_ | refine g_for ?_ | refine g_iL ?_ | refine g_iT ?_ | refine g_iR1 ?_ | refine g_iR2 ?_ | refine g_iR3 ?_ | refine g_yes ?_ | refine g_truth ?_ | refine g_gcons ?_ | refine g_gnil ?_ | refine g_par ?_ | refine g_par3 ?_ | refine g_ex2 ?_ | refine g_ex3 ?_ | refine g_bm ?_ | refine g_bm0 ?_ | refine g_aug rfl ?_ | refine g_ipI ?_ | refine g_iK ?_ | refine g_dc ?_ | refine g_dget ?_ | refine g_int ?_ | refine g_intB ?_ | refine g_abs ?_ | refine g_max2 ?_ | refine g_min2 ?_ | refine g_sl ?_ | refine g_nopart ?_ | refine g_part ?_ | refine g_dput ?_ | refine g_lstrg ?_ | refine g_rg1 ?_ | refine g_exi ?_)
  | ((with_reducible refine k_slL ?_); refine g_slL (SqL.of (by walk_at "hp")) ?_) | ((with_reducible refine k_listOf ?_); refine g_listOf (.inl (SqL.of (by walk_at "hp"))) ?_) | ((with_reducible refine k_rep ?_); refine g_rep (by walk_at "hp") (by omega) ?_) | ((with_reducible refine k_len ?_); refine g_len (SqL.of (by walk_at "hp")) ?_) | ((with_reducible refine k_len ?_); refine g_len (by assumption) ?_) | ((with_reducible refine k_tyL ?_); refine g_tyL (by walk_at "hp") ?_) | ((with_reducible refine k_gT ?_); refine g_gT (SqT.of (by walk_at "hp")) rfl ?_) | ((with_reducible refine k_gL ?_); refine g_gL (SqL.of (by walk_at "hp")) rfl ?_) | ((with_reducible refine k_ixL ?_); refine g_ixL (SqL.of (by walk_at "hp")) rfl ?_) | ((with_reducible refine k_ixL ?_); refine g_rd (by walk_at "hp") (by walk_at "side") ?_) | ((with_reducible refine k_ixL ?_); refine g_rdI (by walk_at "hp") (by omega) (by omega) ?_) | ((with_reducible refine k_setL ?_); refine g_setL (by walk_at "hp") rfl ?_) | ((with_reducible refine k_new ?_); refine g_new rfl ?_) | ((with_reducible refine k_I ?_); refine g_I (by walk_at "side") ?_))
local macro_rules | `(tactic| walk_at "go") => `(tactic| repeat walk_at "st")

theorem outs_pick {n : Nat} {p : Nat → Bool} : outs n (fun i => if p i = true then some (.int i) else none) = (pick n p).map PyData.int := by
  unfold outs pick
  induction n with
  | zero => rfl
  | succ n ih =>
    rw [List.range_succ, List.filterMap_append, ih, List.filter_append, List.map_append, List.map_append]
    congr 1
    by_cases h : p n = true
    · simp [h]
    · simp [h]
theorem pick_len {n : Nat} {p : Nat → Bool} : (pick n p).length ≤ n := by
  unfold pick
  rw [List.length_map]
  have := List.length_filter_le p (List.range n)
  rwa [List.length_range] at this
theorem pick_ne {n j : Nat} {p : Nat → Bool} (h : j < n) (hp : p j = false) : (pick n p).length ≠ n := by
  unfold pick
  rw [List.length_map]
  intro e
  have := List.length_filter_eq_length_iff.mp (e.trans List.length_range.symm) j (List.mem_range.mpr h)
  rw [hp] at this
  cases this
theorem pick_none {n : Nat} : pick n (fun _ => false) = [] := by
  unfold pick
  simp
theorem nV_pick {n : Nat} {p : Nat → Bool} : nV ((List.range n).filter p) = (pick n p).map V.int := nV_ints _
/-- limits with their group: the row's list -/
def LimOk (H : Hp) (x : V) : Prop := ∃ (a la ba : Addr) (ls : List Int) (p : Nat → Bool), x = .ref a ∧ 1 ≤ ls.length ∧ ls.length ≤ 12 ∧ (∀ l ∈ ls, 1 ≤ l ∧ l ≤ 10 ^ 18) ∧ (pick ls.length p).length ≠ ls.length ∧
  H la = some (.lst (ls.map V.int)) ∧ H ba = some (.lst ((pick ls.length p).map V.int)) ∧ H a = some (.lst [.ref la, .ref ba, .int (within ls (pick ls.length p))])
def spLims : Sp := fun vs H Q _ => ∃ (b : Addr) (n : Nat), vs = [.ref b] ∧ n < 90000 ∧ Box b n H ∧ ∀ x H', But H H' → Box b (n + 60) H' → LimOk H' x → Q x H'
section
variable {P : Program} {w : World} {K : PySem.W.Frag} {mg : Str → Option Value} {base : Heap} {f : Addr} {fd : FuncData}
theorem fn_lims (F : Df K mg "_law_limits" s__law_limits f fd) (B : Bl K mg) (F__law_take : Fn P w K mg base "_law_take" 1 ["_law_box_here", "_law_many"] spTake) (F__law_within : Fn P w K mg base "_law_within" 2 ["_law_limits_here", "_law_bare"] spWL)
    (F__law_within_sum : Fn P w K mg base "_law_within_sum" 2 ["_law_limits_here", "_law_bare"] spWS) : Fn P w K mg base "_law_limits" 3 ["_law_box_here"] spLims := by
  refine F.fn sc__law_limits (fun vs H Q E h => ?_) (fun _ _ _ _ _ _ us hl => match us, hl with | [_], _ => rfl) (fun cdv A outer s H vs Q E hr gd h => ?_)
  · obtain ⟨b, n, rfl, _⟩ := h
    rfl
  obtain ⟨b, n, rfl, n1, hb, q⟩ := h
  refine ⟨_, (pss_cons (ps_set (i := 1) sc__law_limits.nd rfl (Or.inl rfl) (fcall F__law_take (hr.mono (by decide)) gd (passes_call (takes_of rfl rfl rfl rfl) fun _ _ _ _ h => h) (pa_cons (pv 0) (pa_cons pe_int pa_nil))))
      (pss_cons (ps_set (i := 2) sc__law_limits.nd rfl (Or.inl rfl) (pe_ifExp (pt_cmpR op_eq (pv 1) pe_int (nomark _)) (pe_op op_add pe_int (fcall F__law_take (hr.mono (by decide)) gd (passes_call (takes_of rfl rfl rfl rfl) fun _ _ _ _ h => h) (pa_cons (pv 0) (pa_cons pe_int pa_nil)))) (pe_op op_add pe_int (fcall F__law_take (hr.mono (by decide)) gd (passes_call (takes_of rfl rfl rfl rfl) fun _ _ _ _ h => h) (pa_cons (pv 0) (pa_cons pe_int pa_nil))))))
      (pss_cons (ps_set (i := 3) sc__law_limits.nd rfl (Or.inl rfl) (pe_lst pa_nil))
      (pss_cons (ps_for (passes_of rfl) rfl (pi_range1 rfl B.range_ (pa_cons (pv 2) pa_nil)) (pg_name (i := 4) sc__law_limits.nd rfl (Or.inl rfl)) (pss_one (ps_expr (z_bm (K := K) PySem.F.plainAttrs_list PySem.F.slot_list_append PySem.F.type_list_append mt_append (pv 3) (pa_cons (pe_ix (z_ixL (K := K)) (pe_lst (pa_cons pe_int (pa_cons pe_int (pa_cons pe_int (pa_cons (pe_op op_add pe_int (fcall F__law_take (hr.mono (by decide)) gd (passes_call (takes_of rfl rfl rfl rfl) fun _ _ _ _ h => h) (pa_cons (pv 0) (pa_cons pe_int pa_nil)))) (pa_cons (pe_op op_pow pe_int pe_int) (pa_cons (pe_op op_add (pe_op op_pow pe_int pe_int) (fcall F__law_take (hr.mono (by decide)) gd (passes_call (takes_of rfl rfl rfl rfl) fun _ _ _ _ h => h) (pa_cons (pv 0) (pa_cons pe_int pa_nil)))) pa_nil))))))) (fcall F__law_take (hr.mono (by decide)) gd (passes_call (takes_of rfl rfl rfl rfl) fun _ _ _ _ h => h) (pa_cons (pv 0) (pa_cons pe_int pa_nil))) (fun _ _ => rfl)) pa_nil)))))
      (pss_cons (ps_par (i := 5) (j := 6) rfl sc__law_limits.nd rfl rfl (by decide) rfl rfl (pa_cons (pe_lc (own := [("_law_function", 4)]) (g := gName 4) rfl sc__law_limits.nd (pi_range1 rfl B.range_ (pa_cons (pv 2) pa_nil)) (blkOk_by (own := [("_law_function", 4)]) (N := ["_law_box_here", "_law_way", "_law_many", "_law_limits_here", "_law_function", "_law_bare", "_law_kind", "_law_at"]) (sc := defScope s__law_limits) (by decide +kernel)) (fun _ _ _ _ _ => pg_name (i := 4) sc__law_limits.nd rfl (Or.inl rfl)) (fun _ _ _ _ _ => pts_one (pt_cmpR op_eq (fcall F__law_take (hr.mono (by decide)) gd passL (pa_cons (pv 0) (pa_cons pe_int pa_nil))) pe_int (nomark _))) (fun _ _ _ _ _ => pv 4)) (pa_cons (fcall F__law_take (hr.mono (by decide)) gd (passes_call (takes_of rfl rfl rfl rfl) fun _ _ _ _ h => h) (pa_cons (pv 0) (pa_cons pe_int pa_nil))) pa_nil)) (by rfl))
      (pss_cons (ps_set (i := 5) sc__law_limits.nd rfl (Or.inl rfl) (pe_ifExp (pt_cmpR op_eq (pv 6) pe_int (nomark _)) (pe_lst pa_nil) (pv 5)))
      (pss_cons (ps_if (PW.pt (pw_or (pt_cmpR op_eq (pv 6) pe_int (nomark _)) (pw_or1 (pt_cmpR op_eq (pe_callB (z_len (K := K)) rfl B.len_ (by decide +kernel) (pa_cons (pv 5) pa_nil)) (pv 2) (nomark _))))) (pss_cons (ps_set (i := 7) sc__law_limits.nd rfl (Or.inr rfl) (fcall F__law_take (hr.mono (by decide)) gd (passes_call (takes_of rfl rfl rfl rfl) fun _ _ _ _ h => h) (pa_cons (pv 0) (pa_cons (pv 2) pa_nil))))
      (pss_one (ps_setLc (i := 5) (own := [("_law_function", 4)]) (g := gName 4) rfl sc__law_limits.nd rfl rfl (sw_true rfl rfl rfl (by decide +kernel)) (pi_range1 rfl B.range_ (pa_cons (pv 2) pa_nil)) (blkOk_by (own := [("_law_function", 4)]) (N := ["_law_box_here", "_law_way", "_law_many", "_law_limits_here", "_law_function", "_law_bare", "_law_kind", "_law_at"]) (sc := defScope s__law_limits) (by decide +kernel)) (fun _ _ _ _ _ => pg_name (i := 4) sc__law_limits.nd rfl (Or.inl rfl)) (fun _ _ _ _ _ => pts_one (pt_cmpR op_ne (pv 4) (pv 7) (nomark _))) (fun _ _ _ _ _ => pv 4)))) pss_nil)
      (pss_one (ps_ret (pe_lst (pa_cons (pv 3) (pa_cons (pv 5) (pa_cons (pe_ifExp (pt_cmpR op_lt (pv 2) pe_int (nomark _)) (fcall F__law_within (hr.mono (by decide)) gd (passes_call (takes_of rfl rfl rfl rfl) fun _ _ _ _ h => h) (pa_cons (pv 3) (pa_cons (pv 5) pa_nil))) (fcall F__law_within_sum (hr.mono (by decide)) gd (passes_call (takes_of rfl rfl rfl rfl) fun _ _ _ _ h => h) (pa_cons (pv 3) (pa_cons (pv 5) pa_nil)))) pa_nil))))))))))))), ?_⟩
  walk_at "go"
  refine ⟨b, n, 2, rfl, by decide, by decide, by omega, hb, fun way H1 w0 w1 t1 hb1 => ?_⟩
  walk_at "go"
  have mm : ∀ {R : VK}, (∀ (m : Nat) H2, 1 ≤ m → m ≤ 12 → But H H2 → Box b (n + 2) H2 → R (.int m) H2) → if decide (V.int way = V.int 0) = true then tOp (rI0 fun i j => V.int (i + j)) (tC (V.int 1)) (tCall spTake [] E (tCons (tVar 0) (tCons (tC (V.int 3)) tNil))) [some (.ref b), some (.int way), none, none, none, none, none, none] H1 R else
      tOp (rI0 fun i j => V.int (i + j)) (tC (V.int 1)) (tCall spTake [] E (tCons (tVar 0) (tCons (tC (V.int 12)) tNil))) [some (.ref b), some (.int way), none, none, none, none, none, none] H1 R := fun {R} r => by
    have one : ∀ (m : Int) , 0 < m → m ≤ 12 → tOp (rI0 fun i j => V.int (i + j)) (tC (V.int 1)) (tCall spTake [] E (tCons (tVar 0) (tCons (tC (V.int m)) tNil))) [some (.ref b), some (.int way), none, none, none, none, none, none] H1 R := fun m m0 m1 => by
      walk_at "go"
      refine ⟨b, n + 1, m, rfl, m0, by omega, by omega, hb1, fun e H3 e0 e1 t3 hb3 => ?_⟩
      walk_at "go"
      have := r (1 + e).toNat H3 (by omega) (by omega) (t1.trans t3) hb3
      rwa [Int.toNat_of_nonneg (by omega)] at this
    exact g_ite (fun _ => one 3 (by decide) (by decide)) (fun _ => one 12 (by decide) (by decide))
  refine mm fun m H2 m0 m1 T2 hb2 => ?_
  walk_at "go"
  intro pl hpl
  walk_at "go"
  have npl : b ≠ pl := hb2.ne hpl
  have hH2 : ∀ {a o}, boxy o = false → H a = some o → a ≠ pl := fun {a o} nb e => ne_of_none (T2 _ _ nb e) hpl
  refine forR1 (by omega) (by omega) (fun i τ G => ∃ z4 ls, τ = [some (.ref b), some (.int way), some (.int m), some (.ref pl), z4, none, none, none] ∧ But H2 G ∧ Box b (n + 2 + 3 * i) G ∧ G pl = some (.lst (ls.map V.int)) ∧ ls.length = i ∧ ∀ l ∈ ls, 1 ≤ l ∧ l ≤ 10 ^ 18)
    ⟨none, [], rfl, (Same.new hpl).but, hb2.upd npl, upd_same, rfl, fun l h => by cases h⟩ ?_ ?_
  · rintro i τ G hi ⟨z4, ls, rfl, tG, hg, el, ll, bl⟩
    walk_at "go"
    refine ⟨b, n + 2 + 3 * i, 1000, rfl, by decide, by decide, by omega, hg, fun d1 G1 d10 d11 g1 hg1 => ?_⟩
    walk_at "go"
    refine ⟨b, n + 2 + 3 * i + 1, 1000, rfl, by decide, by decide, by omega, hg1, fun d2 G2 d20 d21 g2 hg2 => ?_⟩
    walk_at "go"
    intro pm hpm
    walk_at "go"
    refine ⟨b, n + 2 + 3 * i + 2, 6, rfl, by decide, by decide, by omega, hg2.upd (hg2.ne hpm), fun d3 G3 d30 d31 g3 hg3 => ?_⟩
    walk_at "go"
    have em := g3 _ _ rfl (upd_same (H := G2) (a := pm) (o := .lst [.int 1, .int 2, .int 3, .int (1 + d1), .int (10 ^ (18 : Int).toNat), .int (10 ^ (17 : Int).toNat + d2)]))
    obtain ⟨v, ev, v1, v2⟩ : ∃ v : Int, atI [V.int 1, .int 2, .int 3, .int (1 + d1), .int (10 ^ (18 : Int).toNat), .int (10 ^ (17 : Int).toNat + d2)] d3 = some (.int v) ∧ 1 ≤ v ∧ v ≤ 10 ^ 18 := by
      have e18 : (10 : Int) ^ (18 : Int).toNat = 10 ^ 18 := rfl
      have e17 : (10 : Int) ^ (17 : Int).toNat = 10 ^ 17 := rfl
      have : d3 = 0 ∨ d3 = 1 ∨ d3 = 2 ∨ d3 = 3 ∨ d3 = 4 ∨ d3 = 5 := by omega
      rcases this with rfl | rfl | rfl | rfl | rfl | rfl
      · exact ⟨1, rfl, by decide, by decide⟩
      · exact ⟨2, rfl, by decide, by decide⟩
      · exact ⟨3, rfl, by decide, by decide⟩
      · exact ⟨1 + d1, rfl, by omega, by omega⟩
      · exact ⟨10 ^ (18 : Int).toNat, rfl, by rw [e18]; decide, by rw [e18]; decide⟩
      · exact ⟨10 ^ (17 : Int).toNat + d2, rfl, by rw [e17]; omega, by rw [e17]; omega⟩
    refine g_ixL (.of em) ev ?_
    walk_at "go"
    have t3 : But G G3 := (g1.trans (g2.trans (Same.new hpm).but)).trans g3
    have el3 := t3 _ _ (int_boxy ls) el
    refine g_append el3 (by rw [List.length_map]; exact Nat.lt_of_lt_of_le (by omega : _ < 100000) sz5) ?_
    walk_at "go"
    refine ⟨_, ls ++ [v], rfl, (tG.trans t3).mut hpl, hg3.upd npl, ?_, by rw [List.length_append, ll]; rfl, fun l hl => ?_⟩
    · rw [upd_same, List.map_append]
      rfl
    · rcases List.mem_append.mp hl with hl | hl
      · exact bl l hl
      · rw [List.mem_singleton.mp hl]; exact ⟨v1, v2⟩
  rintro τ G ⟨z4, ls, rfl, tG, hg, el, ll, bl⟩
  rw [Int.toNat_natCast] at hg ll
  subst ll
  have TG : But H G := T2.trans tG
  walk_at "go"
  refine lcR1F (by omega) (by omega) (fun i G' => Box b (n + 2 + 3 * ls.length + i) G') (fun D i G' o hD hj _ => hj.upd (fun z => by rw [z] at hg; obtain ⟨_, _, _, _, e, _⟩ := hg; rw [hD] at e; cases e)) (fun D o hD => hg.upd (hg.ne hD)) (fun D p G1 hD g1 hg1 eD => ?_) ?_
  · rw [Int.toNat_natCast] at hg1 eD
    rw [nV_pick] at eD
    walk_at "go"
    refine ⟨b, n + 2 + 3 * ls.length + ls.length, 4, rfl, by decide, by decide, by omega, hg1, fun kind G2 k0 k1 g2 hg2 => ?_⟩
    walk_at "go"
    have TG2 : But G G2 := g1.trans g2
    have el2 := TG2 _ _ (int_boxy ls) el
    have eD2 := g2 _ _ (int_boxy _) eD
    have nH : ∀ {a o}, boxy o = false → H a = some o → a ≠ D := fun {a o} nb e => ne_of_none (TG _ _ nb e) hD
    have ff : ∀ (ba : Addr) (p : Nat → Bool) (z4 z7 : Option V) G, But H G → Box b (n + 60) G → G pl = some (.lst (ls.map V.int)) → G ba = some (.lst ((pick ls.length p).map V.int)) → (pick ls.length p).length ≠ ls.length →
        tRet (tLst (tCons (tVar 3) (tCons (tVar 5) (tCons (tIf (tTest (tOp (rI0 fun i j => V.bl (decide (i < j))) (tVar 2) (tC (V.int 4)))) (tCall spWL [] E (tCons (tVar 3) (tCons (tVar 5) tNil))) (tCall spWS [] E (tCons (tVar 3) (tCons (tVar 5) tNil)))) tNil))))
          { nx := fun x H' => Q .non H', rt := Q } [some (.ref b), some (.int way), some (.int ls.length), some (.ref pl), z4, some (.ref ba), some (.int kind), z7] G := fun ba p z4 z7 G bG xG e1 e2 ne => by
      have last : ∀ G', Same G G' → ∀ D', G' D' = none → Q (.ref D') (upd G' D' (.lst [.ref pl, .ref ba, .int (within ls (pick ls.length p))])) := fun G' s' D' hD' => by
        have s2 := s'.trans (Same.new (o := .lst [.ref pl, .ref ba, .int (within ls (pick ls.length p))]) hD')
        exact q _ _ (bG.trans s2.but) (xG.same s2) ⟨D', pl, ba, ls, p, rfl, by omega, by omega, bl, ne, s2 _ _ e1, s2 _ _ e2, upd_same⟩
      walk_at "go"
      refine g_ite (fun h => ?_) (fun h => ?_)
      · walk_at "go"
        refine ⟨pl, ba, ls, pick ls.length p, rfl, e1, e2, by omega, by omega, bl, fun G' s' => ?_⟩
        rw [wl_within (by omega) (by omega) ne]
        walk_at "go"
        exact last G' s'
      · walk_at "go"
        refine ⟨pl, ba, ls, pick ls.length p, rfl, e1, e2, by omega, by omega, bl, fun G' s' => ?_⟩
        walk_at "go"
        exact last G' s'
    have TGG : But H G2 := TG.trans TG2
    have br : ∀ {R : VK}, (∀ (ba : Addr) (p : Nat → Bool) G3, Same G2 G3 → G3 ba = some (.lst ((pick ls.length p).map V.int)) → R (.ref ba) G3) → if decide (V.int kind = V.int 0) = true then tLst tNil [some (.ref b), some (.int way), some (.int ls.length), some (.ref pl), z4, some (.ref D), some (.int kind), none] G2 R else
        tVar 5 [some (.ref b), some (.int way), some (.int ls.length), some (.ref pl), z4, some (.ref D), some (.int kind), none] G2 R := fun {R} r => by
      refine g_ite (fun _ => ?_) (fun _ => ?_)
      · walk_at "go"
        intro p0 hp0
        exact r p0 (fun _ => false) _ (Same.new hp0) (by rw [upd_same, pick_none]; rfl)
      · walk_at "go"
        exact r D p G2 (Same.refl _) eD2
    refine br fun ba p' G3 s3 eb => ?_
    have el3 := s3 _ _ el2
    have hg3 := hg2.same s3
    walk_at "go"
    have tk : ∀ {z4 z7}, tSeq (tAsg (tCall spTake [] E (tCons (tVar 0) (tCons (tVar 2) tNil))) (gName 7))
        (tAsg (tLc (iRng1 (tCons (tVar 2) tNil)) (gName 4) (tTest (tOp rNe (tVar 4) (tVar 7))) (tVar 4) (List.map (fun x => x.snd) [(("_law_function" : Str), 4)])) (gName 5))
        { nx := tRet (tLst (tCons (tVar 3) (tCons (tVar 5) (tCons (tIf (tTest (tOp (rI0 fun i j => V.bl (decide (i < j))) (tVar 2) (tC (V.int 4)))) (tCall spWL [] E (tCons (tVar 3) (tCons (tVar 5) tNil))) (tCall spWS [] E (tCons (tVar 3) (tCons (tVar 5) tNil)))) tNil)))) { nx := fun x H' => Q .non H', rt := Q }, rt := Q } [some (.ref b), some (.int way), some (.int ls.length), some (.ref pl), z4, some (.ref ba), some (.int kind), z7] G3 := fun {z4 z7} => by
      walk_at "go"
      refine ⟨b, _, ls.length, rfl, by omega, by omega, by omega, hg3, fun at_ G4 a0 a1 g4 hg4 => ?_⟩
      walk_at "go"
      refine lcR1 (by omega) (by omega) (fun i => if (!decide ((i : Int) = at_)) = true then some (.int i) else none) (fun D5 ys G5 hD5 s5 e5 d5 => ?_) ?_
      · rw [Int.toNat_natCast, outs_pick] at d5
        have ey := d5.ints
        subst ey
        refine g_name rfl ?_
        refine ff D5 _ _ _ _ (TGG.trans ((s3.but.trans g4).trans s5.but)) ((hg4.same s5).mono (by omega)) (s5 _ _ (g4 _ _ (int_boxy _) el3)) e5 (pick_ne (j := at_.toNat) (by omega) ?_)
        show (!decide ((at_.toNat : Int) = at_)) = false
        rw [decide_eq_true (Int.toNat_of_nonneg a0)]
        rfl
      · intro D5 i G5 hi s5 nD5 hD5 Y N yes no
        walk_at "go"
        refine ⟨rfl, ?_⟩
        walk_at "go"
        refine g_iten (fun h => ?_) (fun h => ?_)
        · walk_at "go"
          exact yes _ (.int i) _ (by rw [decide_eq_false (fun z => h (by rw [z]))]; rfl) (Same.refl _) (.int _)
        · exact no _ (by rw [decide_eq_true (V.int.inj h)]; rfl) (Same.refl _)
    have done_ : (pick ls.length p').length ≠ ls.length → ∀ {z4 z7}, tNext { nx := tRet (tLst (tCons (tVar 3) (tCons (tVar 5) (tCons (tIf (tTest (tOp (rI0 fun i j => V.bl (decide (i < j))) (tVar 2) (tC (V.int 4)))) (tCall spWL [] E (tCons (tVar 3) (tCons (tVar 5) tNil))) (tCall spWS [] E (tCons (tVar 3) (tCons (tVar 5) tNil)))) tNil)))) { nx := fun x H' => Q .non H', rt := Q }, rt := Q } [some (.ref b), some (.int way), some (.int ls.length), some (.ref pl), z4, some (.ref ba), some (.int kind), z7] G3 := fun ne {z4 z7} =>
      g_next (ff ba p' _ _ _ (TGG.trans s3.but) (hg3.mono (by omega)) el3 eb ne)
    refine g_ite (fun _ => ?_) (fun _ => ?_)
    · exact tk
    · walk_at "go"
      rw [List.length_map]
      refine g_ite (fun _ => ?_) (fun h => ?_)
      · exact tk
      · exact done_ fun z => h (by rw [z])
  · intro D i G1 hi g1 nD hD hj Y N yes no
    walk_at "go"
    refine ⟨rfl, ?_⟩
    walk_at "go"
    refine ⟨b, n + 2 + 3 * ls.length + i, 3, rfl, by decide, by decide, by omega, hj, fun e G2 _ _ t5 hb5 => ?_⟩
    walk_at "go"
    refine g_ite (fun _ => ?_) (fun _ => ?_)
    · walk_at "go"
      exact yes _ t5 hb5
    · exact no _ t5 hb5
end
end Z
set_option Elab.async false
set_option linter.all false
set_option maxRecDepth 100000
set_option maxHeartbeats 4000000
namespace Z
open PySem PySem.Spec PyProof.Rows L2
local macro_rules | `(tactic| walk_at "hp") => `(tactic| first | assumption | exact upd_same | exact (upd_ne (by assumption)).trans (by assumption))
local macro_rules | `(tactic| walk_at "side") => `(tactic| first | assumption | omega | (exact ⟨by omega, by omega⟩) | (exact Or.inl ⟨by omega, by omega⟩) | (exact Or.inr ⟨by omega, by omega⟩) | (exact ⟨by omega, by omega, by omega⟩))
local macro_rules | `(tactic| walk_at "st") => `(tactic| first
  | (with_reducible first
  | refine g_seq ?_ | refine g_asg ?_ | refine g_op ?_ | refine g_var rfl ?_ | refine g_c ?_ | refine g_I0 ?_ | refine g_cons ?_ | refine g_nil ?_ | refine g_name rfl ?_ | refine g_ret ?_ | refine g_ifs ?_ | refine g_test ?_ | refine g_bl ?_
  | refine g_cb ?_ | refine g_call ?_ | refine g_drop ?_ | refine g_next ?_ | refine g_and ?_ | refine g_or ?_ | refine g_not ?_ | refine g_if ?_ | refine g_notV ?_ | refine g_andV ?_ | refine g_orV ?_ | refine g_chain ?_ | refine g_un ?_ | refine g_U ?_ | refine g_lst ?_ | refine g_tup ?_ | refine g_sub ?_ | refine g_B ?_ | refine g_int1 ?_ | refine g_trub ?_
  | refine g_eq rfl ?_ | refine g_ne rfl ?_ | refine g_tt ?_ | refine g_ff ?_ | refine g_nt ?_ | refine g_nf ?_ | refine g_retN ?_ | refine g_rs ?_ | refine g_lc ?_ | refine g_for ?_ | refine g_iL ?_ | refine g_iT ?_ | refine g_iR1 ?_ | refine g_iR2 ?_ | refine g_iR3 ?_ | refine g_yes ?_ | refine g_truth ?_ | refine g_gcons ?_ | refine g_gnil ?_ | refine g_par ?_ | refine g_par3 ?_ | refine g_ex2 ?_ | refine g_ex3 ?_ | refine g_bm ?_ | refine g_bm0 ?_ | refine g_aug rfl ?_ | refine g_ipI ?_ | refine g_iK ?_ | refine g_dc ?_ | refine g_dget ?_ | refine g_int ?_ | refine g_intB ?_ | refine g_abs ?_ | refine g_max2 ?_ | refine g_min2 ?_ | refine g_sl ?_ | refine g_nopart ?_ | refine g_part ?_ | refine g_dput ?_ | refine g_lstrg ?_ | refine g_rg1 ?_ | refine g_exi ?_)
  | ((with_reducible refine k_slL ?_); refine g_slL (SqL.of (by walk_at "hp")) ?_) | ((with_reducible refine k_listOf ?_); refine g_listOf (.inl (SqL.of (by walk_at "hp"))) ?_) | ((with_reducible refine k_rep ?_); refine g_rep (by walk_at "hp") (by omega) ?_) | ((with_reducible refine k_len ?_); refine g_len (SqL.of (by walk_at "hp")) ?_) | ((with_reducible refine k_len ?_); refine g_len (by assumption) ?_) | ((with_reducible refine k_tyL ?_); refine g_tyL (by walk_at "hp") ?_) | ((with_reducible refine k_gT ?_); refine g_gT (SqT.of (by walk_at "hp")) rfl ?_) | ((with_reducible refine k_gL ?_); refine g_gL (SqL.of (by walk_at "hp")) rfl ?_) | ((with_reducible refine k_ixL ?_); refine g_ixL (SqL.of (by walk_at "hp")) rfl ?_) | ((with_reducible refine k_ixL ?_); refine g_rd (by walk_at "hp") (by walk_at "side") ?_) | ((with_reducible refine k_ixL ?_); refine g_rdI (by walk_at "hp") (by omega) (by omega) ?_) | ((with_reducible refine k_setL ?_); refine g_setL (by walk_at "hp") rfl ?_) | ((with_reducible refine k_new ?_); refine g_new rfl ?_) | ((with_reducible refine k_I ?_); refine g_I (by walk_at "side") ?_))
local macro_rules | `(tactic| walk_at "go") => `(tactic| repeat walk_at "st")

/-! ### how great the counts may be -/
theorem Bn_le : ∀ n k : Nat, Bn n k ≤ 2 ^ n
  | n, 0 => by rw [Bn_o]; exact Nat.one_le_two_pow
  | 0, k + 1 => Nat.zero_le _
  | n + 1, k + 1 => by
    have h1 := Bn_le n k
    have h2 := Bn_le n (k + 1)
    show Bn n k + Bn n (k + 1) ≤ 2 ^ (n + 1)
    rw [Nat.pow_succ]
    omega
theorem W_le {m : Int} {k : Int} (hm : m ≤ 400) (hk : k ≤ 12) (h0 : 0 ≤ k) : (W m k).natAbs ≤ 2 ^ 412 := by
  by_cases h : m < 0
  · rw [W_neg h]; exact Nat.zero_le _
  · obtain ⟨n, rfl⟩ := Int.eq_ofNat_of_zero_le (by omega : 0 ≤ m)
    obtain ⟨t, rfl⟩ := Int.eq_ofNat_of_zero_le h0
    cases t with
    | zero =>
      rw [show (((0 : Nat)) : Int) = 0 from rfl, W_zero]
      split
      · exact Nat.one_le_two_pow
      · exact Nat.zero_le _
    | succ t =>
      rw [W_nat, Int.natAbs_natCast]
      exact Nat.le_trans (Bn_le _ _) (Nat.pow_le_pow_right (by decide) (by omega))
theorem csum_le {lo c s o : Int} (hl : lo ≤ 400) (hc : 0 ≤ c) (hs : 0 ≤ s) (ho : 0 ≤ o) (ho2 : o ≤ 12) : ∀ n : Nat, (csum lo c s o n).natAbs ≤ n * 2 ^ 413
  | 0 => Nat.zero_le _
  | n + 1 => by
    have ih := csum_le hl hc hs ho ho2 n
    have e : 0 ≤ (n : Int) * c := Int.mul_nonneg (by omega) hc
    have h1 := W_le (m := lo + (n : Int) * (-c)) (k := o) (by rw [Int.mul_neg]; omega) ho2 ho
    have h2 := W_le (m := lo + (n : Int) * (-c) - s) (k := o) (by rw [Int.mul_neg]; omega) ho2 ho
    unfold csum
    have e2 : (2 : Nat) ^ 413 = 2 ^ 412 + 2 ^ 412 := by rw [Nat.pow_succ, Nat.mul_two]
    rw [Nat.succ_mul]
    rw [e2] at ih ⊢
    generalize (2 : Nat) ^ 412 = p at ih h1 h2 ⊢
    generalize n * (p + p) = u at ih ⊢
    omega
theorem cs_abs {c i s : Nat} (c1 : 1 ≤ c) (c2 : c ≤ 12) (i2 : i ≤ 400) (s2 : s ≤ c) : (cs (c : Nat) (i : Nat) (s : Nat)).natAbs < 2 ^ 500 := by
  have hch : ∀ c, c ≤ 12 → ∀ s, s ≤ c → (PySem.W.mcComb (c : Nat) (s : Nat)).natAbs < 2 ^ 20 := by decide +kernel
  unfold cs
  have ht : turns ((i : Int) - ((c : Int) - s)) c ≤ 401 := by
    unfold turns
    split
    · omega
    · have h1 := Int.ediv_le_self (c : Int) (show 0 ≤ (i : Int) - ((c : Int) - s) by omega)
      omega
  have h1 := csum_le (lo := (i : Int) - ((c : Int) - s)) (c := c) (s := s) (o := (c : Int) - s) (by omega) (by omega) (by omega) (by omega) (by omega) (turns ((i : Int) - ((c : Int) - s)) c)
  have h2 : (csum ((i : Int) - ((c : Int) - s)) c s ((c : Int) - s) (turns ((i : Int) - ((c : Int) - s)) c)).natAbs < 2 ^ 480 := Nat.lt_of_le_of_lt (Nat.le_trans h1 (Nat.mul_le_mul_right _ ht)) (by decide +kernel)
  exact wide_lt (a := 20) (b := 480) (hch c c2 s s2) h2
theorem sum_abs {b : Nat} : ∀ l : List Int, (∀ x ∈ l, x.natAbs < b) → l.sum.natAbs ≤ l.length * b
  | [], _ => Nat.zero_le _
  | x :: l, h => by
    have h1 := h x (by simp)
    have h2 := sum_abs l fun y hy => h y (by simp [hy])
    rw [List.sum_cons, List.length_cons, Nat.succ_mul]
    omega
theorem cw_abs {c i : Nat} (c1 : 1 ≤ c) (c2 : c ≤ 12) (i2 : i ≤ 400) : (cw (c : Nat) (i : Nat)).natAbs < 2 ^ 510 := by
  unfold cw
  rw [Int.toNat_natCast]
  refine Nat.lt_of_le_of_lt (sum_abs (b := 2 ^ 500) _ fun x hx => ?_) ?_
  · obtain ⟨k, hk, rfl⟩ := List.mem_map.mp hx
    have := List.mem_range.mp hk
    have e := cs_abs (c := c) (i := i) (s := 1 + k) c1 c2 i2 (by omega)
    rwa [show ((1 + k : Nat) : Int) = 1 + (k : Int) by omega] at e
  · rw [List.length_map, List.length_range]
    exact Nat.lt_of_le_of_lt (Nat.mul_le_mul_right _ c2) (by decide +kernel)
theorem sumW_abs {ls bs : List Int} (h : ∀ l ∈ ls, 1 ≤ l ∧ l ≤ 10 ^ 18) (h2 : ls.length ≤ 12) : ∀ fs : List Int, (fs.foldl (fun a f => a + prodW ls bs f (freeOf ls.length bs)) 0).natAbs ≤ fs.length * 2 ^ 850 := by
  have key : ∀ (fs : List Int) (a : Int), (fs.foldl (fun a f => a + prodW ls bs f (freeOf ls.length bs)) a).natAbs ≤ a.natAbs + fs.length * 2 ^ 850 := by
    intro fs
    induction fs with
    | nil => intro a; simp
    | cons f r ih =>
      intro a
      have h1 := ih (a + prodW ls bs f (freeOf ls.length bs))
      have h3 := prod_bound (bs := bs) (f := f) h h2 (os := freeOf ls.length bs) fun o ho => ⟨(free_mem ho).1, (free_mem ho).2.1⟩
      have h4 : (prodW ls bs f (freeOf ls.length bs)).natAbs < 2 ^ 850 := Nat.lt_of_lt_of_le h3 (Nat.pow_le_pow_right (by decide) (by have := free_len (n := ls.length) (bs := bs); omega))
      rw [List.foldl_cons, List.length_cons, Nat.succ_mul]
      generalize 2 ^ 850 = p at *
      omega
  intro fs
  have := key fs 0
  simpa using this
theorem within_abs {ls bs : List Int} (h : ∀ l ∈ ls, 1 ≤ l ∧ l ≤ 10 ^ 18) (h1 : 1 ≤ ls.length) (h2 : ls.length ≤ 12) : (within ls bs).natAbs < 2 ^ 860 := by
  unfold within sumW
  have e := sumW_abs (bs := bs) h h2 (freeOf ls.length bs)
  have fl := free_len (n := ls.length) (bs := bs)
  have e2 : ((freeOf ls.length bs).foldl (fun a f => a + prodW ls bs f (freeOf ls.length bs)) 0).natAbs ≤ 12 * 2 ^ 850 := Nat.le_trans e (Nat.mul_le_mul_right _ (by omega))
  generalize (freeOf ls.length bs).foldl (fun a f => a + prodW ls bs f (freeOf ls.length bs)) 0 = x at e2
  have e3 : (x / (ls.length : Int)).natAbs ≤ x.natAbs := Int.natAbs_ediv_le_natAbs _ _
  exact Nat.lt_of_le_of_lt (Nat.le_trans e3 e2) (by decide +kernel)
theorem ok_int {r : Int} {k : Nat} (h : r.natAbs < 2 ^ k) (hk : k ≤ 1000) : okI (.int r) = true := by
  unfold okI
  exact decide_eq_true (Nat.lt_of_lt_of_le h (Nat.le_trans (Nat.pow_le_pow_right (by decide) hk) (by decide +kernel)))
end Z
set_option Elab.async false
set_option linter.all false
set_option maxRecDepth 100000
set_option maxHeartbeats 4000000
namespace Z
open PySem PySem.Spec PyProof.Rows L2
local macro_rules | `(tactic| walk_at "hp") => `(tactic| first | assumption | exact upd_same | exact (upd_ne (by assumption)).trans (by assumption))
local macro_rules | `(tactic| walk_at "side") => `(tactic| first | assumption | omega | (exact ⟨by omega, by omega⟩) | (exact Or.inl ⟨by omega, by omega⟩) | (exact Or.inr ⟨by omega, by omega⟩) | (exact ⟨by omega, by omega, by omega⟩))
local macro_rules | `(tactic| walk_at "st") => `(tactic| first
  | (with_reducible first
  | refine g_seq ?_ | refine g_asg ?_ | refine g_op ?_ | refine g_var rfl ?_ | refine g_c ?_ | refine g_I0 ?_ | refine g_cons ?_ | refine g_nil ?_ | refine g_name rfl ?_ | refine g_ret ?_ | refine g_ifs ?_ | refine g_test ?_ | refine g_bl ?_
  | refine g_cb ?_ | refine g_call ?_ | refine g_drop ?_ | refine g_next ?_ | refine g_and ?_ | refine g_or ?_ | refine g_not ?_ | refine g_if ?_ | refine g_notV ?_ | refine g_andV ?_ | refine g_orV ?_ | refine g_chain ?_ | refine g_un ?_ | refine g_U ?_ | refine g_lst ?_ | refine g_tup ?_ | refine g_sub ?_ | refine g_B ?_ | refine g_int1 ?_ | refine g_trub ?_
  | refine g_eq rfl ?_ | refine g_ne rfl ?_ | refine g_tt ?_ | refine g_ff ?_ | refine g_nt ?_ | refine g_nf ?_ | refine g_retN ?_ | refine g_rs ?_ | refine g_lc ?_ | refine g_for ?_ | refine g_iL ?_ | refine g_iT ?_ | refine g_iR1 ?_ | refine g_iR2 ?_ | refine g_iR3 ?_ | refine g_yes ?_ | refine g_truth ?_ | refine g_gcons ?_ | refine g_gnil ?_ | refine g_par ?_ | refine g_par3 ?_ | refine g_ex2 ?_ | refine g_ex3 ?_ | refine g_bm ?_ | refine g_bm0 ?_ | refine g_aug rfl ?_ | refine g_ipI ?_ | refine g_iK ?_ | refine g_dc ?_ | refine g_dget ?_ | refine g_int ?_ | refine g_intB ?_ | refine g_abs ?_ | refine g_max2 ?_ | refine g_min2 ?_ | refine g_sl ?_ | refine g_nopart ?_ | refine g_part ?_ | refine g_dput ?_ | refine g_lstrg ?_ | refine g_rg1 ?_ | refine g_exi ?_)
  | ((with_reducible refine k_slL ?_); refine g_slL (SqL.of (by walk_at "hp")) ?_) | ((with_reducible refine k_listOf ?_); refine g_listOf (.inl (SqL.of (by walk_at "hp"))) ?_) | ((with_reducible refine k_rep ?_); refine g_rep (by walk_at "hp") (by omega) ?_) | ((with_reducible refine k_len ?_); refine g_len (SqL.of (by walk_at "hp")) ?_) | ((with_reducible refine k_len ?_); refine g_len (by assumption) ?_) | ((with_reducible refine k_tyL ?_); refine g_tyL (by walk_at "hp") ?_) | ((with_reducible refine k_gT ?_); refine g_gT (SqT.of (by walk_at "hp")) rfl ?_) | ((with_reducible refine k_gL ?_); refine g_gL (SqL.of (by walk_at "hp")) rfl ?_) | ((with_reducible refine k_ixL ?_); refine g_ixL (SqL.of (by walk_at "hp")) rfl ?_) | ((with_reducible refine k_ixL ?_); refine g_rd (by walk_at "hp") (by walk_at "side") ?_) | ((with_reducible refine k_ixL ?_); refine g_rdI (by walk_at "hp") (by omega) (by omega) ?_) | ((with_reducible refine k_setL ?_); refine g_setL (by walk_at "hp") rfl ?_) | ((with_reducible refine k_new ?_); refine g_new rfl ?_) | ((with_reducible refine k_I ?_); refine g_I (by walk_at "side") ?_))
local macro_rules | `(tactic| walk_at "go") => `(tactic| repeat walk_at "st")

abbrev toldD (r : Int) : PyData := .list [.str "told", .int r]
theorem g_told {G : Hp} {Q : VK} {D : Addr} {r : Int} (h : G D = some (.lst [.str "told", .int r])) (o : okI (.int r) = true) (q : Q (.str (toldD r).shown) G) : rRepr [.ref D] G Q := by
  refine g_repr (d := toldD r) (.lst h rfl (.cons (.str _) (.cons (.int _) .nil))) ?_ ?_ ?_ q
  · show (true && (okI (.int r) && true)) = true
    rw [o]
    rfl
  · simp only [PyData.depth, PyData.depthAll]
    decide
  · show Nat.ble ((reprText "told").length + 2 + (401 + 2 + 0) + 2) 100000 = true
    decide +kernel
theorem g_tupOf {K : PySem.W.Frag} {H : Hp} {Q : VK} {a : Addr} {ys : List V} (h : SqL K H a ys) (q : ∀ l, H l = none → Q (.ref l) (upd H l (.tup ys))) : rTupOf K [.ref a] H Q := ⟨a, ys, rfl, .inl ⟨h, q⟩⟩
theorem bt {i a b : Int} (h1 : a ≤ i) (h2 : i ≤ b) : betw (.int i) a b = true := decide_eq_true ⟨h1, h2⟩
theorem staying_good {K : PySem.W.Frag} {H : Hp} {Q : VK} {E : XK} {c i s : Nat} (c1 : 1 ≤ c) (c2 : c ≤ 12) (i2 : i ≤ 400) (s1 : 1 ≤ s) (s2 : s ≤ c) (q : ∀ H', Same H H' → Q (.int (cs c i s)) H') : spStaying K [.int c, .int i, .int s] H Q E := by
  have b1 : betw (.int c) 1 12 = true := bt (by omega) (by omega)
  have b2 : betw (.int i) 0 400 = true := bt (by omega) (by omega)
  have b3 : betw (.int s) 1 (unI (.int c)) = true := bt (by omega) (by show (s : Int) ≤ c; omega)
  refine ⟨_, _, _, _, _, _, rfl, .int _, .int _, .int _, fun h => ?_, fun _ h => ?_, fun _ _ h => ?_, fun _ _ _ => q⟩
  · rw [b1] at h; cases h
  · rw [b2] at h; cases h
  · rw [b3] at h; cases h
theorem wheels_good {K : PySem.W.Frag} {H : Hp} {Q : VK} {E : XK} {c i : Nat} (c1 : 1 ≤ c) (c2 : c ≤ 12) (i2 : i ≤ 400) (q : ∀ H', Same H H' → Q (.int (cw c i)) H') : spWheels K [.int c, .int i] H Q E := by
  have b1 : betw (.int c) 1 12 = true := bt (by omega) (by omega)
  have b2 : betw (.int i) 0 400 = true := bt (by omega) (by omega)
  refine ⟨_, _, _, _, rfl, .int _, .int _, fun h => ?_, fun _ h => ?_, fun _ _ => q⟩
  · rw [b1] at h; cases h
  · rw [b2] at h; cases h
theorem rising_snoc : ∀ (l : List Int) (x : Int), rising l = true → (∀ y ∈ l, y < x) → rising (l ++ [x]) = true
  | [], _, _, _ => rfl
  | [a], x, _, h => by
    show (decide (a < x) && true) = true
    rw [decide_eq_true (h a (by simp))]
    rfl
  | a :: b :: r, x, h1, h2 => by
    have h3 : (decide (a < b) && rising (b :: r)) = true := h1
    rw [Bool.and_eq_true] at h3
    show (decide (a < b) && rising (b :: r ++ [x])) = true
    rw [h3.1, rising_snoc (b :: r) x h3.2 fun y hy => h2 y (by simp at hy ⊢; right; exact hy)]
    rfl
theorem pick_mem {n : Nat} {p : Nat → Bool} {b : Int} (h : b ∈ pick n p) : 0 ≤ b ∧ b < n := by
  obtain ⟨j, hj, rfl⟩ := List.mem_map.mp h
  have := List.mem_range.mp (List.mem_filter.mp hj).1
  omega
theorem pick_step {n : Nat} {p : Nat → Bool} : pick (n + 1) p = pick n p ++ if p n = true then [(n : Int)] else [] := by
  unfold pick
  rw [List.range_succ, List.filter_append, List.map_append]
  congr 1
  by_cases h : p n = true
  · simp [h]
  · simp [h]
theorem pick_rising (p : Nat → Bool) : ∀ n, rising (pick n p) = true
  | 0 => rfl
  | n + 1 => by
    rw [pick_step]
    by_cases h : p n = true
    · rw [if_pos h]
      exact rising_snoc _ _ (pick_rising p n) fun y hy => (pick_mem hy).2
    · rw [if_neg h, List.append_nil]
      exact pick_rising p n
theorem pick_out {n : Nat} {p : Nat → Bool} (h : (pick n p).length ≠ n) : ∃ g : Int, 0 ≤ g ∧ g < n ∧ g ∉ pick n p := by
  refine Classical.byContradiction fun z => h ?_
  unfold pick
  rw [List.length_map]
  refine (List.length_filter_eq_length_iff.mpr fun j hj => ?_).trans List.length_range
  have hj := List.mem_range.mp hj
  refine Classical.byContradiction fun hp => z ⟨j, by omega, by omega, fun hm => hp ?_⟩
  obtain ⟨k, hk, e⟩ := List.mem_map.mp hm
  have : k = j := by omega
  subst this
  exact (List.mem_filter.mp hk).2
theorem within_good {K : PySem.W.Frag} {H : Hp} {Q : VK} {E : XK} {x y : V} {ls : List Int} {p : Nat → Bool} (hx : Sq H x (ls.map V.int)) (hy : Sq H y ((pick ls.length p).map V.int)) (l1 : 1 ≤ ls.length) (l2 : ls.length ≤ 12) (lb : ∀ l ∈ ls, 1 ≤ l ∧ l ≤ 10 ^ 18)
    (ne : (pick ls.length p).length ≠ ls.length) (q : ∀ H', Same H H' → Q (.int (within ls (pick ls.length p))) H') : spWithin K [x, y] H Q E :=
  ⟨x, y, rfl, .inr (.inr ⟨ls, _, ⟨hx, l1, l2, lb⟩, ⟨hy, by have := pick_len (n := ls.length) (p := p); omega, fun b h => pick_mem h, pick_rising p _, ne, pick_out ne⟩, q⟩)⟩
theorem ints_shaped (ns : List Int) : SeqAt.shaped (.list (ns.map .int)) = true := by
  unfold SeqAt.shaped
  rw [Bool.and_eq_true, decide_eq_true_eq]
  constructor
  · simp only [PyData.canLay0]
    induction ns with
    | nil => rfl
    | cons a r ih => simp only [List.map, PyData.canLayAll0, PyData.canLay0, ih, Bool.and_self]
  · simp only [PyData.depth]
    have : PyData.depthAll (ns.map .int) = 0 := by
      induction ns with
      | nil => rfl
      | cons a r ih => simp only [List.map, PyData.depthAll, PyData.depth, ih, Nat.max_self]
    rw [this]
    decide
theorem g_neI {G : Hp} {Q : VK} {a b : Addr} {ns : List Int} (h1 : G a = some (.lst (ns.map V.int))) (h2 : G b = some (.lst (ns.map V.int))) (q : Q (.bl false) G) : rNeT (.ref a) (.ref b) G Q := by
  refine ⟨_, _, Dt.of_ints h1, Dt.of_ints h2, ints_shaped ns, ints_shaped ns, ?_⟩
  have e : (dI ns).eqv (dI ns) = true := SeqAt.eqv_refl _ (SeqAt.canLay_of_shaped (ints_shaped ns))
  rw [e]
  exact q
section
variable {P : Program} {w : World} {K : PySem.W.Frag} {mg : Str → Option Value} {base : Heap} {f : Addr} {fd : FuncData}
theorem sc__law_counted : FnScope ["_law_box_here", "_law_questions", "_law_rows", "_law_turn", "_law_count", "_law_inlined", "_law_staying", "_law_due_here", "_law_whole", "_law_limits_here", "_law_bare", "_law_one", "_law_other"] ["_law_box_here", "_law_questions", "_law_rows"] (defScope s__law_counted) := ⟨rfl, rfl, rfl, by decide +kernel, rfl, by decide +kernel, by decide +kernel⟩
theorem sc__law_refused_right : FnScope ["_law_box_here", "_law_odd", "_law_count", "_law_inlined", "_law_staying", "_law_fine", "_law_way", "_law_last", "_law_many", "_law_bad", "_law_wrong", "_law_first", "_law_second"] ["_law_box_here"] (defScope s__law_refused_right) := ⟨rfl, rfl, rfl, by decide +kernel, rfl, by decide +kernel, by decide +kernel⟩
theorem sc__law_right : FnScope ["_law_box_here", "_law_questions", "_law_rows"] ["_law_box_here"] (defScope s__law_right) := ⟨rfl, rfl, rfl, by decide +kernel, rfl, by decide +kernel, by decide +kernel⟩
theorem sc_law : FnScope ["_law_script", "_law_k"] ["_law_script"] (defScope s_law) := ⟨rfl, rfl, rfl, by decide +kernel, rfl, by decide +kernel, by decide +kernel⟩
def spCounted : Sp := fun vs H Q _ => ∃ (x : V) (qa ra : Addr) (q1 q2 r1 r2 : V), vs = [x, .ref qa, .ref ra] ∧ H qa = some (.lst [q1, q2]) ∧ H ra = some (.lst [r1, r2]) ∧ QuesOk H q1 ∧ QuesOk H q2 ∧ LimOk H r1 ∧ LimOk H r2 ∧ ∀ H', Same H H' → Q (.bl true) H'
theorem QuesOk.same {H H' : Hp} {x : V} (h : QuesOk H x) (s : Same H H') : QuesOk H' x := by
  obtain ⟨a, c, i, s', h1, h2, h3, h4, h5, h6, e⟩ := h
  exact ⟨a, c, i, s', h1, h2, h3, h4, h5, h6, s _ _ e⟩
theorem LimOk.same {H H' : Hp} {x : V} (h : LimOk H x) (s : Same H H') : LimOk H' x := by
  obtain ⟨a, la, ba, ls, p, h1, h2, h3, h4, h5, e1, e2, e3⟩ := h
  exact ⟨a, la, ba, ls, p, h1, h2, h3, h4, h5, s _ _ e1, s _ _ e2, s _ _ e3⟩
theorem two {q1 q2 x : V} {i : Nat} (h : [q1, q2][i]? = some x) : x = q1 ∨ x = q2 := by
  match i, h with
  | 0, h => exact .inl (Option.some.inj h).symm
  | 1, h => exact .inr (Option.some.inj h).symm
theorem fn_counted (F : Df K mg "_law_counted" s__law_counted f fd) (B : Bl K mg) (T : Bl K mg) (F__law_told : Fn P w K mg base "_law_told" 6 ["_law_way", "_law_one", "_law_other", "_law_third"] (spTold K)) : Fn P w K mg base "_law_counted" 7 ["_law_box_here", "_law_questions", "_law_rows"] spCounted := by
  refine F.fn sc__law_counted (fun vs H Q E h => ?_) (fun _ _ _ _ _ _ us hl => match us, hl with | [_, _, _], _ => rfl) (fun cdv A outer s H vs Q E hr gd h => ?_)
  · obtain ⟨x, qa, ra, q1, q2, r1, r2, rfl, _⟩ := h
    rfl
  obtain ⟨x, qa, ra, q1, q2, r1, r2, rfl, eq_, er, hq1, hq2, hr1, hr2, q⟩ := h
  refine ⟨_, (pss_cons (ps_for (passes_of rfl) rfl (pi_range1 rfl B.range_ (pa_cons pe_int pa_nil)) (pg_name (i := 3) sc__law_counted.nd rfl (Or.inl rfl)) (pss_cons (ps_for (passes_of rfl) rfl (z_piL (K := K) (pv 1)) (z_gL (K := K) rfl (pgs_cons (pg_name (i := 4) sc__law_counted.nd rfl (Or.inl rfl)) (pgs_cons (pg_name (i := 5) sc__law_counted.nd rfl (Or.inl rfl)) (pgs_cons (pg_name (i := 6) sc__law_counted.nd rfl (Or.inl rfl)) (pgs_cons (pg_name (i := 7) sc__law_counted.nd rfl (Or.inl rfl)) (pgs_cons (pg_name (i := 8) sc__law_counted.nd rfl (Or.inl rfl)) pgs_nil)))))) (pss_cons (ps_if (pt_cmpR op_ne (pe_callB (call_repr T.sys gd hr.units) rfl B.repr_ (by decide +kernel) (pa_cons (fcall F__law_told (hr.mono (by decide)) gd (passes_call (takes_of rfl rfl rfl rfl) fun _ _ _ _ h => h) (pa_cons (pv 3) (pa_cons (pv 4) (pa_cons (pv 5) (pa_cons (pv 6) pa_nil))))) pa_nil)) (pe_callB (call_repr T.sys gd hr.units) rfl B.repr_ (by decide +kernel) (pa_cons (pe_lst (pa_cons pe_str (pa_cons (pv 7) pa_nil))) pa_nil)) (nomark _)) (pss_one (ps_ret pe_bl)) pss_nil)
      (pss_one (ps_if (pt_cmpR op_ne (pe_callB (call_repr T.sys gd hr.units) rfl B.repr_ (by decide +kernel) (pa_cons (fcall F__law_told (hr.mono (by decide)) gd (passes_call (takes_of rfl rfl rfl rfl) fun _ _ _ _ h => h) (pa_cons (pe_op op_sub pe_int (pv 3)) (pa_cons (pv 4) (pa_cons (pv 5) (pa_cons pe_non pa_nil))))) pa_nil)) (pe_callB (call_repr T.sys gd hr.units) rfl B.repr_ (by decide +kernel) (pa_cons (pe_lst (pa_cons pe_str (pa_cons (pv 8) pa_nil))) pa_nil)) (nomark _)) (pss_one (ps_ret pe_bl)) pss_nil))))
      (pss_one (ps_for (passes_of rfl) rfl (z_piL (K := K) (pv 2)) (z_gL (K := K) rfl (pgs_cons (pg_name (i := 9) sc__law_counted.nd rfl (Or.inl rfl)) (pgs_cons (pg_name (i := 10) sc__law_counted.nd rfl (Or.inl rfl)) (pgs_cons (pg_name (i := 7) sc__law_counted.nd rfl (Or.inl rfl)) pgs_nil)))) (pss_cons (ps_par (i := 11) (j := 12) rfl sc__law_counted.nd rfl rfl (by decide) rfl rfl (pa_cons (pe_callTy (z_listOf (K := K)) rfl B.list_ (by decide +kernel) (pa_cons (pv 9) pa_nil)) (pa_cons (pe_ifExp (pt_cmpR op_eq (pv 3) pe_int (nomark _)) (pe_callTy (z_listOf (K := K)) rfl B.list_ (by decide +kernel) (pa_cons (pv 10) pa_nil)) (pe_callTy (z_tupOf (K := K)) rfl B.tuple_ (by decide +kernel) (pa_cons (pv 10) pa_nil))) pa_nil)) (by rfl))
      (pss_cons (ps_if (pt_cmpR op_ne (pe_callB (call_repr T.sys gd hr.units) rfl B.repr_ (by decide +kernel) (pa_cons (fcall F__law_told (hr.mono (by decide)) gd (passes_call (takes_of rfl rfl rfl rfl) fun _ _ _ _ h => h) (pa_cons (pe_op op_add pe_int (pv 3)) (pa_cons (pe_ifExp (pt_cmpR op_eq (pv 3) pe_int (nomark _)) (pv 11) (pe_callTy (z_tupOf (K := K)) rfl B.tuple_ (by decide +kernel) (pa_cons (pv 9) pa_nil))) (pa_cons (pv 12) (pa_cons pe_non pa_nil))))) pa_nil)) (pe_callB (call_repr T.sys gd hr.units) rfl B.repr_ (by decide +kernel) (pa_cons (pe_lst (pa_cons pe_str (pa_cons (pv 7) pa_nil))) pa_nil)) (nomark _)) (pss_one (ps_ret pe_bl)) pss_nil)
      (pss_one (ps_if (PW.pt (pw_or (pt_cmpR (z_neD T.sys hr.units) (pv 11) (pv 9) (nomark _)) (pw_or1 (pt_cmpR (z_neD T.sys hr.units) (pe_callTy (z_listOf (K := K)) rfl B.list_ (by decide +kernel) (pa_cons (pv 12) pa_nil)) (pv 10) (nomark _))))) (pss_one (ps_ret pe_bl)) pss_nil))))))))
      (pss_one (ps_ret pe_bl))), ?_⟩
  walk_at "go"
  refine forR1 (by decide) (by decide) (fun t τ G => ∃ z3 z4 z5 z6 z7 z8 z9 z10 z11 z12, τ = [some x, some (.ref qa), some (.ref ra), z3, z4, z5, z6, z7, z8, z9, z10, z11, z12] ∧ Same H G) ⟨_, _, _, _, _, _, _, _, _, _, rfl, Same.refl _⟩ ?_ ?_
  · rintro t τ G ht ⟨z3, z4, z5, z6, z7, z8, z9, z10, z11, z12, rfl, sG⟩
    have eq1 := sG _ _ eq_
    have er1 := sG _ _ er
    walk_at "go"
    refine forL (.of eq1) (fun _ τ G => ∃ z4 z5 z6 z7 z8, τ = [some x, some (.ref qa), some (.ref ra), some (.int t), z4, z5, z6, z7, z8, z9, z10, z11, z12] ∧ Same H G) ⟨_, _, _, _, _, rfl, sG⟩ (fun i τ G _ ⟨_, _, _, _, _, _, s⟩ => .of (s _ _ eq_)) ?_ ?_
    · rintro i y τ G1 hy ⟨z4, z5, z6, z7, z8, rfl, s1⟩
      have hq : QuesOk G1 y := by
        rcases two hy with rfl | rfl
        · exact hq1.same s1
        · exact hq2.same s1
      obtain ⟨a, c, i, s', rfl, c1, c2, i2, s1', s2', ea⟩ := hq
      walk_at "go"
      refine ⟨t, _, _, _, rfl, .inl ⟨by omega, staying_good c1 c2 i2 s1' s2' fun G2 g2 D hD => ?_⟩⟩
      have oc := ok_int (cs_abs c1 c2 i2 s2') (by decide)
      have ow := ok_int (cw_abs c1 c2 i2) (by decide)
      have g3 := Same.new (o := .lst [.str "told", .int (cs c i s')]) hD
      walk_at "go"
      refine g_told upd_same oc ?_
      walk_at "go"
      intro D2 hD2
      have g4 := Same.new (o := .lst [.str "told", .int (cs c i s')]) hD2
      walk_at "go"
      refine g_told upd_same oc ?_
      walk_at "go"
      refine g_iten (fun h => absurd rfl h) (fun _ => ?_)
      walk_at "go"
      refine ⟨3 - t, _, _, _, rfl, .inr (.inl ⟨by omega, wheels_good c1 c2 i2 fun G5 g5 D5 hD5 => ?_⟩)⟩
      walk_at "go"
      refine g_told upd_same ow ?_
      walk_at "go"
      intro D6 hD6
      walk_at "go"
      refine g_told upd_same ow ?_
      walk_at "go"
      refine g_iten (fun h => absurd rfl h) (fun _ => ?_)
      walk_at "go"
      exact ⟨_, _, _, _, _, rfl, ((((s1.trans g2).trans g3).trans g4).trans g5).trans ((Same.new hD5).trans (Same.new hD6))⟩
    · rintro τ G1 ⟨z4, z5, z6, z7, z8, rfl, s1⟩
      have er2 := s1 _ _ er
      walk_at "go"
      refine forL (.of er2) (fun _ τ G => ∃ z7 z9 z10 z11 z12, τ = [some x, some (.ref qa), some (.ref ra), some (.int t), z4, z5, z6, z7, z8, z9, z10, z11, z12] ∧ Same H G) ⟨_, _, _, _, _, rfl, s1⟩ (fun i τ G _ ⟨_, _, _, _, _, _, s⟩ => .of (s _ _ er)) ?_ ?_
      · rintro i y τ G2 hy ⟨z7, z9, z10, z11, z12, rfl, s2⟩
        have hr : LimOk G2 y := by
          rcases two hy with rfl | rfl
          · exact hr1.same s2
          · exact hr2.same s2
        obtain ⟨a, la, ba, ls, p, rfl, l1, l2_, lb, ne, ela, eba, ea⟩ := hr
        have ow := ok_int (within_abs (bs := pick ls.length p) lb l1 l2_) (by decide)
        walk_at "go"
        intro l hl
        have g1 := Same.new (o := .lst (ls.map V.int)) hl
        have ela1 := g1 _ _ ela
        have eba1 := g1 _ _ eba
        have ell : (upd G2 l (.lst (ls.map V.int))) l = some (.lst (ls.map V.int)) := upd_same
        generalize upd G2 l (.lst (ls.map V.int)) = G3 at g1 ela1 eba1 ell
        have neq : ∀ {G4 : Hp}, Same G3 G4 → ∀ {R : VK}, R (.bl false) G4 → rNeT (.ref l) (.ref la) G4 R := fun {_} g {R} r => g_neI (g _ _ ell) (g _ _ ela1) r
        have hcase : t = 0 ∨ t = 1 := by omega
        rcases hcase with rfl | rfl
        · walk_at "go"
          refine g_ite (fun _ => ?_) (fun z => absurd rfl z)
          walk_at "go"
          intro l2 hl2
          have g2 := Same.new (o := .lst ((pick ls.length p).map V.int)) hl2
          have el2 : (upd G3 l2 (.lst ((pick ls.length p).map V.int))) l2 = _ := upd_same
          generalize upd G3 l2 (.lst ((pick ls.length p).map V.int)) = G4 at g2 el2
          walk_at "go"
          refine g_ite (fun _ => ?_) (fun z => absurd rfl z)
          walk_at "go"
          refine ⟨_, _, _, _, rfl, .inr (.inr ⟨.inl rfl, within_good (.lst (g2 _ _ ell)) (.lst el2) l1 l2_ lb ne fun G5 g5 D hD => ?_⟩)⟩
          walk_at "go"
          refine g_told upd_same ow ?_
          walk_at "go"
          intro D2 hD2
          walk_at "go"
          refine g_told upd_same ow ?_
          walk_at "go"
          refine g_iten (fun h => absurd rfl h) (fun _ => ?_)
          have g6 := (g5.trans (Same.new (o := .lst [.str "told", .int (within ls (pick ls.length p))]) hD)).trans (Same.new (o := .lst [.str "told", .int (within ls (pick ls.length p))]) hD2)
          walk_at "go"
          refine neq (g2.trans g6) ?_
          have el6 := g6 _ _ el2
          have eb6 := (g2.trans g6) _ _ eba1
          walk_at "go"
          intro l7 hl7
          have g7 := Same.new (o := .lst ((pick ls.length p).map V.int)) hl7
          walk_at "go"
          refine g_neI upd_same (g7 _ _ eb6) ?_
          walk_at "go"
          exact ⟨_, _, _, _, _, rfl, (((s2.trans g1).trans g2).trans g6).trans g7⟩
        · walk_at "go"
          refine g_ite (fun z => absurd (V.int.inj z) (by decide)) (fun _ => ?_)
          walk_at "go"
          refine g_tupOf (.of eba1) fun l2 hl2 => ?_
          have g2 := Same.new (o := .tup ((pick ls.length p).map V.int)) hl2
          have el2 : (upd G3 l2 (.tup ((pick ls.length p).map V.int))) l2 = _ := upd_same
          generalize upd G3 l2 (.tup ((pick ls.length p).map V.int)) = G4 at g2 el2
          walk_at "go"
          refine g_ite (fun z => absurd (V.int.inj z) (by decide)) (fun _ => ?_)
          walk_at "go"
          refine g_tupOf (.of (g2 _ _ ela1)) fun l3 hl3 => ?_
          have g3 := Same.new (o := .tup (ls.map V.int)) hl3
          have el3 : (upd G4 l3 (.tup (ls.map V.int))) l3 = _ := upd_same
          generalize upd G4 l3 (.tup (ls.map V.int)) = G4' at g3 el3
          walk_at "go"
          refine ⟨_, _, _, _, rfl, .inr (.inr ⟨.inr rfl, within_good (.tup el3) (.tup (g3 _ _ el2)) l1 l2_ lb ne fun G5 g5 D hD => ?_⟩)⟩
          walk_at "go"
          refine g_told upd_same ow ?_
          walk_at "go"
          intro D2 hD2
          walk_at "go"
          refine g_told upd_same ow ?_
          walk_at "go"
          refine g_iten (fun h => absurd rfl h) (fun _ => ?_)
          have g6 := g3.trans ((g5.trans (Same.new (o := .lst [.str "told", .int (within ls (pick ls.length p))]) hD)).trans (Same.new (o := .lst [.str "told", .int (within ls (pick ls.length p))]) hD2))
          walk_at "go"
          refine neq (g2.trans g6) ?_
          have el6 := g6 _ _ el2
          have eb6 := (g2.trans g6) _ _ eba1
          walk_at "go"
          refine g_listOf (.inr (.of el6)) fun l7 hl7 => ?_
          have g7 := Same.new (o := .lst ((pick ls.length p).map V.int)) hl7
          walk_at "go"
          refine g_neI upd_same (g7 _ _ eb6) ?_
          walk_at "go"
          exact ⟨_, _, _, _, _, rfl, (((s2.trans g1).trans g2).trans g6).trans g7⟩
      · rintro τ G2 ⟨z7, z9, z10, z11, z12, rfl, s2⟩
        exact ⟨_, _, _, _, _, _, _, _, _, _, rfl, s2⟩
  · rintro τ G ⟨z3, z4, z5, z6, z7, z8, z9, z10, z11, z12, rfl, sG⟩
    walk_at "go"
    exact q _ sG
end
end Z
set_option Elab.async false
set_option linter.all false
set_option maxRecDepth 100000
set_option maxHeartbeats 4000000
namespace Z
open PySem PySem.Spec PyProof.Rows L2
local macro_rules | `(tactic| walk_at "hp") => `(tactic| first | assumption | exact upd_same | exact (upd_ne (by assumption)).trans (by assumption))
local macro_rules | `(tactic| walk_at "side") => `(tactic| first | assumption | omega | (exact ⟨by omega, by omega⟩) | (exact Or.inl ⟨by omega, by omega⟩) | (exact Or.inr ⟨by omega, by omega⟩) | (exact ⟨by omega, by omega, by omega⟩))
local macro_rules | `(tactic| walk_at "st") => `(tactic| first
  | (with_reducible first
  | refine g_seq ?_ | refine g_asg ?_ | refine g_op ?_ | refine g_var rfl ?_ | refine g_c ?_ | refine g_I0 ?_ | refine g_cons ?_ | refine g_nil ?_ | refine g_name rfl ?_ | refine g_ret ?_ | refine g_ifs ?_ | refine g_test ?_ | refine g_bl ?_
  | refine g_cb ?_ | refine g_call ?_ | refine g_drop ?_ | refine g_next ?_ | refine g_and ?_ | refine g_or ?_ | refine g_not ?_ | refine g_if ?_ | refine g_notV ?_ | refine g_andV ?_ | refine g_orV ?_ | refine g_chain ?_ | refine g_un ?_ | refine g_U ?_ | refine g_lst ?_ | refine g_tup ?_ | refine g_sub ?_ | refine g_B ?_ | refine g_int1 ?_ | refine g_trub ?_
  | refine g_eq rfl ?_ | refine g_ne rfl ?_ | refine g_tt ?_ | refine g_ff ?_ | refine g_nt ?_ | refine g_nf ?_ | refine g_retN ?_ | refine g_rs ?_ | refine g_lc ?_ | refine g_for ?_ | refine g_iL ?_ | refine g_iT ?_ | refine g_iR1 ?_ | refine g_iR2 ?_ | refine g_iR3 ?_ | refine g_yes ?_ | refine g_truth ?_ | refine g_gcons ?_ | refine g_gnil ?_ | refine g_par ?_ | refine g_par3 ?_ | refine g_ex2 ?_ | refine g_ex3 ?_ | refine g_bm ?_ | refine g_bm0 ?_ | refine g_aug rfl ?_ | refine g_ipI ?_ | refine g_iK ?_ | refine g_dc ?_ | refine g_dget ?_ | refine g_int ?_ | refine g_intB ?_ | refine g_abs ?_ | refine g_max2 ?_ | refine g_min2 ?_ | refine g_sl ?_ | refine g_nopart ?_ | refine g_part ?_ | refine g_dput ?_ | refine g_lstrg ?_ | refine g_rg1 ?_ | refine g_exi ?_)
  | ((with_reducible refine k_slL ?_); refine g_slL (SqL.of (by walk_at "hp")) ?_) | ((with_reducible refine k_listOf ?_); refine g_listOf (.inl (SqL.of (by walk_at "hp"))) ?_) | ((with_reducible refine k_rep ?_); refine g_rep (by walk_at "hp") (by omega) ?_) | ((with_reducible refine k_len ?_); refine g_len (SqL.of (by walk_at "hp")) ?_) | ((with_reducible refine k_len ?_); refine g_len (by assumption) ?_) | ((with_reducible refine k_tyL ?_); refine g_tyL (by walk_at "hp") ?_) | ((with_reducible refine k_gT ?_); refine g_gT (SqT.of (by walk_at "hp")) rfl ?_) | ((with_reducible refine k_gL ?_); refine g_gL (SqL.of (by walk_at "hp")) rfl ?_) | ((with_reducible refine k_ixL ?_); refine g_ixL (SqL.of (by walk_at "hp")) rfl ?_) | ((with_reducible refine k_ixL ?_); refine g_rd (by walk_at "hp") (by walk_at "side") ?_) | ((with_reducible refine k_ixL ?_); refine g_rdI (by walk_at "hp") (by omega) (by omega) ?_) | ((with_reducible refine k_setL ?_); refine g_setL (by walk_at "hp") rfl ?_) | ((with_reducible refine k_new ?_); refine g_new rfl ?_) | ((with_reducible refine k_I ?_); refine g_I (by walk_at "side") ?_))
local macro_rules | `(tactic| walk_at "go") => `(tactic| repeat walk_at "st")

/-- a value that stays what it is, with its text -/
def Odd (H : Hp) (v : V) : Prop := (∃ t, Kn H v t) ∧ ∃ d, Dt H v d ∧ okI d = true ∧ d.depth ≤ 40 ∧ wt d ≤ 50000
theorem Odd.same {H H' : Hp} {v : V} (h : Odd H v) (s : Same H H') : Odd H' v := by
  obtain ⟨⟨t, k⟩, d, hd, r⟩ := h
  exact ⟨⟨t, k.same s⟩, d, hd.but s.but, r⟩
theorem odd_int {H : Hp} (i : Int) (h : i.natAbs < 10 ^ 400 := by decide) : Odd H (.int i) := ⟨⟨_, .int i⟩, _, .int i, by unfold okI; exact decide_eq_true h, by simp only [PyData.depth]; decide, by show (401 : Nat) ≤ 50000; decide⟩
theorem odd_non {H : Hp} : Odd H .non := ⟨⟨_, .non⟩, _, .non, rfl, by simp only [PyData.depth]; decide, by show (4 : Nat) ≤ 50000; decide⟩
theorem odd_bl {H : Hp} (b : Bool) : Odd H (.bl b) := ⟨⟨_, .bl b⟩, _, .bl b, rfl, by simp only [PyData.depth]; decide, by show (5 : Nat) ≤ 50000; decide⟩
theorem odd_str {H : Hp} (x : Str) (h : (reprText x).length ≤ 50000) : Odd H (.str x) := ⟨⟨_, .str x⟩, _, .str x, rfl, by simp only [PyData.depth]; decide, h⟩
/-- lists of None, bools, ints -/
abbrev Sc := Option (Sum Bool Int)
def tv : Sc → V
  | none => .non
  | some (.inl b) => .bl b
  | some (.inr i) => .int i
def td : Sc → PyData
  | none => .none
  | some (.inl b) => .bool b
  | some (.inr i) => .int i
def okS : Sc → Bool
  | some (.inr i) => decide (i.natAbs < 10 ^ 400)
  | _ => true
theorem dts_sc {H : Hp} : ∀ l : List Sc, Dts H (l.map tv) (l.map td)
  | [] => .nil
  | none :: r => .cons .non (dts_sc r)
  | some (.inl b) :: r => .cons (.bl b) (dts_sc r)
  | some (.inr i) :: r => .cons (.int i) (dts_sc r)
theorem dt_sc {H : Hp} {a : Addr} {l : List Sc} (e : H a = some (.lst (l.map tv))) (nb : boxy (.lst (l.map tv)) = false) : Dt H (.ref a) (.list (l.map td)) := .lst e nb (dts_sc l)
theorem sc_ok : ∀ {l : List Sc}, l.all okS = true → okIs (l.map td) = true
  | [], _ => rfl
  | x :: r, h => by
    rw [List.all_cons, Bool.and_eq_true] at h
    show (okI (td x) && okIs (r.map td)) = true
    rw [sc_ok h.2, Bool.and_true]
    match x, h.1 with
    | none, _ => rfl
    | some (.inl b), _ => rfl
    | some (.inr i), h => exact h
theorem sc_depth : ∀ l : List Sc, PyData.depthAll (l.map td) = 0
  | [] => rfl
  | x :: r => by
    rw [List.map_cons]
    simp only [PyData.depthAll]
    rw [sc_depth r]
    match x with
    | none => simp only [td, PyData.depth, Nat.max_self]
    | some (.inl b) => simp only [td, PyData.depth, Nat.max_self]
    | some (.inr i) => simp only [td, PyData.depth, Nat.max_self]
theorem sc_wt : ∀ l : List Sc, wts (l.map td) ≤ l.length * 403
  | [] => Nat.zero_le _
  | x :: r => by
    have := sc_wt r
    show wt (td x) + 2 + wts (r.map td) ≤ _
    rw [List.length_cons, Nat.succ_mul]
    have e : wt (td x) ≤ 401 := by
      match x with
      | none => show (4 : Nat) ≤ 401; decide
      | some (.inl b) => show (5 : Nat) ≤ 401; decide
      | some (.inr i) => exact Nat.le_refl _
    omega
theorem sc_shaped (l : List Sc) : SeqAt.shaped (.list (l.map td)) = true := by
  unfold SeqAt.shaped
  rw [Bool.and_eq_true, decide_eq_true_eq]
  constructor
  · simp only [PyData.canLay0]
    induction l with
    | nil => rfl
    | cons a r ih =>
      simp only [List.map, PyData.canLayAll0, ih, Bool.and_true]
      match a with
      | none => rfl
      | some (.inl b) => rfl
      | some (.inr i) => rfl
  · simp only [PyData.depth]
    rw [sc_depth]
    decide
theorem odd_lst {H : Hp} {a : Addr} {l : List Sc} (e : H a = some (.lst (l.map tv))) (nb : boxy (.lst (l.map tv)) = false) (ok : l.all okS = true) (ll : l.length ≤ 100) : Odd H (.ref a) := by
  have := sc_wt l
  refine ⟨⟨_, .lst e⟩, _, dt_sc e nb, sc_ok ok, ?_, ?_⟩
  · simp only [PyData.depth]
    rw [sc_depth]
    decide
  · show wts (l.map td) + 2 ≤ 50000
    omega
theorem odd_dict {H : Hp} {a : Addr} (e : H a = some (.dK [])) : Odd H (.ref a) := ⟨⟨_, .dK e⟩, _, .edict e, rfl, by simp only [PyData.depth, PyData.depthKv]; decide, by show (2 : Nat) ≤ 50000; decide⟩
/-- repr([tag, v]) -/
theorem g_odd {G : Hp} {Q : VK} {D : Addr} {tag : Str} {v : V} {d : PyData} (h : G D = some (.lst [.str tag, v])) (hd : Dt G v d) (o : okI d = true) (dp : d.depth ≤ 40) (w : wt d ≤ 50000) (tl : (reprText tag).length ≤ 40000) (q : Q (.str (PyData.list [.str tag, d]).shown) G) : rRepr [.ref D] G Q := by
  refine g_repr (d := .list [.str tag, d]) (.lst h rfl (.cons (.str _) (.cons hd .nil))) ?_ ?_ ?_ q
  · show (true && (okI d && true)) = true
    rw [o]
    rfl
  · simp only [PyData.depth, PyData.depthAll]
    omega
  · refine Nat.ble_eq.mpr ?_
    show (reprText tag).length + 2 + (wt d + 2 + 0) + 2 ≤ 100000
    omega
theorem g_neS {x : Str} {H : Hp} {Q : VK} (q : Q (.bl false) H) : rNe (.str x) (.str x) H Q := by
  refine ⟨rfl, ?_⟩
  rw [decide_eq_true rfl]
  exact q
theorem err_told {K : PySem.W.Frag} {H : Hp} {Q : VK} {nm tag : Str} {v : V} (hm : (nm, tag) ∈ Tags) (q : ∀ G D, Same H G → G D = none → Q (.ref D) (upd G D (.lst [.str tag, v]))) : Err K nm v H (toldE K Q) := fun d G _ s e =>
  ⟨(nm, tag), v, d, hm, rfl, rfl, e, fun D hD => q G D s hD⟩
theorem m1 : ((("InvalidCount" : Str), ("count" : Str)) : Str × Str) ∈ Tags := .head _
theorem m2 : ((("InvalidInlinedCount" : Str), ("inlined" : Str)) : Str × Str) ∈ Tags := .tail _ (.head _)
theorem m3 : ((("InvalidStaying" : Str), ("staying" : Str)) : Str × Str) ∈ Tags := .tail _ (.tail _ (.head _))
theorem m4 : ((("InvalidLimits" : Str), ("limits" : Str)) : Str × Str) ∈ Tags := .tail _ (.tail _ (.tail _ (.head _)))
theorem m5 : ((("InvalidGroup" : Str), ("group" : Str)) : Str × Str) ∈ Tags := .tail _ (.tail _ (.tail _ (.tail _ (.head _))))
theorem nob {x : Bool} {C : Prop} (b : x = false) (z : x = true) : C := by rw [b] at z; cases z
theorem nob' {x : Bool} {C : Prop} (b : x = true) (z : x = false) : C := by rw [b] at z; cases z
/-- the counts' refusals -/
theorem told_count {K : PySem.W.Frag} {H : Hp} {Q : VK} {way : Int} {c i s : V} (hw : 0 ≤ way ∧ way < 4) (hc : Odd H c) (hi : Odd H i) (hs : Odd H s) (b : betw c 1 12 = false) (q : ∀ G D, Same H G → G D = none → Q (.ref D) (upd G D (.lst [.str "count", c]))) {E : XK} :
    spTold K [.int way, c, i, s] H Q E := by
  obtain ⟨⟨tc, kc⟩, _⟩ := hc
  obtain ⟨⟨ti, ki⟩, _⟩ := hi
  obtain ⟨⟨ts, ks⟩, _⟩ := hs
  have e := err_told (K := K) m1 q
  refine ⟨way, c, i, s, rfl, ?_⟩
  by_cases h : way < 2
  · exact .inl ⟨by omega, _, _, _, _, _, _, rfl, kc, ki, ks, fun _ => e, fun z => nob b z, fun z => nob b z, fun z => nob b z⟩
  · exact .inr (.inl ⟨by omega, _, _, _, _, rfl, kc, ki, fun _ => e, fun z => nob b z, fun z => nob b z⟩)
theorem told_inlined {K : PySem.W.Frag} {H : Hp} {Q : VK} {way c : Int} {i s : V} (hw : 0 ≤ way ∧ way < 4) (hc : 1 ≤ c ∧ c ≤ 12) (hi : Odd H i) (hs : Odd H s) (b : betw i 0 400 = false) (q : ∀ G D, Same H G → G D = none → Q (.ref D) (upd G D (.lst [.str "inlined", i]))) {E : XK} :
    spTold K [.int way, .int c, i, s] H Q E := by
  obtain ⟨⟨ti, ki⟩, _⟩ := hi
  obtain ⟨⟨ts, ks⟩, _⟩ := hs
  have bc : betw (.int c) 1 12 = true := bt hc.1 hc.2
  have e := err_told (K := K) m2 q
  refine ⟨way, _, i, s, rfl, ?_⟩
  by_cases h : way < 2
  · exact .inl ⟨by omega, _, _, _, _, _, _, rfl, .int c, ki, ks, fun z => nob' bc z, fun _ _ => e, fun _ z => nob b z, fun _ z => nob b z⟩
  · exact .inr (.inl ⟨by omega, _, _, _, _, rfl, .int c, ki, fun z => nob' bc z, fun _ _ => e, fun _ z => nob b z⟩)
theorem told_staying {K : PySem.W.Frag} {H : Hp} {Q : VK} {way c i : Int} {s : V} (hw : 0 ≤ way ∧ way < 2) (hc : 1 ≤ c ∧ c ≤ 12) (hi : 0 ≤ i ∧ i ≤ 400) (hs : Odd H s) (b : betw s 1 c = false) (q : ∀ G D, Same H G → G D = none → Q (.ref D) (upd G D (.lst [.str "staying", s]))) {E : XK} :
    spTold K [.int way, .int c, .int i, s] H Q E := by
  obtain ⟨⟨ts, ks⟩, _⟩ := hs
  have bc : betw (.int c) 1 12 = true := bt hc.1 hc.2
  have bi : betw (.int i) 0 400 = true := bt hi.1 hi.2
  have b2 : betw s 1 (unI (.int c)) = false := b
  have e := err_told (K := K) m3 q
  exact ⟨way, _, _, s, rfl, .inl ⟨by omega, _, _, _, _, _, _, rfl, .int c, .int i, ks, fun z => nob' bc z, fun _ z => nob' bi z, fun _ _ _ => e, fun _ _ z => nob b2 z⟩⟩
theorem told_limits {K : PySem.W.Frag} {H : Hp} {Q : VK} {way : Int} {x y z : V} (hw : 4 ≤ way ∧ way < 6) (b : LimBad H x) (q : ∀ G D, Same H G → G D = none → Q (.ref D) (upd G D (.lst [.str "limits", x]))) {E : XK} : spTold K [.int way, x, y, z] H Q E :=
  ⟨way, x, y, z, rfl, .inr (.inr ⟨by omega, x, y, rfl, .inl ⟨b, err_told m4 q⟩⟩)⟩
theorem told_group {K : PySem.W.Frag} {H : Hp} {Q : VK} {way : Int} {x y z : V} {ls : List Int} (hw : 4 ≤ way ∧ way < 6) (g : LimGood H x ls) (b : BareBad H ls.length y) (q : ∀ G D, Same H G → G D = none → Q (.ref D) (upd G D (.lst [.str "group", y]))) {E : XK} : spTold K [.int way, x, y, z] H Q E :=
  ⟨way, x, y, z, rfl, .inr (.inr ⟨by omega, x, y, rfl, .inr (.inl ⟨ls, g, b, err_told m5 q⟩)⟩)⟩
end Z
set_option Elab.async false
set_option linter.all false
set_option maxRecDepth 100000
set_option maxHeartbeats 4000000
/-! k58: the wrong limits and groups. -/
namespace Z
open PySem PySem.Spec PyProof.Rows L2
theorem boxy_last {xs : List V} {y : V} (h : ∀ i, y ≠ .int i) : boxy (.lst (xs ++ [y])) = false := by
  generalize hz : HO.lst (xs ++ [y]) = z
  unfold boxy
  split
  · rename_i a b c d
    have e := congrArg List.getLast? (HO.lst.inj hz)
    simp at e
    exact absurd e (h _)
  · rfl
theorem boxy_non (xs : List V) : boxy (.lst (xs ++ [.non])) = false := boxy_last fun i h => by cases h
theorem boxy_bl (xs : List V) (z : Bool) : boxy (.lst (xs ++ [.bl z])) = false := boxy_last fun i h => by cases h
/-- a value that is no list, or a list that may change -/
def Mx (G : Hp) (v : V) : Prop := Odd G v ∧ ((∃ (a : Addr) (l : List Sc), v = .ref a ∧ G a = some (.lst (l.map tv)) ∧ boxy (.lst (l.map tv)) = false ∧ l.all okS = true ∧ l.length ≤ 50) ∨ ∃ t, Kn G v t ∧ isK "list" t = false)
theorem mx_lst {G : Hp} {a : Addr} {xs : List V} (l : List Sc) (e : G a = some (.lst xs)) (h : xs = l.map tv) (nb : boxy (.lst xs) = false) (ok : l.all okS = true) (ll : l.length ≤ 50) : Mx G (.ref a) := by
  subst h
  exact ⟨odd_lst e nb ok (by omega), .inl ⟨a, l, rfl, e, nb, ok, ll⟩⟩
theorem mx_non {G : Hp} {v : V} {t : String} (o : Odd G v) (k : Kn G v t) (h : isK "list" t = false) : Mx G v := ⟨o, .inr ⟨t, k, h⟩⟩
theorem kns_sc {G : Hp} (l : List Sc) : Kns G (l.map tv) := fun y hy => by
  obtain ⟨x, _, rfl⟩ := List.mem_map.mp hy
  match x with
  | none => exact ⟨_, .non⟩
  | some (.inl b) => exact ⟨_, .bl b⟩
  | some (.inr i) => exact ⟨_, .int i⟩
theorem lim_lst {G : Hp} {a : Addr} {xs : List V} (l : List Sc) (e : G a = some (.lst xs)) (h : xs = l.map tv) (ll : l.length ≤ 50) (b : xs.all (betw · 1 (10 ^ 18)) = false ∨ xs.length = 0 ∨ 12 < xs.length) : LimBad G (.ref a) := by
  subst h
  refine ⟨_, .yes (.lst e) (kns_sc l) (by rw [List.length_map]; omega), ?_⟩
  rcases b with b | b
  · exact .inl b
  · exact .inr ⟨_, .lst e, b⟩
theorem lim_no {G : Hp} {v : V} {t : String} (k : Kn G v t) (h1 : isK "list" t = false) (h2 : isK "tuple" t = false) : LimBad G v := ⟨_, .no k h1 h2, .inl rfl⟩
theorem grp_lst {G : Hp} {a : Addr} {xs : List V} {n : Nat} (l : List Sc) (e : G a = some (.lst xs)) (h : xs = l.map tv) (ll : l.length ≤ 50) (b : grp n xs = false) : BareBad G n (.ref a) := by
  subst h
  have := Grp.yes (n := n) (.lst e) (kns_sc l) (by rw [List.length_map]; omega)
  rw [b] at this
  exact .inl this
theorem grp_no {G : Hp} {v : V} {n : Nat} {t : String} (k : Kn G v t) (h1 : isK "list" t = false) (h2 : isK "tuple" t = false) : BareBad G n v := .inl (.no k h1 h2)
structure BF (p1 p2 p6 p7 p8 p9 : Addr) (m : Nat) (G : Hp) : Prop where
  e1 : G p1 = some (.lst [])
  e2 : G p2 = some (.lst (List.replicate 13 (.int 1)))
  e6 : G p6 = some (.dK [])
  e7 : G p7 = some (.lst (List.replicate m (.int 0)))
  e8 : G p8 = some (.lst (List.replicate m (.int (10 ^ 18 + 1))))
  e9 : G p9 = some (.lst (List.replicate m (.int 1) ++ [.bl true]))
def BM (p1 p2 p6 p7 p8 p9 : Addr) : List V := [.ref p1, .ref p2, .non, .str "11", .int 3, .ref p6, .ref p7, .ref p8, .ref p9]
theorem rep_tv (m : Nat) (i : Int) : List.replicate m (V.int i) = (List.replicate m (some (Sum.inr i) : Sc)).map tv := by rw [List.map_replicate]; rfl
theorem rep_ok (m : Nat) (i : Int) (h : i.natAbs < 10 ^ 400) : (List.replicate m (some (Sum.inr i) : Sc)).all okS = true := List.all_eq_true.mpr fun x hx => by rw [List.eq_of_mem_replicate hx]; exact decide_eq_true h
theorem rep_boxy (m : Nat) (i : Int) : boxy (.lst (List.replicate m (V.int i))) = false := by rw [show List.replicate m (V.int i) = (List.replicate m i).map V.int by rw [List.map_replicate]]; exact int_boxy _
theorem s11ok : (reprText "11").length ≤ 50000 := by decide +kernel
theorem s0ok : (reprText "0").length ≤ 50000 := by decide +kernel
theorem bm_bad {p1 p2 p6 p7 p8 p9 : Addr} {m : Nat} (m1 : 1 ≤ m) (m4 : m ≤ 4) {d : Int} (h0 : 0 ≤ d) (h : d < 9) : ∃ v, atI (BM p1 p2 p6 p7 p8 p9) d = some v ∧ ∀ G, BF p1 p2 p6 p7 p8 p9 m G → LimBad G v ∧ Mx G v := by
  obtain ⟨k, rfl⟩ : ∃ k, m = k + 1 := ⟨m - 1, by omega⟩
  have : d = 0 ∨ d = 1 ∨ d = 2 ∨ d = 3 ∨ d = 4 ∨ d = 5 ∨ d = 6 ∨ d = 7 ∨ d = 8 := by omega
  rcases this with rfl | rfl | rfl | rfl | rfl | rfl | rfl | rfl | rfl
  · exact ⟨_, rfl, fun G F => ⟨lim_lst [] F.e1 rfl (by decide) (.inr (.inl rfl)), mx_lst [] F.e1 rfl rfl rfl (by decide)⟩⟩
  · exact ⟨_, rfl, fun G F => ⟨lim_lst _ F.e2 (rep_tv 13 1) (by simp) (.inr (.inr (by simp))), mx_lst _ F.e2 (rep_tv 13 1) (rep_boxy 13 1) (rep_ok 13 1 (by decide)) (by simp)⟩⟩
  · exact ⟨_, rfl, fun G F => ⟨lim_no .non rfl rfl, mx_non odd_non .non rfl⟩⟩
  · exact ⟨_, rfl, fun G F => ⟨lim_no (.str _) rfl rfl, mx_non (odd_str _ s11ok) (.str _) rfl⟩⟩
  · exact ⟨_, rfl, fun G F => ⟨lim_no (.int _) rfl rfl, mx_non (odd_int _) (.int _) rfl⟩⟩
  · exact ⟨_, rfl, fun G F => ⟨lim_no (.dK F.e6) rfl rfl, mx_non (odd_dict F.e6) (.dK F.e6) rfl⟩⟩
  · refine ⟨_, rfl, fun G F => ⟨lim_lst _ F.e7 (rep_tv _ _) (by simp; omega) (.inl ?_), mx_lst _ F.e7 (rep_tv _ _) (rep_boxy _ _) (rep_ok _ _ (by decide)) (by simp; omega)⟩⟩
    rw [List.replicate_succ, List.all_cons]
    rfl
  · refine ⟨_, rfl, fun G F => ⟨lim_lst _ F.e8 (rep_tv _ _) (by simp; omega) (.inl ?_), mx_lst _ F.e8 (rep_tv _ _) (rep_boxy _ _) (rep_ok _ _ (by decide)) (by simp; omega)⟩⟩
    rw [List.replicate_succ, List.all_cons]
    rfl
  · have et : List.replicate (k + 1) (V.int 1) ++ [V.bl true] = (List.replicate (k + 1) (some (Sum.inr 1) : Sc) ++ [some (Sum.inl true)]).map tv := by
      rw [List.map_append, ← rep_tv]
      rfl
    refine ⟨_, rfl, fun G F => ⟨lim_lst _ F.e9 et (by simp; omega) (.inl ?_), mx_lst _ F.e9 et (boxy_bl _ _) ?_ (by simp; omega)⟩⟩
    · rw [List.all_append]
      show (_ && (false && true)) = false
      rw [Bool.false_and, Bool.and_false]
    · rw [List.all_append, rep_ok _ _ (by decide)]
      rfl
structure WF (q1 q2 q3 q4 q6 q7 : Addr) (m : Nat) (G : Hp) : Prop where
  e1 : G q1 = some (.lst (rgV 0 m))
  e2 : G q2 = some (.lst [.int m])
  e3 : G q3 = some (.lst [.int (-1)])
  e4 : G q4 = some (.lst [.int 0, .int 0])
  e6 : G q6 = some (.dK [])
  e7 : G q7 = some (.lst [.bl true])
def WM (q1 q2 q3 q4 q6 q7 : Addr) : List V := [.non, .ref q1, .ref q2, .ref q3, .ref q4, .str "0", .ref q6, .ref q7, .int 0]
theorem rg_pick (m : Nat) : rgV 0 m = (pick m fun _ => true).map V.int := by
  unfold rgV pick
  rw [show ((m : Int) - 0).toNat = m by omega, List.filter_eq_self.mpr (fun _ _ => rfl), List.map_map]
  exact List.map_congr_left fun i _ => by simp
theorem wm_bad {q1 q2 q3 q4 q6 q7 : Addr} {m : Nat} (m1 : 1 ≤ m) (m4 : m ≤ 4) {d : Int} (h0 : 0 ≤ d) (h : d < 9) : ∃ v, atI (WM q1 q2 q3 q4 q6 q7) d = some v ∧ ∀ G, WF q1 q2 q3 q4 q6 q7 m G → BareBad G m v ∧ Mx G v := by
  have : d = 0 ∨ d = 1 ∨ d = 2 ∨ d = 3 ∨ d = 4 ∨ d = 5 ∨ d = 6 ∨ d = 7 ∨ d = 8 := by omega
  rcases this with rfl | rfl | rfl | rfl | rfl | rfl | rfl | rfl | rfl
  · exact ⟨_, rfl, fun G F => ⟨grp_no .non rfl rfl, mx_non odd_non .non rfl⟩⟩
  · have lp : (pick m fun _ => true).length = m := by
      unfold pick
      rw [List.length_map, List.filter_eq_self.mpr (fun _ _ => rfl), List.length_range]
    refine ⟨_, rfl, fun G F => ⟨.inr ⟨pick m fun _ => true, by have := F.e1; rw [rg_pick] at this; exact .lst this, by omega, ?_, lp⟩, mx_lst ((pick m fun _ => true).map fun i => some (Sum.inr i)) F.e1 ?_ ?_ ?_ (by rw [List.length_map, lp]; omega)⟩⟩
    · unfold grp
      rw [Bool.and_eq_true]
      constructor
      · rw [List.all_map]
        exact List.all_eq_true.mpr fun b h => decide_eq_true (by have := pick_mem h; omega)
      · rw [List.map_map, show unI ∘ V.int = id from rfl, List.map_id]
        exact pick_rising _ m
    · rw [rg_pick, List.map_map]
      rfl
    · rw [rg_pick]; exact int_boxy _
    · rw [List.all_map]
      exact List.all_eq_true.mpr fun b h => decide_eq_true (by
        have := pick_mem h
        have e : b.natAbs < 10 := by omega
        exact Nat.lt_trans e (by decide))
  · exact ⟨_, rfl, fun G F => ⟨grp_lst [some (.inr m)] F.e2 rfl (by simp) (by
      show ((betw (.int m) 0 ((m : Int) - 1) && true) && rising [(m : Int)]) = false
      rw [show betw (.int m) 0 ((m : Int) - 1) = false from decide_eq_false (by omega)]
      rfl), mx_lst [some (.inr m)] F.e2 rfl rfl (by
        show (decide ((m : Int).natAbs < 10 ^ 400) && true) = true
        rw [Bool.and_true]
        exact decide_eq_true (Nat.lt_trans (by omega : (m : Int).natAbs < 10) (by decide))) (by simp)⟩⟩
  · exact ⟨_, rfl, fun G F => ⟨grp_lst [some (.inr (-1))] F.e3 rfl (by decide) rfl, mx_lst [some (.inr (-1))] F.e3 rfl rfl (by decide) (by decide)⟩⟩
  · exact ⟨_, rfl, fun G F => ⟨grp_lst [some (.inr 0), some (.inr 0)] F.e4 rfl (by decide) (by
      unfold grp
      rw [show rising (List.map unI [V.int 0, V.int 0]) = false from rfl, Bool.and_false]), mx_lst [some (.inr 0), some (.inr 0)] F.e4 rfl rfl (by decide) (by decide)⟩⟩
  · exact ⟨_, rfl, fun G F => ⟨grp_no (.str _) rfl rfl, mx_non (odd_str _ s0ok) (.str _) rfl⟩⟩
  · exact ⟨_, rfl, fun G F => ⟨grp_no (.dK F.e6) rfl rfl, mx_non (odd_dict F.e6) (.dK F.e6) rfl⟩⟩
  · exact ⟨_, rfl, fun G F => ⟨grp_lst [some (.inl true)] F.e7 rfl (by decide) rfl, mx_lst [some (.inl true)] F.e7 rfl rfl (by decide) (by decide)⟩⟩
  · exact ⟨_, rfl, fun G F => ⟨grp_no (.int _) rfl rfl, mx_non (odd_int _) (.int _) rfl⟩⟩
end Z
set_option Elab.async false
set_option linter.all false
set_option maxRecDepth 100000
set_option maxHeartbeats 4000000
namespace Z
open PySem PySem.Spec PyProof.Rows L2
local macro_rules | `(tactic| walk_at "hp") => `(tactic| first | assumption | exact upd_same | exact (upd_ne (by assumption)).trans (by assumption))
local macro_rules | `(tactic| walk_at "side") => `(tactic| first | assumption | omega | (exact ⟨by omega, by omega⟩) | (exact Or.inl ⟨by omega, by omega⟩) | (exact Or.inr ⟨by omega, by omega⟩) | (exact ⟨by omega, by omega, by omega⟩))
local macro_rules | `(tactic| walk_at "st") => `(tactic| first
  | (with_reducible first
  | refine g_seq ?_ | refine g_asg ?_ | refine g_op ?_ | refine g_var rfl ?_ | refine g_c ?_ | refine g_I0 ?_ | refine g_cons ?_ | refine g_nil ?_ | refine g_name rfl ?_ | refine g_ret ?_ | refine g_ifs ?_ | refine g_test ?_ | refine g_bl ?_
  | refine g_cb ?_ | refine g_call ?_ | refine g_drop ?_ | refine g_next ?_ | refine g_and ?_ | refine g_or ?_ | refine g_not ?_ | refine g_if ?_ | refine g_notV ?_ | refine g_andV ?_ | refine g_orV ?_ | refine g_chain ?_ | refine g_un ?_ | refine g_U ?_ | refine g_lst ?_ | refine g_tup ?_ | refine g_sub ?_ | refine g_B ?_ | refine g_int1 ?_ | refine g_trub ?_
  | refine g_eq rfl ?_ | refine g_ne rfl ?_ | refine g_tt ?_ | refine g_ff ?_ | refine g_nt ?_ | refine g_nf ?_ | refine g_retN ?_ | refine g_rs ?_ | refine g_lc ?_ | refine g_for ?_ | refine g_iL ?_ | refine g_iT ?_ | refine g_iR1 ?_ | refine g_iR2 ?_ | refine g_iR3 ?_ | refine g_yes ?_ | refine g_truth ?_ | refine g_gcons ?_ | refine g_gnil ?_ | refine g_par ?_ | refine g_par3 ?_ | refine g_ex2 ?_ | refine g_ex3 ?_ | refine g_bm ?_ | refine g_bm0 ?_ | refine g_aug rfl ?_ | refine g_ipI ?_ | refine g_iK ?_ | refine g_dc ?_ | refine g_dget ?_ | refine g_int ?_ | refine g_intB ?_ | refine g_abs ?_ | refine g_max2 ?_ | refine g_min2 ?_ | refine g_sl ?_ | refine g_nopart ?_ | refine g_part ?_ | refine g_dput ?_ | refine g_lstrg ?_ | refine g_rg1 ?_ | refine g_exi ?_)
  | ((with_reducible refine k_slL ?_); refine g_slL (SqL.of (by walk_at "hp")) ?_) | ((with_reducible refine k_listOf ?_); refine g_listOf (.inl (SqL.of (by walk_at "hp"))) ?_) | ((with_reducible refine k_rep ?_); refine g_rep (by walk_at "hp") (by omega) ?_) | ((with_reducible refine k_len ?_); refine g_len (SqL.of (by walk_at "hp")) ?_) | ((with_reducible refine k_len ?_); refine g_len (by assumption) ?_) | ((with_reducible refine k_tyL ?_); refine g_tyL (by walk_at "hp") ?_) | ((with_reducible refine k_gT ?_); refine g_gT (SqT.of (by walk_at "hp")) rfl ?_) | ((with_reducible refine k_gL ?_); refine g_gL (SqL.of (by walk_at "hp")) rfl ?_) | ((with_reducible refine k_ixL ?_); refine g_ixL (SqL.of (by walk_at "hp")) rfl ?_) | ((with_reducible refine k_ixL ?_); refine g_rd (by walk_at "hp") (by walk_at "side") ?_) | ((with_reducible refine k_ixL ?_); refine g_rdI (by walk_at "hp") (by omega) (by omega) ?_) | ((with_reducible refine k_setL ?_); refine g_setL (by walk_at "hp") rfl ?_) | ((with_reducible refine k_new ?_); refine g_new rfl ?_) | ((with_reducible refine k_I ?_); refine g_I (by walk_at "side") ?_))
local macro_rules | `(tactic| walk_at "go") => `(tactic| repeat walk_at "st")

def OM (p : Addr) : List V := [.bl true, .non, .int (-1), .str "1", .ref p, .int 401, .int 0, .int 13, .int 402, .int (10 ^ (20 : Int).toNat)]
theorem p20 : (10 : Int) ^ (20 : Int).toNat = 100000000000000000000 := by decide
theorem s1ok : (reprText "1").length ≤ 50000 := by decide +kernel
theorem odd5 {G : Hp} {p : Addr} (e : G p = some (.lst [.int 1])) : Odd G (.ref p) := odd_lst (l := [some (.inr 1)]) e rfl (by decide) (by decide)
theorem bf {i a b : Int} (h : ¬ (a ≤ i ∧ i ≤ b)) : betw (.int i) a b = false := decide_eq_false h
theorem om_count {p : Addr} {d : Int} (h0 : 0 ≤ d) (h : d < 10) : ∃ v, atI (OM p) d = some v ∧ (∀ G : Hp, G p = some (.lst [.int 1]) → Odd G v) ∧ betw v 1 12 = false := by
  have : d = 0 ∨ d = 1 ∨ d = 2 ∨ d = 3 ∨ d = 4 ∨ d = 5 ∨ d = 6 ∨ d = 7 ∨ d = 8 ∨ d = 9 := by omega
  rcases this with rfl | rfl | rfl | rfl | rfl | rfl | rfl | rfl | rfl | rfl
  · exact ⟨_, rfl, fun _ _ => odd_bl _, rfl⟩
  · exact ⟨_, rfl, fun _ _ => odd_non, rfl⟩
  · exact ⟨_, rfl, fun _ _ => odd_int _, rfl⟩
  · exact ⟨_, rfl, fun _ _ => odd_str _ s1ok, rfl⟩
  · exact ⟨_, rfl, fun _ e => odd5 e, rfl⟩
  · exact ⟨_, rfl, fun _ _ => odd_int _, rfl⟩
  · exact ⟨_, rfl, fun _ _ => odd_int _, rfl⟩
  · exact ⟨_, rfl, fun _ _ => odd_int _, rfl⟩
  · exact ⟨_, rfl, fun _ _ => odd_int _, rfl⟩
  · exact ⟨_, rfl, fun _ _ => by rw [p20]; exact odd_int _, by rw [p20]; rfl⟩
theorem om_inl {p : Addr} {d : Int} (h0 : 0 ≤ d) (h : d < 6) : ∃ v, atI (OM p) d = some v ∧ (∀ G : Hp, G p = some (.lst [.int 1]) → Odd G v) ∧ betw v 0 400 = false := by
  have : d = 0 ∨ d = 1 ∨ d = 2 ∨ d = 3 ∨ d = 4 ∨ d = 5 := by omega
  rcases this with rfl | rfl | rfl | rfl | rfl | rfl
  · exact ⟨_, rfl, fun _ _ => odd_bl _, rfl⟩
  · exact ⟨_, rfl, fun _ _ => odd_non, rfl⟩
  · exact ⟨_, rfl, fun _ _ => odd_int _, rfl⟩
  · exact ⟨_, rfl, fun _ _ => odd_str _ s1ok, rfl⟩
  · exact ⟨_, rfl, fun _ e => odd5 e, rfl⟩
  · exact ⟨_, rfl, fun _ _ => odd_int _, rfl⟩
def SM : List V := [.int 0, .int 13, .bl true, .non, .str "1", .int 5]
theorem sm_stay {d : Int} (h0 : 0 ≤ d) (h : d < 6) : ∃ v, atI SM d = some v ∧ (∀ G : Hp, Odd G v) ∧ ∀ c : Int, 1 ≤ c → c ≤ 4 → betw v 1 c = false := by
  have : d = 0 ∨ d = 1 ∨ d = 2 ∨ d = 3 ∨ d = 4 ∨ d = 5 := by omega
  rcases this with rfl | rfl | rfl | rfl | rfl | rfl
  · exact ⟨_, rfl, fun _ => odd_int _, fun c _ _ => bf (by omega)⟩
  · exact ⟨_, rfl, fun _ => odd_int _, fun c _ _ => bf (by omega)⟩
  · exact ⟨_, rfl, fun _ => odd_bl _, fun c _ _ => rfl⟩
  · exact ⟨_, rfl, fun _ => odd_non, fun c _ _ => rfl⟩
  · exact ⟨_, rfl, fun _ => odd_str _ s1ok, fun c _ _ => rfl⟩
  · exact ⟨_, rfl, fun _ => odd_int _, fun c _ _ => bf (by omega)⟩
theorem tg1 : (reprText "count").length ≤ 40000 := by decide +kernel
theorem tg2 : (reprText "inlined").length ≤ 40000 := by decide +kernel
theorem tg3 : (reprText "staying").length ≤ 40000 := by decide +kernel
theorem tg4 : (reprText "limits").length ≤ 40000 := by decide +kernel
theorem tg5 : (reprText "group").length ≤ 40000 := by decide +kernel
theorem wm_ref {q1 q2 q3 q4 q6 q7 c : Addr} {d : Int} (h0 : 0 ≤ d) (h : d < 9) (e : atI (WM q1 q2 q3 q4 q6 q7) d = some (.ref c)) : c = q1 ∨ c = q2 ∨ c = q3 ∨ c = q4 ∨ c = q6 ∨ c = q7 := by
  have : d = 0 ∨ d = 1 ∨ d = 2 ∨ d = 3 ∨ d = 4 ∨ d = 5 ∨ d = 6 ∨ d = 7 ∨ d = 8 := by omega
  have inj : ∀ {x y : Addr}, (some (V.ref x) : Option V) = some (.ref y) → y = x := fun h => by cases h; rfl
  rcases this with rfl | rfl | rfl | rfl | rfl | rfl | rfl | rfl | rfl
  · cases (e : some V.non = some (V.ref c))
  · exact .inl (inj e)
  · exact .inr (.inl (inj e))
  · exact .inr (.inr (.inl (inj e)))
  · exact .inr (.inr (.inr (.inl (inj e))))
  · cases (e : some (V.str "0") = some (V.ref c))
  · exact .inr (.inr (.inr (.inr (.inl (inj e)))))
  · exact .inr (.inr (.inr (.inr (.inr (inj e)))))
  · cases (e : some (V.int 0) = some (V.ref c))
theorem Sq.same {H H' : Hp} {x : V} {xs : List V} (h : Sq H x xs) (s : Same H H') : Sq H' x xs := by
  cases h with
  | lst e => exact .lst (s _ _ e)
  | tup e => exact .tup (s _ _ e)
theorem LimBad.same {H H' : Hp} {x : V} (h : LimBad H x) (s : Same H H') : LimBad H' x := by
  obtain ⟨b, al, r⟩ := h
  refine ⟨b, al.same s, r.imp id fun ⟨xs, q, l⟩ => ⟨xs, q.same s, l⟩⟩
theorem BareBad.same {H H' : Hp} {n : Nat} {x : V} (h : BareBad H n x) (s : Same H H') : BareBad H' n x := by
  rcases h with h | ⟨bs, q, r⟩
  · exact .inl (h.same s)
  · exact .inr ⟨bs, q.same s, r⟩
theorem g_neSc {G : Hp} {Q : VK} {a : Addr} {l : List Sc} (e : G a = some (.lst (l.map tv))) (nb : boxy (.lst (l.map tv)) = false) (q : Q (.bl false) G) : rNeT (.ref a) (.ref a) G Q := by
  refine ⟨_, _, dt_sc e nb, dt_sc e nb, sc_shaped l, sc_shaped l, ?_⟩
  rw [SeqAt.eqv_refl _ (SeqAt.canLay_of_shaped (sc_shaped l))]
  exact q
theorem non_tv (l : List Sc) : l.map tv ++ [V.non] = (l ++ [none]).map tv := by rw [List.map_append]; rfl
theorem Odd.but {H H' : Hp} {v : V} (h : Odd H v) (s : But H H') (kn : ∀ t, Kn H v t → Kn H' v t) : Odd H' v := by
  obtain ⟨⟨t, k⟩, d, hd, r⟩ := h
  exact ⟨⟨t, kn t k⟩, d, hd.but s, r⟩
section
variable {P : Program} {w : World} {K : PySem.W.Frag} {mg : Str → Option Value} {base : Heap} {f : Addr} {fd : FuncData}
def spRefused : Sp := fun vs H Q _ => ∃ (b : Addr) (n : Nat), vs = [.ref b] ∧ n < 90000 ∧ Box b n H ∧ ∀ H', But H H' → Q (.bl true) H'
theorem fn_refused (F : Df K mg "_law_refused_right" s__law_refused_right f fd) (B : Bl K mg) (T : Bl K mg) (F__law_take : Fn P w K mg base "_law_take" 1 ["_law_box_here", "_law_many"] spTake) (F__law_told : Fn P w K mg base "_law_told" 6 ["_law_way", "_law_one", "_law_other", "_law_third"] (spTold K)) :
    Fn P w K mg base "_law_refused_right" 7 ["_law_box_here"] spRefused := by
  refine F.fn sc__law_refused_right (fun vs H Q E h => ?_) (fun _ _ _ _ _ _ us hl => match us, hl with | [_], _ => rfl) (fun cdv A outer s H vs Q E hr gd h => ?_)
  · obtain ⟨b, n, rfl, _⟩ := h
    rfl
  obtain ⟨b, n, rfl, n1, hb, q⟩ := h
  refine ⟨_, (pss_cons (ps_set (i := 1) sc__law_refused_right.nd rfl (Or.inl rfl) (pe_lst (pa_cons pe_bl (pa_cons pe_non (pa_cons (pe_un un_neg pe_int) (pa_cons pe_str (pa_cons (pe_lst (pa_cons pe_int pa_nil)) (pa_cons pe_int (pa_cons pe_int (pa_cons pe_int (pa_cons pe_int (pa_cons (pe_op op_pow pe_int pe_int) pa_nil))))))))))))
      (pss_cons (ps_par (i := 2) (j := 3) rfl sc__law_refused_right.nd rfl rfl (by decide) rfl rfl (pa_cons (pe_ix (z_ixL (K := K)) (pv 1) (fcall F__law_take (hr.mono (by decide)) gd (passes_call (takes_of rfl rfl rfl rfl) fun _ _ _ _ h => h) (pa_cons (pv 0) (pa_cons pe_int pa_nil))) (fun _ _ => rfl)) (pa_cons (pe_ix (z_ixL (K := K)) (pv 1) (fcall F__law_take (hr.mono (by decide)) gd (passes_call (takes_of rfl rfl rfl rfl) fun _ _ _ _ h => h) (pa_cons (pv 0) (pa_cons pe_int pa_nil))) (fun _ _ => rfl)) pa_nil)) (by rfl))
      (pss_cons (ps_set (i := 4) sc__law_refused_right.nd rfl (Or.inl rfl) (pe_ix (z_ixL (K := K)) (pe_lst (pa_cons pe_int (pa_cons pe_int (pa_cons pe_bl (pa_cons pe_non (pa_cons pe_str (pa_cons pe_int pa_nil))))))) (fcall F__law_take (hr.mono (by decide)) gd (passes_call (takes_of rfl rfl rfl rfl) fun _ _ _ _ h => h) (pa_cons (pv 0) (pa_cons pe_int pa_nil))) (fun _ _ => rfl)))
      (pss_cons (ps_set (i := 5) sc__law_refused_right.nd rfl (Or.inl rfl) (pe_lst (pa_cons (pe_op op_add pe_int (fcall F__law_take (hr.mono (by decide)) gd (passes_call (takes_of rfl rfl rfl rfl) fun _ _ _ _ h => h) (pa_cons (pv 0) (pa_cons pe_int pa_nil)))) (pa_cons (fcall F__law_take (hr.mono (by decide)) gd (passes_call (takes_of rfl rfl rfl rfl) fun _ _ _ _ h => h) (pa_cons (pv 0) (pa_cons pe_int pa_nil))) pa_nil))))
      (pss_cons (ps_for (passes_of rfl) rfl (pi_range1 rfl B.range_ (pa_cons pe_int pa_nil)) (pg_name (i := 6) sc__law_refused_right.nd rfl (Or.inl rfl)) (pss_cons (ps_set (i := 7) sc__law_refused_right.nd rfl (Or.inl rfl) (pe_ifExp (pt_cmpR op_lt (pv 6) pe_int (nomark _)) (pv 4) pe_non))
      (pss_cons (ps_if (pt_cmpR op_ne (pe_callB (call_repr T.sys gd hr.units) rfl B.repr_ (by decide +kernel) (pa_cons (fcall F__law_told (hr.mono (by decide)) gd (passes_call (takes_of rfl rfl rfl rfl) fun _ _ _ _ h => h) (pa_cons (pv 6) (pa_cons (pv 2) (pa_cons (pv 3) (pa_cons (pv 7) pa_nil))))) pa_nil)) (pe_callB (call_repr T.sys gd hr.units) rfl B.repr_ (by decide +kernel) (pa_cons (pe_lst (pa_cons pe_str (pa_cons (pv 2) pa_nil))) pa_nil)) (nomark _)) (pss_one (ps_ret pe_bl)) pss_nil)
      (pss_cons (ps_if (pt_cmpR op_ne (pe_callB (call_repr T.sys gd hr.units) rfl B.repr_ (by decide +kernel) (pa_cons (fcall F__law_told (hr.mono (by decide)) gd (passes_call (takes_of rfl rfl rfl rfl) fun _ _ _ _ h => h) (pa_cons (pv 6) (pa_cons (pe_ix (z_ixL (K := K)) (pv 5) pe_int (fun _ _ => rfl)) (pa_cons (pv 3) (pa_cons (pv 7) pa_nil))))) pa_nil)) (pe_callB (call_repr T.sys gd hr.units) rfl B.repr_ (by decide +kernel) (pa_cons (pe_lst (pa_cons pe_str (pa_cons (pv 3) pa_nil))) pa_nil)) (nomark _)) (pss_one (ps_ret pe_bl)) pss_nil)
      (pss_one (ps_if (PW.pt (pw_and (pt_cmpR op_lt (pv 6) pe_int (nomark _)) (pw_and1 (pt_cmpR op_ne (pe_callB (call_repr T.sys gd hr.units) rfl B.repr_ (by decide +kernel) (pa_cons (fcall F__law_told (hr.mono (by decide)) gd (passes_call (takes_of rfl rfl rfl rfl) fun _ _ _ _ h => h) (pa_cons (pv 6) (pa_cons (pe_ix (z_ixL (K := K)) (pv 5) pe_int (fun _ _ => rfl)) (pa_cons (pe_ix (z_ixL (K := K)) (pv 5) pe_int (fun _ _ => rfl)) (pa_cons (pv 4) pa_nil))))) pa_nil)) (pe_callB (call_repr T.sys gd hr.units) rfl B.repr_ (by decide +kernel) (pa_cons (pe_lst (pa_cons pe_str (pa_cons (pv 4) pa_nil))) pa_nil)) (nomark _))))) (pss_one (ps_ret pe_bl)) pss_nil))))))
      (pss_cons (ps_set (i := 8) sc__law_refused_right.nd rfl (Or.inl rfl) (pe_op op_add pe_int (fcall F__law_take (hr.mono (by decide)) gd (passes_call (takes_of rfl rfl rfl rfl) fun _ _ _ _ h => h) (pa_cons (pv 0) (pa_cons pe_int pa_nil)))))
      (pss_cons (ps_set (i := 9) sc__law_refused_right.nd rfl (Or.inl rfl) (pe_ix (z_ixL (K := K)) (pe_lst (pa_cons (pe_lst pa_nil) (pa_cons (pe_op op_rep (pe_lst (pa_cons pe_int pa_nil)) pe_int) (pa_cons pe_non (pa_cons pe_str (pa_cons pe_int (pa_cons pe_dnewK (pa_cons (pe_op op_rep (pe_lst (pa_cons pe_int pa_nil)) (pv 8)) (pa_cons (pe_op op_rep (pe_lst (pa_cons (pe_op op_add (pe_op op_pow pe_int pe_int) pe_int) pa_nil)) (pv 8)) (pa_cons (pe_op op_cat (pe_op op_rep (pe_lst (pa_cons pe_int pa_nil)) (pv 8)) (pe_lst (pa_cons pe_bl pa_nil))) pa_nil)))))))))) (fcall F__law_take (hr.mono (by decide)) gd (passes_call (takes_of rfl rfl rfl rfl) fun _ _ _ _ h => h) (pa_cons (pv 0) (pa_cons pe_int pa_nil))) (fun _ _ => rfl)))
      (pss_cons (ps_set (i := 10) sc__law_refused_right.nd rfl (Or.inl rfl) (pe_ix (z_ixL (K := K)) (pe_lst (pa_cons pe_non (pa_cons (pe_listRg rfl rfl B.list_ (prg_1 rfl B.range_ (pv 8))) (pa_cons (pe_lst (pa_cons (pv 8) pa_nil)) (pa_cons (pe_lst (pa_cons (pe_un un_neg pe_int) pa_nil)) (pa_cons (pe_lst (pa_cons pe_int (pa_cons pe_int pa_nil))) (pa_cons pe_str (pa_cons pe_dnewK (pa_cons (pe_lst (pa_cons pe_bl pa_nil)) (pa_cons pe_int pa_nil)))))))))) (fcall F__law_take (hr.mono (by decide)) gd (passes_call (takes_of rfl rfl rfl rfl) fun _ _ _ _ h => h) (pa_cons (pv 0) (pa_cons pe_int pa_nil))) (fun _ _ => rfl)))
      (pss_cons (ps_for (passes_of rfl) rfl (pi_range2 rfl B.range_ (pa_cons pe_int (pa_cons pe_int pa_nil))) (pg_name (i := 6) sc__law_refused_right.nd rfl (Or.inl rfl)) (pss_cons (ps_par (i := 11) (j := 12) rfl sc__law_refused_right.nd rfl rfl (by decide) rfl rfl (pa_cons (fcall F__law_told (hr.mono (by decide)) gd (passes_call (takes_of rfl rfl rfl rfl) fun _ _ _ _ h => h) (pa_cons (pv 6) (pa_cons (pv 9) (pa_cons (pv 10) (pa_cons pe_non pa_nil))))) (pa_cons (fcall F__law_told (hr.mono (by decide)) gd (passes_call (takes_of rfl rfl rfl rfl) fun _ _ _ _ h => h) (pa_cons (pv 6) (pa_cons (pe_op op_rep (pe_lst (pa_cons pe_int pa_nil)) (pv 8)) (pa_cons (pv 10) (pa_cons pe_non pa_nil))))) pa_nil)) (by rfl))
      (pss_cons (ps_if (PW.pt (pw_or (pt_cmpR op_ne (pe_callB (call_repr T.sys gd hr.units) rfl B.repr_ (by decide +kernel) (pa_cons (pv 11) pa_nil)) (pe_callB (call_repr T.sys gd hr.units) rfl B.repr_ (by decide +kernel) (pa_cons (pe_lst (pa_cons pe_str (pa_cons (pv 9) pa_nil))) pa_nil)) (nomark _)) (pw_or1 (pt_cmpR op_ne (pe_callB (call_repr T.sys gd hr.units) rfl B.repr_ (by decide +kernel) (pa_cons (pv 12) pa_nil)) (pe_callB (call_repr T.sys gd hr.units) rfl B.repr_ (by decide +kernel) (pa_cons (pe_lst (pa_cons pe_str (pa_cons (pv 10) pa_nil))) pa_nil)) (nomark _))))) (pss_one (ps_ret pe_bl)) pss_nil)
      (pss_one (ps_if (PW.pt (pw_and (pt_val (pe_callB (z_isi (K := K)) rfl B.isinstance_ (by decide +kernel) (pa_cons (pv 9) (pa_cons (pe_bltn (v := .ty "list") rfl B.list_ (by decide +kernel) rfl) pa_nil)))) (pw_and1 (pt_val (pe_callB (z_isi (K := K)) rfl B.isinstance_ (by decide +kernel) (pa_cons (pv 10) (pa_cons (pe_bltn (v := .ty "list") rfl B.list_ (by decide +kernel) rfl) pa_nil))))))) (pss_cons (ps_expr (z_bm (K := K) PySem.F.plainAttrs_list PySem.F.slot_list_append PySem.F.type_list_append mt_append (pv 9) (pa_cons pe_non pa_nil)))
      (pss_cons (ps_expr (z_bm (K := K) PySem.F.plainAttrs_list PySem.F.slot_list_append PySem.F.type_list_append mt_append (pv 10) (pa_cons pe_non pa_nil)))
      (pss_cons (ps_if (PW.pt (pw_or (pt_cmpR (z_neD T.sys hr.units) (pe_ix (z_ixL (K := K)) (pv 11) pe_int (fun _ _ => rfl)) (pv 9) (nomark _)) (pw_or1 (pt_cmpR (z_neD T.sys hr.units) (pe_ix (z_ixL (K := K)) (pv 12) pe_int (fun _ _ => rfl)) (pv 10) (nomark _))))) (pss_one (ps_ret pe_bl)) pss_nil)
      (pss_cons (ps_expr (z_bm0 (K := K) PySem.F.plainAttrs_list PySem.F.slot_list_pop PySem.F.type_list_pop mt_pop (pv 9)))
      (pss_one (ps_expr (z_bm0 (K := K) PySem.F.plainAttrs_list PySem.F.slot_list_pop PySem.F.type_list_pop mt_pop (pv 10)))))))) pss_nil)))))
      (pss_one (ps_ret pe_bl))))))))))), ?_⟩
  walk_at "go"
  intro p5 hp5
  walk_at "go"
  intro pm hpm
  obtain ⟨G0, hG0⟩ : ∃ G0, G0 = upd (upd H p5 (.lst [.int 1])) pm (.lst (OM p5)) := ⟨_, rfl⟩
  have S0 : Same H G0 := by rw [hG0]; exact (Same.new hp5).trans (Same.new hpm)
  have e5 : G0 p5 = some (.lst [.int 1]) := by rw [hG0]; exact Same.new hpm _ _ upd_same
  have em : G0 pm = some (.lst (OM p5)) := by rw [hG0]; exact upd_same
  have hb0 := hb.same S0
  rw [show upd (upd H p5 (.lst [.int 1])) pm (.lst [V.bl true, V.non, V.int (-1), V.str "1", V.ref p5, V.int 401, V.int 0, V.int 13, V.int 402, V.int (10 ^ (20 : Int).toNat)]) = G0 from hG0.symm]
  walk_at "go"
  refine ⟨b, n, 10, rfl, by decide, by decide, by omega, hb0, fun d1 G1 d10 d11 t1 hb1 => ?_⟩
  obtain ⟨v1, a1, o1, b1⟩ := om_count (p := p5) d10 d11
  have em1 := t1 _ _ rfl em
  refine g_ixL (.of em1) a1 ?_
  walk_at "go"
  refine ⟨b, n + 1, 6, rfl, by decide, by decide, by omega, hb1, fun d2 G2 d20 d21 t2 hb2 => ?_⟩
  obtain ⟨v2, a2, o2, b2⟩ := om_inl (p := p5) d20 d21
  refine g_ixL (.of (t2 _ _ rfl em1)) a2 ?_
  walk_at "go"
  intro ps hps
  walk_at "go"
  have g3 := Same.new (o := .lst SM) hps
  refine ⟨b, n + 2, 6, rfl, by decide, by decide, by omega, hb2.same g3, fun d3 G3 d30 d31 t3 hb3 => ?_⟩
  obtain ⟨v3, a3, o3, b3⟩ := sm_stay d30 d31
  refine g_ixL (.of (t3 _ _ rfl upd_same)) a3 ?_
  walk_at "go"
  refine ⟨b, n + 3, 4, rfl, by decide, by decide, by omega, hb3, fun d4 G4 d40 d41 t4 hb4 => ?_⟩
  walk_at "go"
  refine ⟨b, n + 4, 401, rfl, by decide, by decide, by omega, hb4, fun d5 G5 d50 d51 t5 hb5 => ?_⟩
  walk_at "go"
  intro pf hpf
  have gF := Same.new (o := .lst [.int (1 + d4), .int d5]) hpf
  have T5 : But G0 G5 := t1.trans (t2.trans (g3.but.trans (t3.trans (t4.trans t5))))
  obtain ⟨G6, hG6⟩ : ∃ G6, G6 = upd G5 pf (.lst [.int (1 + d4), .int d5]) := ⟨_, rfl⟩
  rw [← hG6] at gF ⊢
  have ef : G6 pf = some (.lst [.int (1 + d4), .int d5]) := by rw [hG6]; exact upd_same
  have e56 : G6 p5 = some (.lst [.int 1]) := gF _ _ (T5 _ _ rfl e5)
  have hb6 := hb5.same gF
  walk_at "go"
  refine forR1 (by decide) (by decide) (fun k τ G => ∃ z6 z7, τ = [some (.ref b), some (.ref pm), some v1, some v2, some v3, some (.ref pf), z6, z7, none, none, none, none, none] ∧ Same G6 G) ⟨_, _, rfl, Same.refl _⟩ ?_ ?_
  · rintro k τ G hk ⟨z6, z7, rfl, sG⟩
    have e5G := sG _ _ e56
    obtain ⟨k1, x1, hd1, ok1, dp1, w1⟩ := o1 G e5G
    obtain ⟨k2, x2, hd2, ok2, dp2, w2⟩ := o2 G e5G
    obtain ⟨k3, x3, hd3, ok3, dp3, w3⟩ := o3 G
    have O1 : ∀ {G'}, Same G G' → Odd G' v1 := fun g => (o1 G e5G).same g
    have O2 : ∀ {G'}, Same G G' → Odd G' v2 := fun g => (o2 G e5G).same g
    have O3 : ∀ {G'}, Same G G' → Odd G' v3 := fun g => (o3 G).same g
    walk_at "go"
    have il : ∀ {R : VK}, (∀ vl, (∀ {G'}, Same G G' → Odd G' vl) → R vl G) → if decide ((k : Int) < 2) = true then tVar 4 [some (.ref b), some (.ref pm), some v1, some v2, some v3, some (.ref pf), some (.int k), z7, none, none, none, none, none] G R else
        tC V.non [some (.ref b), some (.ref pm), some v1, some v2, some v3, some (.ref pf), some (.int k), z7, none, none, none, none, none] G R := fun {R} r =>
      g_ite (fun _ => g_var rfl (r v3 fun g => O3 g)) (fun _ => g_c (r .non fun _ => odd_non))
    refine il fun vl ol => ?_
    walk_at "go"
    refine told_count ⟨by omega, by omega⟩ (O1 (Same.refl _)) (O2 (Same.refl _)) (ol (Same.refl _)) b1 fun A1 D1 s1 hD1 => ?_
    have q1 := s1.trans (Same.new (o := .lst [.str "count", v1]) hD1)
    walk_at "go"
    refine g_odd upd_same (hd1.but q1.but) ok1 dp1 w1 tg1 ?_
    walk_at "go"
    intro D2 hD2
    have q2 := q1.trans (Same.new (o := .lst [.str "count", v1]) hD2)
    walk_at "go"
    refine g_odd upd_same (hd1.but q2.but) ok1 dp1 w1 tg1 ?_
    walk_at "go"
    refine g_iten (fun h => absurd rfl h) (fun _ => ?_)
    have ef2 := (sG.trans q2) _ _ ef
    walk_at "go"
    refine told_inlined ⟨by omega, by omega⟩ ⟨by omega, by omega⟩ (O2 q2) (ol q2) b2 fun A3 D3 s3 hD3 => ?_
    have q3 := q2.trans (s3.trans (Same.new (o := .lst [.str "inlined", v2]) hD3))
    walk_at "go"
    refine g_odd upd_same (hd2.but q3.but) ok2 dp2 w2 tg2 ?_
    walk_at "go"
    intro D4 hD4
    have q4 := q3.trans (Same.new (o := .lst [.str "inlined", v2]) hD4)
    walk_at "go"
    refine g_odd upd_same (hd2.but q4.but) ok2 dp2 w2 tg2 ?_
    walk_at "go"
    refine g_iten (fun h => absurd rfl h) (fun _ => ?_)
    have ef4 := (sG.trans q4) _ _ ef
    walk_at "go"
    refine g_ite (fun h2 => ?_) (fun h2 => ?_)
    · walk_at "go"
      refine told_staying ⟨by omega, by omega⟩ ⟨by omega, by omega⟩ ⟨by omega, by omega⟩ (O3 q4) (b3 _ (by omega) (by omega)) fun A5 D5 s5 hD5 => ?_
      have q5 := q4.trans (s5.trans (Same.new (o := .lst [.str "staying", v3]) hD5))
      walk_at "go"
      refine g_odd upd_same (hd3.but q5.but) ok3 dp3 w3 tg3 ?_
      walk_at "go"
      intro D6 hD6
      have q6 := q5.trans (Same.new (o := .lst [.str "staying", v3]) hD6)
      walk_at "go"
      refine g_odd upd_same (hd3.but q6.but) ok3 dp3 w3 tg3 ?_
      walk_at "go"
      refine g_iten (fun h => absurd rfl h) (fun _ => ?_)
      walk_at "go"
      exact ⟨_, _, rfl, sG.trans q6⟩
    · walk_at "go"
      exact ⟨_, _, rfl, sG.trans q4⟩
  · rintro τ G ⟨z6, z7, rfl, sG⟩
    walk_at "go"
    have hb6' := hb6.same sG
    refine ⟨b, n + 5, 4, rfl, by decide, by decide, by omega, hb6', fun d6 C0 d60 d61 t6 hb7 => ?_⟩
    walk_at "go"
    obtain ⟨m, hm⟩ : ∃ m : Nat, (1 + d6 : Int) = (m : Int) := ⟨(1 + d6).toNat, by omega⟩
    rw [hm]
    walk_at "go"
    intro p1 hp1
    have g1 := Same.new (o := .lst []) hp1
    have ep1 : upd C0 p1 (.lst []) p1 = some (.lst []) := upd_same
    generalize upd C0 p1 (.lst []) = C1 at g1 ep1 ⊢
    walk_at "go"
    intro t2 ht2
    have g2 := Same.new (o := .lst [V.int 1]) ht2
    have et2 : upd C1 t2 (.lst [V.int 1]) t2 = some (.lst [V.int 1]) := upd_same
    generalize upd C1 t2 (.lst [V.int 1]) = C2 at g2 et2 ⊢
    walk_at "go"
    intro p2 hp2
    have g3 := Same.new (o := .lst (List.replicate (13 : Int).toNat (V.int 1))) hp2
    have ep2 : upd C2 p2 (.lst (List.replicate (13 : Int).toNat (V.int 1))) p2 = some (.lst (List.replicate (13 : Int).toNat (V.int 1))) := upd_same
    generalize upd C2 p2 (.lst (List.replicate (13 : Int).toNat (V.int 1))) = C3 at g3 ep2 ⊢
    walk_at "go"
    refine g_dnew ?_
    intro p6 hp6
    have g4 := Same.new (o := .dK []) hp6
    have ep6 : upd C3 p6 (.dK []) p6 = some (.dK []) := upd_same
    generalize upd C3 p6 (.dK []) = C4 at g4 ep6 ⊢
    walk_at "go"
    intro t7 ht7
    have g5 := Same.new (o := .lst [V.int 0]) ht7
    have et7 : upd C4 t7 (.lst [V.int 0]) t7 = some (.lst [V.int 0]) := upd_same
    generalize upd C4 t7 (.lst [V.int 0]) = C5 at g5 et7 ⊢
    walk_at "go"
    intro p7 hp7
    have g6 := Same.new (o := .lst (List.replicate (m : Int).toNat (V.int 0))) hp7
    have ep7 : upd C5 p7 (.lst (List.replicate (m : Int).toNat (V.int 0))) p7 = some (.lst (List.replicate (m : Int).toNat (V.int 0))) := upd_same
    generalize upd C5 p7 (.lst (List.replicate (m : Int).toNat (V.int 0))) = C6 at g6 ep7 ⊢
    walk_at "go"
    intro t8 ht8
    have g7 := Same.new (o := .lst [V.int (10 ^ (18 : Int).toNat + 1)]) ht8
    have et8 : upd C6 t8 (.lst [V.int (10 ^ (18 : Int).toNat + 1)]) t8 = some (.lst [V.int (10 ^ (18 : Int).toNat + 1)]) := upd_same
    generalize upd C6 t8 (.lst [V.int (10 ^ (18 : Int).toNat + 1)]) = C7 at g7 et8 ⊢
    walk_at "go"
    intro p8 hp8
    have g8 := Same.new (o := .lst (List.replicate (m : Int).toNat (V.int (10 ^ (18 : Int).toNat + 1)))) hp8
    have ep8 : upd C7 p8 (.lst (List.replicate (m : Int).toNat (V.int (10 ^ (18 : Int).toNat + 1)))) p8 = some (.lst (List.replicate (m : Int).toNat (V.int (10 ^ (18 : Int).toNat + 1)))) := upd_same
    generalize upd C7 p8 (.lst (List.replicate (m : Int).toNat (V.int (10 ^ (18 : Int).toNat + 1)))) = C8 at g8 ep8 ⊢
    walk_at "go"
    intro t9 ht9
    have g9 := Same.new (o := .lst [V.int 1]) ht9
    have et9 : upd C8 t9 (.lst [V.int 1]) t9 = some (.lst [V.int 1]) := upd_same
    generalize upd C8 t9 (.lst [V.int 1]) = C9 at g9 et9 ⊢
    walk_at "go"
    intro r9 hr9
    have g10 := Same.new (o := .lst (List.replicate (m : Int).toNat (V.int 1))) hr9
    have er9 : upd C9 r9 (.lst (List.replicate (m : Int).toNat (V.int 1))) r9 = some (.lst (List.replicate (m : Int).toNat (V.int 1))) := upd_same
    generalize upd C9 r9 (.lst (List.replicate (m : Int).toNat (V.int 1))) = C10 at g10 er9 ⊢
    walk_at "go"
    intro u9 hu9
    have g11 := Same.new (o := .lst [V.bl true]) hu9
    have eu9 : upd C10 u9 (.lst [V.bl true]) u9 = some (.lst [V.bl true]) := upd_same
    generalize upd C10 u9 (.lst [V.bl true]) = C11 at g11 eu9 ⊢
    walk_at "go"
    refine g_cat (g11 _ _ er9) eu9 (Nat.le_trans (by rw [List.length_replicate, Int.toNat_natCast]; show m + 1 ≤ 100000; omega) sz5) ?_
    intro p9 hp9
    have g12 := Same.new (o := .lst (List.replicate (m : Int).toNat (V.int 1) ++ [V.bl true])) hp9
    have ep9 : upd C11 p9 (.lst (List.replicate (m : Int).toNat (V.int 1) ++ [V.bl true])) p9 = some (.lst (List.replicate (m : Int).toNat (V.int 1) ++ [V.bl true])) := upd_same
    generalize upd C11 p9 (.lst (List.replicate (m : Int).toNat (V.int 1) ++ [V.bl true])) = C12 at g12 ep9 ⊢
    walk_at "go"
    intro pb hpb
    have g13 := Same.new (o := .lst [V.ref p1, V.ref p2, V.non, V.str "11", V.int 3, V.ref p6, V.ref p7, V.ref p8, V.ref p9]) hpb
    have epb : upd C12 pb (.lst [V.ref p1, V.ref p2, V.non, V.str "11", V.int 3, V.ref p6, V.ref p7, V.ref p8, V.ref p9]) pb = some (.lst [V.ref p1, V.ref p2, V.non, V.str "11", V.int 3, V.ref p6, V.ref p7, V.ref p8, V.ref p9]) := upd_same
    generalize upd C12 pb (.lst [V.ref p1, V.ref p2, V.non, V.str "11", V.int 3, V.ref p6, V.ref p7, V.ref p8, V.ref p9]) = C13 at g13 epb ⊢
    walk_at "go"
    have S12 := g13
    have S8 := g9.trans (g10.trans (g11.trans (g12.trans S12)))
    have S6 := g7.trans (g8.trans S8)
    have S4 := g5.trans (g6.trans S6)
    have S3 := g4.trans S4
    have S1 := g2.trans (g3.trans S3)
    have S0' := g1.trans S1
    rw [Int.toNat_natCast] at ep7 ep8 ep9
    refine ⟨b, n + 6, 9, rfl, by decide, by decide, by omega, hb7.same S0', fun d7 D0 d70 d71 t7' hb8 => ?_⟩
    have bf : BF p1 p2 p6 p7 p8 p9 m D0 := ⟨t7' _ _ rfl (S1 _ _ ep1), t7' _ _ (rep_boxy 13 1) (S3 _ _ ep2), t7' _ _ rfl (S4 _ _ ep6), t7' _ _ (rep_boxy m 0) (S6 _ _ ep7), t7' _ _ (rep_boxy m _) (S8 _ _ ep8), t7' _ _ (boxy_bl _ _) (S12 _ _ ep9)⟩
    obtain ⟨vb, ab, ob⟩ := bm_bad (p1 := p1) (p2 := p2) (p6 := p6) (p7 := p7) (p8 := p8) (p9 := p9) (m := m) (by omega) (by omega) d70 d71
    refine g_ixL (.of (t7' _ _ rfl epb)) ab ?_
    walk_at "go"
    refine ⟨⟨by omega, by omega, by omega, by omega, by omega⟩, ?_⟩
    intro q1 hq1
    have k1 := Same.new (o := .lst (rgV 0 m)) hq1
    have eq1 : upd D0 q1 (.lst (rgV 0 m)) q1 = some (.lst (rgV 0 m)) := upd_same
    generalize upd D0 q1 (.lst (rgV 0 m)) = D1 at k1 eq1 ⊢
    walk_at "go"
    intro q2 hq2
    have k2 := Same.new (o := .lst [V.int m]) hq2
    have eq2 : upd D1 q2 (.lst [V.int m]) q2 = some (.lst [V.int m]) := upd_same
    generalize upd D1 q2 (.lst [V.int m]) = D2 at k2 eq2 ⊢
    walk_at "go"
    intro q3 hq3
    have k3 := Same.new (o := .lst [V.int (-1)]) hq3
    have eq3 : upd D2 q3 (.lst [V.int (-1)]) q3 = some (.lst [V.int (-1)]) := upd_same
    generalize upd D2 q3 (.lst [V.int (-1)]) = D3 at k3 eq3 ⊢
    walk_at "go"
    intro q4 hq4
    have k4 := Same.new (o := .lst [V.int 0, V.int 0]) hq4
    have eq4 : upd D3 q4 (.lst [V.int 0, V.int 0]) q4 = some (.lst [V.int 0, V.int 0]) := upd_same
    generalize upd D3 q4 (.lst [V.int 0, V.int 0]) = D4 at k4 eq4 ⊢
    walk_at "go"
    refine g_dnew ?_
    intro q6 hq6
    have k5 := Same.new (o := .dK []) hq6
    have eq6 : upd D4 q6 (.dK []) q6 = some (.dK []) := upd_same
    generalize upd D4 q6 (.dK []) = D5 at k5 eq6 ⊢
    walk_at "go"
    intro q7 hq7
    have k6 := Same.new (o := .lst [V.bl true]) hq7
    have eq7 : upd D5 q7 (.lst [V.bl true]) q7 = some (.lst [V.bl true]) := upd_same
    generalize upd D5 q7 (.lst [V.bl true]) = D6 at k6 eq7 ⊢
    walk_at "go"
    intro pw hpw
    have k7 := Same.new (o := .lst [V.non, V.ref q1, V.ref q2, V.ref q3, V.ref q4, V.str "0", V.ref q6, V.ref q7, V.int 0]) hpw
    have epw : upd D6 pw (.lst [V.non, V.ref q1, V.ref q2, V.ref q3, V.ref q4, V.str "0", V.ref q6, V.ref q7, V.int 0]) pw = some (.lst [V.non, V.ref q1, V.ref q2, V.ref q3, V.ref q4, V.str "0", V.ref q6, V.ref q7, V.int 0]) := upd_same
    generalize upd D6 pw (.lst [V.non, V.ref q1, V.ref q2, V.ref q3, V.ref q4, V.str "0", V.ref q6, V.ref q7, V.int 0]) = D7 at k7 epw ⊢
    walk_at "go"
    have K6 := k7
    have K5 := k6.trans K6
    have K4 := k5.trans K5
    have K3 := k4.trans K4
    have K2 := k3.trans K3
    have K1 := k2.trans K2
    have K0 := k1.trans K1
    refine ⟨b, n + 7, 9, rfl, by decide, by decide, by omega, hb8.same K0, fun d8 E0 d80 d81 t8' hb9 => ?_⟩
    have wf : WF q1 q2 q3 q4 q6 q7 m E0 := ⟨t8' _ _ (by rw [rg_pick]; exact int_boxy _) (K1 _ _ eq1), t8' _ _ rfl (K2 _ _ eq2), t8' _ _ rfl (K3 _ _ eq3), t8' _ _ rfl (K4 _ _ eq4), t8' _ _ rfl (K5 _ _ eq6), t8' _ _ rfl (K6 _ _ eq7)⟩
    obtain ⟨vw, aw, ow⟩ := wm_bad (q1 := q1) (q2 := q2) (q3 := q3) (q4 := q4) (q6 := q6) (q7 := q7) (m := m) (by omega) (by omega) d80 d81
    refine g_ixL (.of (t8' _ _ rfl epw)) aw ?_
    walk_at "go"
    have bf0 : BF p1 p2 p6 p7 p8 p9 m E0 := ⟨t8' _ _ rfl (K0 _ _ bf.e1), t8' _ _ (rep_boxy 13 1) (K0 _ _ bf.e2), t8' _ _ rfl (K0 _ _ bf.e6), t8' _ _ (rep_boxy m 0) (K0 _ _ bf.e7), t8' _ _ (rep_boxy m _) (K0 _ _ bf.e8), t8' _ _ (boxy_bl _ _) (K0 _ _ bf.e9)⟩
    obtain ⟨lb0, ⟨ko1, xo, hdo, oko, dpo, wo⟩, mb0⟩ := ob E0 bf0
    obtain ⟨gb0, ⟨ko2, yo, hdp, okp, dpp, wp⟩, mw0⟩ := ow E0 wf
    have nD0 : ∀ {c : Addr}, vw = .ref c → D0 c = none := fun {c} e => by
      rw [e] at aw
      rcases wm_ref d80 d81 aw with rfl | rfl | rfl | rfl | rfl | rfl
      · exact hq1
      · exact k1.free hq2
      · exact (k1.trans k2).free hq3
      · exact (k1.trans (k2.trans k3)).free hq4
      · exact (k1.trans (k2.trans (k3.trans k4))).free hq6
      · exact (k1.trans (k2.trans (k3.trans (k4.trans k5)))).free hq7
    have sD0 : ∀ {a : Addr} {l : List Sc}, vb = .ref a → ∃ o, D0 a = some o := fun {a l} e => by
      obtain ⟨_, _, ⟨a', l', e', ea, _⟩ | ⟨t, k, _⟩⟩ := ob D0 bf
      · rw [e] at e'
        cases e'
        exact ⟨_, ea⟩
      · rw [e] at k
        cases k with
        | lst e => exact ⟨_, e⟩
        | tup e => exact ⟨_, e⟩
        | dK e => exact ⟨_, e⟩
    have TE : But H E0 := by
      have h1 : But H G6 := S0.but.trans (T5.trans gF.but)
      exact ((((h1.trans sG.but).trans t6).trans S0'.but).trans t7').trans (K0.but.trans t8')
    clear ob ow
    refine forR2 (by decide) (by decide) (by decide) (by decide) (fun k τ G => ∃ z6 z11 z12, τ = [some (.ref b), some (.ref pm), some v1, some v2, some v3, some (.ref pf), z6, z7, some (.int m), some vb, some vw, z11, z12] ∧ Same E0 G) ⟨_, _, _, rfl, Same.refl _⟩ ?_ ?_
    · rintro k τ A hk ⟨z6', z11, z12, rfl, sA⟩
      walk_at "go"
      refine told_limits ⟨by omega, by omega⟩ (lb0.same sA) fun A1 D1 s1 hD1 => ?_
      have u1 := s1.trans (Same.new (o := .lst [.str "limits", vb]) hD1)
      have ed1 : upd A1 D1 (.lst [.str "limits", vb]) D1 = some (.lst [.str "limits", vb]) := upd_same
      have nA1 : A D1 = none := s1.free hD1
      generalize upd A1 D1 (.lst [.str "limits", vb]) = A2 at u1 ed1 ⊢
      walk_at "go"
      intro p3 hp3
      walk_at "go"
      intro p4 hp4
      have u2 := (Same.new (o := .lst [.int 2]) hp3).trans (Same.new (o := .lst (List.replicate (m : Int).toNat (V.int 2))) hp4)
      have e4 : upd (upd A2 p3 (.lst [.int 2])) p4 (.lst (List.replicate (m : Int).toNat (V.int 2))) p4 = some (.lst (List.replicate (m : Int).toNat (V.int 2))) := upd_same
      generalize upd (upd A2 p3 (.lst [.int 2])) p4 (.lst (List.replicate (m : Int).toNat (V.int 2))) = A3 at u2 e4 ⊢
      rw [Int.toNat_natCast] at e4
      walk_at "go"
      have lg : LimGood A3 (.ref p4) (List.replicate m 2) := ⟨.lst (by rw [e4, List.map_replicate]), by rw [List.length_replicate]; omega, by rw [List.length_replicate]; omega, fun l hl => by rw [List.eq_of_mem_replicate hl]; decide⟩
      have gb := gb0.same ((sA.trans u1).trans u2)
      have gb' : BareBad A3 (List.replicate m (2 : Int)).length vw := by rw [List.length_replicate]; exact gb
      refine told_group ⟨by omega, by omega⟩ lg gb' fun A4 D2 s4 hD2 => ?_
      have u3 := s4.trans (Same.new (o := .lst [.str "group", vw]) hD2)
      have ed2 : upd A4 D2 (.lst [.str "group", vw]) D2 = some (.lst [.str "group", vw]) := upd_same
      have nA2 : A D2 = none := u1.free (u2.free (s4.free hD2))
      generalize upd A4 D2 (.lst [.str "group", vw]) = A5 at u3 ed2 ⊢
      have U5 : Same A A5 := (u1.trans u2).trans u3
      have ed1' := (u2.trans u3) _ _ ed1
      walk_at "go"
      refine g_odd ed1' (hdo.but (sA.trans U5).but) oko dpo wo tg4 ?_
      walk_at "go"
      intro p6' hp6'
      have w6 := Same.new (o := .lst [.str "limits", vb]) hp6'
      walk_at "go"
      refine g_odd upd_same (hdo.but ((sA.trans U5).trans w6).but) oko dpo wo tg4 ?_
      walk_at "go"
      refine g_iten (fun h => absurd rfl h) (fun _ => ?_)
      walk_at "go"
      refine g_odd (w6 _ _ ed2) (hdp.but ((sA.trans U5).trans w6).but) okp dpp wp tg5 ?_
      walk_at "go"
      intro p7' hp7'
      have w7 := w6.trans (Same.new (o := .lst [.str "group", vw]) hp7')
      walk_at "go"
      refine g_odd upd_same (hdp.but ((sA.trans U5).trans w7).but) okp dpp wp tg5 ?_
      walk_at "go"
      refine g_iten (fun h => absurd rfl h) (fun _ => ?_)
      have SA : Same E0 _ := (sA.trans U5).trans w7
      have ed1z := w7 _ _ ed1'
      have ed2z := w7 _ _ ed2
      generalize upd (upd A5 p6' (.lst [.str "limits", vb])) p7' (.lst [.str "group", vw]) = Z at SA ed1z ed2z ⊢
      walk_at "go"
      rcases mb0 with ⟨a, l, rfl, ea, nba, oka, la⟩ | ⟨t, kt, ht⟩
      · have eaZ := SA _ _ ea
        refine g_isi (.lst eaZ) ?_
        rw [show isK "list" "list" = true from rfl]
        walk_at "go"
        rcases mw0 with ⟨c, l2, rfl, ec, nbc, okc, lc⟩ | ⟨t, kt, ht⟩
        · have ecZ := SA _ _ ec
          refine g_isi (.lst ecZ) ?_
          rw [show isK "list" "list" = true from rfl]
          have nac : a ≠ c := fun z => by
            subst z
            obtain ⟨o, ho⟩ := sD0 (l := l) rfl
            rw [nD0 rfl] at ho
            cases ho
          have na1 : a ≠ D1 := fun z => by
            subst z
            have := sA _ _ ea
            rw [nA1] at this
            cases this
          have na2 : a ≠ D2 := fun z => by
            subst z
            have := sA _ _ ea
            rw [nA2] at this
            cases this
          have nc1 : c ≠ D1 := fun z => by
            subst z
            have := sA _ _ ec
            rw [nA1] at this
            cases this
          have nc2 : c ≠ D2 := fun z => by
            subst z
            have := sA _ _ ec
            rw [nA2] at this
            cases this
          walk_at "go"
          refine g_append eaZ (by rw [List.length_map]; exact Nat.lt_of_lt_of_le (by omega : _ < 100000) sz5) ?_
          have y1 : upd Z a (.lst (l.map tv ++ [.non])) c = some (.lst (l2.map tv)) := (upd_ne nac.symm).trans ecZ
          walk_at "go"
          refine g_append y1 (by rw [List.length_map]; exact Nat.lt_of_lt_of_le (by omega : _ < 100000) sz5) ?_
          have z1 : upd (upd Z a (.lst (l.map tv ++ [.non]))) c (.lst (l2.map tv ++ [.non])) a = some (.lst (l.map tv ++ [.non])) := (upd_ne nac).trans upd_same
          have z2 : upd (upd Z a (.lst (l.map tv ++ [.non]))) c (.lst (l2.map tv ++ [.non])) c = some (.lst (l2.map tv ++ [.non])) := upd_same
          have z3 : upd (upd Z a (.lst (l.map tv ++ [.non]))) c (.lst (l2.map tv ++ [.non])) D1 = some (.lst [.str "limits", .ref a]) := (upd_ne nc1.symm).trans ((upd_ne na1.symm).trans ed1z)
          have z4 : upd (upd Z a (.lst (l.map tv ++ [.non]))) c (.lst (l2.map tv ++ [.non])) D2 = some (.lst [.str "group", .ref c]) := (upd_ne nc2.symm).trans ((upd_ne na2.symm).trans ed2z)
          have zn : ∀ x, x ≠ a → x ≠ c → upd (upd Z a (.lst (l.map tv ++ [.non]))) c (.lst (l2.map tv ++ [.non])) x = Z x := fun x h1 h2 => (upd_ne h2).trans (upd_ne h1)
          generalize upd (upd Z a (.lst (l.map tv ++ [.non]))) c (.lst (l2.map tv ++ [.non])) = Y at z1 z2 z3 z4 zn ⊢
          walk_at "go"
          have z1' : Y a = some (.lst ((l ++ [none]).map tv)) := by rw [← non_tv]; exact z1
          have z2' : Y c = some (.lst ((l2 ++ [none]).map tv)) := by rw [← non_tv]; exact z2
          refine g_neSc (l := l ++ [none]) z1' (by rw [← non_tv]; exact boxy_non _) ?_
          walk_at "go"
          refine g_neSc (l := l2 ++ [none]) z2' (by rw [← non_tv]; exact boxy_non _) ?_
          walk_at "go"
          refine g_pop z1 (y := .non) (by simp) ?_
          rw [List.dropLast_concat]
          have z5 : upd Y a (.lst (l.map tv)) c = some (.lst (l2.map tv ++ [.non])) := (upd_ne nac.symm).trans z2
          walk_at "go"
          refine g_pop z5 (y := .non) (by simp) ?_
          rw [List.dropLast_concat]
          refine ⟨_, _, _, rfl, fun x o e => ?_⟩
          have e2 := SA x o e
          by_cases hc : x = c
          · subst hc
            rw [upd_same, ← ecZ, e2]
          · rw [upd_ne hc]
            by_cases ha : x = a
            · subst ha
              rw [upd_same, ← eaZ, e2]
            · rw [upd_ne ha, zn x ha hc, e2]
        · refine g_isi (kt.same SA) ?_
          rw [ht]
          walk_at "go"
          exact ⟨_, _, _, rfl, SA⟩
      · refine g_isi (kt.same SA) ?_
        rw [ht]
        walk_at "go"
        exact ⟨_, _, _, rfl, SA⟩
    · rintro τ A ⟨z6', z11, z12, rfl, sA⟩
      walk_at "go"
      exact q _ (TE.trans sA.but)
end
end Z
set_option Elab.async false
set_option linter.all false
set_option maxRecDepth 100000
set_option maxHeartbeats 4000000
namespace Z
open PySem PySem.Spec PyProof.Rows L2
local macro_rules | `(tactic| walk_at "hp") => `(tactic| first | assumption | exact upd_same | exact (upd_ne (by assumption)).trans (by assumption))
local macro_rules | `(tactic| walk_at "side") => `(tactic| first | assumption | omega | (exact ⟨by omega, by omega⟩) | (exact Or.inl ⟨by omega, by omega⟩) | (exact Or.inr ⟨by omega, by omega⟩) | (exact ⟨by omega, by omega, by omega⟩))
local macro_rules | `(tactic| walk_at "st") => `(tactic| first
  | (with_reducible first
  | refine g_seq ?_ | refine g_asg ?_ | refine g_op ?_ | refine g_var rfl ?_ | refine g_c ?_ | refine g_I0 ?_ | refine g_cons ?_ | refine g_nil ?_ | refine g_name rfl ?_ | refine g_ret ?_ | refine g_ifs ?_ | refine g_test ?_ | refine g_bl ?_
  | refine g_cb ?_ | refine g_call ?_ | refine g_drop ?_ | refine g_next ?_ | refine g_and ?_ | refine g_or ?_ | refine g_not ?_ | refine g_if ?_ | refine g_notV ?_ | refine g_andV ?_ | refine g_orV ?_ | refine g_chain ?_ | refine g_un ?_ | refine g_U ?_ | refine g_lst ?_ | refine g_tup ?_ | refine g_sub ?_ | refine g_B ?_ | refine g_int1 ?_ | refine g_trub ?_
  | refine g_eq rfl ?_ | refine g_ne rfl ?_ | refine g_tt ?_ | refine g_ff ?_ | refine g_nt ?_ | refine g_nf ?_ | refine g_retN ?_ | refine g_rs ?_ | refine g_lc ?_ | refine g_for ?_ | refine g_iL ?_ | refine g_iT ?_ | refine g_iR1 ?_ | refine g_iR2 ?_ | refine g_iR3 ?_ | refine g_yes ?_ | refine g_truth ?_ | refine g_gcons ?_ | refine g_gnil ?_ | refine g_par ?_ | refine g_par3 ?_ | refine g_ex2 ?_ | refine g_ex3 ?_ | refine g_bm ?_ | refine g_bm0 ?_ | refine g_aug rfl ?_ | refine g_ipI ?_ | refine g_iK ?_ | refine g_dc ?_ | refine g_dget ?_ | refine g_int ?_ | refine g_intB ?_ | refine g_abs ?_ | refine g_max2 ?_ | refine g_min2 ?_ | refine g_sl ?_ | refine g_nopart ?_ | refine g_part ?_ | refine g_dput ?_ | refine g_lstrg ?_ | refine g_rg1 ?_ | refine g_exi ?_)
  | ((with_reducible refine k_slL ?_); refine g_slL (SqL.of (by walk_at "hp")) ?_) | ((with_reducible refine k_listOf ?_); refine g_listOf (.inl (SqL.of (by walk_at "hp"))) ?_) | ((with_reducible refine k_rep ?_); refine g_rep (by walk_at "hp") (by omega) ?_) | ((with_reducible refine k_len ?_); refine g_len (SqL.of (by walk_at "hp")) ?_) | ((with_reducible refine k_len ?_); refine g_len (by assumption) ?_) | ((with_reducible refine k_tyL ?_); refine g_tyL (by walk_at "hp") ?_) | ((with_reducible refine k_gT ?_); refine g_gT (SqT.of (by walk_at "hp")) rfl ?_) | ((with_reducible refine k_gL ?_); refine g_gL (SqL.of (by walk_at "hp")) rfl ?_) | ((with_reducible refine k_ixL ?_); refine g_ixL (SqL.of (by walk_at "hp")) rfl ?_) | ((with_reducible refine k_ixL ?_); refine g_rd (by walk_at "hp") (by walk_at "side") ?_) | ((with_reducible refine k_ixL ?_); refine g_rdI (by walk_at "hp") (by omega) (by omega) ?_) | ((with_reducible refine k_setL ?_); refine g_setL (by walk_at "hp") rfl ?_) | ((with_reducible refine k_new ?_); refine g_new rfl ?_) | ((with_reducible refine k_I ?_); refine g_I (by walk_at "side") ?_))
local macro_rules | `(tactic| walk_at "go") => `(tactic| repeat walk_at "st")

section
variable {P : Program} {w : World} {K : PySem.W.Frag} {mg : Str → Option Value} {base : Heap} {f : Addr} {fd : FuncData}
theorem QuesOk.but {H H' : Hp} {x : V} (h : QuesOk H x) (s : But H H') : QuesOk H' x := by
  obtain ⟨a, c, i, s', h1, h2, h3, h4, h5, h6, e⟩ := h
  exact ⟨a, c, i, s', h1, h2, h3, h4, h5, h6, s _ _ rfl e⟩
theorem LimOk.but {H H' : Hp} {x : V} (h : LimOk H x) (s : But H H') : LimOk H' x := by
  obtain ⟨a, la, ba, ls, p, h1, h2, h3, h4, h5, e1, e2, e3⟩ := h
  exact ⟨a, la, ba, ls, p, h1, h2, h3, h4, h5, s _ _ (int_boxy _) e1, s _ _ (int_boxy _) e2, s _ _ rfl e3⟩
theorem But.seqI {H H' : Hp} {a : Addr} {ns : List Int} (s : But H H') (h : SqL K H a (ns.map V.int)) : SqL K H' a (ns.map V.int) := by
  rcases h with (h | ⟨o, h⟩) | h
  · exact .inl (.inl (s _ _ (int_boxy _) h))
  · exact .inl (.inr ⟨o, s _ _ rfl h⟩)
  · exact .inr h
def spRight : Sp := fun vs H Q _ => ∃ (b : Addr), vs = [.ref b] ∧ Box b 0 H ∧ ∀ H', But H H' → Q (.bl true) H'
theorem fn_right (F : Df K mg "_law_right" s__law_right f fd) (F__law_question : Fn P w K mg base "_law_question" 8 ["_law_box_here"] spQuestion) (F__law_limits : Fn P w K mg base "_law_limits" 8 ["_law_box_here"] spLims)
    (F__law_counted : Fn P w K mg base "_law_counted" 8 ["_law_box_here", "_law_questions", "_law_rows"] spCounted) (F__law_refused_right : Fn P w K mg base "_law_refused_right" 8 ["_law_box_here"] spRefused) : Fn P w K mg base "_law_right" 9 ["_law_box_here"] spRight := by
  refine F.fn sc__law_right (fun vs H Q E h => ?_) (fun _ _ _ _ _ _ us hl => match us, hl with | [_], _ => rfl) (fun cdv A outer s H vs Q E hr gd h => ?_)
  · obtain ⟨b, rfl, _⟩ := h
    rfl
  obtain ⟨b, rfl, hb, q⟩ := h
  refine ⟨_, (pss_cons (ps_par (i := 1) (j := 2) rfl sc__law_right.nd rfl rfl (by decide) rfl rfl (pa_cons (pe_lst (pa_cons (fcall F__law_question (hr.mono (by decide)) gd (passes_call (takes_of rfl rfl rfl rfl) fun _ _ _ _ h => h) (pa_cons (pv 0) pa_nil)) (pa_cons (fcall F__law_question (hr.mono (by decide)) gd (passes_call (takes_of rfl rfl rfl rfl) fun _ _ _ _ h => h) (pa_cons (pv 0) pa_nil)) pa_nil))) (pa_cons (pe_lst (pa_cons (fcall F__law_limits (hr.mono (by decide)) gd (passes_call (takes_of rfl rfl rfl rfl) fun _ _ _ _ h => h) (pa_cons (pv 0) pa_nil)) (pa_cons (fcall F__law_limits (hr.mono (by decide)) gd (passes_call (takes_of rfl rfl rfl rfl) fun _ _ _ _ h => h) (pa_cons (pv 0) pa_nil)) pa_nil))) pa_nil)) (by rfl))
      (pss_one (ps_ret (pe_and (fcall F__law_counted (hr.mono (by decide)) gd (passes_call (takes_of rfl rfl rfl rfl) fun _ _ _ _ h => h) (pa_cons (pv 0) (pa_cons (pv 1) (pa_cons (pv 2) pa_nil)))) (pe_one (fcall F__law_refused_right (hr.mono (by decide)) gd (passes_call (takes_of rfl rfl rfl rfl) fun _ _ _ _ h => h) (pa_cons (pv 0) pa_nil))))))), ?_⟩
  walk_at "go"
  refine ⟨b, 0, rfl, by decide, hb, fun x1 H1 t1 b1 k1 => ?_⟩
  walk_at "go"
  refine ⟨b, 5, rfl, by decide, b1, fun x2 H2 t2 b2 k2 => ?_⟩
  walk_at "go"
  intro qa hqa
  have g1 := Same.new (o := .lst [x1, x2]) hqa
  have eqa : upd H2 qa (.lst [x1, x2]) qa = some (.lst [x1, x2]) := upd_same
  generalize upd H2 qa (.lst [x1, x2]) = H2' at g1 eqa ⊢
  walk_at "go"
  refine ⟨b, 10, rfl, by decide, b2.same g1, fun y1 H3 t3 b3 l1 => ?_⟩
  walk_at "go"
  refine ⟨b, 70, rfl, by decide, b3, fun y2 H4 t4 b4 l2 => ?_⟩
  walk_at "go"
  intro ra hra
  have g2 := Same.new (o := .lst [y1, y2]) hra
  have era : upd H4 ra (.lst [y1, y2]) ra = some (.lst [y1, y2]) := upd_same
  generalize upd H4 ra (.lst [y1, y2]) = H5 at g2 era ⊢
  have nq : boxy (.lst [x1, x2]) = false := by cases x1 <;> cases x2 <;> rfl
  have eqa5 := g2 _ _ ((t3.trans t4) _ _ nq eqa)
  have T : But H H5 := ((t1.trans t2).trans g1.but).trans ((t3.trans t4).trans g2.but)
  have u1 : But H1 H5 := (t2.trans g1.but).trans ((t3.trans t4).trans g2.but)
  have u2 : But H2 H5 := g1.but.trans ((t3.trans t4).trans g2.but)
  walk_at "go"
  refine ⟨_, qa, ra, x1, x2, y1, y2, rfl, eqa5, era, k1.but u1, k2.but u2, l1.but (t4.trans g2.but), l2.but g2.but, fun H6 s6 => ?_⟩
  walk_at "go"
  refine ⟨b, 130, rfl, by decide, (b4.same g2).same s6, fun H7 t7 => ?_⟩
  exact q _ (T.trans (s6.but.trans t7))
def spLaw (K : PySem.W.Frag) : Sp := fun vs H Q _ => ∃ (a : Addr) (ns : List Int), vs = [.ref a] ∧ SqL K H a (ns.map V.int) ∧ ∀ H', Q (.bl true) H'
theorem fn_law (F : Df K mg "law" s_law f fd) (B : Bl K mg) (F__law_right : Fn P w K mg base "_law_right" 9 ["_law_box_here"] spRight) (F__law_box : Fn P w K mg base "_law_box" 9 ["_law_great"] spBox) (F__law_cell : Fn P w K mg base "_law_cell" 9 ["_law_script", "_law_k"] (spCell K)) :
    Fn P w K mg base "law" 10 ["_law_script"] (spLaw K) := by
  refine F.fn sc_law (fun vs H Q E h => ?_) (fun _ _ _ _ _ _ us hl => match us, hl with | [_], _ => rfl) (fun cdv A outer s H vs Q E hr gd h => ?_)
  · obtain ⟨a, ns, rfl, _⟩ := h
    rfl
  obtain ⟨a, ns, rfl, ha, q⟩ := h
  refine ⟨_, (pss_cons (ps_for (passes_of rfl) rfl (pi_range1 rfl B.range_ (pa_cons (pe_callB (z_max2 rfl) rfl B.max_ (by decide +kernel) (pa_cons pe_int (pa_cons (pe_callB (z_min2 rfl) rfl B.min_ (by decide +kernel) (pa_cons pe_int (pa_cons (pe_callB (z_len (K := K)) rfl B.len_ (by decide +kernel) (pa_cons (pv 0) pa_nil)) pa_nil))) pa_nil))) pa_nil)) (pg_name (i := 1) sc_law.nd rfl (Or.inl rfl)) (pss_one (ps_if (pt_not (pt_val (fcall F__law_right (hr.mono (by decide)) gd (passes_call (takes_of rfl rfl rfl rfl) fun _ _ _ _ h => h) (pa_cons (fcall F__law_box (hr.mono (by decide)) gd (passes_call (takes_of rfl rfl rfl rfl) fun _ _ _ _ h => h) (pa_cons (fcall F__law_cell (hr.mono (by decide)) gd (passes_call (takes_of rfl rfl rfl rfl) fun _ _ _ _ h => h) (pa_cons (pv 0) (pa_cons (pv 1) pa_nil))) pa_nil)) pa_nil)))) (pss_one (ps_ret pe_bl)) pss_nil)))
      (pss_one (ps_ret pe_bl))), ?_⟩
  walk_at "go"
  refine forR1 (by omega) (by omega) (fun k τ G => ∃ z, τ = [some (.ref a), z] ∧ But H G) ⟨none, rfl, But.refl _⟩ ?_ ?_
  · rintro k τ G hk ⟨z, rfl, tG⟩
    walk_at "go"
    refine ⟨a, ns, k, rfl, by omega, tG.seqI ha, fun d G1 s1 => ?_⟩
    walk_at "go"
    refine ⟨d, rfl, fun b G2 s2 _ hb => ?_⟩
    walk_at "go"
    refine ⟨b, rfl, hb, fun G3 t3 => ?_⟩
    walk_at "go"
    exact ⟨_, rfl, tG.trans ((s1.trans s2).but.trans t3)⟩
  · rintro τ G ⟨z, rfl, tG⟩
    walk_at "go"
    exact q _
end
end Z
set_option Elab.async false
set_option linter.all false
set_option maxRecDepth 100000
set_option maxHeartbeats 4000000
namespace Z
open PySem PySem.Spec PyProof.Rows L2
local macro_rules | `(tactic| walk_at "hp") => `(tactic| first | assumption | exact upd_same | exact (upd_ne (by assumption)).trans (by assumption))
local macro_rules | `(tactic| walk_at "side") => `(tactic| first | assumption | omega | (exact ⟨by omega, by omega⟩) | (exact Or.inl ⟨by omega, by omega⟩) | (exact Or.inr ⟨by omega, by omega⟩) | (exact ⟨by omega, by omega, by omega⟩))
local macro_rules | `(tactic| walk_at "st") => `(tactic| first
  | (with_reducible first
  | refine g_seq ?_ | refine g_asg ?_ | refine g_op ?_ | refine g_var rfl ?_ | refine g_c ?_ | refine g_I0 ?_ | refine g_cons ?_ | refine g_nil ?_ | refine g_name rfl ?_ | refine g_ret ?_ | refine g_ifs ?_ | refine g_test ?_ | refine g_bl ?_
  | refine g_cb ?_ | refine g_call ?_ | refine g_drop ?_ | refine g_next ?_ | refine g_and ?_ | refine g_or ?_ | refine g_not ?_ | refine g_if ?_ | refine g_notV ?_ | refine g_andV ?_ | refine g_orV ?_ | refine g_chain ?_ | refine g_un ?_ | refine g_U ?_ | refine g_lst ?_ | refine g_tup ?_ | refine g_sub ?_ | refine g_B ?_ | refine g_int1 ?_ | refine g_trub ?_
  | refine g_eq rfl ?_ | refine g_ne rfl ?_ | refine g_tt ?_ | refine g_ff ?_ | refine g_nt ?_ | refine g_nf ?_ | refine g_retN ?_ | refine g_rs ?_ | refine g_lc ?_ | refine g_for ?_ | refine g_iL ?_ | refine g_iT ?_ | refine g_iR1 ?_ | refine g_iR2 ?_ | refine g_iR3 ?_ | refine g_yes ?_ | refine g_truth ?_ | refine g_gcons ?_ | refine g_gnil ?_ | refine g_par ?_ | refine g_par3 ?_ | refine g_ex2 ?_ | refine g_ex3 ?_ | refine g_bm ?_ | refine g_bm0 ?_ | refine g_aug rfl ?_ | refine g_ipI ?_ | refine g_iK ?_ | refine g_dc ?_ | refine g_dget ?_ | refine g_int ?_ | refine g_intB ?_ | refine g_abs ?_ | refine g_max2 ?_ | refine g_min2 ?_ | refine g_sl ?_ | refine g_nopart ?_ | refine g_part ?_ | refine g_dput ?_ | refine g_lstrg ?_ | refine g_rg1 ?_ | refine g_exi ?_)
  | ((with_reducible refine k_slL ?_); refine g_slL (SqL.of (by walk_at "hp")) ?_) | ((with_reducible refine k_listOf ?_); refine g_listOf (.inl (SqL.of (by walk_at "hp"))) ?_) | ((with_reducible refine k_rep ?_); refine g_rep (by walk_at "hp") (by omega) ?_) | ((with_reducible refine k_len ?_); refine g_len (SqL.of (by walk_at "hp")) ?_) | ((with_reducible refine k_len ?_); refine g_len (by assumption) ?_) | ((with_reducible refine k_tyL ?_); refine g_tyL (by walk_at "hp") ?_) | ((with_reducible refine k_gT ?_); refine g_gT (SqT.of (by walk_at "hp")) rfl ?_) | ((with_reducible refine k_gL ?_); refine g_gL (SqL.of (by walk_at "hp")) rfl ?_) | ((with_reducible refine k_ixL ?_); refine g_ixL (SqL.of (by walk_at "hp")) rfl ?_) | ((with_reducible refine k_ixL ?_); refine g_rd (by walk_at "hp") (by walk_at "side") ?_) | ((with_reducible refine k_ixL ?_); refine g_rdI (by walk_at "hp") (by omega) (by omega) ?_) | ((with_reducible refine k_setL ?_); refine g_setL (by walk_at "hp") rfl ?_) | ((with_reducible refine k_new ?_); refine g_new rfl ?_) | ((with_reducible refine k_I ?_); refine g_I (by walk_at "side") ?_))
local macro_rules | `(tactic| walk_at "go") => `(tactic| repeat walk_at "st")

section
variable {P : Program} {w : World} {K : PySem.W.Frag} {mg : Str → Option Value} {base : Heap} {x : Str} {fd : FuncData} {st : Stmt} {f : Addr} {q : Str} {p1 p2 p3 p4 : Pos}
def initBody (p1 p2 p3 p4 : Pos) : List Stmt := [.Assign [.Attribute (.Name "self" p1) "given" p2] (.Name "given" p3) p4]
theorem init_ok (T : ExT K x "given") (hb : defBody st = initBody p1 p2 p3 p4) (S : FnScope ["self", "given"] ["self", "given"] (defScope st)) (h1 : (defScope st).names.lookup ("self" : Str) = some NameKind.local) (h2 : (defScope st).names.lookup ("given" : Str) = some NameKind.local) (D : FunD K "__init__" q (defArgs st) (defBody st) (defScope st) [] [] f fd) :
    FnOk P w K mg base (L2.CX P w) 1 f fd ["self", "given"] (spGiven (He.ga K x)) := by
  refine D.ok S (fun vs H Q E h => ?_) (fun cdv A outer s H vs Q E hr h => ?_)
  · obtain ⟨a, v, rfl, _⟩ := h
    rfl
  obtain ⟨a, v, rfl, e, q⟩ := h
  rw [hb]
  refine ⟨_, pss_one (ps_ost (pv 0 (hv := .inl h1)) (pv 1 (hv := .inl h2))), ?_⟩
  exact g_var rfl (g_var rfl ⟨a, _, rfl, T.o, T.no, .inl ⟨e, fun dx h3 h4 => q dx h3 h4⟩⟩)
theorem exn_ok (T : ExT K x "given") (hm : mg x = some (.ref (He.ga K x))) (hb : defBody st = initBody p1 p2 p3 p4) (S : FnScope ["self", "given"] ["self", "given"] (defScope st)) (h1 : (defScope st).names.lookup ("self" : Str) = some NameKind.local) (h2 : (defScope st).names.lookup ("given" : Str) = some NameKind.local)
    (D : FunD K "__init__" q (defArgs st) (defBody st) (defScope st) [] [] (He.ma K (He.ga K x) "__init__") fd)
    (hbd : ∀ (kV doc pm : Value) (an : Option Addr) (cdv ct : Value) (us : List Value), us.length = 2 → bindArgs (PySem.W.fnOf "__init__" q (defArgs st) (defBody st) (defScope st) .none kV doc pm an cdv ct) ⟨us, []⟩ = pure ((["self", "given"] : List Str).zip us)) :
    Exn P w K mg base x := ⟨T, hm, fd, init_ok T hb S h1 h2 D, D.bindsN hbd⟩
end
end Z
set_option Elab.async false
set_option linter.all false
set_option maxRecDepth 100000
set_option maxHeartbeats 0
namespace Z
open PySem PySem.Spec PyProof.Rows L2
def d_is_list : He.DefD := DfB "is_list" s_is_list
def d_is_whole : He.DefD := DfB "is_whole" s_is_whole
def d_is_between : He.DefD := DfB "is_between" s_is_between
def d_is_function : He.DefD := DfB "is_function" s_is_function
def d_are_functions : He.DefD := DfB "are_functions" s_are_functions
def d_is_rising : He.DefD := DfB "is_rising" s_is_rising
def d_is_group_of : He.DefD := DfB "is_group_of" s_is_group_of
def d_check_count : He.DefD := DfB "check_count" s_check_count
def d_check_inlined : He.DefD := DfB "check_inlined" s_check_inlined
def d_ways : He.DefD := DfB "ways" s_ways
def d_count_staying : He.DefD := DfB "count_staying" s_count_staying
def d_count_wheels : He.DefD := DfB "count_wheels" s_count_wheels
def d_are_limits : He.DefD := DfB "are_limits" s_are_limits
def d_stretch : He.DefD := DfB "stretch" s_stretch
def d_count_within : He.DefD := DfB "count_within" s_count_within
def d__law_cell : He.DefD := DfB "_law_cell" s__law_cell
def d__law_box : He.DefD := DfB "_law_box" s__law_box
def d__law_take : He.DefD := DfB "_law_take" s__law_take
def d__law_rounds : He.DefD := DfB "_law_rounds" s__law_rounds
def d__law_lists : He.DefD := DfB "_law_lists" s__law_lists
def d__law_listed : He.DefD := DfB "_law_listed" s__law_listed
def d__law_choose : He.DefD := DfB "_law_choose" s__law_choose
def d__law_series : He.DefD := DfB "_law_series" s__law_series
def d__law_due : He.DefD := DfB "_law_due" s__law_due
def d__law_all_due : He.DefD := DfB "_law_all_due" s__law_all_due
def d__law_boxes : He.DefD := DfB "_law_boxes" s__law_boxes
def d__law_within : He.DefD := DfB "_law_within" s__law_within
def d__law_within_sum : He.DefD := DfB "_law_within_sum" s__law_within_sum
def d__law_told : He.DefD := DfB "_law_told" s__law_told
def d__law_question : He.DefD := DfB "_law_question" s__law_question
def d__law_limits : He.DefD := DfB "_law_limits" s__law_limits
def d__law_counted : He.DefD := DfB "_law_counted" s__law_counted
def d__law_refused_right : He.DefD := DfB "_law_refused_right" s__law_refused_right
def d__law_right : He.DefD := DfB "_law_right" s__law_right
def d_law : He.DefD := DfB "law" s_law
def d_InvalidCount___init__ : He.DefD := ⟨("InvalidCount", some "__init__"), "__init__", "InvalidCount.__init__", defArgs s_InvalidCount___init__, defBody s_InvalidCount___init__, defScope s_InvalidCount___init__, [], []⟩
def d_InvalidGroup___init__ : He.DefD := ⟨("InvalidGroup", some "__init__"), "__init__", "InvalidGroup.__init__", defArgs s_InvalidGroup___init__, defBody s_InvalidGroup___init__, defScope s_InvalidGroup___init__, [], []⟩
def d_InvalidInlinedCount___init__ : He.DefD := ⟨("InvalidInlinedCount", some "__init__"), "__init__", "InvalidInlinedCount.__init__", defArgs s_InvalidInlinedCount___init__, defBody s_InvalidInlinedCount___init__, defScope s_InvalidInlinedCount___init__, [], []⟩
def d_InvalidStaying___init__ : He.DefD := ⟨("InvalidStaying", some "__init__"), "__init__", "InvalidStaying.__init__", defArgs s_InvalidStaying___init__, defBody s_InvalidStaying___init__, defScope s_InvalidStaying___init__, [], []⟩
def d_InvalidLimits___init__ : He.DefD := ⟨("InvalidLimits", some "__init__"), "__init__", "InvalidLimits.__init__", defArgs s_InvalidLimits___init__, defBody s_InvalidLimits___init__, defScope s_InvalidLimits___init__, [], []⟩
def fnL0 : List He.DefD := [d_is_list, d_is_whole, d_is_between, d_is_function, d_are_functions, d_is_rising, d_is_group_of, d_check_count, d_check_inlined, d_ways, d_count_staying, d_count_wheels, d_are_limits, d_stretch, d_count_within, d__law_cell, d__law_box, d__law_take, d__law_rounds, d__law_lists, d__law_listed, d__law_choose, d__law_series, d__law_due, d__law_all_due, d__law_boxes, d__law_within, d__law_within_sum, d__law_told, d__law_question]
def fnL1 : List He.DefD := [d__law_limits, d__law_counted, d__law_refused_right, d__law_right, d_law, d_InvalidCount___init__, d_InvalidGroup___init__, d_InvalidInlinedCount___init__, d_InvalidStaying___init__, d_InvalidLimits___init__]
def fnL : List He.DefD := fnL0 ++ fnL1
def faL0 : List He.Fa := [.glo "is_list", .glo "is_whole", .glo "is_between", .glo "is_function", .glo "are_functions", .glo "is_rising", .glo "is_group_of", .glo "check_count", .glo "check_inlined", .glo "ways", .glo "count_staying", .glo "count_wheels", .glo "are_limits", .glo "stretch", .glo "count_within", .glo "_law_cell", .glo "_law_box", .glo "_law_take", .glo "_law_rounds", .glo "_law_lists", .glo "_law_listed", .glo "_law_choose", .glo "_law_series", .glo "_law_due", .glo "_law_all_due", .glo "_law_boxes", .glo "_law_within", .glo "_law_within_sum", .glo "_law_told", .glo "_law_question"]
def faL1 : List He.Fa := [.glo "_law_limits", .glo "_law_counted", .glo "_law_refused_right", .glo "_law_right", .glo "law", .glo "InvalidCount", .glo "InvalidInlinedCount", .glo "InvalidStaying", .glo "InvalidLimits", .glo "InvalidGroup", .free "abs", .free "all", .free "bool", .free "int", .free "isinstance", .free "len", .free "list", .free "max", .free "min", .free "range", .free "repr", .free "sum", .free "tuple", .int "MOST_LENGTHS" (12), .int "MOST_INLINED_CALLS" (400), .int "MOST_LIMIT" (10 ^ 18)]
def faL : List He.Fa := faL0 ++ faL1
def exL (K : PySem.W.Frag) : Bool := sysB K && (exmB K && (decide (PySem.W.nsIn K mainGlobals "comb" = some (some (.builtin "math.comb"))) && (excB K "InvalidCount" "given" && (excB K "InvalidInlinedCount" "given" && (excB K "InvalidStaying" "given" && (excB K "InvalidLimits" "given" && (excB K "InvalidGroup" "given")))))))
def looseL0 : List Str := ["InlineError", "InvalidCount", "InvalidGroup", "InvalidInlinedCount", "InvalidStaying", "InvalidLimits", "is_list", "is_whole", "is_between", "is_function", "are_functions", "is_rising", "is_group_of", "MOST_LENGTHS", "check_count", "MOST_INLINED_CALLS", "MOST_LIMIT", "check_inlined", "ways", "count_staying"]
def looseL1 : List Str := ["count_wheels", "are_limits", "stretch", "count_within", "_law_cell", "_law_box", "_law_take", "_law_rounds", "_law_lists", "_law_listed", "_law_choose", "_law_series", "_law_due", "_law_all_due", "_law_boxes", "_law_within", "_law_within_sum", "_law_told", "_law_question", "_law_limits"]
def looseL2 : List Str := ["_law_counted", "_law_refused_right", "_law_right"]
def looseL : List Str := looseL0 ++ looseL1 ++ looseL2
abbrev RL : PySem.W.OpenRow := PySem.W.OpenLaw.row PySem.Challenge.rw_ringstays_k58_wheels_counted
abbrev hkL : PySem.W.Hook := hookS 5 faL fnL exL
def obL (s : PySem.W.SharedT) : AlS := obsS 5 faL fnL exL (HandSHeadRun.getT s)
theorem obL_eq (s : PySem.W.SharedT) : obL s = hkL.obs s.abs := obsS_eq (HandSHeadRun.getT_eq s)
theorem runL (w : World) : HandSHeadRun.RunEqI RL (PySem.W.view RL.prog [0, 49]) hkL obL 3000 looseL w := by
  unfold HandSHeadRun.RunEqI
  kernel_rfl
theorem sc_InvalidCount___init__ : FnScope ["self", "given"] ["self", "given"] (defScope s_InvalidCount___init__) := ⟨rfl, rfl, rfl, by decide +kernel, rfl, by decide +kernel, by decide +kernel⟩
theorem sc_InvalidGroup___init__ : FnScope ["self", "given"] ["self", "given"] (defScope s_InvalidGroup___init__) := ⟨rfl, rfl, rfl, by decide +kernel, rfl, by decide +kernel, by decide +kernel⟩
theorem sc_InvalidInlinedCount___init__ : FnScope ["self", "given"] ["self", "given"] (defScope s_InvalidInlinedCount___init__) := ⟨rfl, rfl, rfl, by decide +kernel, rfl, by decide +kernel, by decide +kernel⟩
theorem sc_InvalidStaying___init__ : FnScope ["self", "given"] ["self", "given"] (defScope s_InvalidStaying___init__) := ⟨rfl, rfl, rfl, by decide +kernel, rfl, by decide +kernel, by decide +kernel⟩
theorem sc_InvalidLimits___init__ : FnScope ["self", "given"] ["self", "given"] (defScope s_InvalidLimits___init__) := ⟨rfl, rfl, rfl, by decide +kernel, rfl, by decide +kernel, by decide +kernel⟩
theorem factsL {P : Program} {w : World} {K : PySem.W.Frag} {h : Heap} {mg : Str → Option Value} {f : Addr} (X : K.In h) (G : h.Ns mainGlobals mg) (hfa : mg ("law" : Str) = some (.ref f)) (c : He.SaysD faL fnL K) (hex : exL K = true) :
    ∃ fd : FuncData, (∀ (s : Shared) (v : Value), BindsTo s fd ⟨[v], []⟩ [(("_law_script" : Str), v)]) ∧ ∀ base : Heap, K.In base → base.Ns mainGlobals mg → FnG P w K mg base 10 f fd ["_law_script"] (spLaw K) := by
  unfold exL at hex
  simp only [Bool.and_eq_true] at hex
  obtain ⟨xSys, x0, x1, xE_InvalidCount, xE_InvalidInlinedCount, xE_InvalidStaying, xE_InvalidLimits, xE_InvalidGroup⟩ := hex
  obtain ⟨fd_is_list, D_is_list⟩ := df_of (x := "is_list") (st := s_is_list) X G c 0 0 rfl rfl
  obtain ⟨fd_is_whole, D_is_whole⟩ := df_of (x := "is_whole") (st := s_is_whole) X G c 1 1 rfl rfl
  obtain ⟨fd_is_between, D_is_between⟩ := df_of (x := "is_between") (st := s_is_between) X G c 2 2 rfl rfl
  obtain ⟨fd_is_function, D_is_function⟩ := df_of (x := "is_function") (st := s_is_function) X G c 3 3 rfl rfl
  obtain ⟨fd_are_functions, D_are_functions⟩ := df_of (x := "are_functions") (st := s_are_functions) X G c 4 4 rfl rfl
  obtain ⟨fd_is_rising, D_is_rising⟩ := df_of (x := "is_rising") (st := s_is_rising) X G c 5 5 rfl rfl
  obtain ⟨fd_is_group_of, D_is_group_of⟩ := df_of (x := "is_group_of") (st := s_is_group_of) X G c 6 6 rfl rfl
  obtain ⟨fd_check_count, D_check_count⟩ := df_of (x := "check_count") (st := s_check_count) X G c 7 7 rfl rfl
  obtain ⟨fd_check_inlined, D_check_inlined⟩ := df_of (x := "check_inlined") (st := s_check_inlined) X G c 8 8 rfl rfl
  obtain ⟨fd_ways, D_ways⟩ := df_of (x := "ways") (st := s_ways) X G c 9 9 rfl rfl
  obtain ⟨fd_count_staying, D_count_staying⟩ := df_of (x := "count_staying") (st := s_count_staying) X G c 10 10 rfl rfl
  obtain ⟨fd_count_wheels, D_count_wheels⟩ := df_of (x := "count_wheels") (st := s_count_wheels) X G c 11 11 rfl rfl
  obtain ⟨fd_are_limits, D_are_limits⟩ := df_of (x := "are_limits") (st := s_are_limits) X G c 12 12 rfl rfl
  obtain ⟨fd_stretch, D_stretch⟩ := df_of (x := "stretch") (st := s_stretch) X G c 13 13 rfl rfl
  obtain ⟨fd_count_within, D_count_within⟩ := df_of (x := "count_within") (st := s_count_within) X G c 14 14 rfl rfl
  obtain ⟨fd__law_cell, D__law_cell⟩ := df_of (x := "_law_cell") (st := s__law_cell) X G c 15 15 rfl rfl
  obtain ⟨fd__law_box, D__law_box⟩ := df_of (x := "_law_box") (st := s__law_box) X G c 16 16 rfl rfl
  obtain ⟨fd__law_take, D__law_take⟩ := df_of (x := "_law_take") (st := s__law_take) X G c 17 17 rfl rfl
  obtain ⟨fd__law_rounds, D__law_rounds⟩ := df_of (x := "_law_rounds") (st := s__law_rounds) X G c 18 18 rfl rfl
  obtain ⟨fd__law_lists, D__law_lists⟩ := df_of (x := "_law_lists") (st := s__law_lists) X G c 19 19 rfl rfl
  obtain ⟨fd__law_listed, D__law_listed⟩ := df_of (x := "_law_listed") (st := s__law_listed) X G c 20 20 rfl rfl
  obtain ⟨fd__law_choose, D__law_choose⟩ := df_of (x := "_law_choose") (st := s__law_choose) X G c 21 21 rfl rfl
  obtain ⟨fd__law_series, D__law_series⟩ := df_of (x := "_law_series") (st := s__law_series) X G c 22 22 rfl rfl
  obtain ⟨fd__law_due, D__law_due⟩ := df_of (x := "_law_due") (st := s__law_due) X G c 23 23 rfl rfl
  obtain ⟨fd__law_all_due, D__law_all_due⟩ := df_of (x := "_law_all_due") (st := s__law_all_due) X G c 24 24 rfl rfl
  obtain ⟨fd__law_boxes, D__law_boxes⟩ := df_of (x := "_law_boxes") (st := s__law_boxes) X G c 25 25 rfl rfl
  obtain ⟨fd__law_within, D__law_within⟩ := df_of (x := "_law_within") (st := s__law_within) X G c 26 26 rfl rfl
  obtain ⟨fd__law_within_sum, D__law_within_sum⟩ := df_of (x := "_law_within_sum") (st := s__law_within_sum) X G c 27 27 rfl rfl
  obtain ⟨fd__law_told, D__law_told⟩ := df_of (x := "_law_told") (st := s__law_told) X G c 28 28 rfl rfl
  obtain ⟨fd__law_question, D__law_question⟩ := df_of (x := "_law_question") (st := s__law_question) X G c 29 29 rfl rfl
  obtain ⟨fd__law_limits, D__law_limits⟩ := df_of (x := "_law_limits") (st := s__law_limits) X G c 30 30 rfl rfl
  obtain ⟨fd__law_counted, D__law_counted⟩ := df_of (x := "_law_counted") (st := s__law_counted) X G c 31 31 rfl rfl
  obtain ⟨fd__law_refused_right, D__law_refused_right⟩ := df_of (x := "_law_refused_right") (st := s__law_refused_right) X G c 32 32 rfl rfl
  obtain ⟨fd__law_right, D__law_right⟩ := df_of (x := "_law_right") (st := s__law_right) X G c 33 33 rfl rfl
  obtain ⟨fd_law, D_law⟩ := df_of (x := "law") (st := s_law) X G c 34 34 rfl rfl
  have g_abs : mg "abs" = none := He.free_ok X G (c.fact 40 (f := .free "abs") rfl)
  have g_all : mg "all" = none := He.free_ok X G (c.fact 41 (f := .free "all") rfl)
  have g_bool : mg "bool" = none := He.free_ok X G (c.fact 42 (f := .free "bool") rfl)
  have g_int : mg "int" = none := He.free_ok X G (c.fact 43 (f := .free "int") rfl)
  have g_isinstance : mg "isinstance" = none := He.free_ok X G (c.fact 44 (f := .free "isinstance") rfl)
  have g_len : mg "len" = none := He.free_ok X G (c.fact 45 (f := .free "len") rfl)
  have g_list : mg "list" = none := He.free_ok X G (c.fact 46 (f := .free "list") rfl)
  have g_max : mg "max" = none := He.free_ok X G (c.fact 47 (f := .free "max") rfl)
  have g_min : mg "min" = none := He.free_ok X G (c.fact 48 (f := .free "min") rfl)
  have g_range : mg "range" = none := He.free_ok X G (c.fact 49 (f := .free "range") rfl)
  have g_repr : mg "repr" = none := He.free_ok X G (c.fact 50 (f := .free "repr") rfl)
  have g_sum : mg "sum" = none := He.free_ok X G (c.fact 51 (f := .free "sum") rfl)
  have g_tuple : mg "tuple" = none := He.free_ok X G (c.fact 52 (f := .free "tuple") rfl)
  have g_MOST_LENGTHS : ∃ t, mg "MOST_LENGTHS" = some (.int (12) t) := He.int_ok X G (c.fact 53 (f := .int "MOST_LENGTHS" (12)) rfl)
  have g_MOST_INLINED_CALLS : ∃ t, mg "MOST_INLINED_CALLS" = some (.int (400) t) := He.int_ok X G (c.fact 54 (f := .int "MOST_INLINED_CALLS" (400)) rfl)
  have g_MOST_LIMIT : ∃ t, mg "MOST_LIMIT" = some (.int (10 ^ 18) t) := He.int_ok X G (c.fact 55 (f := .int "MOST_LIMIT" (10 ^ 18)) rfl)
  have B : Bl K mg := ⟨g_int, g_len, g_range, g_isinstance, g_bool, g_list, g_tuple, g_abs, g_sum, g_all, g_repr, g_max, g_min, g_MOST_LENGTHS, g_MOST_INLINED_CALLS, g_MOST_LIMIT, PySem.W.mg_of X G (of_decide_eq_true x1), xSys⟩
  have eL := hfa.symm.trans (He.glo_ok X G (c.fact 34 (f := .glo "law") rfl))
  cases eL
  have bL := FunD.bindsA (ps := ["_law_script"]) D_law.2 (fun _ _ _ _ _ _ us hl => match us, hl with | [_], _ => rfl)
  refine ⟨fd_law, fun s v => bL s [v] rfl, fun base hKb hGb => ?_⟩
  have X_InvalidCount : Exn P w K mg base "InvalidCount" := by
    obtain ⟨fdE, DE⟩ := c.def_ 35 (d := d_InvalidCount___init__) rfl
    exact exn_ok (st := s_InvalidCount___init__) (excB_ok xE_InvalidCount) (He.glo_ok X G (c.fact 35 (f := .glo "InvalidCount") rfl)) rfl sc_InvalidCount___init__ rfl rfl DE (fun _ _ _ _ _ _ us hl => match us, hl with | [_, _], _ => rfl)
  have X_InvalidInlinedCount : Exn P w K mg base "InvalidInlinedCount" := by
    obtain ⟨fdE, DE⟩ := c.def_ 37 (d := d_InvalidInlinedCount___init__) rfl
    exact exn_ok (st := s_InvalidInlinedCount___init__) (excB_ok xE_InvalidInlinedCount) (He.glo_ok X G (c.fact 36 (f := .glo "InvalidInlinedCount") rfl)) rfl sc_InvalidInlinedCount___init__ rfl rfl DE (fun _ _ _ _ _ _ us hl => match us, hl with | [_, _], _ => rfl)
  have X_InvalidStaying : Exn P w K mg base "InvalidStaying" := by
    obtain ⟨fdE, DE⟩ := c.def_ 38 (d := d_InvalidStaying___init__) rfl
    exact exn_ok (st := s_InvalidStaying___init__) (excB_ok xE_InvalidStaying) (He.glo_ok X G (c.fact 37 (f := .glo "InvalidStaying") rfl)) rfl sc_InvalidStaying___init__ rfl rfl DE (fun _ _ _ _ _ _ us hl => match us, hl with | [_, _], _ => rfl)
  have X_InvalidLimits : Exn P w K mg base "InvalidLimits" := by
    obtain ⟨fdE, DE⟩ := c.def_ 39 (d := d_InvalidLimits___init__) rfl
    exact exn_ok (st := s_InvalidLimits___init__) (excB_ok xE_InvalidLimits) (He.glo_ok X G (c.fact 38 (f := .glo "InvalidLimits") rfl)) rfl sc_InvalidLimits___init__ rfl rfl DE (fun _ _ _ _ _ _ us hl => match us, hl with | [_, _], _ => rfl)
  have X_InvalidGroup : Exn P w K mg base "InvalidGroup" := by
    obtain ⟨fdE, DE⟩ := c.def_ 36 (d := d_InvalidGroup___init__) rfl
    exact exn_ok (st := s_InvalidGroup___init__) (excB_ok xE_InvalidGroup) (He.glo_ok X G (c.fact 39 (f := .glo "InvalidGroup") rfl)) rfl sc_InvalidGroup___init__ rfl rfl DE (fun _ _ _ _ _ _ us hl => match us, hl with | [_, _], _ => rfl)
  have F_is_list := fn_is_list (P := P) (w := w) (base := base) D_is_list B
  have F_is_whole := fn_is_whole (P := P) (w := w) (base := base) D_is_whole B
  have F_is_between := fn_is_between (P := P) (w := w) (base := base) D_is_between (F_is_whole.up (by decide))
  have F_is_function := fn_is_function (P := P) (w := w) (base := base) D_is_function B
  have F_ways := fn_ways (P := P) (w := w) (base := base) D_ways B
  have F_check_count := fn_check_count (P := P) (w := w) (base := base) D_check_count B (F_is_between.up (by decide)) X_InvalidCount
  have F_check_inlined := fn_check_inlined (P := P) (w := w) (base := base) D_check_inlined B (F_is_between.up (by decide)) X_InvalidInlinedCount
  have F_are_functions := fn_are_functions (P := P) (w := w) (base := base) D_are_functions B (F_is_list.up (by decide)) (F_is_function.up (by decide))
  have F_is_rising := fn_is_rising (P := P) (w := w) (base := base) D_is_rising B
  have F_is_group_of := fn_is_group_of (P := P) (w := w) (base := base) D_is_group_of B (F_are_functions.up (by decide)) (F_is_rising.up (by decide))
  have F_are_limits := fn_are_limits (P := P) (w := w) (base := base) D_are_limits B B (F_is_list.up (by decide)) (F_is_between.up (by decide))
  have F_stretch := fn_stretch (P := P) (w := w) (base := base) D_stretch
  have F_count_staying := fn_count_staying (P := P) (w := w) (base := base) D_count_staying B B (F_check_count.up (by decide)) (F_check_inlined.up (by decide)) (F_is_between.up (by decide)) (F_ways.up (by decide)) X_InvalidStaying
  have F_count_staying5 := F_count_staying.up (show 4 ≤ 5 by decide)
  have Kstaying_count_inlined_count_staying := F_count_staying5.kw D_count_staying 0 ["staying", "count", "inlined"] [1, 2, 0] (fun _ _ _ _ _ _ us ws h1 h2 => by obtain rfl := List.length_eq_zero_iff.mp h1; match ws, h2 with | [_, _, _], _ => rfl)
  have F_count_wheels := fn_count_wheels (P := P) (w := w) (base := base) D_count_wheels B (F_check_count.up (by decide)) (F_check_inlined.up (by decide)) (F_count_staying.up (by decide))
  have Kinlined_count_count_wheels := F_count_wheels.kw D_count_wheels 0 ["inlined", "count"] [1, 0] (fun _ _ _ _ _ _ us ws h1 h2 => by obtain rfl := List.length_eq_zero_iff.mp h1; match ws, h2 with | [_, _], _ => rfl)
  have F_count_within := fn_count_within (P := P) (w := w) (base := base) D_count_within B (F_are_limits.up (by decide)) (F_is_group_of.up (by decide)) (F_stretch.up (by decide)) X_InvalidLimits X_InvalidGroup
  have F_count_within5 := F_count_within.up (show 4 ≤ 5 by decide)
  have Kbare_limits_count_within := F_count_within5.kw D_count_within 0 ["bare", "limits"] [1, 0] (fun _ _ _ _ _ _ us ws h1 h2 => by obtain rfl := List.length_eq_zero_iff.mp h1; match ws, h2 with | [_, _], _ => rfl)
  have F__law_box := fn_box (P := P) (w := w) (base := base) D__law_box B
  have F__law_take := fn_take (P := P) (w := w) (base := base) D__law_take B
  have F__law_cell := fn_cell (P := P) (w := w) (base := base) D__law_cell B
  have F__law_choose := fn_choose (P := P) (w := w) (base := base) D__law_choose B
  have F__law_series := fn_series (P := P) (w := w) (base := base) D__law_series B (F__law_choose.up (by decide))
  have F__law_rounds := fn_rounds (P := P) (w := w) (base := base) D__law_rounds B
  have F__law_lists := fn_lists (P := P) (w := w) (base := base) D__law_lists B 4
  have F__law_listed := fn_listed (P := P) (w := w) (base := base) D__law_listed B F__law_lists (F__law_rounds.up (by decide))
  have F__law_boxes := fn_boxes (P := P) (w := w) (base := base) D__law_boxes B
  have F__law_within := fn_lwithin (P := P) (w := w) (base := base) D__law_within B (F__law_boxes.up (by decide)) (F__law_rounds.up (by decide))
  have F__law_within_sum := fn_lsum (P := P) (w := w) (base := base) D__law_within_sum B
  have F__law_told := fn_told (P := P) (w := w) (base := base) D__law_told B x0 (F_count_staying.up (by decide)) (F_count_wheels.up (by decide)) (F_count_within.up (by decide)) Kstaying_count_inlined_count_staying Kinlined_count_count_wheels Kbare_limits_count_within X_InvalidCount X_InvalidInlinedCount X_InvalidStaying X_InvalidLimits X_InvalidGroup
  have F__law_due := fn_due (P := P) (w := w) (base := base) D__law_due (F__law_listed.up (by decide)) (F__law_series.up (by decide))
  have F__law_all_due := fn_all_due (P := P) (w := w) (base := base) D__law_all_due B (F__law_listed.up (by decide)) (F__law_series.up (by decide))
  have F__law_question := fn_question (P := P) (w := w) (base := base) D__law_question (F__law_take.up (by decide)) (F__law_due.up (by decide)) (F__law_all_due.up (by decide))
  have F__law_limits := fn_lims (P := P) (w := w) (base := base) D__law_limits B (F__law_take.up (by decide)) (F__law_within.up (by decide)) (F__law_within_sum.up (by decide))
  have F__law_counted := fn_counted (P := P) (w := w) (base := base) D__law_counted B B (F__law_told.up (by decide))
  have F__law_refused_right := fn_refused (P := P) (w := w) (base := base) D__law_refused_right B B (F__law_take.up (by decide)) (F__law_told.up (by decide))
  have F__law_right := fn_right (P := P) (w := w) (base := base) D__law_right (F__law_question.up (by decide)) (F__law_limits.up (by decide)) (F__law_counted.up (by decide)) (F__law_refused_right.up (by decide))
  have F_law := fn_law (P := P) (w := w) (base := base) D_law B (F__law_right.up (by decide)) (F__law_box.up (by decide)) (F__law_cell.up (by decide))
  obtain ⟨f2, fd2, FG, m2, _, _, st2, D2⟩ := F_law
  have e2 := m2.symm.trans D_law.1
  cases e2
  have e3 : fd2 = fd_law := by
    obtain ⟨_, _, _, _, _, _, _, _, _, _, _, l2, _⟩ := D2.ex
    obtain ⟨_, _, _, _, _, _, _, _, _, _, _, l3, _⟩ := D_law.2.ex
    rw [l2] at l3
    cases l3
    rfl
  rw [← e3]
  exact FG
end Z
open PySem PySem.W PySem.Calls PyProof.Rows
set_option maxRecDepth 100000 in
set_option maxHeartbeats 0 in
theorem PySem.Challenge.cw_ringstays_k58_wheels_counted_holds : PySem.Challenge.rw_ringstays_k58_wheels_counted.Holds := by
  w_on; o_law
  refine HandSHeadRun.head_imp (r := OpenLaw.row PySem.Challenge.rw_ringstays_k58_wheels_counted) (q := view (OpenLaw.row PySem.Challenge.rw_ringstays_k58_wheels_counted).prog [0, 49]) (H := Z.hkL) (ob := Z.obL) (M := 3000) (loose := Z.looseL) (d := HandSHeadRun.topDef (OpenLaw.row PySem.Challenge.rw_ringstays_k58_wheels_counted).prog 49) (kwd := []) Z.obL_eq
    Z.runL (by kernel_rfl) (by kernel_rfl) (by kernel_rfl) (by rfl) (by first | assumption | decide +kernel) (by decide +kernel) ⟨rfl, rfl, rfl, rfl, rfl, by decide +kernel⟩ ?hw ?hc
  case hw => w_witness2
  case hc =>
    refine Z.walk_end (l := PySem.Challenge.rw_ringstays_k58_wheels_counted) (n := 63) (k := 10) (x := "_law_script") rfl (by decide) (by kernel_rfl) ⟨rfl, by decide, by decide⟩ ?F
    intro w mg fa h Y G hmg0
    obtain ⟨K, KX, c, hex⟩ := Y
    have hmg : mg ("law" : PySem.Str) = some (.ref fa) := by
      have e : (HandSHeadRun.topDef (OpenLaw.row PySem.Challenge.rw_ringstays_k58_wheels_counted).prog 49).name = ("law" : PySem.Str) := by kernel_rfl
      rw [← e]
      exact hmg0
    obtain ⟨fd, hb, hF⟩ := Z.factsL (P := (PySem.Challenge.rw_ringstays_k58_wheels_counted).prog) (w := w) KX G hmg c hex
    exact ⟨K, fd, Z.spLaw K, KX, hb, fun H a ns hl _ hS => ⟨a, ns, rfl, hS, fun _ => rfl⟩, hF⟩
