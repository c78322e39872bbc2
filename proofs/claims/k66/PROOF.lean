import PyProof.Rows.All
import Wide.All
import OpenK.AllK
import Wide.FinOn
import HandS.ForMost
import HandS.Flow
import HandS.Style
import HandS.IsInst
import HandS.ClsMeth
import HandS.Star
import HandS.SlotsOwn
import HandS.ListItems
import HandS.OwnEq
import HandS.Lambda
import HandS.EndTab
import HandS.Exc
import HandS.ExcInit
import HandS.ExcField
import HandS.ExcIs
import HandS.WordsExc
import KE.KExcInit
import KE.KExcIs
import KE.KNestM
import PyProof.ReprLen
import PySem.Challenge.RW_ringlists_k66_joins_done
set_option Elab.async false
set_option linter.all false
set_option maxRecDepth 100000
set_option maxHeartbeats 8000000
/-! RgA: rules of our own over the hand layer: calls by positional promises, own __contains__ and __len__, repr of data, the guards. -/
namespace Rg
open PySem PySem.Spec PyProof.Rows L2

/-! ### calls by positional promises -/
def tCallR (sp : Sp) (E : XK) (t : TA) : TE := fun s H Q => t s H fun vs H1 => sp vs H1 Q E
def tMethR0 (C : Addr) (m : Str) (sp : Sp) (E : XK) (ta : TE) : TE := fun s H Q => ta s H fun x H1 =>
  ∃ a dx fs, x = .ref a ∧ H1 a = some (.ins C dx fs) ∧ fs.lookup m = none ∧ sp [x] H1 Q E
section
variable {X : Cx} {CX : CXT} {k i : Nat} {f C : Addr} {sp : Sp} {E : XK} {x m : Str} {e o : Expr} {es : List Expr} {te ta : TE} {t : TA} {p p2 pos apos : Pos}
theorem pe_callR (F : FnR X.prog X.w X.K X.mg X.base CX k f sp) (hr : Room k X.A) (hg : Gl X x) (hm : X.mg x = some (.ref f)) (hk : PySem.W.keepIn X.K (.ref f) = true) (hx : Passes CX X E) (ha : PA X (e :: es) t)
    (hd : (x == ("__debug__" : Str)) = false := by decide) (he : starEach (e :: es) X.env = (false, eval e X.env) :: starEach es X.env := by rfl) (hpl : (backTo pos (starEach es X.env)).any (·.1) = false := by rfl) :
    PE X (.Call (.Name x p) (e :: es) [] pos) (tCallR sp E t) := ⟨fun pins s σ H Q I h =>
  wpAny_Call_Name_kw (ld_glob I hg hm (PySem.W.callWith_K (h₀ := X.base) I.ok.mod.kin hk
    (thn (ha.run pos pins s σ H _ I h) fun us s1 ⟨vs, H1, I1, r, q⟩ => ⟨I1.kIn, wpAny_call (run_fnR F hr hx I1 r q)⟩) he hpl) hd)⟩
theorem pe_callR0 (F : FnR X.prog X.w X.K X.mg X.base CX k f sp) (hr : Room k X.A) (hg : Gl X x) (hm : X.mg x = some (.ref f)) (hk : PySem.W.keepIn X.K (.ref f) = true) (hx : Passes CX X E)
    (hd : (x == ("__debug__" : Str)) = false := by decide) : PE X (.Call (.Name x p) [] [] pos) (tCallR sp E tNil) := ⟨fun pins s σ H Q I h =>
  wpAny_Call_Name_kw (ld_glob I hg hm (PySem.W.callWith_K0 I.kIn hk (wpAny_call (run_fnR F hr hx I .nil h))) hd)⟩
theorem pe_methR0 {pl : Sem Bool} (he : PE X o ta) (c : Cls X.K C) (hm : Meth X.K C m f) (F : FnR X.prog X.w X.K X.mg X.base CX k f sp) (hr : Room k X.A) (hx : Passes CX X E)
    (ht : eval (.Call (.Attribute o m apos) [] [] pos) X.env = (do
      let ov ← eval o X.env
      standAt apos.atName
      let (f, first) ← holding [ov] (getMethod ov m pl)
      callWith pos f first (backTo pos (starEach [] X.env)) (backToKw pos (keywordEach [] X.env))) := by rfl) :
    PE X (.Call (.Attribute o m apos) [] [] pos) (tMethR0 C m sp E ta) := by
  refine ⟨fun pins s σ H Q I h => ?_⟩
  refine PySem.W.methodCall_KW (pl := pl) (thn (he.run pins s σ H _ I h) fun u s1 ⟨x, H1, I1, rx, a, dx, fs, ex, ea, l, q⟩ => ?_) ht
  subst ex
  cases (show u = Value.ref a from rx)
  refine getmeth_ok I1 ea c hm l ?_
  exact PySem.W.callWith_K0 (first := [.ref a]) I1.kIn hm.kp (wpAny_call (run_fnR (us := [.ref a]) (vs := [.ref a]) F hr hx I1 (.cons rfl .nil) q))

/-- C( *y), C a class that stands in a local name -/
def tMakeSV (K : PySem.W.Frag) (C : Addr) (i : Nat) (sp : Sp) (E : XK) (te : TE) : TE := fun s H Q => s[i]? = some (some (.ref C)) ∧ te s H fun y H1 => ∃ a xs, y = V.ref a ∧ (SqT K H1 a xs ∨ SqL K H1 a xs) ∧
  ∀ o dx, H1 o = Option.none → H1 dx = Option.none → dx ≠ o → sp (V.ref o :: xs) (upd (upd H1 dx (.own o)) o (.ins C dx [])) (fun v H2 => v = .non ∧ Q (.ref o) H2) E
theorem pe_makeSV (M : Mk X.K C f) (F : FnR X.prog X.w X.K X.mg X.base CX k f sp) (hr : Room (k + 1) X.A) (hx : Passes CX X E) (hN : X.N[i]? = some x) (hv : Vis X.env.scope x) (he : PE X e te)
    (hd : (x == ("__debug__" : Str)) = false := by decide) (hcd : (x == ("__classdict__" : Str)) = false := by decide) (hst : starEach [.Starred e p2] X.env = [(true, eval e X.env)] := by rfl) :
    PE X (.Call (.Name x p) [.Starred e p2] [] pos) (tMakeSV X.K C i sp E te) := by
  refine ⟨fun pins s σ H Q I h => ?_⟩
  obtain ⟨hs, h⟩ := h
  refine wpAny_Call_Name_kw (thn ((pe_var (pos := p) (i := i) hN hv hd hcd).run pins s σ H (fun v H1 => v = .ref C ∧ H1 = H) I ⟨.ref C, hs, rfl, rfl⟩) fun u s1 ⟨v, H1, I1, r1, ev, eH⟩ => ?_)
  subst ev
  rw [eH] at I1
  cases r1
  refine PySem.W.callWith_S (h₀ := X.base) I.ok.mod.kin M.kp (thn (he.run pins s1 σ H _ I1 h) fun v s2 ⟨y, H2, I2, ry, a, xs, ey, hxs, q⟩ => ?_) hst
  subst ey
  cases (show v = Value.ref a from ry)
  exact StX.star_any I2 hxs fun us s3 I3 rv => ⟨I3.kIn, StX.run_makeR M F hr hx I3 rv q⟩

/-! ### own __contains__, own __len__ -/
def rNotInOwn (C : Addr) (sp : Sp) (E : XK) : R2 := fun x y H Q => ∃ a dx fs, y = .ref a ∧ H a = some (.ins C dx fs) ∧ sp [y, x] H (fun v H' => ∃ b, v = .bl b ∧ Q (.bl (!b)) H') E
theorem op_notInOwn {n : Nat} {g : Addr} (hs : PySem.W.findIn X.K (.ref C) "__contains__" = some (some (.ref g))) (hf : PySem.W.isFn X.K (.ref g) = true) (F : FnR X.prog X.w X.K X.mg X.base CX n g sp) (hr : Room n X.A) (hx : Passes CX X E) :
    OpR X (compareOp .NotIn) (rNotInOwn C sp E) := by
  intro pins s σ H x y v u Q I rx ry hq
  obtain ⟨a, dx, fs, rfl, ha, q⟩ := hq
  cases (show u = Value.ref a from ry)
  obtain ⟨mA, J, _⟩ := ins_get I.hok ha
  obtain ⟨od, J, _⟩ := J.look
  obtain ⟨m, hF⟩ := I.fr
  refine PySem.W.notIn_K hF I.ok.mod.kin J hs hf (thn (wpAny_call (run_fnR (us := [.ref a, v]) (vs := [.ref a, x]) F hr hx I (.cons rfl (.cons rx .nil)) q)) fun r s' z => ?_)
  obtain ⟨z, H', I', rz, b, eb, qz⟩ := z
  subst eb
  cases (show r = Value.bool b from rz)
  exact wpAny_truthy_bool ⟨.bl (!b), H', I', rfl, qz⟩
def rLenOwn (C : Addr) (sp : Sp) (E : XK) : List V → Hp → VK → Prop := fun xs H Q => ∃ a dx fs, xs = [.ref a] ∧ H a = some (.ins C dx fs) ∧ sp [.ref a] H (fun v H' => ∃ n : Int, v = .int n ∧ (0 ≤ n ∧ n < 2 ^ 63) ∧ Q (.int n) H') E
theorem call_lenOwn {n : Nat} {g : Addr} (hs : PySem.W.findIn X.K (.ref C) "__len__" = some (some (.ref g))) (hf : PySem.W.isFn X.K (.ref g) = true) (F : FnR X.prog X.w X.K X.mg X.base CX n g sp) (hr : Room (n + 1) X.A) (hx : Passes CX X E) :
    CallR X (.builtin "len") (rLenOwn C sp E) := by
  intro pins s σ H xs us Q I r h
  obtain ⟨a, dx, fs, rfl, ha, q⟩ := h
  obtain ⟨u, rfl, ru⟩ := vals1 r
  cases (show u = Value.ref a from ru)
  obtain ⟨mA, J, _⟩ := ins_get I.hok ha
  obtain ⟨od, J, _⟩ := J.look
  obtain ⟨m, hF⟩ := I.fr
  refine PySem.W.len_K hF I.ok.mod.kin J hs hf (thn (wpAny_call (SlX.run_at (us := [.ref a]) (ws := [.ref a]) F hr.in1 I.env0.in1 hx I (.cons rfl .nil) q)) fun r s' z => ?_)
  obtain ⟨z, H', I', rz, k, ek, hk, qz⟩ := z
  subst ek
  obtain ⟨t, e⟩ := (show ∃ t, r = Value.int k t from rz)
  subst e
  exact ⟨hk, .int k, H', I'.tok _, ⟨_, rfl⟩, qz⟩

/-! ### repr of data -/
/-- repr(x), x data whose text has a size -/
def rReprD (K : PySem.W.Frag) : List V → Hp → VK → Prop := fun xs H Q => ∃ a d, xs = [.ref a] ∧ Dp K H (.ref a) d ∧ d.showable = true ∧ d.hasDict = false ∧ d.depth ≤ 30 ∧ d.shown.length ≤ sizeLine ∧ Q (.str d.shown) H
theorem call_reprD (hg : X.A.guards = some []) (hr : Room k X.A) : CallR X (.builtin "repr") (rReprD X.K) := by
  intro pins s σ H xs us Q I r h
  obtain ⟨a, d, rfl, hd, h1, h2, h3, h4, q⟩ := h
  obtain ⟨u, rfl, ru⟩ := vals1 r
  cases (show u = Value.ref a from ru)
  obtain ⟨as, hread⟩ := Dp.reads I d (.ref a) (.ref a) hd rfl
  refine PySem.repr_of_reads' (h₀ := s.heap) hread h1 (fun z => by rw [h2] at z; cases z) hg (by have := hr.units; omega) (fun b o e => e) (fun h' u tk hk => ?_) h4
  exact ⟨.str d.shown, H, I.kept (t' := tk) hk, ⟨_, rfl⟩, q⟩
end

/-! ### promises that know that nothing is under way (no repr around) -/
def FnGd (P : Program) (w : World) (K : PySem.W.Frag) (mg : Str → Option Value) (base : Heap) (CX : CXT) (k : Nat) (f : Addr) (sp : Sp) : Prop :=
  ∀ (A : Around) (outer : List Env) (s : Shared) (H : Hp) (us : List Value) (vs : List V) (Q : VK) (E : XK), A.guards = some [] → Room k A → Env0 P w K mg base A outer s H → Vals vs us → sp vs H Q E →
    codeAny (model P w) A (.call (.ref f) ⟨us, []⟩) (CR CX outer P w H s Q E) s
section
variable {X : Cx} {CX : CXT} {k i : Nat} {f C : Addr} {sp : Sp} {E : XK} {x m : Str} {e o : Expr} {es : List Expr} {te ta : TE} {t : TA} {p p2 pos apos : Pos}
theorem run_fnGd {pins : List (Addr × Obj)} {σ : L2.St} {H : Hp} {s : Shared} {Q : VK} {us : List Value} {vs : List V} (F : FnGd X.prog X.w X.K X.mg X.base CX k f sp) (hA : X.A.guards = some []) (hr : Room k X.A) (hx : Passes CX X E) (I : Inv X pins σ H s) (r : Vals vs us) (h : sp vs H Q E) :
    codeAny (model X.prog X.w) X.A (.call (.ref f) ⟨us, []⟩) (fun r s' => match r with | .ok (.ret v) => EP X pins σ Q v s' | .ok _ => False | .error e => X.xe e s') s := by
  refine codeAny_mono (F X.A X.stack s H us vs Q E hA hr I.env0 r h) fun r s' hq => ?_
  match r, hq with
  | .error e, hq => exact hx pins σ H s e s' I hq
  | .ok (.ret u), hq => exact I.after hq
theorem pe_callGd (F : FnGd X.prog X.w X.K X.mg X.base CX k f sp) (hA : X.A.guards = some []) (hr : Room k X.A) (hg : Gl X x) (hm : X.mg x = some (.ref f)) (hk : PySem.W.keepIn X.K (.ref f) = true) (hx : Passes CX X E) (ha : PA X (e :: es) t)
    (hd : (x == ("__debug__" : Str)) = false := by decide) (he : starEach (e :: es) X.env = (false, eval e X.env) :: starEach es X.env := by rfl) (hpl : (backTo pos (starEach es X.env)).any (·.1) = false := by rfl) :
    PE X (.Call (.Name x p) (e :: es) [] pos) (tCallR sp E t) := ⟨fun pins s σ H Q I h =>
  wpAny_Call_Name_kw (ld_glob I hg hm (PySem.W.callWith_K (h₀ := X.base) I.ok.mod.kin hk
    (thn (ha.run pos pins s σ H _ I h) fun us s1 ⟨vs, H1, I1, r, q⟩ => ⟨I1.kIn, wpAny_call (run_fnGd F hA hr hx I1 r q)⟩) he hpl) hd)⟩
end
section
variable {P : Program} {w : World} {K : PySem.W.Frag} {mg : Str → Option Value} {base : Heap}
/-- a def by its body, where nothing is under way -/
theorem okGd {qual nm : Str} {st : Stmt} {f : Addr} {fd : FuncData} {N ps : List Str} {k : Nat} {sp : Sp} (F : Fun K nm qual st f fd) (S : FnScope N ps (defScope st)) (len : ∀ vs H Q E, sp vs H Q E → vs.length = ps.length) (hb : Binds K fd ps [])
    (hbody : ∀ (cdv : Value) (A : Around) (outer : List Env) (s : Shared) (H : Hp) (vs : List V) (Q : VK) (E : XK), (A.deeper (envOfC qual (defScope st) s.heap.objs.size f cdv)).guards = some [] → Room k (A.deeper (envOfC qual (defScope st) s.heap.objs.size f cdv)) → sp vs H Q E →
      ∃ t, PSs (cxOf CX0 P w K mg base N qual (defScope st) f cdv A outer s H E).nox (defBody st) t ∧ t { nx := fun _ H' => Q .non H', rt := Q } (start N vs) H) : FnGd P w K mg base CX0 (k + 1) f sp := by
  intro A outer s H us vs Q E hA hr e0 rv hsp
  obtain ⟨oc, od, kV, doc, pm, an, cdv, ct, osl, rfl, lk, hcd⟩ := F.ex
  have hl : us.length = ps.length := by rw [← rv.length]; exact len _ _ _ _ hsp
  have hbd := hb s us (e0.mod.kin.keeps fun b o e => (e0.bs b o e).1) (by simpa using hl)
  rw [List.append_nil] at hbd
  refine StX.run_bnd (G := fun vs' H' => vs' = vs ∧ H' = H) lk hcd S hr e0 (fun A' Ex Q' h => hbd _ _ _ _ (h s H vs us e0 Un.refl rfl (fun _ _ z => z) rv (by rw [rv.length]; exact hl) ⟨rfl, rfl⟩)) fun s2 H2 vs2 ⟨e1, e2⟩ hr2 => ?_
  subst e1 e2
  obtain ⟨t, h, q⟩ := hbody cdv A outer s2 H2 vs2 Q E hA hr2 hsp
  exact ⟨t, h.nox, q⟩
/-- a def by its body, its promise by positional values -/
theorem okR {qual nm : Str} {st : Stmt} {f : Addr} {fd : FuncData} {N ps : List Str} {k : Nat} {sp : Sp} (F : Fun K nm qual st f fd) (S : FnScope N ps (defScope st)) (len : ∀ vs H Q E, sp vs H Q E → vs.length = ps.length) (hb : Binds K fd ps [])
    (hbody : ∀ (cdv : Value) (A : Around) (outer : List Env) (s : Shared) (H : Hp) (vs : List V) (Q : VK) (E : XK), Room k (A.deeper (envOfC qual (defScope st) s.heap.objs.size f cdv)) → sp vs H Q E →
      ∃ t, PSs (cxOf CX0 P w K mg base N qual (defScope st) f cdv A outer s H E).nox (defBody st) t ∧ t { nx := fun _ H' => Q .non H', rt := Q } (start N vs) H) : FnR P w K mg base CX0 (k + 1) f sp :=
  (((F.ok S len hbody).raw hb .nil).imp fun vs H Q E h => by rw [List.append_nil]; exact h)
end
/-- a method with one parameter ahead of a star parameter -/
theorem okStar {P : Program} {w : World} {K : PySem.W.Frag} {mg : Str → Option Value} {base : Heap} {qual nm p1 pv : Str} {st : Stmt} {f : Addr} {fd : FuncData} {N : List Str} {k : Nat} {sp : Sp} (F : Fun K nm qual st f fd) (S : FnScope N [p1, pv] (defScope st))
    (h0 : ∀ (kV doc pm : Value) (an : Option Addr) (cdv ct a : Value), bindArgs (PySem.W.fnOf nm qual (defArgs st) (defBody st) (defScope st) .none kV doc pm an cdv ct) ⟨[a], []⟩ = (newTuple [] >>= fun t => pure [(p1, a), (pv, t)]))
    (h1 : ∀ (kV doc pm : Value) (an : Option Addr) (cdv ct a r : Value) (rs : List Value), bindArgs (PySem.W.fnOf nm qual (defArgs st) (defBody st) (defScope st) .none kV doc pm an cdv ct) ⟨a :: r :: rs, []⟩ = (newTuple (r :: rs) >>= fun t => pure [(p1, a), (pv, t)]))
    (hbody : ∀ (cdv : Value) (A : Around) (outer : List Env) (s : Shared) (H : Hp) (vs : List V) (Q : VK) (E : XK), Room k (A.deeper (envOfC qual (defScope st) s.heap.objs.size f cdv)) → sp vs H Q E →
      ∃ t, PSs (cxOf CX0 P w K mg base N qual (defScope st) f cdv A outer s H E).nox (defBody st) t ∧ t { nx := fun _ H' => Q .non H', rt := Q } (start N vs) H) :
    FnR P w K mg base CX0 (k + 1) f (fun vs H Q E => ∃ v rest, vs = v :: rest ∧ rest.length ≤ sizeLine ∧ ∀ p, H p = none → sp [v, .ref p] (upd H p (.tup rest)) Q E) := by
  obtain ⟨oc, od, kV, doc, pm, an, cdv, ct, osl, rfl, lk, hcd⟩ := F.ex
  refine (StX.fn_star (ps := [p1]) (pv := pv) (sp := sp) lk hcd S StX.cxUp_none (StX.bind_star1 (B := fun us => bindArgs (PySem.W.fnOf nm qual (defArgs st) (defBody st) (defScope st) .none kV doc pm an cdv ct) ⟨us, []⟩) (h0 kV doc pm an cdv ct) (h1 kV doc pm an cdv ct)) fun A outer s H vs Q E hr hsp => ?_).imp ?_
  · obtain ⟨t, h, q⟩ := hbody cdv A outer s H vs Q E hr hsp
    exact ⟨t, h.nox, q⟩
  · rintro vs H Q E ⟨v, rest, rfl, hz, q⟩
    exact ⟨[v], rest, rfl, rfl, hz, q⟩
/-! ### rules within a comprehension's block, the written part told -/
section
variable {X : Cx} {K : PySem.W.Frag} {tg e : Expr} {te : TE} {f : Str} {pos : Pos}
def rListOf (K : PySem.W.Frag) : List V → Hp → VK → Prop := fun xs H Q => ∃ p ys, xs = [.ref p] ∧ (SqL K H p ys ∨ SqT K H p ys) ∧ ∀ l, H l = none → Q (.ref l) (upd H l (.lst ys))
theorem listK (h : X.K = K := by rfl) : CallR X (.type "list") (rListOf K) := h ▸ call_list_of
theorem isiK (h : X.K = K := by rfl) : CallR X (.builtin "isinstance") (rIsi K) := h ▸ call_isi
def rLenK (K : PySem.W.Frag) : List V → Hp → VK → Prop := fun xs H Q => ∃ x n, xs = [x] ∧ LenV K x H n ∧ Q (.int n) H
theorem lenK (h : X.K = K := by rfl) : CallR X (.builtin "len") (rLenK K) := h ▸ call_len
theorem ixlK (h : X.K = K := by rfl) : IxR X (rIxL K) := h ▸ ix_list
theorem ixtK (h : X.K = K := by rfl) : IxR X (rIxT K) := h ▸ ix_tup
theorem inK (h : X.K = K := by rfl) : OpR X (compareOp .In) (rIn K false) := h ▸ op_in_seq
theorem notInK (h : X.K = K := by rfl) : OpR X (compareOp .NotIn) (rIn K true) := h ▸ op_notIn_seq
theorem pil (hl : PE X e te) (h : X.K = K := by rfl) : PI X tg e (iList K te) := h ▸ pi_list hl
theorem pit (hl : PE X e te) (h : X.K = K := by rfl) : PI X tg e (iTup K te) := h ▸ pi_tup hl
theorem fldK (he : PE X e te) (h : X.K = K := by rfl) (hb : attributeBase e f X.env (eval e X.env) = eval e X.env := by rfl) : PE X (.Attribute e f pos) (tFld K te f) := h ▸ pe_fld he hb
end
end Rg
/-! RgB: the end of a law whose promise knows that nothing is under way. -/
namespace Rg
open PySem PySem.Spec PyProof.Rows L2

/-- the heap at the law's entry: the script alone, frozen, where it is no object of the module -/
def H0 (K : PySem.W.Frag) (a : Addr) (vs : List Value) (ns : List Int) : Hp := fun b =>
  if b = a ∧ K.lookup a = none then some (.frz { cls := .type "list", data := .seq vs.toArray } (.lst (ns.map V.int))) else none
section
variable {K : PySem.W.Frag} {a : Addr} {vs : List Value} {ns : List Int}
theorem H0_some {b : Addr} {u : HO} (h : H0 K a vs ns b = some u) : b = a ∧ K.lookup a = none ∧ u = .frz { cls := .type "list", data := .seq vs.toArray } (.lst (ns.map V.int)) := by
  by_cases c : b = a ∧ K.lookup a = none
  · rw [H0, if_pos c] at h
    exact ⟨c.1, c.2, (Option.some.inj h).symm⟩
  · rw [H0, if_neg c] at h
    cases h
theorem H0_only : Only (H0 K a vs ns) := fun b => by
  by_cases c : b = a ∧ K.lookup a = none
  · exact .inr ⟨_, _, if_pos c⟩
  · exact .inl (if_neg c)
end
theorem law_callG {P : Program} {w : World} {K : PySem.W.Frag} {mg mb : Str → Option Value} {k : Nat} {fa a : Addr} {sp : Sp} {s1 : Shared} {vs : List Value} {ns : List Int}
    (KX : K.In s1.heap) (hns : s1.heap.Ns mainGlobals mg) (hb : s1.heap.Ns builtinsNs mb) (hbb : ∀ x : Str, x ≠ "__name__" → mb x = bootBuiltins x) (hlim : s1.heap.NoLimit) (hg : s1.gens = #[])
    (ha : s1.heap.get? a = some { cls := .type "list", data := .seq vs.toArray }) (hi : IntsAre vs ns) (hl : ns.length ≤ sizeLine) (hr : Room k callerA)
    (F : ∀ base : Heap, K.In base → base.Ns mainGlobals mg → FnGd P w K mg base CX0 k fa sp)
    (hsp : ∀ H : Hp, Only H → SqL K H a (ns.map V.int) → sp [.ref a] H (fun v _ => v = .bl true) fun _ _ _ => False) :
    codeAny (model P w) callerA (.call (.ref fa) ⟨[.ref a], []⟩) (fun r s' => r = .ok (.ret (.bool true)) ∧ OldK s1.heap s'.heap ∧ s'.os = s1.os ∧ AllBare s'.gens) s1 := by
  have rv := vals_ints hi
  have hok : HOk P w (H0 K a vs ns) s1.heap := fun b u z => by
    obtain ⟨rfl, _, rfl⟩ := H0_some z
    exact ⟨ha, by rw [List.length_map]; exact hl, vs, _, rv, ha⟩
  -- what is no script and stands, stands in the hidden heap too
  have dict_in : ∀ {b : Addr} {m : Str → Option Value}, s1.heap.Ns b m → (hidT s1.heap (H0 K a vs ns)).Ns b m := fun {b m} ⟨o, es, ep, e, d, r⟩ => by
    refine ⟨o, es, ep, hidT_get e ?_, d, r⟩
    cases q : H0 K a vs ns b with
    | none => rfl
    | some u =>
      obtain ⟨rfl, _, _⟩ := H0_some q
      rw [ha] at e
      cases e
      cases (show Data.seq vs.toArray _ = Data.dict es ep from d)
  have hKb : K.In (hidT s1.heap (H0 K a vs ns)) := fun b o e => hidT_get (KX b o e) (by
    cases q : H0 K a vs ns b with
    | none => rfl
    | some u =>
      obtain ⟨rfl, n, _⟩ := H0_some q
      rw [n] at e
      cases e)
  have hM : Mod K mg (hidT s1.heap (H0 K a vs ns)) := ⟨hKb, dict_in hns, ⟨mb, dict_in hb, hbb⟩, let ⟨mc, h1, h2⟩ := hlim; ⟨mc, dict_in h1, h2⟩⟩
  have e0 : Env0 P w K mg (hidT s1.heap (H0 K a vs ns)) callerA [] s1 (H0 K a vs ns) :=
    ⟨rfl, hM, fun b o e => of_hidT e, Nat.le_of_eq (hidT_size _ _), trivial, fun b hb => absurd (show b ∈ ([] : List Addr) from hb) (by simp), hok, .of_eq hg⟩
  have hS : SqL K (H0 K a vs ns) a (ns.map V.int) := by
    cases hk : K.lookup a with
    | none => exact .inl (.inr ⟨_, if_pos ⟨rfl, hk⟩⟩)
    | some o =>
      have e := KX a o hk
      rw [ha] at e
      cases e
      exact .inr ⟨_, vs.toArray, _, hk, rfl, rfl, rfl, by rw [List.size_toArray, hi.length]; exact hl, by simpa using rv⟩
  refine codeAny_mono (F _ hKb (dict_in hns) callerA [] s1 (H0 K a vs ns) [.ref a] [.ref a] _ _ rfl hr e0 (.cons rfl .nil) (hsp _ H0_only hS)) fun r s' h => ?_
  match r, h with
  | .error e, h => exact False.elim h
  | .ok (.ret u), h =>
    obtain ⟨v, H', os, bare, un, hok', r', q⟩ := h
    subst q
    cases (show u = Value.bool true from r')
    refine ⟨rfl, OldK.of_keep fun b o e => ?_, os, bare⟩
    cases q : H0 K a vs ns b with
    | none => exact un.keep b o e q (fun z => absurd (show b ∈ ([] : List Addr) from z) (by simp)) (by simp)
    | some u =>
      obtain ⟨_, _, eu⟩ := H0_some q
      rw [eu] at q
      have e2 := (hok' b _ (un.frzs b _ _ q)).1
      rw [(hok b _ q).1] at e
      cases e
      exact e2
theorem walk_ofG {l : PySem.W.OpenLaw} {n k : Nat} {q : Program} {loose : List Str} {XP : (Str → Option Value) → Heap → Prop} {YP : World → Heap → Prop} {d : DefRec} {K : Params → PySem.W.Frag} {sp : PySem.W.Frag → Sp}
    (hn : l.most = some n) (hn2 : n ≤ sizeLine) (hdf : d.params.defaults = []) (hr : Room k callerA) (hY : ∀ (w : World) (h : Heap), YP w h → (K w.params).In h)
    (F : ∀ (w : World) (mg : Str → Option Value) (fa : Addr) (h : Heap), (K w.params).In h → h.Ns mainGlobals mg → mg d.name = some (.ref fa) →
      ∀ base : Heap, (K w.params).In base → base.Ns mainGlobals mg → FnGd l.prog w (K w.params) mg base CX0 k fa (sp (K w.params)))
    (hsp : ∀ (K : PySem.W.Frag) (H : Hp) (a : Addr) (ns : List Int), ns.length ≤ n → Only H → SqL K H a (ns.map V.int) → sp K [.ref a] H (fun v _ => v = .bl true) fun _ _ _ => False) :
    PySem.W.WalkO q loose XP YP l.row.toRowW d [] (fun f vs => PySem.call f vs) :=
  Att.attach_call hn hdf fun w s0 s1 mg mb fa o pm cd doc a vs ns G Y _ _ _ hmg hobj hints hlen hg =>
    law_callG (hY w _ Y) G.T.g G.T.b G.T.builtins G.T.nolimit hg hobj hints (Nat.le_trans hlen hn2) hr (F w mg fa _ (hY w _ Y) G.T.g hmg) fun H hO hS => hsp _ H a ns hlen hO hS
end Rg
/-! RgD: heaps of which some addresses may change, what stays; items, rows, contents; comprehensions by what each item gives. -/
namespace Rg
open PySem PySem.Spec PyProof.Rows L2

/-- H without the addresses of S -/
def hd (S : List Addr) (H : Hp) : Hp := fun a => if a ∈ S then none else H a
/-- objects that nobody changes -/
def stays : HO → Bool
  | .tup _ => true
  | .frz _ _ => true
  | _ => false
/-- all that was tracked outside S stands, and all that nobody changes -/
def Keep (S : List Addr) (H H' : Hp) : Prop := ∀ a o, (a ∉ S ∨ stays o = true) → H a = some o → H' a = some o
section
variable {S T : List Addr} {H H1 H2 H' : Hp} {a b p : Addr} {o u : HO}
theorem hd_in (h : a ∈ S) : hd S H a = none := if_pos h
theorem hd_out (h : a ∉ S) : hd S H a = H a := if_neg h
theorem hd_some (h : hd S H a = some o) : a ∉ S ∧ H a = some o := by
  by_cases c : a ∈ S
  · rw [hd_in c] at h
    cases h
  · rw [hd_out c] at h
    exact ⟨c, h⟩
theorem hd_same : Same (hd S H) H := fun a o h => (hd_some h).2
theorem hd_sub (h : ∀ x ∈ S, x ∈ T) : Same (hd T H) (hd S H) := fun a o e => by
  obtain ⟨n, e⟩ := hd_some e
  rw [hd_out fun z => n (h a z)]
  exact e
theorem Keep.refl : Keep S H H := fun _ _ _ h => h
theorem Keep.trans (x : Keep S H H1) (y : Keep S H1 H2) : Keep S H H2 := fun a o n h => y a o n (x a o n h)
theorem Keep.mono (x : Keep S H H') (h : ∀ y ∈ S, y ∈ T) : Keep T H H' := fun a o n e => x a o (n.imp_left fun n z => n (h a z)) e
theorem Keep.all (x : Keep [] H H') : Keep S H H' := x.mono fun _ z => absurd z (by simp)
theorem Keep.same (x : Keep [] H H') : Same H H' := fun a o h => x a o (.inl (by simp)) h
theorem Keep.of (x : Same H H') : Keep S H H' := fun a o _ h => x a o h
theorem Keep.new (h : H p = none) : Keep S H (upd H p o) := fun a u _ e => by rw [upd_ne (ne_of_none e h)]; exact e
theorem Keep.put (h : p ∈ S) (hu : H p = some u) (hs : stays u = false) : Keep S H (upd H p o) := fun a w n e => by
  rw [upd_ne fun z : a = p => ?_]
  · exact e
  · rw [z, hu] at e
    cases e
    rcases n with n | n
    · exact n (by rw [z]; exact h)
    · rw [hs] at n
      cases n
theorem Keep.hd (x : Keep S H H') (h : ∀ y ∈ S, y ∈ T) : Same (hd T H) (hd T H') := fun a o e => by
  obtain ⟨n, e⟩ := hd_some e
  rw [hd_out n]
  exact x a o (.inl fun z => n (h a z)) e
theorem Keep.at (x : Keep S H H') (n : a ∉ S) (e : H a = some o) : H' a = some o := x a o (.inl n) e
theorem Keep.tup (x : Keep S H H') {xs : List V} (e : H a = some (.tup xs)) : H' a = some (.tup xs) := x a _ (.inr rfl) e
/-- what is free now was free -/
theorem Keep.free (x : Keep S H H') (h : H' a = none) (n : a ∉ S) : H a = none := by
  cases q : H a with
  | none => rfl
  | some o => rw [x a o (.inl n) q] at h; cases h
/-- an object made in between may change as well -/
theorem Keep.drop (x : Keep (p :: S) H H') (h : H p = none) : Keep S H H' := fun a o n e => x a o (n.imp_left fun n z => by
  rcases List.mem_cons.mp z with z | z
  · rw [z, h] at e; cases e
  · exact n z) e
theorem Keep.upd_fresh (x : Keep S H H1) (h : H p = none) : Keep S H (upd H1 p o) := fun a u n e => by
  rw [upd_ne (ne_of_none e h)]
  exact x a u n e
theorem ne_in {S : List Addr} (h : ∀ x ∈ S, H x ≠ none) (hp : H p = none) : p ∉ S := fun z => h p z hp
theorem upd_ne_none (h : H a ≠ none) : upd H p o a ≠ none := by
  unfold upd
  split
  · simp
  · exact h
theorem Keep.there (x : Keep S H H') (n : a ∉ S) (h : H a ≠ none) : H' a ≠ none := by
  cases q : H a with
  | none => exact absurd q h
  | some o => rw [x a o (.inl n) q]; simp
end

section
variable {K : PySem.W.Frag} {H H' : Hp} {a : Addr} {xs : List V}
theorem sqL_same (e : Same H H') (h : SqL K H a xs) : SqL K H' a xs := e.seq h
theorem sqT_same (e : Same H H') (h : SqT K H a xs) : SqT K H' a xs := by
  rcases h with (h | ⟨o, h⟩) | h
  · exact .inl (.inl (e _ _ h))
  · exact .inl (.inr ⟨o, e _ _ h⟩)
  · exact .inr h
theorem Dp.same (e : Same H H') {v : V} {d : PyData} (h : Dp K H v d) : Dp K H' v d :=
  Dp.rec (motive_1 := fun v d _ => Dp K H' v d) (motive_2 := fun vs ds _ => DpAll K H' vs ds)
    .non .bl .int .str (fun h _ ih => .lst (e.seq h) ih) (fun h _ ih => .tup (sqT_same e h) ih) .nil (fun _ _ i1 i2 => .cons i1 i2) h
theorem DpAll.same (e : Same H H') : ∀ {vs : List V} {ds : List PyData}, DpAll K H vs ds → DpAll K H' vs ds
  | _, _, .nil => .nil
  | _, _, .cons h t => .cons (Dp.same e h) (DpAll.same e t)
theorem dpAll_of {γ : Type} {R : V → γ → Prop} {g : γ → PyData} (hR : ∀ v z, R v z → Dp K H v (g z)) : ∀ {vs : List V} {zs : List γ}, Paired R vs zs → DpAll K H vs (zs.map g)
  | _, _, .nil => .nil
  | _, _, .cons h t => .cons (hR _ _ h) (dpAll_of hR t)
theorem paired_mono {α γ : Type} {R R' : α → γ → Prop} (h : ∀ v z, R v z → R' v z) : ∀ {vs : List α} {zs : List γ}, Paired R vs zs → Paired R' vs zs
  | _, _, .nil => .nil
  | _, _, .cons a t => .cons (h _ _ a) (paired_mono h t)
theorem paired_get {α γ : Type} {R : α → γ → Prop} : ∀ {vs : List α} {zs : List γ} {i : Nat} {z : γ}, Paired R vs zs → zs[i]? = some z → ∃ v, vs[i]? = some v ∧ R v z
  | _, _, _, _, .nil, e => by simp at e
  | _, _, 0, _, .cons h _, e => by simp at e; subst e; exact ⟨_, rfl, h⟩
  | _, _, i + 1, z, .cons _ t, e => by
    obtain ⟨v, h1, h2⟩ := paired_get (i := i) (z := z) t (by simpa using e)
    exact ⟨v, by simpa using h1, h2⟩
theorem paired_getV {α γ : Type} {R : α → γ → Prop} : ∀ {vs : List α} {zs : List γ} {i : Nat} {v : α}, Paired R vs zs → vs[i]? = some v → ∃ z, zs[i]? = some z ∧ R v z
  | _, _, _, _, .nil, e => by simp at e
  | _, _, 0, _, .cons h _, e => by simp at e; subst e; exact ⟨_, rfl, h⟩
  | _, _, i + 1, v, .cons _ t, e => by
    obtain ⟨z, h1, h2⟩ := paired_getV (i := i) (v := v) t (by simpa using e)
    exact ⟨z, by simpa using h1, h2⟩
theorem paired_append {α γ : Type} {R : α → γ → Prop} : ∀ {vs ws : List α} {zs ys : List γ}, Paired R vs zs → Paired R ws ys → Paired R (vs ++ ws) (zs ++ ys)
  | _, _, _, _, .nil, s => s
  | _, _, _, _, .cons h t, s => .cons h (paired_append t s)
theorem paired_set {α γ : Type} {R : α → γ → Prop} {v : α} {z : γ} (r : R v z) : ∀ {vs : List α} {zs : List γ} (i : Nat), Paired R vs zs → Paired R (vs.set i v) (zs.set i z)
  | _, _, _, .nil => .nil
  | _, _, 0, .cons _ t => .cons r t
  | _, _, i + 1, .cons h t => .cons h (paired_set r i t)
theorem paired_map {α γ β : Type} {R : α → γ → Prop} {f : β → α} {g : β → γ} : ∀ {l : List β}, (∀ x ∈ l, R (f x) (g x)) → Paired R (l.map f) (l.map g)
  | [], _ => .nil
  | x :: l, h => .cons (h x (by simp)) (paired_map fun y hy => h y (by simp [hy]))
end

theorem paired_eq {γ : Type} {f : γ → V} : ∀ {acc : List V} {zs : List γ}, Paired (fun v z => v = f z) acc zs → acc = zs.map f
  | _, _, .nil => rfl
  | _, _, .cons a t => by rw [a, paired_eq t]; rfl
theorem paired_mem {α γ : Type} {R R' : α → γ → Prop} : ∀ {vs : List α} {zs : List γ}, Paired R vs zs → (∀ (i : Nat) v z, vs[i]? = some v → zs[i]? = some z → R v z → R' v z) → Paired R' vs zs
  | _, _, .nil, _ => .nil
  | _, _, .cons a t, h => .cons (h 0 _ _ rfl rfl a) (paired_mem t fun i v z h1 h2 r => h (i + 1) v z (by simpa using h1) (by simpa using h2) r)
theorem paired_of {α γ : Type} {R : α → γ → Prop} : ∀ {vs : List α} {zs : List γ}, vs.length = zs.length → (∀ (i : Nat) v z, vs[i]? = some v → zs[i]? = some z → R v z) → Paired R vs zs
  | [], [], _, _ => .nil
  | [], _ :: _, h, _ => by simp at h
  | _ :: _, [], h, _ => by simp at h
  | v :: vs, z :: zs, h, k => .cons (k 0 v z rfl rfl) (paired_of (by simpa using h) fun i v z h1 h2 => k (i + 1) v z (by simpa using h1) (by simpa using h2))

/-! ### items, rows, contents -/
/-- an item: an integer, a word, a reference -/
inductive Im where
  | i (n : Int) | s (x : Str) | b (n : Nat)
  deriving DecidableEq
def Im.d : Im → PyData
  | .i n => .int n
  | .s x => .str x
  | .b n => .tuple [.str "box", .int n]
def rowD (r : List Im) : PyData := .list (r.map Im.d)
def contD (c : List (List Im)) : PyData := .list (c.map rowD)
def ImV (H : Hp) (v : V) : Im → Prop
  | .i n => v = .int n
  | .s x => v = .str x
  | .b n => ∃ a, v = .ref a ∧ H a = some (.tup [.str "box", .int n])
abbrev ImsV (H : Hp) : List V → List Im → Prop := Paired (ImV H)
/-- a list of items, of rows, none of whose lists stands in S -/
def RowV (S : List Addr) (H : Hp) (v : V) (r : List Im) : Prop := ∃ a xs, v = .ref a ∧ a ∉ S ∧ H a = some (.lst xs) ∧ ImsV H xs r
abbrev RowsV (S : List Addr) (H : Hp) : List V → List (List Im) → Prop := Paired (RowV S H)
def ContV (S : List Addr) (H : Hp) (v : V) (c : List (List Im)) : Prop := ∃ a vs, v = .ref a ∧ a ∉ S ∧ H a = some (.lst vs) ∧ RowsV S H vs c
section
variable {K : PySem.W.Frag} {M S : List Addr} {H H' : Hp} {v : V}
theorem ImV.keep (k : Keep M H H') : ∀ {x : Im}, ImV H v x → ImV H' v x
  | .i _, h => h
  | .s _, h => h
  | .b _, ⟨a, h1, h2⟩ => ⟨a, h1, k.tup h2⟩
theorem ImV.dp : ∀ {x : Im}, ImV H v x → Dp K H v x.d
  | .i _, h => by rw [show v = _ from h]; exact .int _
  | .s _, h => by rw [show v = _ from h]; exact .str _
  | .b _, ⟨a, h1, h2⟩ => by rw [h1]; exact .tup (.of h2) (.cons (.str _) (.cons (.int _) .nil))
theorem ImsV.keep (k : Keep M H H') {vs : List V} {r : List Im} (h : ImsV H vs r) : ImsV H' vs r := paired_mono (fun _ _ z => z.keep k) h
theorem RowV.keep (k : Keep M H H') (hs : ∀ m ∈ M, m ∈ S) {r : List Im} : RowV S H v r → RowV S H' v r := fun ⟨a, xs, h1, h2, h3, h4⟩ => ⟨a, xs, h1, h2, k.at (fun z => h2 (hs a z)) h3, h4.keep k⟩
theorem RowV.dp {r : List Im} : RowV S H v r → Dp K H v (rowD r) := fun ⟨a, xs, h1, _, h2, h3⟩ => by rw [h1]; exact .lst (.of h2) (dpAll_of (fun _ _ z => z.dp) h3)
theorem RowsV.keep (k : Keep M H H') (hs : ∀ m ∈ M, m ∈ S) {vs : List V} {c : List (List Im)} (h : RowsV S H vs c) : RowsV S H' vs c := paired_mono (fun _ _ z => z.keep k hs) h
theorem ContV.keep (k : Keep M H H') (hs : ∀ m ∈ M, m ∈ S) {c : List (List Im)} : ContV S H v c → ContV S H' v c := fun ⟨a, xs, h1, h2, h3, h4⟩ => ⟨a, xs, h1, h2, k.at (fun z => h2 (hs a z)) h3, RowsV.keep k hs h4⟩
theorem ContV.dp {c : List (List Im)} : ContV S H v c → Dp K H v (contD c) := fun ⟨a, xs, h1, _, h2, h3⟩ => by rw [h1]; exact .lst (.of h2) (dpAll_of (fun _ _ z => z.dp) h3)
/-- fewer addresses are hidden -/
theorem RowV.sub {T : List Addr} (hs : ∀ x ∈ S, x ∈ T) {r : List Im} : RowV T H v r → RowV S H v r := fun ⟨a, xs, h1, h2, h3⟩ => ⟨a, xs, h1, fun z => h2 (hs a z), h3⟩
theorem ContV.sub {T : List Addr} (hs : ∀ x ∈ S, x ∈ T) {c : List (List Im)} : ContV T H v c → ContV S H v c := fun ⟨a, xs, h1, h2, h3, h4⟩ => ⟨a, xs, h1, fun z => h2 (hs a z), h3, paired_mono (fun _ _ z => z.sub hs) h4⟩
/-- an address that was free is hidden too -/
theorem RowV.more {p : Addr} (hp : H p = none) {r : List Im} : RowV S H v r → RowV (p :: S) H v r := fun ⟨a, xs, h1, h2, h3, h4⟩ =>
  ⟨a, xs, h1, fun z => (List.mem_cons.mp z).elim (fun e => by rw [e, hp] at h3; cases h3) h2, h3, h4⟩
theorem ContV.more {p : Addr} (hp : H p = none) {c : List (List Im)} : ContV S H v c → ContV (p :: S) H v c := fun ⟨a, xs, h1, h2, h3, h4⟩ =>
  ⟨a, xs, h1, fun z => (List.mem_cons.mp z).elim (fun e => by rw [e, hp] at h3; cases h3) h2, h3, paired_mono (fun _ _ z => z.more hp) h4⟩
end

/-! ### what a comprehension gives, item by item -/
section
variable {γ : Type} {M : List Addr} {Jv : Hp → Prop} {Rel : Hp → V → γ → Prop} {H1 : Hp} {D : Addr} {Qd : Hp → Prop} {J : L2.It} {n : Nat} {Yx : Nat → V → Hp → Prop} {Ok : Nat → γ → Prop} {g : TG} {te : TE} {vs : List Nat} {σ : L2.St}
/-- M: the addresses that the items' making may change; Jv: what holds of them -/
theorem lc_itP {Pw : V → V → Prop} (hD : H1 D = none) (hM : ∀ m ∈ M, H1 m ≠ none) (jst : ∀ H H', (∀ m ∈ M, H' m = H m) → Jv H → Jv H') (j0 : Jv H1) (hn : n ≤ 100000)
    (go : ∀ i H, i < n → Keep M H1 H → J.go i H) (stop : ∀ H, Keep M H1 H → J.stop n H)
    (yld : ∀ i H x H', i < n → Keep M H1 H → J.yld i H x H' → Keep [] H H' ∧ (∀ m ∈ M, H' m = H m) ∧ Yx i x H')
    (hRel : ∀ H H' y z, Keep (D :: M) H H' → Rel H y z → Rel H' y z)
    (step : ∀ i x H acc, i < n → Keep M H1 H → Jv H → H D = some (.lst acc) → (∀ y ∈ acc, ∃ z, Rel H y z) → Yx i x H → ∀ Qe : VK, (∀ y z H', Keep M H H' → Jv H' → Ok i z → Rel H' y z → (∀ y' ∈ acc, Pw y' y) → Qe y H') →
      g x (wipe σ vs) H fun σ2 H2 => wipe σ2 vs = wipe σ vs ∧ te σ2 H2 Qe)
    (gm : ∀ x σ H Q Q', (∀ σ' H', Q σ' H' → Q' σ' H') → g x σ H Q → g x σ H Q')
    (fin : ∀ acc zs H', Keep M H1 H' → Jv H' → H' D = some (.lst acc) → acc.Pairwise Pw → Paired (fun y z => Rel H' y z) acc zs → zs.length = n → (∀ i z, zs[i]? = some z → Ok i z) → Qd H') :
    ∃ W : Nat → Nat → Hp → Prop, (∃ m, W 0 m (upd H1 D (.lst []))) ∧ ∀ i m H, W i m H →
      (J.stop i H ∧ Qd H) ∨ (J.go i H ∧ ∃ Nx : Hp → Prop, (∀ H', Nx H' → ∃ m', m' < m ∧ W (i + 1) m' H') ∧ ∀ x H', J.yld i H x H' → g x (wipe σ vs) H' fun σ2 H2 => wipe σ2 vs = wipe σ vs ∧ tYes σ2 H2 fun b H3 =>
        if b = true then te σ2 H3 fun y H4 => ∃ acc, H4 D = some (.lst acc) ∧ acc.length < sizeLine ∧ Nx (upd H4 D (.lst (acc ++ [y]))) else Nx H3) := by
  have nD : D ∉ M := ne_in hM hD
  refine ⟨fun i m H => m = n - i ∧ i ≤ n ∧ Keep M H1 H ∧ Jv H ∧ ∃ acc zs, H D = some (.lst acc) ∧ acc.Pairwise Pw ∧ Paired (fun y z => Rel H y z) acc zs ∧ zs.length = i ∧ ∀ j z, zs[j]? = some z → Ok j z, ⟨n, ?_⟩, ?_⟩
  · refine ⟨rfl, Nat.zero_le _, Keep.new hD, jst _ _ (fun m hm => upd_ne fun z => nD (z ▸ hm)) j0, [], [], upd_same, .nil, .nil, rfl, fun j z e => by simp at e⟩
  · rintro i m H ⟨rfl, hi, k, jv, acc, zs, hA, hW, hP, hL, hO⟩
    by_cases hlt : i < n
    · refine .inr ⟨go i H hlt k, fun H' => i + 1 ≤ n ∧ Keep M H1 H' ∧ Jv H' ∧ ∃ acc zs, H' D = some (.lst acc) ∧ acc.Pairwise Pw ∧ Paired (fun y z => Rel H' y z) acc zs ∧ zs.length = i + 1 ∧ ∀ j z, zs[j]? = some z → Ok j z,
        fun H' h => ⟨n - (i + 1), by omega, rfl, h⟩, fun x H' hy => ?_⟩
      obtain ⟨k1, hm1, yx⟩ := yld i H x H' hlt k hy
      have k2 : Keep M H1 H' := k.trans k1.all
      refine gm _ _ _ _ _ (fun σ2 H2 q => ?_) (step i x H' acc hlt k2 (jst _ _ hm1 jv) (k1.same D _ hA) (fun y hy => let ⟨i, h1⟩ := List.getElem?_of_mem hy; let ⟨z, _, r⟩ := paired_getV hP h1; ⟨z, hRel _ _ _ _ k1.all r⟩) yx
        (fun y H4 => ∃ acc, H4 D = some (.lst acc) ∧ acc.length < sizeLine ∧ (fun H' => i + 1 ≤ n ∧ Keep M H1 H' ∧ Jv H' ∧ ∃ acc zs, H' D = some (.lst acc) ∧ acc.Pairwise Pw ∧ Paired (fun y z => Rel H' y z) acc zs ∧ zs.length = i + 1 ∧ ∀ j z, zs[j]? = some z → Ok j z) (upd H4 D (.lst (acc ++ [y]))))
        (fun y z H4 k4 j4 o4 r4 w4 => ?_))
      · exact ⟨q.1, by unfold tYes; dsimp only; rw [if_pos rfl]; exact q.2⟩
      · have hA4 : H4 D = some (.lst acc) := k4.at nD (k1.same D _ hA)
        have al : acc.length = i := by rw [hP.length, hL]
        have k5 : Keep (D :: M) H4 (upd H4 D (.lst (acc ++ [y]))) := Keep.put (by simp) hA4 rfl
        refine ⟨acc, hA4, Nat.lt_of_le_of_lt (show acc.length ≤ 100000 by omega) (by decide), hlt, (k2.trans k4).upd_fresh hD, jst _ _ (fun m hm => upd_ne fun z => nD (z ▸ hm)) j4, acc ++ [y], zs ++ [z], upd_same, List.pairwise_append.mpr ⟨hW, List.pairwise_singleton _ _, fun a ha b hb => by rw [List.mem_singleton] at hb; rw [hb]; exact w4 a ha⟩, ?_, by rw [List.length_append, hL]; rfl, fun j w e => ?_⟩
        · have kx : Keep (D :: M) H (upd H4 D (.lst (acc ++ [y]))) := ((k1.all (S := M)).trans k4 |>.mono fun m hm => List.mem_cons_of_mem _ hm).trans k5
          exact Paired.snoc (paired_mono (fun y z r => hRel _ _ y z kx r) hP) (hRel _ _ _ _ k5 r4)
        · rw [List.getElem?_append] at e
          by_cases c : j < zs.length
          · rw [if_pos c] at e
            exact hO j w e
          · rw [if_neg c] at e
            have hj : j - zs.length = 0 := by
              cases q : j - zs.length with
              | zero => rfl
              | succ k => rw [q] at e; simp at e
            rw [hj] at e
            simp at e
            have : j = i := by omega
            rw [this, ← e]
            exact o4
    · have e : i = n := by omega
      subst e
      exact .inl ⟨stop H k, fin acc zs H k jv hA hW hP hL hO⟩
theorem lc_it (hD : H1 D = none) (hM : ∀ m ∈ M, H1 m ≠ none) (jst : ∀ H H', (∀ m ∈ M, H' m = H m) → Jv H → Jv H') (j0 : Jv H1) (hn : n ≤ 100000)
    (go : ∀ i H, i < n → Keep M H1 H → J.go i H) (stop : ∀ H, Keep M H1 H → J.stop n H)
    (yld : ∀ i H x H', i < n → Keep M H1 H → J.yld i H x H' → Keep [] H H' ∧ (∀ m ∈ M, H' m = H m) ∧ Yx i x H')
    (hRel : ∀ H H' y z, Keep (D :: M) H H' → Rel H y z → Rel H' y z)
    (step : ∀ i x H, i < n → Keep M H1 H → Jv H → H D ≠ none → Yx i x H → ∀ Qe : VK, (∀ y z H', Keep M H H' → Jv H' → Ok i z → Rel H' y z → Qe y H') →
      g x (wipe σ vs) H fun σ2 H2 => wipe σ2 vs = wipe σ vs ∧ te σ2 H2 Qe)
    (gm : ∀ x σ H Q Q', (∀ σ' H', Q σ' H' → Q' σ' H') → g x σ H Q → g x σ H Q')
    (fin : ∀ acc zs H', Keep M H1 H' → Jv H' → H' D = some (.lst acc) → Paired (fun y z => Rel H' y z) acc zs → zs.length = n → (∀ i z, zs[i]? = some z → Ok i z) → Qd H') :
    ∃ W : Nat → Nat → Hp → Prop, (∃ m, W 0 m (upd H1 D (.lst []))) ∧ ∀ i m H, W i m H →
      (J.stop i H ∧ Qd H) ∨ (J.go i H ∧ ∃ Nx : Hp → Prop, (∀ H', Nx H' → ∃ m', m' < m ∧ W (i + 1) m' H') ∧ ∀ x H', J.yld i H x H' → g x (wipe σ vs) H' fun σ2 H2 => wipe σ2 vs = wipe σ vs ∧ tYes σ2 H2 fun b H3 =>
        if b = true then te σ2 H3 fun y H4 => ∃ acc, H4 D = some (.lst acc) ∧ acc.length < sizeLine ∧ Nx (upd H4 D (.lst (acc ++ [y]))) else Nx H3) :=
  lc_itP (Pw := fun _ _ => True) hD hM jst j0 hn go stop yld hRel (fun i x H acc h1 h2 h3 h4 _ h6 Qe hQ => step i x H h1 h2 h3 (by rw [h4]; simp) h6 Qe fun y z H' a b c d => hQ y z H' a b c d fun _ _ => trivial) gm
    fun acc zs H' a b c _ e f g => fin acc zs H' a b c e f g
end
theorem gName_mono {i : Nat} : ∀ (x : V) (σ : L2.St) (H : Hp) (Q Q' : L2.St → Hp → Prop), (∀ σ' H', Q σ' H' → Q' σ' H') → gName i x σ H Q → gName i x σ H Q' := fun _ _ _ _ _ h q => h _ _ q
/-! the three things of a list, a tuple that stands still -/
section
variable {K : PySem.W.Frag} {M : List Addr} {H1 : Hp} {a : Addr} {xs : List V}
theorem it_list (h : SqL K (hd M H1) a xs) : (∀ i H, i < xs.length → Keep M H1 H → (Itl K a).go i H) ∧ (∀ H, Keep M H1 H → (Itl K a).stop xs.length H) ∧
    ∀ i H x H', i < xs.length → Keep M H1 H → (Itl K a).yld i H x H' → Keep [] H H' ∧ (∀ m ∈ M, H' m = H m) ∧ (xs[i]? = some x ∧ H' = H) := by
  have q : ∀ H, Keep M H1 H → SqL K H a xs := fun H k => ((Keep.hd k fun _ z => z).trans hd_same).seq h
  refine ⟨fun i H hi k => ⟨xs, xs[i], q H k, by simp [hi]⟩, fun H k => ⟨xs, q H k, Nat.le_refl _⟩, fun i H x H' hi k y => ?_⟩
  obtain ⟨rfl, y⟩ := y
  exact ⟨.refl, fun _ _ => rfl, y xs (q _ k), rfl⟩
theorem it_tup (h : SqT K (hd M H1) a xs) : (∀ i H, i < xs.length → Keep M H1 H → (Itt K a).go i H) ∧ (∀ H, Keep M H1 H → (Itt K a).stop xs.length H) ∧
    ∀ i H x H', i < xs.length → Keep M H1 H → (Itt K a).yld i H x H' → Keep [] H H' ∧ (∀ m ∈ M, H' m = H m) ∧ (xs[i]? = some x ∧ H' = H) := by
  have q : ∀ H, Keep M H1 H → SqT K H a xs := fun H k => sqT_same ((Keep.hd k fun _ z => z).trans hd_same) h
  refine ⟨fun i H hi k => ⟨xs, xs[i], q H k, by simp [hi]⟩, fun H k => ⟨xs, q H k, Nat.le_refl _⟩, fun i H x H' hi k y => ?_⟩
  obtain ⟨rfl, y⟩ := y
  exact ⟨.refl, fun _ _ => rfl, y xs (q _ k), rfl⟩
theorem it_range {lo : Int} {n : Nat} : (∀ i H, i < n → Keep M H1 H → (Itr lo n).go i H) ∧ (∀ H, Keep M H1 H → (Itr lo n).stop n H) ∧
    ∀ i H x H', i < n → Keep M H1 H → (Itr lo n).yld i H x H' → Keep [] H H' ∧ (∀ m ∈ M, H' m = H m) ∧ (x = .int (lo + i) ∧ H' = H) :=
  ⟨fun i _ hi _ => hi, fun _ _ => Nat.le_refl n, fun i H x H' _ _ ⟨e, y⟩ => by subst e; exact ⟨.refl, fun _ _ => rfl, y, rfl⟩⟩
theorem it_str {x : Str} : (∀ i H, i < x.cps.size → Keep M H1 H → (Its x).go i H) ∧ (∀ H, Keep M H1 H → (Its x).stop x.cps.size H) ∧
    ∀ i H y H', i < x.cps.size → Keep M H1 H → (Its x).yld i H y H' → Keep [] H H' ∧ (∀ m ∈ M, H' m = H m) ∧ ((∃ c, x.cps[i]? = some c ∧ y = .str ⟨#[c]⟩) ∧ H' = H) :=
  ⟨fun i _ hi _ => hi, fun _ _ => Nat.le_refl _, fun i H y H' _ _ ⟨e, z⟩ => by subst e; exact ⟨.refl, fun _ _ => rfl, z, rfl⟩⟩
/-- enumerate: the pair is a new tuple -/
theorem it_enum (h : SqL K (hd M H1) a xs) (hM : ∀ m ∈ M, H1 m ≠ none) : (∀ i H, i < xs.length → Keep M H1 H → (Ite K a).go i H) ∧ (∀ H, Keep M H1 H → (Ite K a).stop xs.length H) ∧
    ∀ i H x H', i < xs.length → Keep M H1 H → (∀ m ∈ M, H m ≠ none) → (Ite K a).yld i H x H' → Keep [] H H' ∧ (∀ m ∈ M, H' m = H m) ∧ ∃ T y, x = .ref T ∧ xs[i]? = some y ∧ H T = none ∧ H' = upd H T (.tup [.int (i : Nat), y]) := by
  have q : ∀ H, Keep M H1 H → SqL K H a xs := fun H k => ((Keep.hd k fun _ z => z).trans hd_same).seq h
  refine ⟨fun i H hi k => ⟨xs, xs[i], q H k, by simp [hi]⟩, fun H k => ⟨xs, q H k, Nat.le_refl _⟩, fun i H x H' hi k hm y => ?_⟩
  obtain ⟨T, y, e1, e2, e3, e4⟩ := y
  subst e3
  exact ⟨.new e2, fun m z => upd_ne fun e => hm m z (e ▸ e2), T, y, e1, e4 xs (q _ k), e2, rfl⟩
end
/-- [x for row in rows for x in row], rows a list of lists -/
theorem lc2_flat {K : PySem.W.Frag} {l D : Addr} {as : List Addr} {xss : List (List V)} {i j : Nat} {σ : L2.St} {H1 : Hp} {Qd : Hp → Prop} (hD : H1 D = none) (hl : H1 l = some (.lst (as.map V.ref))) (hP : Paired (fun a xs => H1 a = some (.lst xs)) as xss)
    (hz : xss.flatten.length ≤ 100000) (w1 : ∀ x, wipe ((wipe σ [i, j]).set i (some x)) [i, j] = wipe σ [i, j]) (w2 : ∀ x y, wipe ((wipe ((wipe σ [i, j]).set i (some x)) [j]).set j (some y)) [j] = wipe ((wipe σ [i, j]).set i (some x)) [j])
    (w3 : ∀ x, ((wipe σ [i, j]).set i (some x))[i]? = some (some x)) (w4 : ∀ x y, ((wipe ((wipe σ [i, j]).set i (some x)) [j]).set j (some y))[j]? = some (some y)) (fin : ∀ H, Keep [] H1 H → H D = some (.lst xss.flatten) → Qd H) :
    ∃ W : Nat → Nat → Hp → Prop, (∃ m, W 0 m (upd H1 D (.lst []))) ∧ ∀ n m H, W n m H →
      ((Itl K l).stop n H ∧ Qd H) ∨ ((Itl K l).go n H ∧ ∃ Nx : Hp → Prop, (∀ H', Nx H' → ∃ m', m' < m ∧ W (n + 1) m' H') ∧ ∀ x H', (Itl K l).yld n H x H' → gName i x (wipe σ [i, j]) H' fun σ2 H2 => wipe σ2 [i, j] = wipe σ [i, j] ∧ tYes σ2 H2 fun b H3 =>
        if b = true then iList K (tVar i) σ2 H3 fun J1 H4 => ∃ W1 : Nat → Nat → Hp → Prop, (∃ m, W1 0 m H4) ∧ ∀ p k H, W1 p k H →
          (J1.stop p H ∧ Nx H) ∨ (J1.go p H ∧ ∃ Nx1 : Hp → Prop, (∀ H', Nx1 H' → ∃ k', k' < k ∧ W1 (p + 1) k' H') ∧ ∀ x H', J1.yld p H x H' → gName j x (wipe σ2 [j]) H' fun σ3 H5 => wipe σ3 [j] = wipe σ2 [j] ∧ tYes σ3 H5 fun b H6 =>
            if b = true then tVar j σ3 H6 fun y H7 => ∃ acc, H7 D = some (.lst acc) ∧ acc.length < sizeLine ∧ Nx1 (upd H7 D (.lst (acc ++ [y]))) else Nx1 H6)
        else Nx H3) := by
  have hlen := hP.length
  refine ⟨fun n m H => m = as.length - n ∧ n ≤ as.length ∧ Keep [] H1 H ∧ H D = some (.lst (xss.take n).flatten), ⟨as.length, by simp, Nat.zero_le _, .new hD, by rw [upd_same]; simp⟩, ?_⟩
  rintro n m H ⟨rfl, hn, k, hA⟩
  have hl' := k.same l _ hl
  by_cases hlt : n < as.length
  · refine .inr ⟨⟨_, .ref as[n], .of hl', by simp [hlt]⟩, fun H' => n + 1 ≤ as.length ∧ Keep [] H1 H' ∧ H' D = some (.lst (xss.take (n + 1)).flatten), fun H' h => ⟨as.length - (n + 1), by omega, rfl, h⟩, ?_⟩
    rintro x H' ⟨e1, hx⟩
    subst e1
    have hx := hx _ (.of hl')
    have hx2 : x = .ref as[n] := by
      rw [List.getElem?_map, List.getElem?_eq_getElem hlt] at hx
      exact (Option.some.inj hx).symm
    subst hx2
    obtain ⟨xs, hxs, ha⟩ := paired_getV hP (List.getElem?_eq_getElem hlt)
    have hn2 : n < xss.length := by omega
    have exs : xss[n] = xs := by rw [List.getElem?_eq_getElem hn2] at hxs; exact Option.some.inj hxs
    have etk : (xss.take (n + 1)).flatten = (xss.take n).flatten ++ xs := by rw [List.take_succ_eq_append_getElem hn2, List.flatten_append, exs]; simp
    have hsz : ∀ q, q ≤ xs.length → ((xss.take n).flatten ++ xs.take q).length ≤ 100000 := fun q hq => by
      refine Nat.le_trans ?_ hz
      have h1 : xss.flatten = (xss.take n).flatten ++ (xs ++ (xss.drop (n + 1)).flatten) := by
        have h2 : xss = xss.take n ++ (xss[n] :: xss.drop (n + 1)) := by rw [← List.drop_eq_getElem_cons hn2, List.take_append_drop]
        rw [exs] at h2
        exact (congrArg List.flatten h2).trans (by rw [List.flatten_append, List.flatten_cons])
      rw [h1]
      simp only [List.length_append, List.length_take]
      omega
    refine ⟨w1 _, ?_⟩
    unfold tYes
    dsimp only
    rw [if_pos rfl]
    have ha' := k.same _ _ ha
    refine ⟨_, w3 _, _, rfl, ⟨_, .of ha'⟩, fun p q H4 => q = xs.length - p ∧ p ≤ xs.length ∧ Keep [] H1 H4 ∧ H4 D = some (.lst ((xss.take n).flatten ++ xs.take p)), ⟨xs.length, by simp, Nat.zero_le _, k, by simpa using hA⟩, ?_⟩
    rintro p q H4 ⟨rfl, hp, k4, hA4⟩
    have ha4 := k4.same _ _ ha
    by_cases hlt2 : p < xs.length
    · refine .inr ⟨⟨_, xs[p], .of ha4, by simp [hlt2]⟩, fun H' => p + 1 ≤ xs.length ∧ Keep [] H1 H' ∧ H' D = some (.lst ((xss.take n).flatten ++ xs.take (p + 1))), fun H' h => ⟨xs.length - (p + 1), by omega, rfl, h⟩, ?_⟩
      rintro y H5 ⟨e5, hy⟩
      subst e5
      have hy := hy _ (.of ha4)
      rw [List.getElem?_eq_getElem hlt2] at hy
      have hy2 := Option.some.inj hy
      refine ⟨w2 _ _, ?_⟩
      rw [if_pos rfl]
      refine ⟨_, w4 _ _, _, hA4, Nat.lt_of_le_of_lt (hsz p hp) (by decide), hlt2, ?_, ?_⟩
      · exact k4.upd_fresh hD
      · rw [upd_same, List.take_succ_eq_append_getElem hlt2, hy2, List.append_assoc]
    · have e : p = xs.length := by omega
      subst e
      refine .inl ⟨⟨_, .of ha4, Nat.le_refl _⟩, hlt, k4, ?_⟩
      rw [hA4, etk, List.take_length]
  · have e : n = as.length := by omega
    subst e
    refine .inl ⟨⟨_, .of hl', by simp⟩, fin H k ?_⟩
    rw [hA, hlen, List.take_length]
end Rg
/-! RgX: own exceptions over any built-in one, their __init__ calling the built-in class's own. -/
namespace PySem
namespace RgX
open PySem.W PySem.Calls PyProof.Rows PySem.HandSPX
section
open Builtin Builtin.ObjectAttr
variable {prog : Program} {w : World} {A : Around} {R : Result → Shared → Prop} {hp : Heap} {g : Array GenState} {d : Drawn} {t : Nat} {os : OsState}
/-- the first field of an exception, its class over any built-in one -/
theorem first_field {K : W.Frag} {fl : Str} {tk : Tok} {y : Value} {e C : Addr} {slots : Array Value} {cd : ClassData} (KI : K.In hp) (he : hp.get? e = some { cls := .ref C, data := .fields slots }) (hcd : W.clsIn K C = some cd)
    (hne : cd.mro.isEmpty = false) (hob : cd.mro.contains (.type "object") = true) (hps : refuseLoop (.ref e) "__setattr__" cd.mro = pure ()) (hh : cd.hasDict = true) (ha : W.findIn K (.ref C) fl = some none)
    (hq : ∀ h' tk' dx, (∀ b o, b ≠ e → hp.get? b = some o → h'.get? b = some o) → hp.objs.size ≤ dx → dx ≠ e → h'.get? e = some { cls := .ref C, dict := some dx, data := .fields slots } →
      h'.Ns1 dx (fun z => if z = fl then some y else none) → R (.ok (.ret .none)) ⟨h', g, d, tk', os⟩) :
    codeAny (model prog w) A (.call (.builtin "object.__setattr__") ⟨[.ref e, .str fl tk, y], []⟩) R ⟨hp, g, d, t, os⟩ := by
  have J : W.InstAt hp e { cls := .ref C, data := .fields slots } C none := ⟨he, rfl, rfl, trivial⟩
  have ff := F.store_object
  have hes : e ≠ hp.objs.size := Nat.ne_of_lt (Heap.lt_size he)
  have isob : W.Looks (model prog w) hp (isInstance (.ref e) (.type "object")) true := J.type.andThen (W.looks_mroIn KI (by unfold W.mroIn; rw [hcd, Option.bind_some, if_neg (by rw [hne]; decide), hob]))
  refine codeAny_call_builtin ff.slot.plain ff.entry (@W.check_slot (model prog w) _ _ ⟨hp, g, d, t, os⟩ "object.__setattr__" "object" "__setattr__" (.ref e) [.str fl tk, y] [] _ ff.kind ff.split isob (ff.args (.ref e) (.str fl tk) y) ?_)
  have lm : W.Looks (model prog w) hp (mroOf (.ref C)) cd.mro := (W.looks_clsIn KI hcd).andThen .now
  have lt : W.Looks (model prog w) hp (storeTaker? none) none := .now
  have lc : W.Looks (model prog w) hp (classData C) cd := W.looks_clsIn KI hcd
  rw [W.osa_eq, refuse_eq]
  refine wpAny_bind (wpAny_bind (J.type.at (wpAny_bind (lm.at ?_))))
  rw [hps]
  refine wpAny_pure (wpAny_bind (J.type.at (wpAny_bind ((W.looks_findIn KI ha).at (wpAny_bind (lt.at ?_))))))
  show wpAny _ _ (storeInOwnDict (.ref e) (.ref C) (.str fl tk) fl y false) _ _ _
  obtain ⟨c1, c2, c3, c4, c5, c6, c7, c8, c9, c10, c11⟩ := cd
  dsimp only at hh
  subst hh
  unfold storeInOwnDict ownDictForStores
  repeat (first | with_reducible refine store_in_new ?_ ?_ | with_reducible refine wpAny_loadPart_at he ?_ | with_reducible refine lc.at ?_ | wp_step)
  · exact ⟨_, #[], _, (Heap.get?_update_ne _ _ _ _ hes.symm).trans (Heap.get?_push_at rfl rfl), rfl, fun u hu => absurd hu (by simp), fun _ => rfl⟩
  · intro h' tk' n1 sb
    have he1 : (hp.push { cls := .type "dict", data := .dict #[] }).get? e = some { cls := .ref C, data := .fields slots } := Heap.get?_push_of_some _ he
    refine hq h' tk' hp.objs.size (fun b o hb ho => ?_) (Nat.le_refl _) hes.symm ?_ n1
    · exact (sb.2 b (Nat.ne_of_lt (Heap.lt_size ho))).trans ((Heap.get?_update_ne _ _ _ _ hb).trans (Heap.get?_push_of_some _ ho))
    · exact (sb.2 e hes).trans (Heap.get?_update_self _ he1 rfl)
end
end RgX
end PySem
namespace Rg
open PySem PySem.Spec PyProof.Rows L2
/-- an own class, right over the built-in one whose way up is bmB -/
structure ExG (K : PySem.W.Frag) (C : Addr) (bmB : List Value) (newId : String) : Prop where
  q : PySem.W.excInitIn K C bmB newId = true
  hd : PySem.W.hasDictIn K C = true
  sa : PySem.W.findIn K (.ref C) "__setattr__" = some (some (.builtin "object.__setattr__"))
  exC : PySem.W.subIn K (.ref C) (.type "BaseException") = some true
  tyC : PySem.W.typeIn K (.ref C) = some (.type "type")
  kC : PySem.W.keepIn K (.ref C) = true
section
variable {K : PySem.W.Frag} {C : Addr} {bmB : List Value} {B newId initId : String}
theorem ExG.rec_ (T : ExG K C bmB newId) : ∃ nm q N bs bm sn sub ab col dd k0 k1 k2 k3 k5, K.lookup C = some (excClassObj nm q C N bs bm true sn sub ab col dd k0 k1 k2 k3 k5 newId) ∧ PySem.W.excTail bmB bm = true := by
  have hq := T.q
  have hh := T.hd
  unfold PySem.W.excInitIn at hq
  split at hq
  · rename_i dd cd sl ho
    split at hq
    · rename_i C' bm k0 k1 k2 k3 n k5 hm hs
      simp only [Bool.and_eq_true, beq_iff_eq, Bool.not_eq_true'] at hq
      obtain ⟨⟨⟨rfl, rfl⟩, hdel⟩, ht⟩ := hq
      obtain ⟨nm, bs, mro, ns, qn, hd, sn, sub, ab, col, dl⟩ := cd
      dsimp only at hm hdel
      subst hm hdel
      have hdt : hd = true := by
        unfold PySem.W.hasDictIn PySem.W.clsIn at hh
        rw [ho] at hh
        simpa using hh
      subst hdt
      have hsl : sl = #[k0, k1, k2, k3, some (.builtin n), k5] := by
        obtain ⟨l⟩ := sl
        simp only at hs
        rw [hs]
      subst hsl
      exact ⟨nm, qn, ns, bs, bm, sn, sub, ab, col, dd, k0, k1, k2, k3, k5, ho, ht⟩
    · cases hq
  · cases hq
end
section
variable {X : Cx} {pins : List (Addr × Obj)} {σ : L2.St} {H : Hp} {s : Shared} {e0 C : Addr} {fl : Str} {y : V} {u : Value} {bmB : List Value} {B newId initId : String}
/-- the only field of an exception that is made -/
theorem field_ok {Q : Unit → Shared → Prop} {E : Value → Shared → Prop} (T : ExG X.K C bmB newId) (SF : StoreFacts B bmB "object.__setattr__" "object") (I : Inv X pins σ H s) (he : H e0 = some (exo e0 C none)) (hno : PySem.W.findIn X.K (.ref C) fl = some none) (ry : RelV y u)
    (h : ∀ dx s', H dx = none → dx ≠ e0 → Inv X pins σ (upd (upd H dx (exd dx [(fl, y)])) e0 (exo e0 C (some dx))) s' → Q () s') : wpAny (model X.prog X.w) X.A (setAttr (.ref e0) fl u) Q E s := by
  obtain ⟨c1, c2, c3, c4, bm, c5, c6, c7, c8, c9, k0, k1, k2, k3, k5, hC, hbm⟩ := T.rec_
  have hcd : PySem.W.clsIn X.K C = some { name := c1, bases := c4, mro := .ref C :: bm, ns := c3, qualname := c2, hasDict := true, slotNames := c5, subclasses := c6, abstract := c7, collection := c8, hasDel := false } := by
    unfold PySem.W.clsIn
    rw [hC] <;> rfl
  have up : PySem.W.excTail bmB (.ref C :: bm) = true := hbm
  obtain ⟨t1, ho⟩ := exo_at I.hok he
  obtain ⟨hp, g, dr, tk, os⟩ := s
  refine PySem.W.set_plain I.kIn (ox := { cls := .ref C, dict := none, data := .fields #[.ref t1, .none, .none, .none, .bool false, .none] }) (od := none) ⟨ho, rfl, rfl, trivial⟩ T.sa ?_
  refine PySem.RgX.first_field I.kIn ho hcd rfl ((PySem.W.excTail_contains "object" _ up).trans SF.hasOwner) (PySem.W.excTail_pass _ (SF.passes _) _ up) rfl hno fun h' tk' dx keep big dne hx hn => ?_
  have nodx : H dx = none := I.hok.fresh big
  have ndx : ∀ {b : Addr} {o : Obj}, hp.get? b = some o → b ≠ dx := fun q => Nat.ne_of_lt (Nat.lt_of_lt_of_le (Heap.lt_size q) big)
  have ne0 : ∀ {b : Addr}, H b = none → b ≠ e0 := fun n z => by
    rw [z, he] at n
    cases n
  have moved : Un X.fs [] H (upd (upd H dx (exd dx [(fl, y)])) e0 (exo e0 C (some dx))) hp h' :=
    { keep := fun b o q n _ _ => keep b o (ne0 n) q
      slot := fun b o q n _ _ => ⟨o.slots, keep b o (ne0 n) q⟩
      free := fun b o q n _ => (upd_ne (ne0 n)).trans ((upd_ne (ndx q)).trans n)
      there := fun b o q _ => if hb : b = e0 then ⟨_, hb ▸ hx⟩ else ⟨o, keep b o hb q⟩
      tups := fun b xs q => (upd_ne (at_ne he q exo_tup)).trans ((upd_ne (ne_of_none q nodx)).trans q)
      frzs := fun b o v q => (upd_ne (at_ne he q exo_frz)).trans ((upd_ne (ne_of_none q nodx)).trans q)
      tbls := fun b ps q => ⟨#[], by rw [upd_ne (at_ne he q exo_tbl), upd_ne (ne_of_none q nodx), q]; simp⟩ }
  refine h dx _ nodx dne (I.un (t' := tk') moved fun b o q => ?_)
  by_cases c : b = e0
  · subst c
    rw [upd_same] at q
    cases q
    exact exo_ok hx
  · rw [upd_ne c] at q
    by_cases c2 : b = dx
    · subst c2
      rw [upd_same] at q
      cases q
      exact exd_ok hn (relO_put (fs := []) ry fun _ => True.intro)
    · rw [upd_ne c2] at q
      refine (I.hok b o q).stay (fun b' v hc z => keep b' v (fun w => ?_) z) (fun b' hc => ?_) (fun b' xs hc => ?_)
      · rcases hc with hc | hc
        · exact c (hc ▸ w)
        · exact at_ne he hc exo_own w
      · rw [upd_ne (at_ne he hc exo_own), upd_ne (ne_of_none hc nodx)]
        exact hc
      · rw [upd_ne (at_ne he hc exo_tup), upd_ne (ne_of_none hc nodx)]
        exact hc
/-- the built-in class's __init__ -/
theorem base_ok {us : List Value} {Q : Value → Shared → Prop} (T : ExG X.K C bmB newId) (F : ExcBaseFacts B newId initId bmB) (I : Inv X pins σ H s) (he : H e0 = some (exo e0 C none)) (hl : us.length ≤ sizeLine) (h : ∀ s', Inv X pins σ H s' → Q .none s') :
    wpAny (model X.prog X.w) X.A (call (.builtin initId) (.ref e0 :: us)) Q X.xe s := by
  obtain ⟨c1, c2, c3, c4, bm, c5, c6, c7, c8, c9, k0, k1, k2, k3, k5, hC, hbm⟩ := T.rec_
  obtain ⟨t1, ho⟩ := exo_at I.hok he
  obtain ⟨hp, g, dr, tk, os⟩ := s
  refine wpAny_call (PySem.HandSPX.init_base F (fun Y => PySem.W.excTail_contains Y bm hbm) (I.kIn _ _ hC) ho hl fun h' t2 keep hx => ?_)
  have J := I.write (t' := tk) (x := e0) (e := e0) (o := exo e0 C none) (by rw [he]; exact True.intro) (.inl rfl) keep ⟨_, hx⟩ (exo_ok hx)
  have same : upd H e0 (exo e0 C none) = H := funext fun b => if c : b = e0 then by rw [c, upd_same, he] else upd_ne c
  rw [same] at J
  exact h _ J
end
/-- B.__init__(self, ..), B a built-in exception class -/
def tBaseInit (K : PySem.W.Frag) (bmB : List Value) (newId : String) (ta : TA) : TE := fun σ H Q => ta σ H fun vs H1 => ∃ (e0 C : Addr) (ws : List V), vs = .ref e0 :: ws ∧ ws.length ≤ 1000 ∧ ExG K C bmB newId ∧ H1 e0 = some (exo e0 C none) ∧ Q .non H1
/-- self.f = e, the first field -/
def tField (K : PySem.W.Frag) (bmB : List Value) (newId : String) (f : Str) (to te : TE) : TS := fun D σ H => te σ H fun y H1 => to σ H1 fun x H2 => ∃ e0 C : Addr, x = .ref e0 ∧ ExG K C bmB newId ∧ PySem.W.findIn K (.ref C) f = some none ∧ H2 e0 = some (exo e0 C none) ∧
  ∀ dx, H2 dx = none → dx ≠ e0 → D.nx σ (upd (upd H2 dx (exd dx [(f, y)])) e0 (exo e0 C (some dx)))
section
variable {X : Cx} {o e : Expr} {es : List Expr} {to te : TE} {ta : TA} {f x : Str} {p p' p1 p2 pos : Pos} {bmB : List Value} {B newId initId : String}
theorem pe_baseInit {pl : Sem Bool} (F : ExcBaseFacts B newId initId bmB) (hv : bootBuiltins x = some (.type B)) (ht : typeOf (.type B) = pure (.type "type")) (hst : Manifest.isStub B = false) (hh : PySem.W.handedIn (.builtin initId) = true) (hg : Gl X x) (hm : X.mg x = none)
    (vV : PySem.W.findCls X.K (.type B) (.type "type") "__init__" = some (.val (.builtin initId))) (ha : PA X (e :: es) ta) (hx1 : x ≠ "__name__" := by decide) (hx2 : (x == ("__debug__" : Str)) = false := by decide)
    (hc : eval (.Call (.Attribute (.Name x p1) "__init__" p2) (e :: es) [] pos) X.env = (do
      let ov ← eval (.Name x p1) X.env
      standAt p2.atName
      let (f, first) ← holding [ov] (getMethod ov "__init__" pl)
      callWith pos f first (backTo pos (starEach (e :: es) X.env)) (backToKw pos (keywordEach [] X.env))) := by rfl)
    (he : starEach (e :: es) X.env = (false, eval e X.env) :: starEach es X.env := by rfl) (hpl : (backTo pos (starEach es X.env)).any (·.1) = false := by rfl) :
    PE X (.Call (.Attribute (.Name x p1) "__init__" p2) (e :: es) [] pos) (tBaseInit X.K bmB newId ta) := by
  refine ⟨fun pins s σ H Q I h => ?_⟩
  refine PySem.W.methodCall_KW (ld_blt I hg hm hv ?_ hx1 hx2) hc
  obtain ⟨m, fr⟩ := I.fr
  refine PySem.W.method_type fr I.ok.mod.kin ht hst vV hh ?_
  show wpAny _ _ (callWith pos (Value.builtin initId) [] (backTo pos (starEach (e :: es) X.env)) []) _ _ _
  refine PyProof.Rows.callWith_method1 (thn (ha.run pos pins _ σ H _ (I.tok _) h) fun us s1 z => ?_) he hpl
  obtain ⟨vs, H1, I1, r1, e0, C, ws, rfl, hl, T, ea, q⟩ := z
  cases r1 with
  | @cons _ u0 _ ur ra rw' =>
    obtain rfl : u0 = Value.ref e0 := ra
    have hlen : ur.length ≤ sizeLine := by
      rw [← Paired.length rw', sizeLine_eq]
      omega
    exact base_ok T F I1 ea hlen fun s' J => ⟨.non, H1, J, rfl, q⟩
theorem ps_field (SF : StoreFacts B bmB "object.__setattr__" "object") (ho : PE X o to) (he : PE X e te) (hs : swapsWith e (some (.Attribute o f p')) pos.line X.env = pure false := by rfl) : PS X (.Assign [.Attribute o f p'] e pos) (tField X.K bmB newId f to te) := by
  refine ⟨fun pins s σ H D I h => ?_⟩
  refine plainObj_wpAny_Assign_Attribute (thn (he.run pins s σ H _ I h) fun v s1 z1 => ?_) hs
  obtain ⟨y, H1, I1, r1, q1⟩ := z1
  refine thn (ho.run pins s1 σ H1 _ I1 q1) fun u s2 z2 => ?_
  obtain ⟨x, H2, I2, r2, e0, C, rfl, T, hno, ea, q⟩ := z2
  obtain rfl : u = Value.ref e0 := r2
  exact field_ok T SF I2 ea hno r1 fun dx s' n ne J => ⟨σ, _, J, q dx n ne⟩
/-- C(e, ..) for raise, C's own __init__ keeping sp -/
theorem pmk_exG {CX : CXT} {C fI : Addr} {k : Nat} {sp : Sp} (T : ExG X.K C bmB newId) (F : ExcBaseFacts B newId initId bmB) (iC : PySem.W.findIn X.K (.ref C) "__init__" = some (some (.ref fI))) (tI : PySem.W.typeIn X.K (.ref fI) = some (.type "function"))
    (F1 : FnR X.prog X.w X.K X.mg X.base CX k fI sp) (hr : Room (k + 1) X.A) (hx : Passes CX X (fun _ _ _ => False)) (hg : Gl X x) (hm : X.mg x = some (.ref C)) (ha : PA X (e :: es) ta)
    (hdb : (x == ("__debug__" : Str)) = false := by decide) (he : starEach (e :: es) X.env = (false, eval e X.env) :: starEach es X.env := by rfl) (hpl : (backTo pos (starEach es X.env)).any (·.1) = false := by rfl) :
    PMk X (.Call (.Name x p) (e :: es) [] pos) (tMkO C sp [] ta) := by
  intro pins s σ H Q I h
  obtain ⟨c1, c2, c3, c4, bm, c5, c6, c7, c8, c9, k0, k1, k2, k3, k5, hC, hbm⟩ := T.rec_
  refine wpAny_Call_Name_kw (ld_glob I hg hm ?_ hdb)
  refine PySem.W.callWith_K (h₀ := X.base) I.ok.mod.kin T.kC (thn (ha.run pos pins s σ H _ I h) fun us s1 z => ?_) he hpl
  obtain ⟨vs, H1, I1, r1, hz, q1⟩ := z
  refine ⟨I1.kIn, ?_⟩
  show wpAny _ _ (call (.ref C) us) _ _ _
  obtain ⟨hp, g, dr, tk, os⟩ := s1
  have big : hp.objs.size ≤ hp.objs.size + 1 := Nat.le_succ _
  have hn : H1 (hp.objs.size + 1) = none := I1.hok.fresh big
  have hq := q1 (hp.objs.size + 1) hn
  rw [List.append_nil] at hq
  have keep : ∀ b o, hp.get? b = some o → ((hp.push (PySem.W.kdv_tup us)).push (PySem.HandSPX.excO C hp.objs.size)).get? b = some o := fun b o z => Heap.get?_push_of_some _ (Heap.get?_push_of_some _ z)
  have hget : ((hp.push (PySem.W.kdv_tup us)).push (PySem.HandSPX.excO C hp.objs.size)).get? (hp.objs.size + 1) = some (PySem.HandSPX.excO C hp.objs.size) := by heap_get
  have I2 : Inv X pins σ (upd H1 (hp.objs.size + 1) (exo (hp.objs.size + 1) C none)) ⟨(hp.push (PySem.W.kdv_tup us)).push (PySem.HandSPX.excO C hp.objs.size), g, dr, tk, os⟩ :=
    I1.laid (t' := tk) (a := hp.objs.size + 1) (o := exo (hp.objs.size + 1) C none) (h' := (hp.push (PySem.W.kdv_tup us)).push (PySem.HandSPX.excO C hp.objs.size)) keep big (exo_ok hget)
  have hus : us.length ≤ sizeLine := by
    rw [← Paired.length r1, sizeLine_eq]
    omega
  refine wpAny_call (PySem.HandSPX.call_own F (fun Y => PySem.W.excTail_contains Y bm hbm) (I1.kIn _ _ hC) (PySem.W.looks_findIn I1.kIn iC) (fun self => PySem.W.bind_fn I1.kIn self tI) hus
    (codeAny_mono (F1 _ X.stack _ _ (Value.ref (hp.objs.size + 1) :: us) (V.ref (hp.objs.size + 1) :: vs) _ (fun _ _ _ => False) (hr.make C us []) (I2.env0.make C us []) (.cons rfl r1) hq) fun r s' hq' => ?_))
  match r, hq' with
  | .error er, hq' => exact hx pins σ _ _ er s' I2 hq'
  | .ok (.ret u), hq' =>
    obtain ⟨v, H2, os2, bare2, un2, hok2, rv, ev, dd, fs, ea, ed, hd1, q2⟩ := hq'
    subst ev
    obtain ⟨h2, g2, d2, t2, os'⟩ := s'
    exact ⟨rv, mk_end (raises_own T.exC T.tyC) I1 big keep un2 hok2 os2 bare2 ea ed hd1 q2⟩
end
end Rg
/-! RgT: the end of a law with tables of code objects, nothing under way. -/
namespace Rg
open PySem PySem.Spec PyProof.Rows L2 LamX
abbrev blank : Obj := { cls := .none, data := .fields #[] }
abbrev scr (vs : List Value) : Obj := { cls := .type "list", data := .seq vs.toArray }
/-- the script, frozen, and the empty tables at ts -/
def HT (K : PySem.W.Frag) (a : Addr) (vs : List Value) (ns : List Int) (ts : List Addr) : Hp := fun b =>
  if b = a ∧ K.lookup a = none then some (.frz (scr vs) (.lst (ns.map V.int))) else if b ∈ ts then some (.tbl #[]) else none
section
variable {K : PySem.W.Frag} {a : Addr} {vs : List Value} {ns : List Int} {ts : List Addr}
theorem HT_cases {b : Addr} {u : HO} (h : HT K a vs ns ts b = some u) : (b = a ∧ K.lookup a = none ∧ u = .frz (scr vs) (.lst (ns.map V.int))) ∨ (b ∈ ts ∧ u = .tbl #[]) := by
  unfold HT at h
  split at h
  · rename_i c
    exact .inl ⟨c.1, c.2, (Option.some.inj h).symm⟩
  · split at h
    · rename_i c
      exact .inr ⟨c, (Option.some.inj h).symm⟩
    · cases h
theorem HT_tab (n : a ∉ ts) {b : Addr} (h : b ∈ ts) : HT K a vs ns ts b = some (.tbl #[]) := by
  unfold HT
  rw [if_neg (fun z : b = a ∧ K.lookup a = none => n (z.1 ▸ h)), if_pos h]
end
theorem law_callGT {P : Program} {w : World} {K : PySem.W.Frag} {mg mb : Str → Option Value} {k : Nat} {fa a : Addr} {cs : List (Addr × Addr)} {sp : Sp} {s1 : Shared} {vs : List Value} {ns : List Int}
    (KX : K.In s1.heap) (hns : s1.heap.Ns mainGlobals mg) (hb : s1.heap.Ns builtinsNs mb) (hbb : ∀ x : Str, x ≠ "__name__" → mb x = bootBuiltins x) (hlim : s1.heap.NoLimit) (hg : s1.gens = #[])
    (hT : ∀ p ∈ cs, s1.heap.get? p.2 = some blank) (nT : ∀ p ∈ cs, K.lookup p.2 = none) (hC : ∀ p ∈ cs, PySem.W.CodeHd s1.heap p.1 p.2)
    (hbm : ∃ (bm : Addr) (ob : Obj), mg "__builtins__" = some (.ref bm) ∧ bm ≠ builtinsNs ∧ s1.heap.get? bm = some ob ∧ ob.cls = .type "module" ∧ ob.dict = some builtinsNs ∧ ob.data = .plain)
    (ha : s1.heap.get? a = some (scr vs)) (hi : IntsAre vs ns) (hl : ns.length ≤ sizeLine) (hr : Room k callerA)
    (F : ∀ base : Heap, K.In base → base.Ns mainGlobals mg → (∀ p ∈ cs, TabB base mg p.1 p.2) → FnGd P w K mg base CX0 k fa sp)
    (hsp : ∀ H : Hp, (∀ p ∈ cs, H p.2 = some (.tbl #[])) → SqL K H a (ns.map V.int) → sp [.ref a] H (fun v _ => v = .bl true) fun _ _ _ => False) :
    codeAny (model P w) callerA (.call (.ref fa) ⟨[.ref a], []⟩) (fun r s' => r = .ok (.ret (.bool true)) ∧ OldK s1.heap s'.heap ∧ s'.os = s1.os ∧ AllBare s'.gens) s1 := by
  have rv := vals_ints hi
  obtain ⟨ts, ets⟩ : ∃ ts, ts = cs.map (·.2) := ⟨_, rfl⟩
  have inT : ∀ p ∈ cs, p.2 ∈ ts := fun p hp => ets ▸ List.mem_map.mpr ⟨p, hp, rfl⟩
  have ofT : ∀ b ∈ ts, s1.heap.get? b = some blank ∧ K.lookup b = none := fun b h => by
    rw [ets] at h
    obtain ⟨p, hp, rfl⟩ := List.mem_map.mp h
    exact ⟨hT p hp, nT p hp⟩
  have naT : a ∉ ts := fun z => by
    have h := (ofT a z).1
    rw [ha] at h
    have h2 : Data.seq vs.toArray _ = Data.fields #[] := congrArg Obj.data (Option.some.inj h)
    cases h2
  have hok : HOk P w (HT K a vs ns ts) s1.heap := fun b u z => by
    rcases HT_cases z with ⟨rfl, _, rfl⟩ | ⟨h, rfl⟩
    · exact ⟨ha, by rw [List.length_map]; exact hl, vs, _, rv, ha⟩
    · exact (ofT b h).1
  -- what is neither the script nor a table is hidden by nothing
  have free : ∀ {b : Addr} {o : Obj}, s1.heap.get? b = some o → o ≠ scr vs → o ≠ blank → HT K a vs ns ts b = none := fun {b o} e h1 h2 => by
    cases q : HT K a vs ns ts b with
    | none => rfl
    | some u =>
      rcases HT_cases q with ⟨rfl, _, _⟩ | ⟨h, _⟩
      · rw [ha] at e
        exact absurd (Option.some.inj e).symm h1
      · rw [(ofT b h).1] at e
        exact absurd (Option.some.inj e).symm h2
  have dict_in : ∀ {b : Addr} {m : Str → Option Value}, s1.heap.Ns b m → (hidT s1.heap (HT K a vs ns ts)).Ns b m := fun {b m} ⟨o, es, ep, e, d, r⟩ =>
    ⟨o, es, ep, hidT_get e (free e (fun z => by rw [z] at d; cases d) (fun z => by rw [z] at d; cases d)), d, r⟩
  have hKb : K.In (hidT s1.heap (HT K a vs ns ts)) := fun b o e => hidT_get (KX b o e) (by
    cases q : HT K a vs ns ts b with
    | none => rfl
    | some u =>
      rcases HT_cases q with ⟨rfl, n, _⟩ | ⟨h, _⟩
      · rw [n] at e
        cases e
      · rw [(ofT b h).2] at e
        cases e)
  have hM : Mod K mg (hidT s1.heap (HT K a vs ns ts)) := ⟨hKb, dict_in hns, ⟨mb, dict_in hb, hbb⟩, let ⟨mc, h1, h2⟩ := hlim; ⟨mc, dict_in h1, h2⟩⟩
  have notMain : ∀ {b : Addr} {o : Obj}, s1.heap.get? b = some o → (∀ es ep, o.data ≠ .dict es ep) → b ≠ mainGlobals := fun {b o} e h z => by
    obtain ⟨o', es, ep, e', d, _⟩ := hns
    rw [z, e'] at e
    cases e
    exact h _ _ d
  have TB : ∀ p ∈ cs, TabB (hidT s1.heap (HT K a vs ns ts)) mg p.1 p.2 := fun p hp => by
    have ep := hT p hp
    refine ⟨?_, ?_, Ne.symm (notMain ep fun _ _ z => by cases z)⟩
    · obtain ⟨o, us, f1, f2, f3, f4, f5, f6, f7, e1, e2, e3, e4, e5, e6, e7, e8, e9⟩ := hC p hp
      refine ⟨o, us, f1, f2, f3, f4, f5, f6, f7, hidT_get e1 (free e1 (fun z => ?_) fun z => ?_), e2, e3, e4, e5, e6, e7, e8, e9⟩
      · rw [z] at e3
        cases e3
      · rw [z] at e3
        cases e3
        simp at e4
    · obtain ⟨bm, ob, b1, b2, b3, b4, b5, b6⟩ := hbm
      refine ⟨bm, ob, b1, b2, notMain b3 (fun _ _ z => by rw [b6] at z; cases z), fun z => ?_, hidT_get b3 (free b3 (fun z => by rw [z] at b6; cases b6) fun z => by rw [z] at b6; cases b6), b4, b5, b6⟩
      rw [z, ep] at b3
      cases b3
      cases b6
  have e0 : Env0 P w K mg (hidT s1.heap (HT K a vs ns ts)) callerA [] s1 (HT K a vs ns ts) :=
    ⟨rfl, hM, fun b o e => of_hidT e, Nat.le_of_eq (hidT_size _ _), trivial, fun b hb => absurd (show b ∈ ([] : List Addr) from hb) (by simp), hok, .of_eq hg⟩
  have hS : SqL K (HT K a vs ns ts) a (ns.map V.int) := by
    cases hk : K.lookup a with
    | none => exact .inl (.inr ⟨_, if_pos ⟨rfl, hk⟩⟩)
    | some o =>
      have e := KX a o hk
      rw [ha] at e
      cases e
      exact .inr ⟨_, vs.toArray, _, hk, rfl, rfl, rfl, by rw [List.size_toArray, hi.length]; exact hl, by simpa using rv⟩
  refine codeAny_mono (F _ hKb (dict_in hns) TB callerA [] s1 (HT K a vs ns ts) [.ref a] [.ref a] _ _ rfl hr e0 (.cons rfl .nil) (hsp _ (fun p hp => HT_tab naT (inT p hp)) hS)) fun r s' h => ?_
  match r, h with
  | .error e, h => exact False.elim h
  | .ok (.ret u), h =>
    obtain ⟨v, H', os, bare, un, hok', r', q⟩ := h
    subst q
    cases (show u = Value.bool true from r')
    have stay : ∀ b o, b ∉ ts → s1.heap.get? b = some o → s'.heap.get? b = some o := fun b o nb e => by
      cases q : HT K a vs ns ts b with
      | none => exact un.keep b o e q (fun z => absurd (show b ∈ ([] : List Addr) from z) (by simp)) (by simp)
      | some u =>
        rcases HT_cases q with ⟨_, _, eu⟩ | ⟨h, _⟩
        · rw [eu] at q
          have e2 := (hok' b _ (un.frzs b _ _ q)).1
          rw [(hok b _ q).1] at e
          cases e
          exact e2
        · exact absurd h nb
    have more : ∀ b ∈ ts, ∃ ps : Array Value, s'.heap.get? b = some { cls := .none, data := .fields ps } := fun b h => by
      obtain ⟨ps, z⟩ := un.tbls b #[] (HT_tab naT h)
      exact ⟨_, hok' b _ z⟩
    refine ⟨rfl, ⟨fun b o e => ?_, fun b o e => ?_⟩, os, bare⟩
    · by_cases c : b ∈ ts
      · obtain ⟨ps, hps⟩ := more b c
        rw [ets] at c
        obtain ⟨p, hp, rfl⟩ := List.mem_map.mp c
        rw [hT p hp] at e
        cases e
        exact .inr (.inl ⟨((hC p hp).tab (hT p hp)).isCodeTable, rfl, #[], ps, rfl, by rw [Array.empty_append]; exact hps⟩)
      · exact .inl (stay b o c e)
    · by_cases c : b ∈ ts
      · obtain ⟨ps, hps⟩ := more b c
        exact ⟨_, hps⟩
      · exact ⟨o, stay b o c e⟩
/-- what is known of the law's promise at the head's heap -/
def LawAtG (l : PySem.W.OpenLaw) (w : World) (K : PySem.W.Frag) (k n : Nat) (mg : Str → Option Value) (fa : Addr) (h : Heap) : Prop :=
  ∃ (cs : List (Addr × Addr)) (sp : Sp), (∀ p ∈ cs, h.get? p.2 = some blank) ∧ (∀ p ∈ cs, K.lookup p.2 = none) ∧ (∀ p ∈ cs, PySem.W.CodeHd h p.1 p.2) ∧
    (∀ (H : Hp) (a : Addr) (ns : List Int), ns.length ≤ n → (∀ p ∈ cs, H p.2 = some (.tbl #[])) → SqL K H a (ns.map V.int) → sp [.ref a] H (fun v _ => v = .bl true) fun _ _ _ => False) ∧
    ∀ base : Heap, K.In base → base.Ns mainGlobals mg → (∀ p ∈ cs, TabB base mg p.1 p.2) → FnGd l.prog w K mg base CX0 k fa sp
theorem walk_ofGT {l : PySem.W.OpenLaw} {n k : Nat} {q : Program} {loose : List Str} {XP : (Str → Option Value) → Heap → Prop} {YP : World → Heap → Prop} {d : DefRec} {K : Params → PySem.W.Frag}
    (hn : l.most = some n) (hn2 : n ≤ sizeLine) (hdf : d.params.defaults = []) (hr : Room k callerA) (hY : ∀ (w : World) (h : Heap), YP w h → (K w.params).In h)
    (F : ∀ (w : World) (mg : Str → Option Value) (fa : Addr) (h : Heap), YP w h → (K w.params).In h → h.Ns mainGlobals mg → mg d.name = some (.ref fa) → LawAtG l w (K w.params) k n mg fa h) :
    PySem.W.WalkO q loose XP YP l.row.toRowW d [] (fun f vs => PySem.call f vs) :=
  Att.attach_call hn hdf fun w s0 s1 mg mb fa o pm cd doc a vs ns G Y _ _ _ hmg hobj hints hlen hg => by
    have KX := hY w _ Y
    obtain ⟨cs, sp, hT, nT, hC, hsp, hF⟩ := F w mg fa _ Y KX G.T.g hmg
    exact law_callGT KX G.T.g G.T.b G.T.builtins G.T.nolimit hg hT nT hC G.T.bmain hobj hints (Nat.le_trans hlen hn2) hr hF fun H hH hS => hsp H a ns hlen hH hS
end Rg
/-! RgL: a lambda and one more value handed to a def; isinstance of a caught error; calls within try. -/
namespace Rg
open PySem PySem.Spec PyProof.Rows L2 LamX
section
variable {X : Cx} {pins : List (Addr × Obj)} {σ : L2.St} {H : Hp} {s : Shared}
/-- a local name's value: the state stays as it is -/
theorem var_same {i : Nat} {x : Str} {pos : Pos} {v : V} {A : Around} {E : Value → Shared → Prop} {Q : Value → Shared → Prop} (I : Inv X pins σ H s) (hN : X.N[i]? = some x) (hv : Vis X.env.scope x) (e : σ[i]? = some (some v)) (h : ∀ u, RelV v u → Q u s)
    (hd : (x == ("__debug__" : Str)) = false := by decide) (hcd : (x == ("__classdict__" : Str)) = false := by decide) : wpAny (model X.prog X.w) A (eval (.Name x pos) X.env) Q E s := by
  obtain ⟨m, hn, hl⟩ := I.loc
  obtain ⟨u, r, l⟩ := hl i x v hN e hv
  rcases l with ⟨hk, hm⟩ | ⟨hk, c, hc, hcell⟩
  · exact wpAny_Name (wpAny_loadName_local I.ok.kind hk hn hm (h u r)) hd
  · rcases hk with hk | hk
    · exact wpAny_Name (wpAny_loadName_cell I.ok.kind hk hc hcell (h u r)) hd
    · exact wpAny_Name (wpAny_loadName_free I.ok.kind hk hc hcell (h u r) hcd) hd
end
/-- the def that calls the lambda that it got, a thing beside it -/
def GivesTo2 (X : Cx) (Ng : List Str) (x : Str) (sg : Scope) (g : Addr) (cdg : Value) (bg : List Stmt) (a : Str) (q : Str) (TT : V → (XK → Hp → VK → Prop) → Hp → VK → Prop) : Prop :=
  ∀ (f c' : Addr) (s : Shared) (H : Hp) (Q : VK) (v : V) (tl : XK → Hp → VK → Prop),
    (∀ (W : WX) (pn : List (Addr × Obj)) (xe : Value → Shared → Prop) (p1 p2 : Pos), Takes ((cxOf C8.CX0 X.prog X.w X.K X.mg X.base Ng x sg g cdg X.A X.stack s H C8.E0).tr pn xe) W →
      PE ((cxOf C8.CX0 X.prog X.w X.K X.mg X.base Ng x sg g cdg X.A X.stack s H C8.E0).tr pn xe) (.Call (.Name a p1) [] [] p2) (fun σZ HZ Q => σZ[0]? = some (some (.ref f)) ∧ HZ c' = some (CodeO c' q) ∧ tl (WE W σZ) HZ Q)) →
    H c' = some (CodeO c' q) → TT v tl H Q →
    ∃ t, PSs (cxOf C8.CX0 X.prog X.w X.K X.mg X.base Ng x sg g cdg X.A X.stack s H C8.E0).nox bg t ∧ t { nx := fun _ H' => Q .non H', rt := Q } (L2.start Ng [.ref f, v]) H
section
variable {X : Cx} {pins : List (Addr × Obj)} {σ : L2.St} {H : Hp} {s : Shared}
/-- the lambda is called within try: the wish is told at the slots of then -/
theorem pe_actW {CXg : CXT} {Eg : XK} {Ng : List Str} {qg : Str} {sg : Scope} {g f c' : Addr} {cdg pm ctv : Value} {params : Arguments} {body : Expr} {scope : Scope} {k i : Nat} {a : Str} {pn : List (Addr × Obj)} {xe : Value → Shared → Prop} {W : WX} {tb : XK → TE} {p1 p2 : Pos}
    (I : Inv X pins σ H s) (L : LamS X.env.scope scope) (hf : s.heap.get? f = some (PySem.W.kla_obj "<lambda>" (X.env.qual ++ "<lambda>") params body scope (cloFrom X.env.cells scope.names []) pm c' ctv)) (hfn : H f = none) (hfr : f ∉ frs X.stack)
    (hbind : bindArgs (PySem.W.kla_fn "<lambda>" (X.env.qual ++ "<lambda>") params body scope (cloFrom X.env.cells scope.names []) pm (.ref c') ctv) ⟨[], []⟩ = pure [])
    (tk : Takes ((cxOf CXg X.prog X.w X.K X.mg X.base Ng qg sg g cdg X.A X.stack s H Eg).tr pn xe) W) (hr : Room (k + 1) (X.A.deeper (envOfC qg sg s.heap.objs.size g cdg)))
    (hbody : ∀ (A : Around) (outer : List Env) (s : Shared) (H : Hp) (E : XK), Room k (A.deeper (lamEnv X scope s.heap.objs.size f c')) → PE (lamCx X A outer s H E scope f c') body (tb E))
    (hN : Ng[i]? = some a) (hv : Vis sg a) (hd : (a == ("__debug__" : Str)) = false := by decide) (hcd : (a == ("__classdict__" : Str)) = false := by decide) :
    PE ((cxOf CXg X.prog X.w X.K X.mg X.base Ng qg sg g cdg X.A X.stack s H Eg).tr pn xe) (.Call (.Name a p1) [] [] p2)
      (fun σZ HZ Q => σZ[i]? = some (some (.ref f)) ∧ HZ c' = some (CodeO c' (X.env.qual ++ "<lambda>")) ∧ tb (WE W σZ) σ HZ Q) := by
  refine ⟨fun pinsZ sZ σZ HZ Q IZ h => ?_⟩
  obtain ⟨hs, hc, ht⟩ := h
  refine wpAny_Call_Name_kw (var_same IZ hN hv hs (fun u r1 => ?_) hd hcd)
  obtain rfl : u = Value.ref f := r1
  have there : sZ.heap.get? f = some (PySem.W.kla_obj "<lambda>" (X.env.qual ++ "<lambda>") params body scope (cloFrom X.env.cells scope.names []) pm c' ctv) := IZ.base.keep f _ hf hfn hfr (fun z => nomatch (show f ∈ ([] : List Addr) from z))
  refine PySem.W.callWith_F0 ⟨_, _, _, _, there⟩ ?_
  have moved : Un (frs X.stack) [] H HZ s.heap sZ.heap := IZ.base
  obtain ⟨⟨oc, vs, t, g1, g2, g3⟩, _, _⟩ := IZ.hok c' _ hc
  have run : codeAny (model X.prog X.w) (X.A.deeper (envOfC qg sg s.heap.objs.size g cdg)) (.call (.ref f) ⟨[], []⟩) (CR (L2.CX X.prog X.w) (envOfC qg sg s.heap.objs.size g cdg :: X.stack) X.prog X.w HZ sZ Q (WE W σZ)) sZ := by
    refine PySem.W.kla_callFunE hr.depth there rfl L.co L.gen rfl ⟨c', oc, vs, t, rfl, g1, g2, g3⟩ ?_
    rw [hbind]
    refine wpAny_pure (wpAny_newFunctionEnv (fun y hy => (L.own y hy).2) (fun y hy => absurd hy (by simp)) (fun h1 n1 sb => ⟨IZ.nolimit.fresh _ sb, ?_⟩) L.kind)
    show codeAny _ _ (.expr body (lamEnv X scope sZ.heap.objs.size f c')) _ _
    have keep : ∀ b o, sZ.heap.get? b = some o → h1.get? b = some o := fun b o e => sb.extBut b o (Nat.ne_of_lt (Heap.lt_size e)) (Heap.get?_push_of_some _ e)
    have J : Inv (lamCx X (X.A.deeper (envOfC qg sg s.heap.objs.size g cdg)) (envOfC qg sg s.heap.objs.size g cdg :: X.stack) sZ HZ (WE W σZ) scope f c') [] σ HZ { sZ with heap := h1, toks := sZ.toks + ([] : List (Str × Value)).length } :=
      lam_start2 I L IZ.env0 hr.hd moved n1 keep
    refine PySem.W.kla_codeExpr (wpAny_mono ((hbody _ _ sZ HZ _ (hr.deeper _)).run [] _ _ HZ Q J ht) (fun v s' z => ?_) fun e s' z => z)
    obtain ⟨w', H', J', rv, q⟩ := z
    exact ⟨w', H', J'.os, J'.bare, J'.base, J'.hok, rv, q⟩
  refine wpAny_call (codeAny_mono run fun r s' z => ?_)
  match r, z with
  | .error e, z => exact passAt tk σZ pinsZ HZ sZ e s' IZ z
  | .ok (.ret u), z => exact IZ.after z
end
def tLam2 (T : List (Addr × Str)) (TT : V → (XK → Hp → VK → Prop) → Hp → VK → Prop) (t : XK → TE) (j : Nat) : TE := fun σ H Q => ∃ v, σ[j]? = some (some v) ∧ Tabs T H ∧ ∀ H1, ExtN H H1 → Tabs T H1 → TT v (fun E H' Q' => t E σ H' Q') H1 Q
section
variable {X : Cx}
/-- x(lambda: body, y), y a local name -/
theorem pe_lamcall2 {T : List (Addr × Str)} {TT : V → (XK → Hp → VK → Prop) → Hp → VK → Prop} {x a a2 y : Str} {g c P : Addr} {k j : Nat} {pg : Arguments} {bg : List Stmt} {sg : Scope} {dV kV doc pm cdv ct oc : Value} {an od : Option Addr} {osl : Array (Option Value)} {Ng : List Str}
    {params : Arguments} {body : Expr} {scope : Scope} {t : XK → TE} {p lpos yp pos : Pos} (hg : Gl X x) (hm : X.mg x = some (.ref g)) (hk : PySem.W.keepIn X.K (.ref g) = true)
    (lk : X.K.lookup g = some ⟨oc, od, .func (PySem.W.fnOf x x pg bg sg dV kV doc pm an cdv ct), osl⟩) (hcg : PySem.W.codeIn X.K cdv x = true) (hb : L2.Binds X.K (PySem.W.fnOf x x pg bg sg dV kV doc pm an cdv ct) [a, a2] []) (Sg : FnScope Ng [a, a2] sg) (hNg : Ng[0]? = some a) (hva : Vis sg a)
    (hG : GivesTo2 X Ng x sg g cdv bg a (X.env.qual ++ "<lambda>") TT)
    (TB : TabB X.base X.mg c P) (hcode : X.env.code = .ref c) (hmT : (P, X.env.qual ++ "<lambda>") ∈ T) (hu : ∀ p ∈ T, p.1 = P → p.2 = X.env.qual ++ "<lambda>") (hr : Room (k + 2) X.A) (L : LamS X.env.scope scope) (hdef : defaultsOf params X.env = ([], []))
    (hbind : ∀ (q : Str) (cl : List (Str × Addr)) (pm cv ctv : Value), bindArgs (PySem.W.kla_fn "<lambda>" q params body scope cl pm cv ctv) ⟨[], []⟩ = pure [])
    (hbody : ∀ (A : Around) (outer : List Env) (s : Shared) (H : Hp) (E : XK) (f c' : Addr), Room k (A.deeper (lamEnv X scope s.heap.objs.size f c')) → PE (lamCx X A outer s H E scope f c') body (t E))
    (hNy : X.N[j]? = some y) (hvy : Vis X.env.scope y) (hdy : (y == ("__debug__" : Str)) = false := by decide) (hcy : (y == ("__classdict__" : Str)) = false := by decide)
    (hdb : (x == ("__debug__" : Str)) = false := by decide) (hd : (a == ("__debug__" : Str)) = false := by decide) (hcd : (a == ("__classdict__" : Str)) = false := by decide) :
    PE X (.Call (.Name x p) [.Lambda params body scope lpos, .Name y yp] [] pos) (tLam2 T TT t j) := by
  refine ⟨fun pins s σ H Q I h => ?_⟩
  obtain ⟨v, hv, hT, h⟩ := h
  refine wpAny_Call_Name_kw (ld_glob I hg hm ?_ hdb)
  refine PySem.W.callWith_K (h₀ := X.base) I.ok.mod.kin hk ?_ (by rfl) (by rfl)
  show wpAny _ _ (spliced ((false, eval (.Lambda params body scope lpos) X.env) :: [(false, eval (.Name y yp) X.env)])) _ _ s
  refine Calls.spliced_cons (lam_make2 I TB hcode hmT hu hT hdef (L.has I.ok) fun f c' pm' ctv H1 s' I1 eN T1 hf hfn hfr hco => ?_)
  refine Calls.spliced_cons (var_same I1 hNy hvy hv (fun u ru => ?_) hdy hcy)
  refine Calls.spliced_nil ⟨I1.kIn, ?_⟩
  have rc : codeAny (model X.prog X.w) X.A (.call (.ref g) ⟨[.ref f, u], []⟩) (CR C8.CX0 X.stack X.prog X.w H1 s' Q C8.E0) s' := by
    refine run_ofS (N := Ng) (ps := [a, a2]) (us := [.ref f, u]) (vs := [.ref f, v]) lk hcg Sg hr I1.env0 (hb s' [.ref f, u] I1.kIn rfl) (.cons rfl (.cons ru .nil)) rfl fun hr' => ?_
    obtain ⟨t', ht', hq'⟩ := hG f c' s' H1 Q v (fun E H' Q' => t E σ H' Q') (fun W pn xe p1 p2 tk => pe_actW (i := 0) (tb := t) I1 L hf hfn hfr (hbind _ _ _ _ _) tk hr' (fun A outer s H E hr2 => hbody A outer s H E f c' hr2) hNg hva hd hcd) hco (h H1 eN T1)
    exact ⟨t', ht'.nox, hq'⟩
  refine wpAny_call (codeAny_mono rc fun r s2 hq => ?_)
  match r, hq with
  | .error e, hq => exact (show False from hq).elim
  | .ok (.ret u), hq => exact I1.after hq
end
/-! ### isinstance of the error that a suite holds -/
/-- what the class of an own exception must say -/
structure IsX (K : PySem.W.Frag) (D : Addr) : Prop where
  cl : (PySem.W.clsIn K D).isSome = true
  ga : PySem.W.findIn K (.ref D) "__getattribute__" = some (some (.builtin "BaseException.__getattribute__"))
  gg : PySem.W.findIn K (.ref D) "__getattr__" = some none
  sb : PySem.W.subIn K (.ref D) (.type "BaseException") = some true
  cc : PySem.W.findIn K (.ref D) "__class__" = some (some (.builtin "object.__class__"))
  sp : PySem.W.specialIn K (.builtin "object.__class__") "__get__" = some (some (.builtin "getset_descriptor.__get__"))
  tk : PySem.W.takesIn K (.builtin "object.__class__") = some true
  mr : PySem.W.mroIn K D (.type "object") = some true
/-- isinstance(e, C), isinstance(e, (C, ..)) -/
def rIsX (K : PySem.W.Frag) (D a : Addr) (cls : Value) (d : Option Addr) : List V → Hp → VK → Prop := fun xs H Q => cls = .ref D ∧ ∃ (dd : Addr) (fs : List (Str × V)), d = some dd ∧ H dd = some (.xd fs) ∧
  ((∃ c cv b, xs = [.ref a, c] ∧ (∀ u, RelV c u → u = cv) ∧ PySem.W.kitOne K (.ref D) cv = some b ∧ Q (.bl b) H) ∨
   ∃ tp cs cvs b, xs = [.ref a, .ref tp] ∧ H tp = some (.tup cs) ∧ (∀ us, Vals cs us → us = cvs) ∧ PySem.W.kitAny K (.ref D) cvs = some b ∧ Q (.bl b) H)
theorem call_isX {X : Cx} {a D : Addr} {oe : Obj} {cls : Value} {d : Option Addr} {pn : List (Addr × Obj)} (C : IsX X.K D) (hz : Zc cls d oe) (hf : ∃ vs, oe.data = .fields vs) : CallR (X.suite a ((a, oe) :: pn)) (.builtin "isinstance") (rIsX X.K D a cls d) := by
  intro pins s σ H xs us Q I r h
  obtain ⟨ec0, dd, fs, rfl, hdd, h⟩ := h
  subst ec0
  obtain ⟨hget, _⟩ := I.pin (a, oe) (List.mem_append.mpr (.inl List.mem_cons_self))
  obtain ⟨vs, hv⟩ := hf
  have hxd : ObjOk X.prog X.w H s.heap dd (.xd fs) := I.hok dd _ hdd
  obtain ⟨mA, hns, _⟩ := hxd
  obtain ⟨od, ho, _⟩ := lookIn_ns hns
  have J : PySem.W.InstAt s.heap a oe D (some od) := ⟨hget, hz.1, by unfold PySem.W.notCls; rw [hv] <;> rfl, by rw [hz.2]; exact ho⟩
  have Z := PySem.W.kitx_exc (x := a) (ox := oe) (od := some od) C.cl C.ga C.gg C.sb C.cc C.sp C.tk C.mr
  rcases h with ⟨c, cv, b, rfl, hc, e, q⟩ | ⟨tp, cs, cvs, b, rfl, htp, hc, e, q⟩
  · match us, r with
    | [_, u], .cons rx (.cons ru .nil) =>
      cases rx
      have ec := hc _ ru
      subst ec
      exact PySem.W.kia_one Z I.kIn J e (fun z => nomatch z) fun tk => ⟨.bl b, H, I.kept (t' := tk) fun _ _ z => z, rfl, q⟩
  · match us, r with
    | [_, _], .cons rx (.cons ru .nil) =>
      cases rx
      cases ru
      have hx : ObjOk X.prog X.w H s.heap tp (.tup cs) := I.hok tp _ htp
      obtain ⟨_, its, rv, ⟨c1, c2, c3, c4⟩, g1, g2, n, g3⟩ := hx
      have ec := hc _ rv
      dsimp only at g2 g3
      subst ec g2 g3
      exact PySem.W.kia_tup Z I.kIn J g1 e (fun z => nomatch z) fun tk => ⟨.bl b, H, I.kept (t' := tk) fun _ _ z => z, rfl, q⟩
/-! ### calls that may let an error out, within try -/
theorem run_fnRS {X : Cx} {CX : CXT} {k : Nat} {f : Addr} {sp : Sp} {E : L2.St → XK} {pins : List (Addr × Obj)} {σ : L2.St} {H : Hp} {s : Shared} {Q : VK} {us : List Value} {vs : List V} (F : FnR X.prog X.w X.K X.mg X.base CX k f sp) (hr : Room k X.A) (hx : PassesAt CX X σ (E σ)) (I : Inv X pins σ H s) (r : Vals vs us) (h : sp vs H Q (E σ)) :
    codeAny (model X.prog X.w) X.A (.call (.ref f) ⟨us, []⟩) (fun r s' => match r with | .ok (.ret v) => EP X pins σ Q v s' | .ok _ => False | .error e => X.xe e s') s := by
  refine codeAny_mono (F X.A X.stack s H us vs Q (E σ) hr I.env0 r h) fun r s' hq => ?_
  match r, hq with
  | .error e, hq => exact hx pins H s e s' I hq
  | .ok (.ret u), hq => exact I.after hq
def tCallRS (sp : Sp) (E : L2.St → XK) (t : TA) : TE := fun σ H Q => t σ H fun vs H1 => sp vs H1 Q (E σ)
theorem pe_callRS {X : Cx} {CX : CXT} {k : Nat} {f : Addr} {sp : Sp} {E : L2.St → XK} {x : Str} {e : Expr} {es : List Expr} {t : TA} {p pos : Pos} (F : FnR X.prog X.w X.K X.mg X.base CX k f sp) (hr : Room k X.A) (hg : Gl X x) (hm : X.mg x = some (.ref f)) (hk : PySem.W.keepIn X.K (.ref f) = true) (hx : ∀ σ, PassesAt CX X σ (E σ)) (ha : PA X (e :: es) t)
    (hd : (x == ("__debug__" : Str)) = false := by decide) (he : starEach (e :: es) X.env = (false, eval e X.env) :: starEach es X.env := by rfl) (hpl : (backTo pos (starEach es X.env)).any (·.1) = false := by rfl) :
    PE X (.Call (.Name x p) (e :: es) [] pos) (tCallRS sp E t) := ⟨fun pins s σ H Q I h =>
  wpAny_Call_Name_kw (ld_glob I hg hm (PySem.W.callWith_K (h₀ := X.base) I.ok.mod.kin hk
    (thn (ha.run pos pins s σ H _ I h) fun us s1 ⟨vs, H1, I1, r, q⟩ => ⟨I1.kIn, wpAny_call (run_fnRS F hr (hx σ) I1 r q)⟩) he hpl) hd)⟩
section
variable {P : Program} {w : World} {K : PySem.W.Frag} {mg : Str → Option Value} {base : Heap}
/-- as okR, for a def that may raise -/
theorem okRX {qual nm : Str} {st : Stmt} {f : Addr} {fd : FuncData} {N ps : List Str} {k : Nat} {sp : Sp} (F : Fun K nm qual st f fd) (S : FnScope N ps (defScope st)) (len : ∀ vs H Q E, sp vs H Q E → vs.length = ps.length) (hb : Binds K fd ps [])
    (hbody : ∀ (cdv : Value) (A : Around) (outer : List Env) (s : Shared) (H : Hp) (vs : List V) (Q : VK) (E : XK), Room k (A.deeper (envOfC qual (defScope st) s.heap.objs.size f cdv)) → sp vs H Q E →
      ∃ t, PSs (cxOf (L2.CX P w) P w K mg base N qual (defScope st) f cdv A outer s H E) (defBody st) t ∧ t { nx := fun _ H' => Q .non H', rt := Q } (start N vs) H) : FnR P w K mg base (L2.CX P w) (k + 1) f sp :=
  (((F.okX S len hbody).raw hb .nil).imp fun vs H Q E h => by rw [List.append_nil]; exact h)
end
/-- what a callee lets out is what the def lets out -/
theorem passE {P : Program} {w : World} {K : PySem.W.Frag} {mg : Str → Option Value} {base : Heap} {N : List Str} {qual : Str} {sc : Scope} {f : Addr} {cd : Value} {A : Around} {outer : List Env} {s : Shared} {H : Hp} {E : XK} :
    Passes (L2.CX P w) (cxOf (L2.CX P w) P w K mg base N qual sc f cd A outer s H E) E := passes_call (takes_of rfl rfl rfl rfl) fun _ _ _ _ h => h
/-- repr(x), x any data whose text has a size -/
def rReprV (K : PySem.W.Frag) : List V → Hp → VK → Prop := fun xs H Q => ∃ v d, xs = [v] ∧ Dp K H v d ∧ d.showable = true ∧ d.hasDict = false ∧ d.depth ≤ 30 ∧ d.shown.length ≤ sizeLine ∧ Q (.str d.shown) H
theorem call_reprV {X : Cx} (hg : X.A.guards = some []) (hu : X.A.units + 64 < cLine) : CallR X (.builtin "repr") (rReprV X.K) := by
  intro pins s σ H xs us Q I r h
  obtain ⟨v, d, rfl, hd, h1, h2, h3, h4, q⟩ := h
  obtain ⟨u, rfl, ru⟩ := vals1 r
  cases hd with
  | non =>
    obtain rfl : u = Value.none := ru
    exact PySem.P.repr_of_none ⟨.str (PyData.none).shown, H, I.tok _, ⟨_, rfl⟩, q⟩
  | bl b =>
    obtain rfl : u = Value.bool b := ru
    exact PySem.P.repr_of_bool ⟨.str (PyData.bool b).shown, H, I.tok _, ⟨_, by cases b <;> rfl⟩, q⟩
  | int i =>
    obtain ⟨t, rfl⟩ : ∃ t, u = Value.int i t := ru
    exact PySem.P.repr_of_int (by simpa [PyData.showable] using h1) ⟨.str (PyData.int i).shown, H, I.tok _, ⟨_, rfl⟩, q⟩
  | str x =>
    obtain ⟨t, rfl⟩ : ∃ t, u = Value.str x t := ru
    exact PySem.P.repr_of_str ⟨.str (PyData.str x).shown, H, I.tok _, ⟨_, rfl⟩, q⟩ h4
  | lst hs ha =>
    rename_i a xs ds
    obtain ⟨as, hread⟩ := Dp.reads I (.list ds) (.ref a) u (.lst hs ha) ru
    obtain rfl : u = Value.ref a := ru
    refine PySem.repr_of_reads' (h₀ := s.heap) hread h1 (fun z => by rw [h2] at z; cases z) hg (by omega) (fun b o e => e) (fun h' u tk hk => ?_) h4
    exact ⟨.str (PyData.list ds).shown, H, I.kept (t' := tk) hk, ⟨_, rfl⟩, q⟩
  | tup hs ha =>
    rename_i a xs ds
    obtain ⟨as, hread⟩ := Dp.reads I (.tuple ds) (.ref a) u (.tup hs ha) ru
    obtain rfl : u = Value.ref a := ru
    refine PySem.repr_of_reads' (h₀ := s.heap) hread h1 (fun z => by rw [h2] at z; cases z) hg (by omega) (fun b o e => e) (fun h' u tk hk => ?_) h4
    exact ⟨.str (PyData.tuple ds).shown, H, I.kept (t' := tk) hk, ⟨_, rfl⟩, q⟩
end Rg
/-! RgU: the law's promise, one table beside the written part. -/
namespace Rg
open PySem PySem.Spec PyProof.Rows L2 LamX
theorem lawAt_of {l : PySem.W.OpenLaw} {w : World} {K : PySem.W.Frag} {k n : Nat} {mg : Str → Option Value} {fa c P : Addr} {h : Heap} {sp : PySem.W.Frag → List (Addr × Addr) → Sp} (X : K.In h) (hb : h.get? P = some blank) (hn : K.lookup P = none) (hc : PySem.W.codeHdIn K c P = true)
    (hs : ∀ (H : Hp) (a : Addr) (ns : List Int), ns.length ≤ n → (∀ p ∈ [(c, P)], H p.2 = some (.tbl #[])) → SqL K H a (ns.map V.int) → sp K [(c, P)] [.ref a] H (fun v _ => v = .bl true) fun _ _ _ => False)
    (F : ∀ base : Heap, K.In base → base.Ns mainGlobals mg → (∀ p ∈ [(c, P)], TabB base mg p.1 p.2) → FnGd l.prog w K mg base CX0 k fa (sp K [(c, P)])) : LawAtG l w K k n mg fa h := by
  refine ⟨[(c, P)], _, fun p hp => ?_, fun p hp => ?_, fun p hp => ?_, hs, F⟩ <;> obtain rfl := List.mem_singleton.mp hp
  · exact hb
  · exact hn
  · exact PySem.W.codeHd_of_K X hc
end Rg
/-! RgH: a heap object: its list of lists, each of items. -/
namespace Rg
open PySem PySem.Spec PyProof.Rows L2
abbrev Cont := List (List Im)
def total (c : Cont) : Nat := (c.map List.length).sum
/-- at h an instance of C whose list of lists stands at l, the lists at as; they hold c -/
structure HeapAt (C : Addr) (H : Hp) (h l : Addr) (as : List Addr) (c : Cont) : Prop where
  ins : ∃ dx, H h = some (.ins C dx [("lists", .ref l)])
  lst : H l = some (.lst (as.map V.ref))
  nd : as.Nodup
  nl : l ∉ as
  rows : Paired (fun a r => ∃ xs, H a = some (.lst xs) ∧ ImsV H xs r) as c
section
variable {C : Addr} {H H' : Hp} {h l a : Addr} {as : List Addr} {c : Cont} {M : List Addr}
theorem HeapAt.len (x : HeapAt C H h l as c) : as.length = c.length := x.rows.length
theorem HeapAt.keep (x : HeapAt C H h l as c) (k : Keep M H H') (hh : h ∉ M) (hl : l ∉ M) (ha : ∀ a ∈ as, a ∉ M) : HeapAt C H' h l as c := by
  obtain ⟨dx, hi⟩ := x.ins
  refine ⟨⟨dx, k.at hh hi⟩, k.at hl x.lst, x.nd, x.nl, paired_mem x.rows fun i a r h1 h2 ⟨xs, e, q⟩ => ⟨xs, k.at (ha a (List.mem_of_getElem? h1)) e, q.keep k⟩⟩
theorem HeapAt.same (x : HeapAt C H h l as c) (k : Keep [] H H') : HeapAt C H' h l as c := x.keep k (by simp) (by simp) fun _ _ => by simp
/-- the list of the i-th box -/
theorem HeapAt.row (x : HeapAt C H h l as c) {i : Nat} {r : List Im} (e : c[i]? = some r) : ∃ a xs, as[i]? = some a ∧ (as.map V.ref)[i]? = some (.ref a) ∧ H a = some (.lst xs) ∧ ImsV H xs r := by
  obtain ⟨a, h1, xs, h2, h3⟩ := paired_get x.rows e
  exact ⟨a, xs, h1, by rw [List.getElem?_map, h1]; rfl, h2, h3⟩
theorem HeapAt.hne (x : HeapAt C H h l as c) : h ≠ l ∧ h ∉ as := by
  obtain ⟨dx, hi⟩ := x.ins
  refine ⟨ne_of hi x.lst (by intro q; cases q), fun z => ?_⟩
  obtain ⟨i, hi2⟩ := List.getElem?_of_mem z
  obtain ⟨r, _, xs, h2, _⟩ := paired_getV x.rows hi2
  rw [hi] at h2
  cases h2
/-- the list of one box is written -/
theorem HeapAt.setRow (x : HeapAt C H h l as c) {i : Nat} {xs ys : List V} {r : List Im} (e : as[i]? = some a) (ho : H a = some (.lst xs)) (k : Keep [a] H H') (he : H' a = some (.lst ys)) (q : ImsV H' ys r) :
    HeapAt C H' h l as (c.set i r) := by
  have hm := List.mem_of_getElem? e
  obtain ⟨dx, hi⟩ := x.ins
  have nh : h ∉ [a] := fun z => x.hne.2 (by rw [List.mem_singleton] at z; rw [z]; exact hm)
  have nl : l ∉ [a] := fun z => x.nl (by rw [List.mem_singleton] at z; rw [z]; exact hm)
  refine ⟨⟨dx, k.at nh hi⟩, k.at nl x.lst, x.nd, x.nl, paired_of (by rw [List.length_set]; exact x.len) fun j b s h1 h2 => ?_⟩
  rw [List.getElem?_set] at h2
  by_cases c1 : i = j
  · subst c1
    rw [e] at h1
    cases h1
    rw [if_pos rfl] at h2
    split at h2
    · cases h2
      exact ⟨ys, he, q⟩
    · cases h2
  · rw [if_neg c1] at h2
    obtain ⟨b', h3, ys', h4, h5⟩ := paired_get x.rows h2
    rw [h3] at h1
    cases h1
    refine ⟨ys', k.at (fun z => ?_) h4, h5.keep k⟩
    rw [List.mem_singleton] at z
    subst z
    have i1 := (List.getElem?_eq_some_iff.mp e)
    have i2 := (List.getElem?_eq_some_iff.mp h3)
    exact c1 ((List.getElem_inj x.nd).mp (i1.2.trans i2.2.symm))
/-- a box more -/
theorem HeapAt.more (x : HeapAt C H h l as c) {xs : List V} {r : List Im} (hn : a ∉ as) (hla : l ≠ a) (k : Keep [l] H H') (hl : H' l = some (.lst (as.map V.ref ++ [.ref a]))) (he : H' a = some (.lst xs)) (q : ImsV H' xs r) :
    HeapAt C H' h l (as ++ [a]) (c ++ [r]) := by
  obtain ⟨dx, hi⟩ := x.ins
  refine ⟨⟨dx, k.at (fun z => x.hne.1 (List.mem_singleton.mp z)) hi⟩, by rw [List.map_append]; exact hl, ?_, fun z => ?_, paired_append (paired_mem x.rows fun i b r h1 h2 ⟨ys, e, q⟩ => ⟨ys, k.at (fun z => ?_) e, q.keep k⟩) (.cons ⟨xs, he, q⟩ .nil)⟩
  · rw [List.nodup_append]
    refine ⟨x.nd, by simp, fun u hu v hv => ?_⟩
    rw [List.mem_singleton] at hv
    subst hv
    exact fun z => hn (z ▸ hu)
  · rcases List.mem_append.mp z with z | z
    · exact x.nl z
    · exact hla (List.mem_singleton.mp z)
  · rw [List.mem_singleton] at z
    exact x.nl (z ▸ List.mem_of_getElem? h1)
/-- two lists change their places -/
theorem HeapAt.swap (x : HeapAt C H h l as c) {i j : Nat} {a b : Addr} {r s : List Im} (ei : as[i]? = some a) (ej : as[j]? = some b) (ri : c[i]? = some r) (rj : c[j]? = some s) (k : Keep [l] H H')
    (hl : H' l = some (.lst (((as.map V.ref).set i (.ref b)).set j (.ref a)))) : HeapAt C H' h l ((as.set i b).set j a) ((c.set i s).set j r) := by
  obtain ⟨dx, hi⟩ := x.ins
  have hli : i < as.length := (List.getElem?_eq_some_iff.mp ei).1
  have hlj : j < as.length := (List.getElem?_eq_some_iff.mp ej).1
  have hperm : ((as.set i b).set j a).Perm as := by
    have e1 : as[i] = a := (List.getElem?_eq_some_iff.mp ei).2
    have e2 : as[j] = b := (List.getElem?_eq_some_iff.mp ej).2
    rw [← e1, ← e2]
    exact List.set_set_perm hli hlj
  refine ⟨⟨dx, k.at (fun z => x.hne.1 (List.mem_singleton.mp z)) hi⟩, ?_, hperm.nodup_iff.mpr x.nd, fun z => x.nl (hperm.mem_iff.mp z), ?_⟩
  · rw [hl, List.map_set, List.map_set]
  · have kk : ∀ u ∈ as, u ∉ [l] := fun u hu z => x.nl (by rw [List.mem_singleton] at z; exact z ▸ hu)
    have base : Paired (fun a r => ∃ xs, H' a = some (.lst xs) ∧ ImsV H' xs r) as c := paired_mem x.rows fun i u r h1 h2 ⟨ys, e, q⟩ => ⟨ys, k.at (kk u (List.mem_of_getElem? h1)) e, q.keep k⟩
    have pa : ∃ xs, H' a = some (.lst xs) ∧ ImsV H' xs r := by
      obtain ⟨a', h1, z⟩ := paired_get base ri
      rw [ei] at h1
      cases h1
      exact z
    have pb : ∃ xs, H' b = some (.lst xs) ∧ ImsV H' xs s := by
      obtain ⟨a', h1, z⟩ := paired_get base rj
      rw [ej] at h1
      cases h1
      exact z
    exact paired_set pa j (paired_set pb i base)
end
theorem total_append (c : Cont) (r : List Im) : total (c ++ [r]) = total c + r.length := by simp [total]
theorem total_set : ∀ (c : Cont) (i : Nat) (r s : List Im), c[i]? = some r → total (c.set i s) + r.length = total c + s.length
  | [], i, r, s, h => by simp at h
  | x :: c, 0, r, s, h => by
    simp at h
    subst h
    simp [total]
    omega
  | x :: c, i + 1, r, s, h => by
    have ih := total_set c i r s (by simpa using h)
    simp only [total, List.set_cons_succ, List.map_cons, List.sum_cons] at ih ⊢
    omega
/-- contents in lists that are new -/
def ContF (H H' : Hp) (v : V) (c : Cont) : Prop := ∃ p as, v = .ref p ∧ H p = none ∧ H' p = some (.lst (as.map V.ref)) ∧ Paired (fun a r => H a = none ∧ ∃ xs, H' a = some (.lst xs) ∧ ImsV H' xs r) as c
theorem ContF.cont {H H' : Hp} {v : V} {c : Cont} {S : List Addr} (hS : ∀ x ∈ S, H x ≠ none) : ContF H H' v c → ContV S H' v c := fun ⟨p, as, e, hp, hl, q⟩ =>
  ⟨p, as.map V.ref, e, ne_in hS hp, hl, by
    have z : ∀ {as : List Addr} {c : Cont}, Paired (fun a r => H a = none ∧ ∃ xs, H' a = some (.lst xs) ∧ ImsV H' xs r) as c → RowsV S H' (as.map V.ref) c := fun {as c} q => by
      induction q with
      | nil => exact .nil
      | cons a t ih => exact .cons ⟨_, _, rfl, ne_in hS a.1, a.2.choose_spec.1, a.2.choose_spec.2⟩ ih
    exact z q⟩
end Rg
/-! RgV: the boxes in the order of opening, and how many are open at once. -/
namespace Rg
/-- the items of a box at depth d are visited from order o, deepest m, to o', m' -/
inductive Fold (c : List (List Im)) : Nat → List Im → List Nat → Nat → List Nat → Nat → Prop
  | nil {d : Nat} {o : List Nat} {m : Nat} : Fold c d [] o m o m
  | skip {d : Nat} {x : Im} {r : List Im} {o o' : List Nat} {m m' : Nat} : (∀ n, x = .b n → n ∈ o) → Fold c d r o m o' m' → Fold c d (x :: r) o m o' m'
  | go {d n : Nat} {row r : List Im} {o o1 o' : List Nat} {m m1 m' : Nat} : n ∉ o → c[n]? = some row → Fold c (d + 1) row (o ++ [n]) (d + 1) o1 m1 → Fold c d r o1 (max m m1) o' m' → Fold c d (.b n :: r) o m o' m'
/-- box n is opened at depth d -/
def Vis (c : List (List Im)) (n : Nat) (o : List Nat) (d : Nat) (o' : List Nat) (m' : Nat) : Prop := ∃ row, c[n]? = some row ∧ Fold c d row (o ++ [n]) d o' m'
section
variable {c : List (List Im)} {d n m m' m1 m2 : Nat} {r r1 r2 : List Im} {o o' o1 o2 : List Nat}
theorem Fold.append (h : Fold c d r1 o m o1 m1) : Fold c d r2 o1 m1 o2 m2 → Fold c d (r1 ++ r2) o m o2 m2 := by
  induction h with
  | nil => exact id
  | skip hx _ ih => exact fun k => .skip hx (ih k)
  | go hn hr h1 _ _ ih => exact fun k => .go hn hr h1 (ih k)
theorem Fold.det (h : Fold c d r o m o1 m1) : ∀ {o2 m2}, Fold c d r o m o2 m2 → o1 = o2 ∧ m1 = m2 := by
  induction h with
  | nil =>
    intro o2 m2 k
    cases k
    exact ⟨rfl, rfl⟩
  | skip hx _ ih =>
    intro o2 m2 k
    cases k with
    | skip _ k => exact ih k
    | go hn _ _ _ => exact absurd (hx _ rfl) hn
  | go hn hr h1 h2 ih1 ih2 =>
    intro o2 m2 k
    cases k with
    | skip hx _ => exact absurd (hx _ rfl) hn
    | go _ hr' k1 k2 =>
      rw [hr] at hr'
      cases hr'
      obtain ⟨rfl, rfl⟩ := ih1 k1
      exact ih2 k2
theorem Vis.det (h : Vis c n o d o1 m1) (k : Vis c n o d o2 m2) : o1 = o2 ∧ m1 = m2 := by
  obtain ⟨row, hr, h⟩ := h
  obtain ⟨row', hr', k⟩ := k
  rw [hr] at hr'
  cases hr'
  exact h.det k
theorem Fold.unshift (h : Fold c d r o m o' m') : ∀ k q, m = max k q → ∃ q', Fold c d r o q o' q' ∧ m' = max k q' := by
  induction h with
  | nil => exact fun k q e => ⟨q, .nil, e⟩
  | skip hx _ ih =>
    intro k q e
    obtain ⟨q', h1, h2⟩ := ih k q e
    exact ⟨q', .skip hx h1, h2⟩
  | @go _ _ _ _ _ _ _ _ mm _ hn hr h1 _ _ ih =>
    intro k q e
    obtain ⟨q', h2, h3⟩ := ih k (max q mm) (by rw [e]; omega)
    exact ⟨q', .go hn hr h1 h2, h3⟩
theorem Fold.pre (h : Fold c d r o m o' m') : ∃ t, o' = o ++ t := by
  induction h with
  | nil => exact ⟨[], by simp⟩
  | skip _ _ ih => exact ih
  | go _ _ _ _ ih1 ih2 =>
    obtain ⟨t1, e1⟩ := ih1
    obtain ⟨t2, e2⟩ := ih2
    exact ⟨_, by rw [e2, e1, List.append_assoc, List.append_assoc]⟩
theorem Fold.sub (h : Fold c d r o m o' m') : ∀ x ∈ o, x ∈ o' := by
  obtain ⟨t, e⟩ := h.pre
  intro x hx
  rw [e]
  exact List.mem_append_left _ hx
theorem Fold.nodup (h : Fold c d r o m o' m') : o.Nodup → o'.Nodup := by
  induction h with
  | nil => exact id
  | skip _ _ ih => exact ih
  | go hn _ _ _ ih1 ih2 =>
    intro k
    refine ih2 (ih1 (List.nodup_append.mpr ⟨k, by simp, fun a ha b hb e => ?_⟩))
    rw [List.mem_singleton] at hb
    rw [e, hb] at ha
    exact hn ha
theorem Fold.range (h : Fold c d r o m o' m') : (∀ x ∈ o, x < c.length) → ∀ x ∈ o', x < c.length := by
  induction h with
  | nil => exact id
  | skip _ _ ih => exact ih
  | go _ hr _ _ ih1 ih2 =>
    intro k
    refine ih2 (ih1 fun x hx => ?_)
    rcases List.mem_append.mp hx with hx | hx
    · exact k x hx
    · rw [List.mem_singleton.mp hx]
      exact (List.getElem?_eq_some_iff.mp hr).1
/-- the references of a row are opened; a box opened on the way has its references opened -/
theorem Fold.closed (h : Fold c d r o m o' m') : (∀ n, Im.b n ∈ r → n ∈ o') ∧ ∀ x ∈ o', x ∈ o ∨ ∀ row, c[x]? = some row → ∀ n, Im.b n ∈ row → n ∈ o' := by
  induction h with
  | nil => exact ⟨fun n h => by simp at h, fun x hx => .inl hx⟩
  | skip hx k ih =>
    refine ⟨fun n hn => ?_, ih.2⟩
    rcases List.mem_cons.mp hn with e | hn
    · exact k.sub _ (hx n e.symm)
    · exact ih.1 n hn
  | @go d n row r o o1 o' m m1 m' hn hr h1 h2 ih1 ih2 =>
    refine ⟨fun k hk => ?_, fun x hx => ?_⟩
    · rcases List.mem_cons.mp hk with e | hk
      · cases e
        exact h2.sub _ (h1.sub _ (by simp))
      · exact ih2.1 k hk
    · rcases ih2.2 x hx with hx1 | hx1
      · rcases ih1.2 x hx1 with hx2 | hx2
        · rcases List.mem_append.mp hx2 with hx3 | hx3
          · exact .inl hx3
          · rw [List.mem_singleton] at hx3
            subst hx3
            refine .inr fun row' hr' k hk => ?_
            rw [hr] at hr'
            cases hr'
            exact h2.sub _ (ih1.1 k hk)
        · exact .inr fun row' hr' k hk => h2.sub _ (hx2 row' hr' k hk)
      · exact .inr hx1
theorem Vis.closed (h : Vis c n [] d o' m') : ∀ x ∈ o', ∀ row, c[x]? = some row → ∀ k, Im.b k ∈ row → k ∈ o' := by
  obtain ⟨row, hr, h⟩ := h
  obtain ⟨h1, h2⟩ := h.closed
  intro x hx row' hr' k hk
  rcases h2 x hx with hx2 | hx2
  · have e : x = n := by simpa using hx2
    subst e
    rw [hr] at hr'
    cases hr'
    exact h1 k hk
  · exact hx2 row' hr' k hk
theorem Vis.nodup (h : Vis c n [] d o' m') : o'.Nodup := by
  obtain ⟨row, hr, h⟩ := h
  exact h.nodup (by simp)
theorem Vis.range (h : Vis c n [] d o' m') : ∀ x ∈ o', x < c.length := by
  obtain ⟨row, hr, h⟩ := h
  refine h.range fun x hx => ?_
  have e : x = n := by simpa using hx
  rw [e]
  exact (List.getElem?_eq_some_iff.mp hr).1
theorem Vis.mem (h : Vis c n [] d o' m') : n ∈ o' := by
  obtain ⟨row, hr, h⟩ := h
  exact h.sub _ (by simp)
theorem Fold.deep (h : Fold c d r o m o' m') : m' ≤ max m (d + (o'.length - o.length)) ∧ o.length ≤ o'.length := by
  induction h with
  | nil => exact ⟨by omega, Nat.le_refl _⟩
  | skip _ _ ih => exact ih
  | go _ _ _ _ ih1 ih2 =>
    obtain ⟨a1, a2⟩ := ih1
    obtain ⟨b1, b2⟩ := ih2
    rw [List.length_append, List.length_singleton] at a1 a2
    refine ⟨?_, by omega⟩
    omega
theorem Vis.deep (h : Vis c n [] 1 o' m') : m' ≤ 1 + o'.length := by
  obtain ⟨row, hr, h⟩ := h
  have z := h.deep.1
  simp at z
  omega
/-- how many boxes are not opened yet -/
def unv (c : List (List Im)) (o : List Nat) : Nat := ((List.range c.length).filter fun x => decide (x ∉ o)).length
theorem filter_lt {p q : Nat → Bool} {n : Nat} : ∀ {l : List Nat}, (∀ x ∈ l, q x = true → p x = true) → n ∈ l → p n = true → q n = false → (l.filter q).length < (l.filter p).length := by
  intro l
  induction l with
  | nil => intro _ h; simp at h
  | cons a l ih =>
    intro h1 h2 h3 h4
    have hle : (l.filter q).length ≤ (l.filter p).length := by
      clear ih h2
      have h1' : ∀ x ∈ l, q x = true → p x = true := fun x hx => h1 x (by simp [hx])
      clear h1
      induction l with
      | nil => simp
      | cons b l ih =>
        have z := ih fun x hx => h1' x (by simp [hx])
        rw [List.filter_cons, List.filter_cons]
        cases hq : q b with
        | true =>
          rw [h1' b (by simp) hq]
          simp
          exact z
        | false =>
          cases hp : p b with
          | true => simp; omega
          | false => simp; exact z
    rw [List.filter_cons, List.filter_cons]
    rcases List.mem_cons.mp h2 with e | h2
    · subst e
      rw [h3, h4]
      simp
      omega
    · have z := ih (fun x hx => h1 x (by simp [hx])) h2 h3 h4
      cases hq : q a with
      | true =>
        rw [h1 a (by simp) hq]
        simp
        exact z
      | false =>
        cases hp : p a with
        | true => simp; omega
        | false => simp; exact z
theorem unv_add (hn : n < c.length) (h : n ∉ o) : unv c (o ++ [n]) < unv c o := by
  refine filter_lt (n := n) (fun x _ hx => ?_) (by simpa using hn) (by simpa using h) (by simp)
  simp at hx ⊢
  exact hx.1
theorem unv_sub (h : ∀ x ∈ o, x ∈ o') : unv c o' ≤ unv c o := by
  unfold unv
  generalize List.range c.length = l
  induction l with
  | nil => simp
  | cons a l ih =>
    rw [List.filter_cons, List.filter_cons]
    by_cases h1 : a ∈ o'
    · by_cases h2 : a ∈ o
      · rw [if_neg (by simp [h1]), if_neg (by simp [h2])]
        exact ih
      · rw [if_neg (by simp [h1]), if_pos (by simp [h2]), List.length_cons]
        omega
    · have h2 : a ∉ o := fun z => h1 (h a z)
      rw [if_pos (by simp [h1]), if_pos (by simp [h2]), List.length_cons, List.length_cons]
      omega
theorem unv_le : unv c o ≤ c.length := by
  unfold unv
  exact Nat.le_trans (List.length_filter_le _ _) (by simp)
end
theorem nodup_le : ∀ (n : Nat) (o : List Nat), o.Nodup → (∀ x ∈ o, x < n) → o.length ≤ n
  | 0, [], _, _ => Nat.le_refl _
  | 0, x :: _, _, h => absurd (h x (by simp)) (by omega)
  | n + 1, o, hn, h => by
    have z := nodup_le n (o.erase n) (hn.erase n) fun x hx => by
      have h1 := h x (List.mem_of_mem_erase hx)
      have h2 : x ≠ n := fun e => by
        rw [e] at hx
        exact (List.Nodup.not_mem_erase hn) hx
      omega
    by_cases hm : n ∈ o
    · rw [List.length_erase_of_mem hm] at z
      omega
    · rw [List.erase_of_not_mem hm] at z
      omega
/-! ### the stack of the law's own walk, the innermost box first -/
inductive Fin (c : List (List Im)) : List (Nat × Nat) → List Nat → Nat → List Nat → Nat → Prop
  | nil {o : List Nat} {m : Nat} : Fin c [] o m o m
  | cons {b p : Nat} {rest : List (Nat × Nat)} {row : List Im} {o o1 o2 : List Nat} {m m1 m2 : Nat} : c[b]? = some row → Fold c (rest.length + 1) (row.drop p) o m o1 m1 → Fin c rest o1 m1 o2 m2 → Fin c ((b, p) :: rest) o m o2 m2
section
variable {c : List (List Im)} {b p n m m2 : Nat} {row : List Im} {rest : List (Nat × Nat)} {o o2 : List Nat} {x : Im}
theorem fin_pop (hr : c[b]? = some row) (hp : p = row.length) (h : Fin c rest o m o2 m2) : Fin c ((b, p) :: rest) o m o2 m2 := by
  refine .cons hr ?_ h
  rw [hp, List.drop_length]
  exact .nil
theorem fin_skip (hr : c[b]? = some row) (hx : row[p]? = some x) (hs : ∀ n, x = .b n → n ∈ o) (h : Fin c ((b, p + 1) :: rest) o m o2 m2) : Fin c ((b, p) :: rest) o m o2 m2 := by
  cases h with
  | cons hr' h1 h2 =>
    rw [hr] at hr'
    cases hr'
    obtain ⟨hp, e⟩ := List.getElem?_eq_some_iff.mp hx
    refine .cons hr ?_ h2
    rw [List.drop_eq_getElem_cons hp, e]
    exact .skip hs h1
theorem fin_push (hr : c[b]? = some row) (hx : row[p]? = some (.b n)) (hn : n ∉ o) (h : Fin c ((n, 0) :: (b, p + 1) :: rest) (o ++ [n]) (max m (rest.length + 2)) o2 m2) : Fin c ((b, p) :: rest) o m o2 m2 := by
  cases h with
  | @cons _ _ _ rown _ o1 _ _ mm _ hrn h1 h2 =>
    cases h2 with
    | cons hr' h3 h4 =>
      rw [hr] at hr'
      cases hr'
      obtain ⟨hp, e⟩ := List.getElem?_eq_some_iff.mp hx
      obtain ⟨q, h5, h6⟩ := h1.unshift m (rest.length + 2) rfl
      refine .cons hr ?_ h4
      rw [List.drop_eq_getElem_cons hp, e]
      rw [h6] at h3
      exact .go hn hrn h5 h3
end
end Rg
/-! RgC: the contents behind a deep copy. -/
namespace Rg
open PySem PySem.Spec PyProof.Rows L2
theorem Keep.also {S : List Addr} {H H1 H2 : Hp} {a : Addr} (k : Keep S H H1) (k2 : Keep [a] H1 H2) (h : H a = none) : Keep S H H2 :=
  ((k.mono fun y hy => List.mem_cons_of_mem a hy).trans (k2.mono fun y hy => by rw [List.mem_singleton] at hy; rw [hy]; simp)).drop h
theorem HeapAt.notIn {C : Addr} {H : Hp} {h l : Addr} {as : List Addr} {c : Cont} (x : HeapAt C H h l as c) {a : Addr} (ha : H a = none) : a ∉ as := fun z => by
  obtain ⟨i, h1⟩ := List.getElem?_of_mem z
  obtain ⟨_, _, xs, h2, _⟩ := paired_getV x.rows h1
  rw [ha] at h2
  cases h2
theorem HeapAt.keepL {C : Addr} {H H' : Hp} {h l a : Addr} {as : List Addr} {c : Cont} (x : HeapAt C H h l as c) (k : Keep [a] H H') (hl : a ≠ l) (ha : a ∉ as) (hh : a ≠ h) : HeapAt C H' h l as c :=
  x.keep k (fun z => hh (List.mem_singleton.mp z).symm) (fun z => hl (List.mem_singleton.mp z).symm) fun b hb z => ha (by rw [← List.mem_singleton.mp z]; exact hb)
def numK : Nat → List Nat → List (Key × V)
  | _, [] => []
  | b, x :: o => (.inl (x : Int), .int (b : Nat)) :: numK (b + 1) o
def rowOf (c : Cont) (x : Nat) : List Im := c.getD x []
def rnm (b : Nat) (o : List Nat) : Im → Im
  | .b n => .b (b + o.idxOf n)
  | x => x
def copyC (c : Cont) (o : List Nat) : Cont := c ++ o.map fun x => (rowOf c x).map (rnm c.length o)
def lens (c : Cont) (o : List Nat) : Nat := (o.map fun x => (rowOf c x).length).sum
theorem numK_snoc (x : Nat) : ∀ (o : List Nat) (b : Nat), numK b (o ++ [x]) = numK b o ++ [(.inl (x : Int), .int ((b + o.length : Nat)))]
  | [], b => rfl
  | y :: o, b => by
    show (_ :: numK (b + 1) (o ++ [x])) = _ :: (numK (b + 1) o ++ _)
    rw [numK_snoc x o (b + 1)]
    have e : b + 1 + o.length = b + (y :: o).length := by simp; omega
    rw [e]
theorem numK_len : ∀ (o : List Nat) (b : Nat), (numK b o).length = o.length
  | [], _ => rfl
  | _ :: o, b => by show (numK (b + 1) o).length + 1 = _; rw [numK_len o]; rfl
theorem numK_none {x : Nat} : ∀ (o : List Nat) (b : Nat), x ∉ o → valV (numK b o) (Sum.inl (x : Int) : Key) = none
  | [], _, _ => rfl
  | y :: o, b, h => by
    have h1 : ¬ (Sum.inl (y : Int) : Key) = Sum.inl (x : Int) := fun e => by
      have e2 := Sum.inl.inj e
      exact h (by have : y = x := by omega
                  rw [this]; simp)
    show valV ((_, _) :: numK (b + 1) o) _ = _
    rw [valV_neg h1]
    exact numK_none o (b + 1) fun z => h (List.mem_cons_of_mem _ z)
theorem numK_some {x : Nat} : ∀ (o : List Nat) (b i : Nat), o.Nodup → o[i]? = some x → valV (numK b o) (Sum.inl (x : Int) : Key) = some (.int ((b + i : Nat)))
  | [], _, _, _, h => by simp at h
  | y :: o, b, 0, _, h => by
    simp at h
    subst h
    exact valV_pos rfl
  | y :: o, b, i + 1, hn, h => by
    have h2 : o[i]? = some x := by simpa using h
    have hn2 := List.nodup_cons.mp hn
    have h1 : ¬ (Sum.inl (y : Int) : Key) = Sum.inl (x : Int) := fun e => by
      have e2 := Sum.inl.inj e
      have e3 : y = x := by omega
      rw [e3] at hn2
      exact hn2.1 (List.mem_of_getElem? h2)
    show valV ((_, _) :: numK (b + 1) o) _ = _
    rw [valV_neg h1, numK_some o (b + 1) i hn2.2 h2]
    have e : b + 1 + i = b + (i + 1) := by omega
    rw [e]
theorem numK_idx {x b : Nat} {o : List Nat} (hn : o.Nodup) (hx : x ∈ o) : valV (numK b o) (Sum.inl (x : Int) : Key) = some (.int ((b + o.idxOf x : Nat))) := by
  refine numK_some o b _ hn ?_
  have h := List.idxOf_lt_length_of_mem hx
  rw [List.getElem?_eq_getElem h, List.getElem_idxOf h]
theorem rowOf_of {c : Cont} {x : Nat} {r : List Im} (h : c[x]? = some r) : rowOf c x = r := by
  unfold rowOf
  rw [List.getD_eq_getElem?_getD, h]
  rfl
theorem lens_sum (c : Cont) (o : List Nat) : (o.map fun x => (((rowOf c x).length : Nat) : Int)).sum = ((lens c o : Nat) : Int) := by
  unfold lens
  induction o with
  | nil => rfl
  | cons x o ih =>
    rw [List.map_cons, List.sum_cons, ih, List.map_cons, List.sum_cons]
    omega
theorem lens_append (c : Cont) (o1 o2 : List Nat) : lens c (o1 ++ o2) = lens c o1 + lens c o2 := by simp [lens]
theorem lens_take (c : Cont) {o : List Nat} {i x : Nat} (h : o[i]? = some x) : lens c (o.take (i + 1)) = lens c (o.take i) + (rowOf c x).length ∧ lens c (o.take (i + 1)) ≤ lens c o := by
  obtain ⟨hil, hie⟩ := List.getElem?_eq_some_iff.mp h
  refine ⟨by rw [List.take_succ_eq_append_getElem hil, hie, lens_append]; simp [lens], ?_⟩
  have z := lens_append c (o.take (i + 1)) (o.drop (i + 1))
  rw [List.take_append_drop] at z
  omega
/-- the contents part of the way: rows 0 .. i of the copies done, of row i the first j items -/
structure Part (c : Cont) (o : List Nat) (i j : Nat) (row : List Im) (cur : Cont) : Prop where
  len : cur.length = c.length + o.length
  old : ∀ x, x < c.length → cur[x]? = c[x]?
  done : ∀ t x, t < i → o[t]? = some x → cur[c.length + t]? = some ((rowOf c x).map (rnm c.length o))
  here : i < o.length → cur[c.length + i]? = some ((row.take j).map (rnm c.length o))
  todo : ∀ t, i < t → t < o.length → cur[c.length + t]? = some []
  tot : total cur = total c + lens c (o.take i) + j
theorem Part.start {c : Cont} {o : List Nat} : Part c o 0 0 [] (c ++ List.replicate o.length []) := by
  refine ⟨by simp, fun x hx => by rw [List.getElem?_append_left hx], fun t x h _ => by omega, fun h => ?_, fun t _ h => ?_, by simp [total, lens]⟩
  · rw [List.getElem?_append_right (by omega), show c.length + 0 - c.length = 0 by omega, List.getElem?_replicate, if_pos h]
    simp
  · rw [List.getElem?_append_right (by omega), show c.length + t - c.length = t by omega, List.getElem?_replicate, if_pos h]
theorem Part.row {c cur : Cont} {o : List Nat} {i : Nat} {row' row : List Im} (h : Part c o i 0 row' cur) : Part c o i 0 row cur :=
  ⟨h.len, h.old, h.done, fun z => by rw [h.here z]; simp, h.todo, h.tot⟩
theorem Part.step {c cur : Cont} {o : List Nat} {i j : Nat} {row : List Im} {z : Im} (h : Part c o i j row cur) (hi : i < o.length) (hz : row[j]? = some z) :
    Part c o i (j + 1) row (cur.set (c.length + i) ((row.take j).map (rnm c.length o) ++ [rnm c.length o z])) := by
  obtain ⟨hj, e⟩ := List.getElem?_eq_some_iff.mp hz
  have hl := h.len
  refine ⟨by rw [List.length_set]; exact h.len, fun x hx => ?_, fun t x ht hx => ?_, fun _ => ?_, fun t h1 h2 => ?_, ?_⟩
  · rw [List.getElem?_set_ne (by omega)]; exact h.old x hx
  · rw [List.getElem?_set_ne (by omega)]; exact h.done t x ht hx
  · rw [List.getElem?_set_self (by omega), List.take_succ_eq_append_getElem hj, e, List.map_append]
    rfl
  · rw [List.getElem?_set_ne (by omega)]; exact h.todo t h1 h2
  · have z := total_set cur (c.length + i) _ ((row.take j).map (rnm c.length o) ++ [rnm c.length o z]) (h.here hi)
    rw [List.length_append, List.length_singleton] at z
    have ht := h.tot
    omega
theorem Part.next {c cur : Cont} {o : List Nat} {i x : Nat} {row : List Im} (h : Part c o i row.length row cur) (hx : o[i]? = some x) (hr : rowOf c x = row) : Part c o (i + 1) 0 [] cur := by
  obtain ⟨hi, e⟩ := List.getElem?_eq_some_iff.mp hx
  refine ⟨h.len, h.old, fun t y ht hy => ?_, fun z => by simpa using h.todo (i + 1) (by omega) z, fun t h1 h2 => h.todo t (by omega) h2, ?_⟩
  · by_cases c1 : t = i
    · subst c1
      rw [hx] at hy
      cases hy
      rw [h.here hi, List.take_length, hr]
    · exact h.done t y (by omega) hy
  · rw [h.tot, (lens_take c hx).1, hr]
    omega
theorem Part.fin {c cur : Cont} {o : List Nat} {j : Nat} {row : List Im} (h : Part c o o.length j row cur) : cur = copyC c o := by
  refine List.ext_getElem? fun x => ?_
  unfold copyC
  by_cases c1 : x < c.length
  · rw [h.old x c1, List.getElem?_append_left c1]
  · rw [List.getElem?_append_right (by omega), List.getElem?_map]
    cases e : o[x - c.length]? with
    | none =>
      have h1 := List.getElem?_eq_none_iff.mp e
      rw [List.getElem?_eq_none (by rw [h.len]; omega)]
      rfl
    | some y =>
      have z := h.done (x - c.length) y (List.getElem?_eq_some_iff.mp e).1 e
      rw [show c.length + (x - c.length) = x by omega] at z
      exact z
end Rg
/-! RgR: data that repr writes: what it asks of its size. -/
namespace Rg
open PySem PySem.Spec PyProof.Rows L2
/-- data without dicts, of ints below 10 ^ 40 and plain texts, of weight at most w, at most n deep -/
structure Rp (d : PyData) (w n : Nat) : Prop where
  ls : d.leavesShort 41 = true
  sh : d.showable = true
  nd : d.hasDict = false
  dp : d.depth ≤ n
  wt : d.weight ≤ w
theorem rp_int {i : Int} (h : i.natAbs < 10 ^ 40) : Rp (.int i) 140 0 := by
  have hl : i.natAbs.log2 < 133 := by
    by_cases e : i.natAbs = 0
    · rw [e]; decide
    · refine (Nat.log2_lt e).mpr (Nat.lt_trans h (by decide))
  refine ⟨?_, ?_, rfl, Nat.le_refl _, ?_⟩
  · simp only [PyData.leavesShort]
    refine decide_eq_true ?_
    show (Str.ofString (toString i)).length ≤ 41
    rw [PyProof.Rows.ofString_length]
    exact int_text_length_le10 (by decide) h
  · simp only [PyData.showable, decide_eq_true_eq]
    omega
  · simp only [PyData.weight]
    split <;> omega
theorem rp_str {x : Str} (h : x.length ≤ 100) (hc : ∀ c ∈ x.cps.toList, c < 1000) : Rp (.str x) 140 0 := by
  refine ⟨?_, rfl, rfl, Nat.le_refl _, ?_⟩
  · simp only [PyData.leavesShort, List.all_eq_true, decide_eq_true_eq]
    exact fun c hx => Nat.lt_of_lt_of_le (hc c hx) (by decide)
  · simp only [PyData.weight]
    exact Nat.le_trans h (by decide)
theorem rp_all {w n : Nat} : ∀ {xs : List PyData}, (∀ x ∈ xs, Rp x w n) → PyData.leavesShortAll 41 xs = true ∧ PyData.showableAll xs = true ∧ PyData.hasDictAll xs = false ∧ PyData.depthAll xs ≤ n ∧ PyData.weightAll xs ≤ (w + 1) * xs.length
  | [], _ => ⟨rfl, rfl, rfl, Nat.zero_le _, Nat.zero_le _⟩
  | x :: xs, h => by
    obtain ⟨a, b, c, d, e⟩ := rp_all fun y hy => h y (List.mem_cons_of_mem _ hy)
    obtain ⟨a', b', c', d', e'⟩ := h x (by simp)
    refine ⟨?_, ?_, ?_, ?_, ?_⟩
    · simp only [PyData.leavesShortAll, a, a', Bool.and_self]
    · simp only [PyData.showableAll, b, b', Bool.and_self]
    · simp only [PyData.hasDictAll, c, c', Bool.or_self]
    · simp only [PyData.depthAll]; omega
    · simp only [PyData.weightAll, List.length_cons]
      rw [Nat.mul_add, Nat.mul_one]
      omega
theorem rp_list {w n : Nat} {xs : List PyData} (h : ∀ x ∈ xs, Rp x w n) : Rp (.list xs) ((w + 1) * xs.length) (n + 1) := by
  obtain ⟨a, b, c, d, e⟩ := rp_all h
  exact ⟨by simpa only [PyData.leavesShort] using a, by simpa only [PyData.showable] using b, by simpa only [PyData.hasDict] using c, by simp only [PyData.depth]; omega, by simpa only [PyData.weight] using e⟩
theorem rp_tup {w n : Nat} {xs : List PyData} (h : ∀ x ∈ xs, Rp x w n) : Rp (.tuple xs) ((w + 1) * xs.length) (n + 1) := by
  obtain ⟨a, b, c, d, e⟩ := rp_all h
  exact ⟨by simpa only [PyData.leavesShort] using a, by simpa only [PyData.showable] using b, by simpa only [PyData.hasDict] using c, by simp only [PyData.depth]; omega, by simpa only [PyData.weight] using e⟩
theorem Rp.mono {d : PyData} {w n w' n' : Nat} (h : Rp d w n) (hw : w ≤ w') (hn : n ≤ n') : Rp d w' n' := ⟨h.ls, h.sh, h.nd, Nat.le_trans h.dp hn, Nat.le_trans h.wt hw⟩
theorem Rp.fits {d : PyData} {w n : Nat} (h : Rp d w n) (hw : w ≤ 300000) (hn : n ≤ 30) : d.showable = true ∧ d.hasDict = false ∧ d.depth ≤ 30 ∧ d.shown.length ≤ sizeLine := by
  refine ⟨h.sh, h.nd, Nat.le_trans h.dp hn, ?_⟩
  have e := PyData.shown_le 41 (by decide) d h.ls
  have e2 := h.wt
  rw [sizeLine_eq]
  omega
/-- items that are written in few signs -/
def fineIm : Im → Prop
  | .i n => n.natAbs < 10 ^ 40
  | .s x => x.length ≤ 8 ∧ ∀ c ∈ x.cps.toList, c < 1000
  | .b n => n < 1000
theorem rp_im : ∀ {x : Im}, fineIm x → Rp x.d 300 1
  | .i n, h => (rp_int h).mono (by decide) (by decide)
  | .s x, h => (rp_str (Nat.le_trans h.1 (by decide)) h.2).mono (by decide) (by decide)
  | .b n, h => by
    have z : Rp (.tuple [.str "box", .int n]) ((140 + 1) * 2) 1 := rp_tup (xs := [.str "box", .int n]) fun x hx => by
      rcases List.mem_cons.mp hx with e | hx
      · rw [e]
        exact rp_str (by decide +kernel) (by decide +kernel)
      · rw [List.mem_singleton.mp hx]
        exact rp_int (by have h : n < 1000 := h; omega)
    exact z.mono (by decide) (by decide)
theorem rp_row {r : List Im} (h : ∀ x ∈ r, fineIm x) (hl : r.length ≤ 300) : Rp (rowD r) (301 * r.length) 2 := by
  have z : Rp (.list (r.map Im.d)) ((300 + 1) * (r.map Im.d).length) 2 := rp_list fun x hx => by
    obtain ⟨y, hy, rfl⟩ := List.mem_map.mp hx
    exact rp_im (h y hy)
  rw [List.length_map] at z
  exact z
theorem weight_rows : ∀ {c : List (List Im)}, (∀ r ∈ c, ∀ x ∈ r, fineIm x) → (∀ r ∈ c, r.length ≤ 300) → PyData.weightAll (c.map rowD) ≤ 301 * (c.map List.length).sum + c.length
  | [], _, _ => Nat.zero_le _
  | r :: c, h, hl => by
    have z := weight_rows (fun r hr => h r (List.mem_cons_of_mem _ hr)) fun r hr => hl r (List.mem_cons_of_mem _ hr)
    have z2 := (rp_row (h r (by simp)) (hl r (by simp))).wt
    simp only [List.map_cons, PyData.weightAll, List.sum_cons, List.length_cons]
    rw [Nat.mul_add]
    omega
theorem rp_cont {c : List (List Im)} (h : ∀ r ∈ c, ∀ x ∈ r, fineIm x) (hl : (c.map List.length).sum ≤ 300) (hc : c.length ≤ 100) : Rp (contD c) 100000 3 := by
  have hr : ∀ r ∈ c, r.length ≤ 300 := fun r hm => by
    refine Nat.le_trans ?_ hl
    clear h hl hc
    induction c with
    | nil => simp at hm
    | cons a c ih =>
      simp only [List.map_cons, List.sum_cons]
      rcases List.mem_cons.mp hm with e | hm
      · rw [e]; omega
      · have := ih hm; omega
  have z : Rp (.list (c.map rowD)) ((301 * 300 + 1) * (c.map rowD).length) 3 := rp_list fun x hx => by
    obtain ⟨y, hy, rfl⟩ := List.mem_map.mp hx
    exact (rp_row (h y hy) (hr y hy)).mono (Nat.mul_le_mul_left _ (hr y hy)) (Nat.le_refl _)
  refine ⟨z.ls, z.sh, z.nd, z.dp, ?_⟩
  have w := weight_rows h hr
  have e : (contD c).weight = PyData.weightAll (c.map rowD) := by simp only [contD, PyData.weight]
  rw [e]
  omega
end Rg
/-! RgE: contents while a heap is filled item by item; two swaps. -/
namespace Rg
open PySem PySem.Spec PyProof.Rows L2
/-- the first i rows, j items of the next one, the others empty -/
def cur (c : Cont) (i j : Nat) : Cont := c.take i ++ (rowOf c i).take j :: List.replicate (c.length - i - 1) []
def filled (c : Cont) (i : Nat) : Cont := c.take i ++ List.replicate (c.length - i) []
section
variable {c : Cont} {i j : Nat} {x : Im}
theorem rowOf_get (h : i < c.length) : c[i]? = some (rowOf c i) := by
  rw [List.getElem?_eq_getElem h]
  exact congrArg some (rowOf_of (List.getElem?_eq_getElem h)).symm
theorem cur_len (h : i < c.length) : (cur c i j).length = c.length := by
  simp only [cur, List.length_append, List.length_take, List.length_cons, List.length_replicate]
  omega
theorem cur_at (h : i < c.length) : (cur c i j)[i]? = some ((rowOf c i).take j) := by
  have e : (c.take i).length = i := by rw [List.length_take]; omega
  unfold cur
  rw [List.getElem?_append_right (by omega), e]
  simp
theorem cur_step (h : i < c.length) (hx : (rowOf c i)[j]? = some x) : (cur c i j).set i ((rowOf c i).take j ++ [x]) = cur c i (j + 1) := by
  have e : (c.take i).length = i := by rw [List.length_take]; omega
  obtain ⟨hj, ej⟩ := List.getElem?_eq_some_iff.mp hx
  unfold cur
  rw [List.set_append_right _ _ (by omega), e, Nat.sub_self, List.set_cons_zero, List.take_succ_eq_append_getElem hj, ej]
theorem cur_zero (h : i < c.length) : cur c i 0 = filled c i := by
  unfold cur filled
  rw [List.take_zero, show c.length - i = (c.length - i - 1) + 1 by omega, List.replicate_succ]
  rfl
theorem cur_full (h : i < c.length) : cur c i (rowOf c i).length = filled c (i + 1) := by
  unfold cur filled
  rw [List.take_length, List.take_succ_eq_append_getElem h, List.append_assoc]
  have e : c[i] = rowOf c i := (rowOf_of (List.getElem?_eq_getElem h)).symm
  rw [e]
  rfl
theorem filled_zero : filled c 0 = List.replicate c.length [] := by simp [filled]
theorem filled_full : filled c c.length = c := by simp [filled]
theorem total_cur (h : i < c.length) (hj : j < (rowOf c i).length) : total (cur c i j) < total c := by
  have e : c = c.take i ++ rowOf c i :: c.drop (i + 1) := by
    have e2 : c[i] = rowOf c i := (rowOf_of (List.getElem?_eq_getElem h)).symm
    rw [← e2, ← List.drop_eq_getElem_cons h, List.take_append_drop]
  have e3 : total c = total (c.take i) + ((rowOf c i).length + total (c.drop (i + 1))) := by
    conv => lhs; rw [e]
    simp [total]
  have e4 : total (cur c i j) = total (c.take i) + min j (rowOf c i).length := by
    simp [total, cur]
  rw [e3, e4]
  omega
end
theorem swap_swap {α : Type} {l : List α} {i j : Nat} {a b : α} (hi : l[i]? = some a) (hj : l[j]? = some b) : ((l.set i b).set j a)[j]? = some a ∧ ((l.set i b).set j a)[i]? = some b ∧ (((l.set i b).set j a).set j b).set i a = l := by
  obtain ⟨li, ei⟩ := List.getElem?_eq_some_iff.mp hi
  obtain ⟨lj, ej⟩ := List.getElem?_eq_some_iff.mp hj
  refine ⟨by simp [lj], ?_, ?_⟩
  · rw [List.getElem?_set]
    by_cases e : j = i
    · subst e
      rw [if_pos rfl, if_pos (by simpa using li), ← ei, ← ej]
    · rw [if_neg e]
      simp [li]
  · refine List.ext_getElem? fun k => ?_
    by_cases e1 : i = k
    · subst e1
      simp [li, hi, ei]
    · rw [List.getElem?_set_ne e1]
      by_cases e2 : j = k
      · subst e2
        simp [lj, hj, ej]
      · rw [List.getElem?_set_ne e2, List.getElem?_set_ne e2, List.getElem?_set_ne e1]
end Rg
/-! RgF: numbers given in the order of opening; targets of two names. -/
namespace Rg
open PySem PySem.Spec PyProof.Rows L2
theorem gTup2_mono {K : PySem.W.Frag} {i j : Nat} : ∀ (x : V) (σ : L2.St) (H : Hp) (Q Q' : L2.St → Hp → Prop), (∀ σ' H', Q σ' H' → Q' σ' H') → gTup K 2 (gCons (gName i) (gCons (gName j) gNil)) x σ H Q → gTup K 2 (gCons (gName i) (gCons (gName j) gNil)) x σ H Q' :=
  fun _ _ _ _ _ h ⟨a, xs, e, s, n, v, r, e1, w, r2, e2, e3, q⟩ => ⟨a, xs, e, s, n, v, r, e1, w, r2, e2, e3, h _ _ q⟩
theorem refs_of {γ : Type} {R : Addr → γ → Prop} : ∀ {acc : List V} {zs : List γ}, Paired (fun v r => ∃ a, v = .ref a ∧ R a r) acc zs → ∃ bs : List Addr, acc = bs.map V.ref ∧ Paired R bs zs
  | _, _, .nil => ⟨[], rfl, .nil⟩
  | _, _, .cons ⟨a, e, h⟩ t => let ⟨bs, e2, hb⟩ := refs_of t; ⟨a :: bs, by rw [e, e2]; rfl, .cons h hb⟩
theorem eq_of_get {γ : Type} {zs l : List γ} (h1 : zs.length = l.length) (h2 : ∀ (i : Nat) z, zs[i]? = some z → l[i]? = some z) : zs = l := by
  refine List.ext_getElem? fun i => ?_
  cases hb : zs[i]? with
  | none =>
    have h := List.getElem?_eq_none_iff.mp hb
    rw [List.getElem?_eq_none (by omega)]
  | some b => exact (h2 i b hb).symm
theorem numK_get : ∀ {o : List Nat} {b i x : Nat}, o[i]? = some x → (numK b o)[i]? = some (.inl (x : Int), .int ((b + i : Nat)))
  | [], _, _, _, h => by simp at h
  | y :: o, b, 0, x, h => by
    simp at h
    subst h
    rfl
  | y :: o, b, i + 1, x, h => by
    have z := numK_get (o := o) (b := b + 1) (i := i) (x := x) (by simpa using h)
    have e : b + 1 + i = b + (i + 1) := by omega
    rw [e] at z
    exact z
theorem numK_merge : ∀ (o2 o1 : List Nat) (b : Nat), (o1 ++ o2).Nodup → mergeK (numK b o1) (numK (b + o1.length) o2) = numK b (o1 ++ o2)
  | [], o1, b, _ => by rw [List.append_nil]; rfl
  | x :: o2, o1, b, h => by
    have nx : x ∉ o1 := fun z => (List.nodup_append.mp h).2.2 x z x (by simp) rfl
    have ih := numK_merge o2 (o1 ++ [x]) b (by rw [List.append_assoc]; exact h)
    rw [List.append_assoc] at ih
    rw [show numK (b + o1.length) (x :: o2) = (.inl (x : Int), .int ((b + o1.length : Nat))) :: numK (b + o1.length + 1) o2 from rfl]
    show mergeK (putK (numK b o1) _ _) _ = _
    rw [putK_new _ (numK_none _ _ nx), ← numK_snoc, show b + o1.length + 1 = b + (o1 ++ [x]).length by simp; omega]
    exact ih
theorem numK_merge0 {o : List Nat} {b : Nat} (h : o.Nodup) : mergeK [] (numK b o) = numK b o := numK_merge o [] b h
/-- contents in new lists, while they grow -/
structure DInv (H : Hp) (f : Addr) (H' : Hp) (as : List Addr) (c : Cont) : Prop where
  kp : Keep [] H H'
  lst : H' f = some (.lst (as.map V.ref))
  nf : f ∉ as
  rows : Paired (fun a r => H a = none ∧ ∃ xs, H' a = some (.lst xs) ∧ ImsV H' xs r) as c
theorem DInv.new {H H' H2 : Hp} {f : Addr} {as : List Addr} {c : Cont} (z : DInv H f H' as c) (k : Keep [] H' H2) : DInv H f H2 as c :=
  ⟨z.kp.trans k, k.same _ _ z.lst, z.nf, paired_mem z.rows fun i a r h1 _ ⟨h2, xs, h3, h4⟩ => ⟨h2, xs, k.same _ _ h3, h4.keep k⟩⟩
theorem DInv.push {H H' : Hp} {f t : Addr} {as : List Addr} {c : Cont} {xs : List V} {r : List Im} (z : DInv H f H' as c) (hf : H f = none) (ht0 : H t = none) (ht : H' t = some (.lst xs)) (ntf : t ≠ f) (hI : ImsV H' xs r) : DInv H f (upd H' f (.lst (as.map V.ref ++ [.ref t]))) (as ++ [t]) (c ++ [r]) := by
  have kp : Keep [f] H' (upd H' f (.lst (as.map V.ref ++ [.ref t]))) := .put (by simp) z.lst rfl
  refine ⟨z.kp.upd_fresh hf, by rw [upd_same, List.map_append]; rfl, fun e => ?_, paired_append (paired_mem z.rows fun i a r h1 _ ⟨h2, xs, h3, h4⟩ => ⟨h2, xs, kp.at (fun e => z.nf (by rw [← List.mem_singleton.mp e]; exact List.mem_of_getElem? h1)) h3, h4.keep kp⟩) (.cons ⟨ht0, xs, kp.at (fun e => ntf (List.mem_singleton.mp e)) ht, hI.keep kp⟩ .nil)⟩
  rcases List.mem_append.mp e with e | e
  · exact z.nf e
  · exact ntf (List.mem_singleton.mp e).symm
end Rg
/-! RgG: sizes of copies; the pairs of numbers as data. -/
namespace Rg
open PySem PySem.Spec PyProof.Rows L2
theorem sum_sub (f : Nat → Nat) : ∀ (n : Nat) (o : List Nat), o.Nodup → (∀ x ∈ o, x < n) → (o.map f).sum ≤ ((List.range n).map f).sum
  | 0, [], _, _ => Nat.le_refl _
  | 0, x :: _, _, h => absurd (h x (by simp)) (by omega)
  | n + 1, o, hn, h => by
    have z := sum_sub f n (o.erase n) (hn.erase n) fun x hx => by
      have h1 := h x (List.mem_of_mem_erase hx)
      have h2 : x ≠ n := fun e => by
        rw [e] at hx
        exact (List.Nodup.not_mem_erase hn) hx
      omega
    rw [List.range_succ, List.map_append, List.sum_append]
    by_cases hm : n ∈ o
    · have p := ((List.perm_cons_erase hm).map f).sum_nat
      rw [p, List.map_cons, List.sum_cons]
      simp
      omega
    · rw [List.erase_of_not_mem hm] at z
      omega
theorem total_range (c : Cont) : total c = ((List.range c.length).map fun x => (rowOf c x).length).sum := by
  unfold total
  congr 1
  refine List.ext_getElem? fun i => ?_
  rw [List.getElem?_map, List.getElem?_map]
  by_cases h : i < c.length
  · rw [rowOf_get h, List.getElem?_range h]
    rfl
  · rw [List.getElem?_eq_none (by omega), List.getElem?_eq_none (by simp; omega)]
    rfl
theorem lens_le {c : Cont} {o : List Nat} (h : o.Nodup) (h2 : ∀ x ∈ o, x < c.length) : lens c o ≤ total c := by
  rw [total_range]
  exact sum_sub _ _ _ h h2
theorem copyC_len (c : Cont) (o : List Nat) : (copyC c o).length = c.length + o.length := by simp [copyC]
theorem copyC_total (c : Cont) (o : List Nat) : total (copyC c o) = total c + lens c o := by
  simp only [total, copyC, lens, List.map_append, List.sum_append, List.map_map]
  congr 2
  refine List.map_congr_left fun x _ => ?_
  simp
/-- an item of a copy -/
theorem copyC_item {c : Cont} {o : List Nat} (h2 : ∀ x ∈ o, x < c.length) (hcl : ∀ x ∈ o, ∀ row, c[x]? = some row → ∀ k, Im.b k ∈ row → k ∈ o) {r : List Im} (hr : r ∈ copyC c o) {x : Im} (hx : x ∈ r) :
    (∃ r ∈ c, x ∈ r) ∨ ∃ k, k < o.length ∧ x = .b (c.length + k) := by
  rcases List.mem_append.mp hr with hr | hr
  · exact .inl ⟨r, hr, hx⟩
  · obtain ⟨y, hy, rfl⟩ := List.mem_map.mp hr
    obtain ⟨z, hz, rfl⟩ := List.mem_map.mp hx
    have hyc := rowOf_get (h2 y hy)
    cases z with
    | i n => exact .inl ⟨_, List.mem_of_getElem? hyc, hz⟩
    | s w => exact .inl ⟨_, List.mem_of_getElem? hyc, hz⟩
    | b n => exact .inr ⟨_, List.idxOf_lt_length_of_mem (hcl y hy _ hyc n hz), rfl⟩
def numD : Nat → List Nat → List PyData
  | _, [] => []
  | b, x :: o => .tuple [.int (x : Int), .int (b : Nat)] :: numD (b + 1) o
theorem numD_len : ∀ (o : List Nat) (b : Nat), (numD b o).length = o.length
  | [], _ => rfl
  | _ :: o, b => by show (numD (b + 1) o).length + 1 = _; rw [numD_len o]; rfl
theorem numD_rp : ∀ (o : List Nat) (b : Nat), (∀ x ∈ o, x < 1000) → b + o.length < 1000 → ∀ d ∈ numD b o, Rp d 282 1
  | [], _, _, _, _, h => by simp [numD] at h
  | x :: o, b, h1, h2, d, h => by
    have h2' : b + (o.length + 1) < 1000 := h2
    rcases List.mem_cons.mp h with e | h
    · rw [e]
      refine (rp_tup (w := 140) (n := 0) (xs := [.int (x : Int), .int (b : Nat)]) fun y hy => ?_).mono (show (140 + 1) * 2 ≤ 282 by decide) (by decide)
      rcases List.mem_cons.mp hy with e | hy
      · rw [e]
        have := h1 x (by simp)
        exact rp_int (by omega)
      · rw [List.mem_singleton.mp hy]
        exact rp_int (by omega)
    · exact numD_rp o (b + 1) (fun y hy => h1 y (List.mem_cons_of_mem _ hy)) (by omega) d h
theorem numD_list {o : List Nat} {b : Nat} (h1 : ∀ x ∈ o, x < 1000) (h2 : b + o.length < 1000) : Rp (.list (numD b o)) 300000 3 := by
  have z := rp_list (numD_rp o b h1 h2)
  rw [numD_len] at z
  exact z.mono (by omega) (by decide)
theorem numD_dp {K : PySem.W.Frag} {H : Hp} : ∀ {o : List Nat} {b : Nat} {ts : List Addr}, Paired (fun t (q : Key × V) => H t = some (.tup [kV q.1, q.2])) ts (numK b o) → DpAll K H (ts.map V.ref) (numD b o)
  | [], b, ts, h => by
    cases h
    exact .nil
  | x :: o, b, ts, h => by
    cases h with
    | cons a t => exact .cons (.tup (.of a) (.cons (.int _) (.cons (.int _) .nil))) (numD_dp t)
end Rg
namespace K66
open PySem PySem.Spec PyProof.Rows L2 Rg
def top (i : Nat) : Stmt := PySem.Challenge.pw_ringlists_k66_joins_done.main.body.getD i (.Pass ⟨0, 0, 0, 0⟩)
abbrev s_is_integer : Stmt := top 15
abbrev s_is_within : Stmt := top 16
abbrev s_is_word : Stmt := top 17
abbrev s_is_leaf : Stmt := top 18
abbrev s_is_reference : Stmt := top 19
abbrev s_is_item : Stmt := top 20
abbrev s_renamed : Stmt := top 24
abbrev s_after_joins : Stmt := top 25
abbrev s_l_bag : Stmt := top 27
abbrev s_l_take : Stmt := top 28
abbrev s_l_leaf : Stmt := top 29
abbrev s_l_contents : Stmt := top 30
abbrev s_l_twofold : Stmt := top 31
abbrev s_l_heap : Stmt := top 32
abbrev s_l_into : Stmt := top 33
abbrev s_l_no_box : Stmt := top 34
abbrev s_l_strange : Stmt := top 35
abbrev s_l_ringed : Stmt := top 36
abbrev s_l_right : Stmt := top 37
abbrev s_law : Stmt := top 38
abbrev s_init : Stmt := inClass (top 22) 2
abbrev s_of : Stmt := inClass (top 22) 3
abbrev s_eq : Stmt := inClass (top 22) 4
abbrev s_len : Stmt := inClass (top 22) 5
abbrev s_contains : Stmt := inClass (top 22) 7
abbrev s_need_box : Stmt := inClass (top 22) 9
abbrev s_need_place : Stmt := inClass (top 22) 10
abbrev s_need_item : Stmt := inClass (top 22) 11
abbrev s_need_room : Stmt := inClass (top 22) 12
abbrev s_new : Stmt := inClass (top 22) 13
abbrev s_add_at : Stmt := inClass (top 22) 15
abbrev s_add_last : Stmt := inClass (top 22) 16
abbrev s_swap : Stmt := inClass (top 22) 18
abbrev s_contents : Stmt := inClass (top 22) 20
abbrev s_xi_NoBox : Stmt := inClass (top 4) 0
/-- what the text's names stand for behind the top -/
structure Txt (K : PySem.W.Frag) (mg : Str → Option Value) where
  f_is_integer : Addr
  fd_is_integer : FuncData
  F_is_integer : Fun K "is_integer" "is_integer" s_is_integer f_is_integer fd_is_integer
  g_is_integer : mg "is_integer" = some (.ref f_is_integer)
  f_is_within : Addr
  fd_is_within : FuncData
  F_is_within : Fun K "is_within" "is_within" s_is_within f_is_within fd_is_within
  g_is_within : mg "is_within" = some (.ref f_is_within)
  f_is_word : Addr
  fd_is_word : FuncData
  F_is_word : Fun K "is_word" "is_word" s_is_word f_is_word fd_is_word
  g_is_word : mg "is_word" = some (.ref f_is_word)
  f_is_leaf : Addr
  fd_is_leaf : FuncData
  F_is_leaf : Fun K "is_leaf" "is_leaf" s_is_leaf f_is_leaf fd_is_leaf
  g_is_leaf : mg "is_leaf" = some (.ref f_is_leaf)
  f_is_reference : Addr
  fd_is_reference : FuncData
  F_is_reference : Fun K "is_reference" "is_reference" s_is_reference f_is_reference fd_is_reference
  g_is_reference : mg "is_reference" = some (.ref f_is_reference)
  f_is_item : Addr
  fd_is_item : FuncData
  F_is_item : Fun K "is_item" "is_item" s_is_item f_is_item fd_is_item
  g_is_item : mg "is_item" = some (.ref f_is_item)
  f_renamed : Addr
  fd_renamed : FuncData
  F_renamed : Fun K "renamed" "renamed" s_renamed f_renamed fd_renamed
  g_renamed : mg "renamed" = some (.ref f_renamed)
  f_after_joins : Addr
  fd_after_joins : FuncData
  F_after_joins : Fun K "after_joins" "after_joins" s_after_joins f_after_joins fd_after_joins
  g_after_joins : mg "after_joins" = some (.ref f_after_joins)
  f_l_bag : Addr
  fd_l_bag : FuncData
  F_l_bag : Fun K "_law_bag" "_law_bag" s_l_bag f_l_bag fd_l_bag
  g_l_bag : mg "_law_bag" = some (.ref f_l_bag)
  f_l_take : Addr
  fd_l_take : FuncData
  F_l_take : Fun K "_law_take" "_law_take" s_l_take f_l_take fd_l_take
  g_l_take : mg "_law_take" = some (.ref f_l_take)
  f_l_leaf : Addr
  fd_l_leaf : FuncData
  F_l_leaf : Fun K "_law_leaf" "_law_leaf" s_l_leaf f_l_leaf fd_l_leaf
  g_l_leaf : mg "_law_leaf" = some (.ref f_l_leaf)
  f_l_contents : Addr
  fd_l_contents : FuncData
  F_l_contents : Fun K "_law_contents" "_law_contents" s_l_contents f_l_contents fd_l_contents
  g_l_contents : mg "_law_contents" = some (.ref f_l_contents)
  f_l_twofold : Addr
  fd_l_twofold : FuncData
  F_l_twofold : Fun K "_law_twofold" "_law_twofold" s_l_twofold f_l_twofold fd_l_twofold
  g_l_twofold : mg "_law_twofold" = some (.ref f_l_twofold)
  f_l_heap : Addr
  fd_l_heap : FuncData
  F_l_heap : Fun K "_law_heap" "_law_heap" s_l_heap f_l_heap fd_l_heap
  g_l_heap : mg "_law_heap" = some (.ref f_l_heap)
  f_l_into : Addr
  fd_l_into : FuncData
  F_l_into : Fun K "_law_into" "_law_into" s_l_into f_l_into fd_l_into
  g_l_into : mg "_law_into" = some (.ref f_l_into)
  f_l_no_box : Addr
  fd_l_no_box : FuncData
  F_l_no_box : Fun K "_law_no_box" "_law_no_box" s_l_no_box f_l_no_box fd_l_no_box
  g_l_no_box : mg "_law_no_box" = some (.ref f_l_no_box)
  f_l_strange : Addr
  fd_l_strange : FuncData
  F_l_strange : Fun K "_law_strange" "_law_strange" s_l_strange f_l_strange fd_l_strange
  g_l_strange : mg "_law_strange" = some (.ref f_l_strange)
  f_l_ringed : Addr
  fd_l_ringed : FuncData
  F_l_ringed : Fun K "_law_ringed" "_law_ringed" s_l_ringed f_l_ringed fd_l_ringed
  g_l_ringed : mg "_law_ringed" = some (.ref f_l_ringed)
  f_l_right : Addr
  fd_l_right : FuncData
  F_l_right : Fun K "_law_right" "_law_right" s_l_right f_l_right fd_l_right
  g_l_right : mg "_law_right" = some (.ref f_l_right)
  f_law : Addr
  fd_law : FuncData
  F_law : Fun K "law" "law" s_law f_law fd_law
  g_law : mg "law" = some (.ref f_law)
  C : Addr
  g_Heap : mg "Heap" = some (.ref C)
  cl : Cls K C
  cr : ClX.CRead K C (.type "type")
  f_init : Addr
  fd_init : FuncData
  F_init : Fun K "__init__" "Heap.__init__" s_init f_init fd_init
  mkC : Mk K C f_init
  f_of : Addr
  fd_of : FuncData
  F_of : Fun K "of" "Heap.of" s_of f_of fd_of
  p_of : Addr
  cm_of : ClX.CMet K C (.type "type") "of" p_of f_of
  f_eq : Addr
  fd_eq : FuncData
  F_eq : Fun K "__eq__" "Heap.__eq__" s_eq f_eq fd_eq
  m_eq : Meth K C "__eq__" f_eq
  f_len : Addr
  fd_len : FuncData
  F_len : Fun K "__len__" "Heap.__len__" s_len f_len fd_len
  m_len : Meth K C "__len__" f_len
  f_contains : Addr
  fd_contains : FuncData
  F_contains : Fun K "__contains__" "Heap.__contains__" s_contains f_contains fd_contains
  m_contains : Meth K C "__contains__" f_contains
  f_need_box : Addr
  fd_need_box : FuncData
  F_need_box : Fun K "need_box" "Heap.need_box" s_need_box f_need_box fd_need_box
  m_need_box : Meth K C "need_box" f_need_box
  f_need_place : Addr
  fd_need_place : FuncData
  F_need_place : Fun K "need_place" "Heap.need_place" s_need_place f_need_place fd_need_place
  m_need_place : Meth K C "need_place" f_need_place
  f_need_item : Addr
  fd_need_item : FuncData
  F_need_item : Fun K "need_item" "Heap.need_item" s_need_item f_need_item fd_need_item
  m_need_item : Meth K C "need_item" f_need_item
  f_need_room : Addr
  fd_need_room : FuncData
  F_need_room : Fun K "need_room" "Heap.need_room" s_need_room f_need_room fd_need_room
  m_need_room : Meth K C "need_room" f_need_room
  f_new : Addr
  fd_new : FuncData
  F_new : Fun K "new" "Heap.new" s_new f_new fd_new
  m_new : Meth K C "new" f_new
  f_add_at : Addr
  fd_add_at : FuncData
  F_add_at : Fun K "add_at" "Heap.add_at" s_add_at f_add_at fd_add_at
  m_add_at : Meth K C "add_at" f_add_at
  f_add_last : Addr
  fd_add_last : FuncData
  F_add_last : Fun K "add_last" "Heap.add_last" s_add_last f_add_last fd_add_last
  m_add_last : Meth K C "add_last" f_add_last
  f_swap : Addr
  fd_swap : FuncData
  F_swap : Fun K "swap" "Heap.swap" s_swap f_swap fd_swap
  m_swap : Meth K C "swap" f_swap
  f_contents : Addr
  fd_contents : FuncData
  F_contents : Fun K "contents" "Heap.contents" s_contents f_contents fd_contents
  m_contents : Meth K C "contents" f_contents
  ic : PySem.W.findIn K (.ref C) "__class__" = some (some (.builtin "object.__class__"))
  im : PySem.W.mroIn K C (.type "object") = some true
  ip : PySem.W.specialIn K (.builtin "object.__class__") "__get__" = some (some (.builtin "getset_descriptor.__get__"))
  iu : PySem.W.takesIn K (.builtin "object.__class__") = some true
  na_lists : NoAttr K C "lists"
  u_MOST_BOXES : Value
  cv_MOST_BOXES : ClX.CVal K C (.type "type") "MOST_BOXES" (.int 60) u_MOST_BOXES
  u_MOST_ITEMS : Value
  cv_MOST_ITEMS : ClX.CVal K C (.type "type") "MOST_ITEMS" (.int 300) u_MOST_ITEMS
  t_BOX : Tok
  g_BOX : mg "BOX" = some (.str "box" t_BOX)
  t_LETTERS : Tok
  g_LETTERS : mg "LETTERS" = some (.str "abcdefghijklmnopqrstuvwxyz" t_LETTERS)
  t_MOST_LETTERS : Tok
  g_MOST_LETTERS : mg "MOST_LETTERS" = some (.int 8 t_MOST_LETTERS)
  n_LookupError : mg "LookupError" = none
  n_abs : mg "abs" = none
  n_all : mg "all" = none
  n_bool : mg "bool" = none
  n_int : mg "int" = none
  n_isinstance : mg "isinstance" = none
  n_len : mg "len" = none
  n_list : mg "list" = none
  n_max : mg "max" = none
  n_min : mg "min" = none
  n_range : mg "range" = none
  n_repr : mg "repr" = none
  n_str : mg "str" = none
  n_tuple : mg "tuple" = none
  C_Endless : Addr
  g_Endless : mg "Endless" = some (.ref C_Endless)
  C_Full : Addr
  g_Full : mg "Full" = some (.ref C_Full)
  C_NoPlace : Addr
  g_NoPlace : mg "NoPlace" = some (.ref C_NoPlace)
  C_NothingDone : Addr
  g_NothingDone : mg "NothingDone" = some (.ref C_NothingDone)
  C_RingError : Addr
  g_RingError : mg "RingError" = some (.ref C_RingError)
  C_TooDeep : Addr
  g_TooDeep : mg "TooDeep" = some (.ref C_TooDeep)
  C_TooMany : Addr
  g_TooMany : mg "TooMany" = some (.ref C_TooMany)
  C_NoBox : Addr
  g_NoBox : mg "NoBox" = some (.ref C_NoBox)
  x_NoBox : ExG K C_NoBox [.type "LookupError", .type "Exception", .type "BaseException", .type "object"] "LookupError.__new__"
  f_xi_NoBox : Addr
  fd_xi_NoBox : FuncData
  F_xi_NoBox : Fun K "__init__" "NoBox.__init__" s_xi_NoBox f_xi_NoBox fd_xi_NoBox
  i_NoBox : PySem.W.findIn K (.ref C_NoBox) "__init__" = some (some (.ref f_xi_NoBox))
  ti_NoBox : PySem.W.typeIn K (.ref f_xi_NoBox) = some (.type "function")
  nf_NoBox : PySem.W.findIn K (.ref C_NoBox) "number" = some none
  xf_NoBox : XfC K C_NoBox
  is_NoBox : IsX K C_NoBox
  em_NoBox : PySem.W.exmOne K (.ref C_NoBox) (.ref C_NoBox) = some true
  bi_NoBox : PySem.W.findCls K (.type "LookupError") (.type "type") "__init__" = some (.val (.builtin "LookupError.__init__"))
  kit0 : PySem.W.kitAny K (.ref C_NoBox) [.ref C_Endless, .ref C_Full, .ref C_NoPlace, .ref C_NothingDone, .ref C_RingError, .ref C_TooDeep, .ref C_TooMany] = some false
  kit1 : PySem.W.kitOne K (.ref C_NoBox) (.type "LookupError") = some true
  c_l_right : Addr
  p_l_right : Addr
  L_l_right : ∃ (oc : Value) (od : Option Addr) (kV doc pm : Value) (an : Option Addr) (ct : Value) (osl : Array (Option Value)), K.lookup f_l_right = some ⟨oc, od, .func (PySem.W.fnOf "_law_right" "_law_right" (defArgs s_l_right) (defBody s_l_right) (defScope s_l_right) .none kV doc pm an (.ref c_l_right) ct), osl⟩ ∧ PySem.W.codeIn K (.ref c_l_right) "_law_right" = true
end K66
namespace K66
open PySem PySem.Spec PyProof.Rows L2 Rg
/-! ### items -/
/-- a thing that is no integer, by its type -/
def NotInt (K : PySem.W.Frag) (H : Hp) (v : V) : Prop := ∃ t, TyX K H v (.type t) ∧ (kitB t "int" = some false ∨ (kitB t "int" = some true ∧ kitB t "bool" = some true))
def letters : List Nat := ("abcdefghijklmnopqrstuvwxyz" : Str).cps.toList
def wordB (x : Str) : Bool := decide ((x.length : Int) ≤ 8) && x.cps.toList.all fun c => decide (c ∈ letters)
def okIm (size : Int) : Im → Bool
  | .i _ => true
  | .s x => wordB x
  | .b n => decide ((0 : Int) ≤ n) && decide ((n : Int) ≤ size - 1)
def spIsInteger (K : PySem.W.Frag) : Sp := fun vs H Q _ => (∃ n, vs = [.int n] ∧ Q (.bl true) H) ∨ ∃ v, vs = [v] ∧ NotInt K H v ∧ Q (.bl false) H
def spIsWithin (K : PySem.W.Frag) : Sp := fun vs H Q _ => (∃ n lo hi, vs = [.int n, .int lo, .int hi] ∧ Q (.bl (decide (lo ≤ n) && decide (n ≤ hi))) H) ∨ ∃ v lo hi, vs = [v, lo, hi] ∧ NotInt K H v ∧ Q (.bl false) H
def spIsWord (K : PySem.W.Frag) : Sp := fun vs H Q _ => (∃ x : Str, vs = [.str x] ∧ x.length ≤ 1000 ∧ ∀ H', Keep [] H H' → Q (.bl (wordB x)) H') ∨ ∃ v t, vs = [v] ∧ TyX K H v (.type t) ∧ kitB t "str" = some false ∧ Q (.bl false) H
def spIsLeaf (K : PySem.W.Frag) : Sp := fun vs H Q _ => ∃ v x, vs = [v] ∧ ImV H v x ∧ (∀ y, x = .s y → y.length ≤ 1000) ∧ ∀ H', Keep [] H H' → Q (.bl (match x with | .i _ => true | .s y => wordB y | .b _ => false)) H'
def spIsRef (K : PySem.W.Frag) : Sp := fun vs H Q _ => ∃ v x size, vs = [v, .int size] ∧ ImV H v x ∧ Q (.bl (match x with | .b n => decide ((0 : Int) ≤ n) && decide ((n : Int) ≤ size - 1) | _ => false)) H
def spIsItem (K : PySem.W.Frag) : Sp := fun vs H Q _ => ∃ v x size, vs = [v, .int size] ∧ ImV H v x ∧ (∀ y, x = .s y → y.length ≤ 1000) ∧ ∀ H', Keep [] H H' → Q (.bl (okIm size x)) H'
def spIsBox (K : PySem.W.Frag) : Sp := fun vs H Q _ => ∃ v x, vs = [v] ∧ ImV H v x ∧ Q (.bl (match x with | .b _ => true | _ => false)) H
section
variable {P : Program} {w : World} {K : PySem.W.Frag} {mg : Str → Option Value} {base : Heap}
/-- the type of an item -/
theorem ImV.ty {H : Hp} {v : V} : ∀ {x : Im}, ImV H v x → TyX K H v (.type (match x with | .i _ => "int" | .s _ => "str" | .b _ => "tuple"))
  | .i n, h => by rw [show v = _ from h]; exact .base (.int n)
  | .s x, h => by rw [show v = _ from h]; exact .base (.str x)
  | .b n, ⟨a, h1, h2⟩ => by rw [h1]; exact .base (.tup h2)
def N_is_integer : List Str := ["thing"]
theorem sc_is_integer : FnScope N_is_integer ["thing"] (defScope s_is_integer) := ⟨rfl, rfl, rfl, by decide +kernel, rfl, by decide +kernel, by decide +kernel⟩
theorem ok_is_integer (T : Txt K mg) : FnR P w K mg base CX0 1 T.f_is_integer (spIsInteger K) := by
  refine okR T.F_is_integer sc_is_integer (fun vs H Q E h => ?_) (T.F_is_integer.binds fun _ _ _ _ _ _ us hl => match us, hl with | [_], _ => rfl) (fun cdv A outer s H vs Q E hr h => ?_)
  · rcases h with ⟨n, rfl, _⟩ | ⟨v, rfl, _⟩ <;> rfl
  · refine ⟨_, (pss_one (ps_ret (pe_and (pe_callB call_isi (by rfl) T.n_isinstance (by decide +kernel) (pa_cons (pv 0) (pa_cons (pe_bltn (v := .ty "int") (by rfl) T.n_int (by decide +kernel) rfl) pa_nil))) (pe_one (pe_not (pe_callB call_isi (by rfl) T.n_isinstance (by decide +kernel) (pa_cons (pv 0) (pa_cons (pe_bltn (v := .ty "bool") (by rfl) T.n_bool (by decide +kernel) rfl) pa_nil)))))))), ?_⟩
    rcases h with ⟨n, rfl, q⟩ | ⟨v, rfl, ⟨t, ht, hk⟩, q⟩
    · refine ⟨_, rfl, _, _, _, _, true, rfl, .ty _, .base (.int n), kit_ty (by decide +kernel), true, rfl, iteT ?_⟩
      exact ⟨_, rfl, _, _, _, _, false, rfl, .ty _, .base (.int n), kit_ty (by decide +kernel), false, rfl, q⟩
    · rcases hk with hk | ⟨hk, hk2⟩
      · exact ⟨_, rfl, _, _, _, _, false, rfl, .ty _, ht, kit_ty hk, false, rfl, iteF q⟩
      · refine ⟨_, rfl, _, _, _, _, true, rfl, .ty _, ht, kit_ty hk, true, rfl, iteT ?_⟩
        exact ⟨_, rfl, _, _, _, _, true, rfl, .ty _, ht, kit_ty hk2, true, rfl, q⟩
def N_is_within : List Str := ["thing", "low", "high"]
theorem sc_is_within : FnScope N_is_within ["thing", "low", "high"] (defScope s_is_within) := ⟨rfl, rfl, rfl, by decide +kernel, rfl, by decide +kernel, by decide +kernel⟩
theorem ok_is_within (T : Txt K mg) : FnR P w K mg base CX0 2 T.f_is_within (spIsWithin K) := by
  refine okR T.F_is_within sc_is_within (fun vs H Q E h => ?_) (T.F_is_within.binds fun _ _ _ _ _ _ us hl => match us, hl with | [_, _, _], _ => rfl) (fun cdv A outer s H vs Q E hr h => ?_)
  · rcases h with ⟨n, lo, hi, rfl, _⟩ | ⟨v, lo, hi, rfl, _⟩ <;> rfl
  · refine ⟨_, (pss_one (ps_ret (pe_and (pe_callR (ok_is_integer T) (hr.mono (by decide)) rfl T.g_is_integer T.F_is_integer.kp pass0 (pa_cons (pv 0) pa_nil)) (pe_one (pe_chain op_le op_le (pv 1) (pv 0) (pv 2)))))), ?_⟩
    rcases h with ⟨n, lo, hi, rfl, q⟩ | ⟨v, lo, hi, rfl, hn, q⟩
    · refine ⟨_, rfl, .inl ⟨n, rfl, true, rfl, iteT ⟨_, rfl, _, rfl, _, _, rfl, rfl, _, rfl, ?_⟩⟩⟩
      by_cases c : lo ≤ n
      · rw [decide_eq_true c] at q ⊢
        refine iteT ⟨_, rfl, _, _, rfl, rfl, ?_⟩
        rw [Bool.true_and] at q
        exact q
      · rw [decide_eq_false c] at q ⊢
        rw [Bool.false_and] at q
        exact iteF q
    · exact ⟨_, rfl, .inr ⟨v, rfl, hn, false, rfl, iteF q⟩⟩
def N_is_word : List Str := ["thing", "sign"]
theorem sc_is_word : FnScope N_is_word ["thing"] (defScope s_is_word) := ⟨rfl, rfl, rfl, by decide +kernel, rfl, by decide +kernel, by decide +kernel⟩
theorem ok_is_word (T : Txt K mg) : FnR P w K mg base CX0 1 T.f_is_word (spIsWord K) := by
  refine okR T.F_is_word sc_is_word (fun vs H Q E h => ?_) (T.F_is_word.binds fun _ _ _ _ _ _ us hl => match us, hl with | [_], _ => rfl) (fun cdv A outer s H vs Q E hr h => ?_)
  · rcases h with ⟨x, rfl, _⟩ | ⟨v, t, rfl, _⟩ <;> rfl
  · refine ⟨_, (pss_one (ps_ret (pe_and (pe_callB call_isi (by rfl) T.n_isinstance (by decide +kernel) (pa_cons (pv 0) (pa_cons (pe_bltn (v := .ty "str") (by rfl) T.n_str (by decide +kernel) rfl) pa_nil))) (pe_and (pe_cmpR op_le (pe_callB call_len (by rfl) T.n_len (by decide +kernel) (pa_cons (pv 0) pa_nil)) (pe_glob (v := .int 8) rfl T.g_MOST_LETTERS ⟨_, rfl⟩) (nomark _)) (pe_one (pe_callB (cr_all rfl) (by rfl) T.n_all (by decide +kernel) (pa_cons (pe_lc (own := [("sign", 1)]) (g := (gName 1)) (tt := tYes) rfl sc_is_word.nd (pi_str (pv 0)) (blkOk_by (N := N_is_word) (sc := defScope s_is_word) (by decide +kernel)) (fun _ _ _ _ _ => (pg_name (i := 1) sc_is_word.nd rfl (Or.inl rfl))) (fun _ _ _ _ _ => pts_nil) (fun _ _ _ _ _ => (pe_cmpR op_in_sign (pv 1) (pe_glob (v := .str "abcdefghijklmnopqrstuvwxyz") rfl T.g_LETTERS ⟨_, rfl⟩) (by rfl)))) pa_nil))))))), ?_⟩
    rcases h with ⟨x, rfl, hx, q⟩ | ⟨v, t, rfl, ht, hk, q⟩
    · refine ⟨_, rfl, _, _, _, _, true, rfl, .ty _, .base (.str x), kit_ty (by decide +kernel), true, rfl, iteT ?_⟩
      refine ⟨_, rfl, _, x.length, rfl, ⟨Nat.le_trans hx (by decide), rfl⟩, _, _, rfl, rfl, _, rfl, ?_⟩
      have key : ∀ H', Keep [] H H' → Q (.bl (decide ((x.length : Int) ≤ 8) && x.cps.toList.all fun c => decide (c ∈ letters))) H' := q
      by_cases c : (x.length : Int) ≤ 8
      · rw [decide_eq_true c] at key ⊢
        refine iteT ⟨_, rfl, _, rfl, fun D hD => lc_it (M := []) (Jv := fun _ => True) (Rel := fun _ v b => v = V.bl b) (Ok := fun i b => ∃ c, x.cps[i]? = some c ∧ b = decide (c ∈ letters)) (n := x.cps.size) (Yx := fun i y H' => (∃ c, x.cps[i]? = some c ∧ y = .str ⟨#[c]⟩)) hD (by simp) (fun _ _ _ _ => trivial) trivial (Nat.le_trans (show x.cps.size ≤ 1000 from hx) (by decide)) it_str.1 it_str.2.1 (fun i H1 y H2 h1 h2 h3 => let z := it_str.2.2 i H1 y H2 h1 h2 h3; ⟨z.1, z.2.1, z.2.2.1⟩) (fun _ _ _ _ _ z => z) ?_ gName_mono ?_⟩
        · rintro i y H1 hi k _ hDn ⟨c, hc, rfl⟩ Qe hQ
          exact ⟨rfl, _, rfl, c, _, rfl, rfl, hQ _ _ _ .refl trivial ⟨c, hc, rfl⟩ rfl⟩
        · intro acc bs H1 k _ hA hP hL hO
          have e1 : acc = bs.map V.bl := by
            clear hO hL hA
            induction hP with
            | nil => rfl
            | cons a t ih => rw [ih, a]; rfl
          rw [e1] at hA
          refine ⟨_, bs, rfl, .of hA, ?_⟩
          have e2 : bs.all id = x.cps.toList.all fun c => decide (c ∈ letters) := by
            have e3 : bs = x.cps.toList.map fun c => decide (c ∈ letters) := by
              refine List.ext_getElem? fun i => ?_
              rw [List.getElem?_map]
              cases hb : bs[i]? with
              | none =>
                have h1 := List.getElem?_eq_none_iff.mp hb
                rw [hL] at h1
                rw [List.getElem?_eq_none (by simpa using h1)]
                rfl
              | some b =>
                obtain ⟨c, hc, rfl⟩ := hO i b hb
                rw [Array.getElem?_toList, hc]
                rfl
            rw [e3, List.all_map]
            rfl
          rw [e2]
          have z := key H1 k
          rw [Bool.true_and] at z
          exact z
      · rw [decide_eq_false c] at key ⊢
        have z := key H .refl
        rw [Bool.false_and] at z
        exact iteF z
    · exact ⟨_, rfl, _, _, _, _, false, rfl, .ty _, ht, kit_ty hk, false, rfl, iteF q⟩
def N_is_leaf : List Str := ["thing"]
theorem sc_is_leaf : FnScope N_is_leaf ["thing"] (defScope s_is_leaf) := ⟨rfl, rfl, rfl, by decide +kernel, rfl, by decide +kernel, by decide +kernel⟩
theorem ok_is_leaf (T : Txt K mg) : FnR P w K mg base CX0 2 T.f_is_leaf (spIsLeaf K) := by
  refine okR T.F_is_leaf sc_is_leaf (fun vs H Q E h => ?_) (T.F_is_leaf.binds fun _ _ _ _ _ _ us hl => match us, hl with | [_], _ => rfl) (fun cdv A outer s H vs Q E hr h => ?_)
  · obtain ⟨v, x, rfl, _⟩ := h
    rfl
  · refine ⟨_, (pss_one (ps_ret (pe_or (pe_callR (ok_is_integer T) (hr.mono (by decide)) rfl T.g_is_integer T.F_is_integer.kp pass0 (pa_cons (pv 0) pa_nil)) (pe_one (pe_callR (ok_is_word T) (hr.mono (by decide)) rfl T.g_is_word T.F_is_word.kp pass0 (pa_cons (pv 0) pa_nil)))))), ?_⟩
    obtain ⟨v, x, rfl, hv, hz, q⟩ := h
    cases x with
    | i n =>
      cases (show v = _ from hv)
      exact ⟨_, rfl, .inl ⟨n, rfl, true, rfl, iteT (q H .refl)⟩⟩
    | s y =>
      cases (show v = _ from hv)
      refine ⟨_, rfl, .inr ⟨_, rfl, ⟨"str", .base (.str y), .inl (by decide +kernel)⟩, false, rfl, iteF ?_⟩⟩
      exact ⟨_, rfl, .inl ⟨y, rfl, hz y rfl, q⟩⟩
    | b n =>
      have ht := ImV.ty (K := K) hv
      refine ⟨_, rfl, .inr ⟨_, rfl, ⟨"tuple", ht, .inl (by decide +kernel)⟩, false, rfl, iteF ?_⟩⟩
      exact ⟨_, rfl, .inr ⟨_, "tuple", rfl, ht, by decide +kernel, q H .refl⟩⟩
def N_is_reference : List Str := ["thing", "size"]
theorem sc_is_reference : FnScope N_is_reference ["thing", "size"] (defScope s_is_reference) := ⟨rfl, rfl, rfl, by decide +kernel, rfl, by decide +kernel, by decide +kernel⟩
theorem ok_is_reference (T : Txt K mg) : FnR P w K mg base CX0 3 T.f_is_reference (spIsRef K) := by
  refine okR T.F_is_reference sc_is_reference (fun vs H Q E h => ?_) (T.F_is_reference.binds fun _ _ _ _ _ _ us hl => match us, hl with | [_, _], _ => rfl) (fun cdv A outer s H vs Q E hr h => ?_)
  · obtain ⟨v, x, z, rfl, _⟩ := h
    rfl
  · refine ⟨_, (pss_cons (ps_if (PW.pt (pw_or (pt_not (pt_val (pe_callB call_isi (by rfl) T.n_isinstance (by decide +kernel) (pa_cons (pv 0) (pa_cons (pe_bltn (v := .ty "tuple") (by rfl) T.n_tuple (by decide +kernel) rfl) pa_nil))))) (pw_or (pt_cmpR op_ne (pe_callB call_len (by rfl) T.n_len (by decide +kernel) (pa_cons (pv 0) pa_nil)) pe_int (nomark _)) (pw_or (pt_not (pt_val (pe_callB call_isi (by rfl) T.n_isinstance (by decide +kernel) (pa_cons (pe_ix ix_tup (pv 0) pe_int (fun _ _ => rfl)) (pa_cons (pe_bltn (v := .ty "str") (by rfl) T.n_str (by decide +kernel) rfl) pa_nil))))) (pw_or1 (pt_cmpR op_ne (pe_ix ix_tup (pv 0) pe_int (fun _ _ => rfl)) (pe_glob (v := .str "box") rfl T.g_BOX ⟨_, rfl⟩) (nomark _))))))) (pss_one (ps_ret pe_bl)) pss_nil)
      (pss_one (ps_ret (pe_callR (ok_is_within T) (hr.mono (by decide)) rfl T.g_is_within T.F_is_within.kp pass0 (pa_cons (pe_ix ix_tup (pv 0) pe_int (fun _ _ => rfl)) (pa_cons pe_int (pa_cons (pe_op op_sub (pv 1) pe_int) pa_nil))))))), ?_⟩
    obtain ⟨v, x, z, rfl, hv, q⟩ := h
    cases x with
    | i n => exact ⟨_, rfl, _, _, _, _, false, rfl, .ty _, ImV.ty (K := K) hv, kit_ty (a := "int") (by decide +kernel), false, rfl, iteT q⟩
    | s y => exact ⟨_, rfl, _, _, _, _, false, rfl, .ty _, ImV.ty (K := K) hv, kit_ty (a := "str") (by decide +kernel), false, rfl, iteT q⟩
    | b n =>
      obtain ⟨a, rfl, ha⟩ := hv
      refine ⟨_, rfl, _, _, _, _, true, rfl, .ty _, .base (.tup ha), kit_ty (by decide +kernel), true, rfl, iteF ?_⟩
      refine ⟨_, rfl, _, 2, rfl, .inr ⟨_, .of ha, rfl⟩, rfl, _, rfl, iteF ?_⟩
      refine ⟨_, rfl, _, _, _, _, rfl, rfl, .of ha, rfl, _, _, _, _, true, rfl, .ty _, .base (.str _), kit_ty (by decide +kernel), true, rfl, iteF ?_⟩
      refine ⟨_, rfl, _, _, _, _, rfl, rfl, .of ha, rfl, rfl, _, rfl, iteF ?_⟩
      exact ⟨_, rfl, _, _, _, _, rfl, rfl, .of ha, rfl, _, rfl, _, _, rfl, rfl, .inl ⟨_, _, _, rfl, q⟩⟩
def N_is_item : List Str := ["thing", "size"]
theorem sc_is_item : FnScope N_is_item ["thing", "size"] (defScope s_is_item) := ⟨rfl, rfl, rfl, by decide +kernel, rfl, by decide +kernel, by decide +kernel⟩
theorem ok_is_item (T : Txt K mg) : FnR P w K mg base CX0 4 T.f_is_item (spIsItem K) := by
  refine okR T.F_is_item sc_is_item (fun vs H Q E h => ?_) (T.F_is_item.binds fun _ _ _ _ _ _ us hl => match us, hl with | [_, _], _ => rfl) (fun cdv A outer s H vs Q E hr h => ?_)
  · obtain ⟨v, x, z, rfl, _⟩ := h
    rfl
  · refine ⟨_, (pss_one (ps_ret (pe_or (pe_callR (ok_is_leaf T) (hr.mono (by decide)) rfl T.g_is_leaf T.F_is_leaf.kp pass0 (pa_cons (pv 0) pa_nil)) (pe_one (pe_callR (ok_is_reference T) (hr.mono (by decide)) rfl T.g_is_reference T.F_is_reference.kp pass0 (pa_cons (pv 0) (pa_cons (pv 1) pa_nil))))))), ?_⟩
    obtain ⟨v, x, z, rfl, hv, hz, q⟩ := h
    refine ⟨_, rfl, _, x, rfl, hv, hz, fun H1 k => ⟨_, rfl, ?_⟩⟩
    cases x with
    | i n => exact iteT (q H1 k)
    | s y =>
      show if wordB y = true then _ else _
      have q1 : Q (.bl (wordB y)) H1 := q H1 k
      cases e : wordB y with
      | true => rw [e] at q1; exact iteT q1
      | false => rw [e] at q1; exact iteF ⟨_, rfl, _, rfl, _, _, _, rfl, hv.keep k, q1⟩
    | b n => exact iteF ⟨_, rfl, _, rfl, _, _, _, rfl, hv.keep k, q H1 k⟩
end
end K66
namespace K66
open PySem PySem.Spec PyProof.Rows L2 Rg
/-! ### the heap's methods that change nothing -/
theorem lk {v : V} : ([("lists", v)] : List (Str × V)).lookup ("lists" : Str) = some v := by rfl
def spLenH (C : Addr) : Sp := fun vs H Q _ => ∃ h l as c, vs = [.ref h] ∧ HeapAt C H h l as c ∧ total c ≤ 1000 ∧ ∀ H', Keep [] H H' → Q (.int (total c : Nat)) H'
def spContains (K : PySem.W.Frag) (C : Addr) : Sp := fun vs H Q _ => ∃ h l as c, HeapAt C H h l as c ∧ ((∃ n : Int, vs = [.ref h, .int n] ∧ Q (.bl (decide (0 ≤ n) && decide (n ≤ (c.length : Int) - 1))) H) ∨ ∃ v, vs = [.ref h, v] ∧ NotInt K H v ∧ Q (.bl false) H)
def spNeedBox (C : Addr) : Sp := fun vs H Q _ => ∃ h l as c, ∃ n : Nat, vs = [.ref h, .int n] ∧ HeapAt C H h l as c ∧ n < c.length ∧ Q .non H
def spNeedPlace (C : Addr) : Sp := fun vs H Q _ => ∃ h l as c r, ∃ (n p : Nat) (m : Int), vs = [.ref h, .int n, .int p, .int m] ∧ HeapAt C H h l as c ∧ c[n]? = some r ∧ (p : Int) ≤ (r.length : Int) - 1 + m ∧ Q .non H
def spNeedItem (C : Addr) : Sp := fun vs H Q _ => ∃ h l as c v x, ∃ m : Int, vs = [.ref h, v, .int m] ∧ HeapAt C H h l as c ∧ ImV H v x ∧ okIm ((c.length : Int) + m) x = true ∧ ∀ H', Keep [] H H' → Q .non H'
def spNeedRoom (C : Addr) : Sp := fun vs H Q _ => ∃ h l as c, ∃ b i : Nat, vs = [.ref h, .int b, .int i] ∧ HeapAt C H h l as c ∧ c.length + b ≤ 60 ∧ total c + i ≤ 300 ∧ ∀ H', Keep [] H H' → Q .non H'
def spLook (C : Addr) : Sp := fun vs H Q _ => ∃ h l as c r, ∃ n : Nat, vs = [.ref h, .int n] ∧ HeapAt C H h l as c ∧ c[n]? = some r ∧ ∀ H' p xs, Keep [] H H' → H p = none → H' p = some (.lst xs) → ImsV H' xs r → Q (.ref p) H'
def spContentsH (C : Addr) : Sp := fun vs H Q _ => ∃ h l as c, vs = [.ref h] ∧ HeapAt C H h l as c ∧ c.length ≤ 1000 ∧ ∀ H' v, Keep [] H H' → ContF H H' v c → Q v H'
section
variable {P : Program} {w : World} {K : PySem.W.Frag} {mg : Str → Option Value} {base : Heap}
theorem okIm_word {size : Int} {x : Im} (h : okIm size x = true) : ∀ y, x = .s y → y.length ≤ 1000 := fun y e => by
  subst e
  have h : wordB y = true := h
  unfold wordB at h
  simp only [Bool.and_eq_true, decide_eq_true_eq] at h
  omega
def N_len : List Str := ["self", "one", "item"]
theorem sc_len : FnScope N_len ["self"] (defScope s_len) := ⟨rfl, rfl, rfl, by decide +kernel, rfl, by decide +kernel, by decide +kernel⟩
theorem ok_len (T : Txt K mg) : FnR P w K mg base CX0 1 T.f_len (spLenH T.C) := by
  refine okR T.F_len sc_len (fun vs H Q E h => ?_) (T.F_len.binds fun _ _ _ _ _ _ us hl => match us, hl with | [_], _ => rfl) (fun cdv A outer s H vs Q E hr h => ?_)
  · obtain ⟨h, l, as, c, rfl, _⟩ := h
    rfl
  · refine ⟨_, (pss_one (ps_ret (pe_callB call_len (by rfl) T.n_len (by decide +kernel) (pa_cons (pe_lc2 (own := [("one", 1), ("item", 2)]) (vs1 := [2]) (g := gName 1) (tt := tYes) (g1 := gName 2) (tt1 := tYes) rfl sc_len.nd (pi_list (pe_fld (pv 0) rfl)) (blkOk_by (N := N_len) (sc := defScope s_len) (by decide +kernel)) (by decide) (fun _ _ _ _ _ => (pg_name (i := 1) sc_len.nd rfl (Or.inl rfl))) (fun _ _ _ _ _ => pts_nil) (fun _ _ _ _ _ => (pil (K := K) (pv 1))) (fun _ _ _ _ _ => (pg_name (i := 2) sc_len.nd rfl (Or.inl rfl))) (fun _ _ _ _ _ => pts_nil) (fun _ _ _ _ _ => (pv 2))) pa_nil)))), ?_⟩
    obtain ⟨h, l, as, c, rfl, hp, hz, q⟩ := h
    obtain ⟨dx, hi⟩ := hp.ins
    obtain ⟨xss, hx, hf⟩ : ∃ xss : List (List V), Paired (fun a xs => H a = some (.lst xs)) as xss ∧ xss.flatten.length = total c := by
      have z := hp.rows
      clear q hz hp hi
      induction z with
      | nil => exact ⟨[], .nil, rfl⟩
      | cons a t ih =>
        obtain ⟨xs, e, r⟩ := a
        obtain ⟨xss, h1, h2⟩ := ih
        refine ⟨xs :: xss, .cons e h1, ?_⟩
        rw [List.flatten_cons, List.length_append, h2, r.length]
        simp [total]
    refine ⟨_, rfl, h, T.C, dx, _, _, rfl, hi, T.cl, T.na_lists, lk, l, rfl, ⟨_, .of hp.lst⟩, fun D hD => ?_⟩
    refine lc2_flat (K := K) hD hp.lst hx (by omega) (fun _ => rfl) (fun _ _ => rfl) (fun _ => rfl) (fun _ _ => rfl) fun H1 k hA => ?_
    refine ⟨_, _, rfl, .inl ⟨_, .of hA, rfl⟩, ?_⟩
    rw [hf]
    exact q H1 k
def N_contains : List Str := ["self", "number"]
theorem sc_contains : FnScope N_contains ["self", "number"] (defScope s_contains) := ⟨rfl, rfl, rfl, by decide +kernel, rfl, by decide +kernel, by decide +kernel⟩
theorem ok_contains (T : Txt K mg) : FnR P w K mg base CX0 3 T.f_contains (spContains K T.C) := by
  refine okR T.F_contains sc_contains (fun vs H Q E h => ?_) (T.F_contains.binds fun _ _ _ _ _ _ us hl => match us, hl with | [_, _], _ => rfl) (fun cdv A outer s H vs Q E hr h => ?_)
  · obtain ⟨h, l, as, c, _, ⟨n, rfl, _⟩ | ⟨v, rfl, _⟩⟩ := h <;> rfl
  · refine ⟨_, (pss_one (ps_ret (pe_callR (ok_is_within T) (hr.mono (by decide)) rfl T.g_is_within T.F_is_within.kp pass0 (pa_cons (pv 1) (pa_cons pe_int (pa_cons (pe_op op_sub (pe_callB call_len (by rfl) T.n_len (by decide +kernel) (pa_cons (pe_fld (pv 0) rfl) pa_nil)) pe_int) pa_nil)))))), ?_⟩
    obtain ⟨h, l, as, c, hp, hh⟩ := h
    obtain ⟨dx, hi⟩ := hp.ins
    have el : ((as.map V.ref).length : Int) = (c.length : Int) := by rw [List.length_map, hp.len]
    rcases hh with ⟨n, rfl, q⟩ | ⟨v, rfl, hn, q⟩
    · refine ⟨_, rfl, _, rfl, h, T.C, dx, _, _, rfl, hi, T.cl, T.na_lists, lk, _, _, rfl, .inl ⟨_, .of hp.lst, rfl⟩, _, _, rfl, rfl, .inl ⟨_, _, _, rfl, ?_⟩⟩
      rw [el]
      exact q
    · exact ⟨_, rfl, _, rfl, h, T.C, dx, _, _, rfl, hi, T.cl, T.na_lists, lk, _, _, rfl, .inl ⟨_, .of hp.lst, rfl⟩, _, _, rfl, rfl, .inr ⟨_, _, _, rfl, hn, q⟩⟩
def N_need_box : List Str := ["self", "number"]
theorem sc_need_box : FnScope N_need_box ["self", "number"] (defScope s_need_box) := ⟨rfl, rfl, rfl, by decide +kernel, rfl, by decide +kernel, by decide +kernel⟩
theorem ok_need_box (T : Txt K mg) : FnR P w K mg base CX0 4 T.f_need_box (spNeedBox T.C) := by
  refine okR T.F_need_box sc_need_box (fun vs H Q E h => ?_) (T.F_need_box.binds fun _ _ _ _ _ _ us hl => match us, hl with | [_, _], _ => rfl) (fun cdv A outer s H vs Q E hr h => ?_)
  · obtain ⟨h, l, as, c, n, rfl, _⟩ := h
    rfl
  · refine ⟨_, (pss_one (ps_if (pt_cmpR (op_notInOwn T.m_contains.at_ T.m_contains.fn (ok_contains T) (hr.mono (by decide)) pass0) (pv 1) (pv 0) (by rfl)) (pss_one ps_never) pss_nil)), ?_⟩
    obtain ⟨h, l, as, c, n, rfl, hp, hn, q⟩ := h
    obtain ⟨dx, hi⟩ := hp.ins
    refine ⟨_, rfl, _, rfl, h, dx, _, rfl, hi, h, l, as, c, hp, .inl ⟨n, rfl, _, rfl, _, rfl, ?_⟩⟩
    rw [decide_eq_true (show (0 : Int) ≤ (n : Int) by omega), decide_eq_true (show (n : Int) ≤ (c.length : Int) - 1 by omega)]
    exact iteF q
def N_need_place : List Str := ["self", "box", "place", "more"]
theorem sc_need_place : FnScope N_need_place ["self", "box", "place", "more"] (defScope s_need_place) := ⟨rfl, rfl, rfl, by decide +kernel, rfl, by decide +kernel, by decide +kernel⟩
theorem ok_need_place (T : Txt K mg) : FnR P w K mg base CX0 3 T.f_need_place (spNeedPlace T.C) := by
  refine okR T.F_need_place sc_need_place (fun vs H Q E h => ?_) (T.F_need_place.binds fun _ _ _ _ _ _ us hl => match us, hl with | [_, _, _, _], _ => rfl) (fun cdv A outer s H vs Q E hr h => ?_)
  · obtain ⟨h, l, as, c, r, n, p, m, rfl, _⟩ := h
    rfl
  · refine ⟨_, (pss_one (ps_if (pt_not (pt_val (pe_callR (ok_is_within T) (hr.mono (by decide)) rfl T.g_is_within T.F_is_within.kp pass0 (pa_cons (pv 2) (pa_cons pe_int (pa_cons (pe_op op_add (pe_op op_sub (pe_callB call_len (by rfl) T.n_len (by decide +kernel) (pa_cons (pe_ix ix_list (pe_fld (pv 0) rfl) (pv 1) (fun _ _ => rfl)) pa_nil)) pe_int) (pv 3)) pa_nil)))))) (pss_one ps_never) pss_nil)), ?_⟩
    obtain ⟨h, l, as, c, r, n, p, m, rfl, hp, hn, hle, q⟩ := h
    obtain ⟨dx, hi⟩ := hp.ins
    obtain ⟨a, xs, h1, h2, h3, h4⟩ := hp.row hn
    refine ⟨_, rfl, _, rfl, h, T.C, dx, _, _, rfl, hi, T.cl, T.na_lists, lk, _, rfl, _, _, _, _, rfl, rfl, .of hp.lst, atI_nat h2, _, _, rfl, .inl ⟨_, .of h3, rfl⟩, _, _, rfl, rfl, _, rfl, _, _, rfl, rfl, .inl ⟨_, _, _, rfl, _, rfl, ?_⟩⟩
    rw [decide_eq_true (show (0 : Int) ≤ (p : Int) by omega), decide_eq_true (show (p : Int) ≤ ((xs.length : Nat) : Int) - 1 + m by rw [h4.length]; exact hle)]
    exact iteF q
def N_need_item : List Str := ["self", "item", "more"]
theorem sc_need_item : FnScope N_need_item ["self", "item", "more"] (defScope s_need_item) := ⟨rfl, rfl, rfl, by decide +kernel, rfl, by decide +kernel, by decide +kernel⟩
theorem ok_need_item (T : Txt K mg) : FnR P w K mg base CX0 5 T.f_need_item (spNeedItem T.C) := by
  refine okR T.F_need_item sc_need_item (fun vs H Q E h => ?_) (T.F_need_item.binds fun _ _ _ _ _ _ us hl => match us, hl with | [_, _, _], _ => rfl) (fun cdv A outer s H vs Q E hr h => ?_)
  · obtain ⟨h, l, as, c, v, x, m, rfl, _⟩ := h
    rfl
  · refine ⟨_, (pss_one (ps_if (pt_not (pt_val (pe_callR (ok_is_item T) (hr.mono (by decide)) rfl T.g_is_item T.F_is_item.kp pass0 (pa_cons (pv 1) (pa_cons (pe_op op_add (pe_callB call_len (by rfl) T.n_len (by decide +kernel) (pa_cons (pe_fld (pv 0) rfl) pa_nil)) (pv 2)) pa_nil))))) (pss_one ps_never) pss_nil)), ?_⟩
    obtain ⟨h, l, as, c, v, x, m, rfl, hp, hv, ho, q⟩ := h
    obtain ⟨dx, hi⟩ := hp.ins
    have el : ((as.map V.ref).length : Int) = (c.length : Int) := by rw [List.length_map, hp.len]
    refine ⟨_, rfl, _, rfl, h, T.C, dx, _, _, rfl, hi, T.cl, T.na_lists, lk, _, _, rfl, .inl ⟨_, .of hp.lst, rfl⟩, _, rfl, _, _, rfl, rfl, _, _, _, rfl, hv, okIm_word ho, fun H1 k => ⟨_, rfl, ?_⟩⟩
    rw [el, ho]
    exact iteF (q H1 k)
def N_need_room : List Str := ["self", "boxes", "items"]
theorem sc_need_room : FnScope N_need_room ["self", "boxes", "items"] (defScope s_need_room) := ⟨rfl, rfl, rfl, by decide +kernel, rfl, by decide +kernel, by decide +kernel⟩
theorem ok_need_room (T : Txt K mg) : FnR P w K mg base CX0 3 T.f_need_room (spNeedRoom T.C) := by
  refine okR T.F_need_room sc_need_room (fun vs H Q E h => ?_) (T.F_need_room.binds fun _ _ _ _ _ _ us hl => match us, hl with | [_, _, _], _ => rfl) (fun cdv A outer s H vs Q E hr h => ?_)
  · obtain ⟨h, l, as, c, b, i, rfl, _⟩ := h
    rfl
  · refine ⟨_, (pss_cons (ps_if (pt_cmpR op_gt (pe_op op_add (pe_callB call_len (by rfl) T.n_len (by decide +kernel) (pa_cons (pe_fld (pv 0) rfl) pa_nil)) (pv 1)) (ClX.pe_cval (pe_glob (v := .ref T.C) rfl T.g_Heap rfl)) (nomark _)) (pss_one ps_never) pss_nil)
      (pss_one (ps_if (pt_cmpR op_gt (pe_op op_add (pe_callB (call_lenOwn T.m_len.at_ T.m_len.fn (ok_len T) (hr.mono (by decide)) pass0) (by rfl) T.n_len (by decide +kernel) (pa_cons (pv 0) pa_nil)) (pv 2)) (ClX.pe_cval (pe_glob (v := .ref T.C) rfl T.g_Heap rfl)) (nomark _)) (pss_one ps_never) pss_nil))), ?_⟩
    obtain ⟨h, l, as, c, b, i, rfl, hp, hb, hi0, q⟩ := h
    obtain ⟨dx, hi⟩ := hp.ins
    have el : ((as.map V.ref).length : Int) = (c.length : Int) := by rw [List.length_map, hp.len]
    refine ⟨_, rfl, h, T.C, dx, _, _, rfl, hi, T.cl, T.na_lists, lk, _, _, rfl, .inl ⟨_, .of hp.lst, rfl⟩, _, rfl, _, _, rfl, rfl, T.C, _, .int 60, T.u_MOST_BOXES, rfl, T.cr, T.cv_MOST_BOXES, _, _, rfl, rfl, _, rfl, ?_⟩
    rw [decide_eq_false (show ¬ (60 : Int) < ((as.map V.ref).length : Int) + (b : Int) by rw [el]; omega)]
    refine iteF ⟨_, rfl, h, dx, _, rfl, hi, h, l, as, c, rfl, hp, by omega, fun H1 k => ⟨_, rfl, ⟨by omega, by omega⟩, _, rfl, _, _, rfl, rfl, T.C, _, .int 300, T.u_MOST_ITEMS, rfl, T.cr, T.cv_MOST_ITEMS, _, _, rfl, rfl, _, rfl, ?_⟩⟩
    rw [decide_eq_false (show ¬ (300 : Int) < ((total c : Nat) : Int) + (i : Int) by omega)]
    exact iteF (q H1 k)
def N_contents : List Str := ["self", "one"]
theorem sc_contents : FnScope N_contents ["self"] (defScope s_contents) := ⟨rfl, rfl, rfl, by decide +kernel, rfl, by decide +kernel, by decide +kernel⟩
theorem ok_contents (T : Txt K mg) : FnR P w K mg base CX0 1 T.f_contents (spContentsH T.C) := by
  refine okR T.F_contents sc_contents (fun vs H Q E h => ?_) (T.F_contents.binds fun _ _ _ _ _ _ us hl => match us, hl with | [_], _ => rfl) (fun cdv A outer s H vs Q E hr h => ?_)
  · obtain ⟨h, l, as, c, rfl, _⟩ := h
    rfl
  · refine ⟨_, (pss_one (ps_ret (pe_lc (own := [("one", 1)]) (g := (gName 1)) (tt := tYes) rfl sc_contents.nd (pi_list (pe_fld (pv 0) rfl)) (blkOk_by (N := N_contents) (sc := defScope s_contents) (by decide +kernel)) (fun _ _ _ _ _ => (pg_name (i := 1) sc_contents.nd rfl (Or.inl rfl))) (fun _ _ _ _ _ => pts_nil) (fun _ _ _ _ _ => (pe_callTy (listK (K := K)) (by rfl) T.n_list (by decide +kernel) (pa_cons (pv 1) pa_nil)))))), ?_⟩
    obtain ⟨h, l, as, c, rfl, hp, hz, q⟩ := h
    obtain ⟨dx, hi⟩ := hp.ins
    have hs : SqL K (hd [] H) l (as.map V.ref) := .of (by rw [hd_out (by simp)]; exact hp.lst)
    have hlen : (as.map V.ref).length = c.length := by rw [List.length_map, hp.len]
    refine ⟨_, rfl, h, T.C, dx, _, _, rfl, hi, T.cl, T.na_lists, lk, l, rfl, ⟨_, .of hp.lst⟩, fun D hD => lc_it (M := []) (Jv := fun _ => True)
      (Rel := fun H' v (r : List Im) => ∃ a xs, v = .ref a ∧ H a = none ∧ a ≠ D ∧ H' a = some (.lst xs) ∧ ImsV H' xs r) (Ok := fun i r => c[i]? = some r) (n := (as.map V.ref).length)
      (Yx := fun i x _ => (as.map V.ref)[i]? = some x) hD (by simp) (fun _ _ _ _ => trivial) trivial (by rw [hlen]; omega) (it_list hs).1 (it_list hs).2.1 (fun i H1 y H2 h1 h2 h3 => let z := (it_list hs).2.2 i H1 y H2 h1 h2 h3; ⟨z.1, z.2.1, z.2.2.1⟩)
      (fun H1 H2 y z k ⟨a, xs, e, n1, n2, h3, h4⟩ => ⟨a, xs, e, n1, n2, k.at (by simpa using n2) h3, h4.keep k⟩) ?_ gName_mono ?_⟩
    · rintro i x H1 hi1 k _ hDn hx Qe hQ
      rw [List.getElem?_map] at hx
      cases ha : as[i]? with
      | none => rw [ha] at hx; cases hx
      | some a =>
        rw [ha] at hx
        cases hx
        obtain ⟨r, hr2, xs, h3, h4⟩ := paired_getV hp.rows ha
        refine ⟨rfl, _, rfl, _, _, rfl, .inl (.of (k.same _ _ h3)), fun p np => ?_⟩
        exact hQ _ r _ (.new np) trivial hr2 ⟨p, xs, rfl, k.free np (by simp), fun z => hDn (by rw [← z]; exact np), upd_same, (h4.keep k).keep (.new (S := []) np)⟩
    · intro acc zs H1 k _ hA hP hL hO
      have ez : zs = c := by
        refine List.ext_getElem? fun i => ?_
        cases hb : zs[i]? with
        | none =>
          have h1 := List.getElem?_eq_none_iff.mp hb
          rw [List.getElem?_eq_none (by omega)]
        | some b => exact (hO i b hb).symm
      rw [ez] at hP
      obtain ⟨bs, eb, hb⟩ : ∃ bs : List Addr, acc = bs.map V.ref ∧ Paired (fun a r => H a = none ∧ ∃ xs, H1 a = some (.lst xs) ∧ ImsV H1 xs r) bs c := by
        clear hA hO hL ez q hz hp hs hlen
        induction hP with
        | nil => exact ⟨[], rfl, .nil⟩
        | cons a t ih =>
          obtain ⟨b, xs, rfl, n1, n2, h3, h4⟩ := a
          obtain ⟨bs, rfl, hb⟩ := ih
          exact ⟨b :: bs, rfl, .cons ⟨n1, xs, h3, h4⟩ hb⟩
      exact q H1 _ k ⟨D, bs, rfl, hD, by rw [hA, eb], hb⟩
end
end K66
namespace K66
open PySem PySem.Spec PyProof.Rows L2 Rg
/-! ### the heap's making and its methods that change it -/
def okCont (c : Cont) : Prop := c.length ≤ 60 ∧ total c ≤ 300 ∧ ∀ r ∈ c, ∀ x ∈ r, okIm (c.length : Int) x = true
def spInit (C : Addr) : Sp := fun vs H Q _ => ∃ h dx rest c, vs = .ref h :: rest ∧ H h = some (.ins C dx []) ∧ RowsV [] H rest c ∧ okCont c ∧
  ∀ H' l as, H l = none → (∀ a ∈ as, H a = none) → Keep [h] H H' → HeapAt C H' h l as c → Q .non H'
def spOf (C : Addr) : Sp := fun vs H Q _ => ∃ v c, vs = [.ref C, v] ∧ ContV [] H v c ∧ okCont c ∧
  ∀ H' h l as, H h = none → H l = none → (∀ a ∈ as, H a = none) → Keep [] H H' → HeapAt C H' h l as c → Q (.ref h) H'
def spNew (C : Addr) : Sp := fun vs H Q _ => ∃ h l as c rest r, vs = .ref h :: rest ∧ HeapAt C H h l as c ∧ ImsV H rest r ∧ c.length < 60 ∧ total c + r.length ≤ 300 ∧ (∀ x ∈ r, okIm ((c.length : Int) + 1) x = true) ∧
  ∀ H' a, H a = none → Keep [l] H H' → HeapAt C H' h l (as ++ [a]) (c ++ [r]) → Q (.int (c.length : Nat)) H'
def spPut (C : Addr) : Sp := fun vs H Q _ => ∃ h l as c r v x a y, ∃ n p : Nat, vs = [.ref h, .int n, .int p, v] ∧ HeapAt C H h l as c ∧ c[n]? = some r ∧ as[n]? = some a ∧ r[p]? = some y ∧ ImV H v x ∧ okIm (c.length : Int) x = true ∧
  ∀ H' u, Keep [a] H H' → HeapAt C H' h l as (c.set n (r.set p x)) → ImV H' u y → Q u H'
def spAddAt (C : Addr) : Sp := fun vs H Q _ => ∃ h l as c r v x a, ∃ n p : Nat, vs = [.ref h, .int n, .int p, v] ∧ HeapAt C H h l as c ∧ c[n]? = some r ∧ as[n]? = some a ∧ p ≤ r.length ∧ ImV H v x ∧ okIm (c.length : Int) x = true ∧ c.length ≤ 60 ∧ total c < 300 ∧
  ∀ H', Keep [a] H H' → HeapAt C H' h l as (c.set n (r.take p ++ [x] ++ r.drop p)) → Q .non H'
def spAddLast (C : Addr) : Sp := fun vs H Q _ => ∃ h l as c r v x a, ∃ n : Nat, vs = [.ref h, .int n, v] ∧ HeapAt C H h l as c ∧ c[n]? = some r ∧ as[n]? = some a ∧ ImV H v x ∧ okIm (c.length : Int) x = true ∧ c.length ≤ 60 ∧ total c < 300 ∧
  ∀ H', Keep [a] H H' → HeapAt C H' h l as (c.set n (r ++ [x])) → Q .non H'
def spSwap (C : Addr) : Sp := fun vs H Q _ => ∃ h l as c r s a b, ∃ i j : Nat, vs = [.ref h, .int i, .int j] ∧ HeapAt C H h l as c ∧ c[i]? = some r ∧ c[j]? = some s ∧ as[i]? = some a ∧ as[j]? = some b ∧
  ∀ H', Keep [l] H H' → HeapAt C H' h l ((as.set i b).set j a) ((c.set i s).set j r) → Q .non H'
section
variable {P : Program} {w : World} {K : PySem.W.Frag} {mg : Str → Option Value} {base : Heap}
theorem small_of {n : Nat} (h : n ≤ 100000) : n < sizeLine := Nat.lt_of_le_of_lt h (by decide)
def N_init : List Str := ["self", "contents", "one", "item"]
theorem sc_init : FnScope N_init ["self", "contents"] (defScope s_init) := ⟨rfl, rfl, rfl, by decide +kernel, rfl, by decide +kernel, by decide +kernel⟩
theorem ok_init (T : Txt K mg) : FnR P w K mg base CX0 5 T.f_init (spInit T.C) := by
  refine (okStar (sp := fun vs H Q _ => ∃ h p dx rest c, vs = [.ref h, .ref p] ∧ H p = some (.tup rest) ∧ H h = some (.ins T.C dx []) ∧ RowsV [] H rest c ∧ okCont c ∧
    ∀ H' l as, H l = none → (∀ a ∈ as, H a = none) → Keep [h] H H' → HeapAt T.C H' h l as c → Q .non H') T.F_init sc_init (fun _ _ _ _ _ _ _ => rfl) (fun _ _ _ _ _ _ _ _ _ => rfl) (fun cdv A outer s H vs Q E hr h => ?_)).imp fun vs H Q E h => ?_
  · refine ⟨_, (pss_cons (ps_for PassesOwn.never rfl (pi_tup (pv 1)) (pg_name (i := 2) sc_init.nd rfl (Or.inl rfl))
      (pss_cons (ps_if (pt_not (pt_val (pe_callB call_isi (by rfl) T.n_isinstance (by decide +kernel) (pa_cons (pv 2) (pa_cons (pe_bltn (v := .ty "list") (by rfl) T.n_list (by decide +kernel) rfl) pa_nil))))) (pss_one ps_never) pss_nil)
      (pss_one (ps_for PassesOwn.never rfl (pi_list (pv 2)) (pg_name (i := 3) sc_init.nd rfl (Or.inl rfl))
      (pss_one (ps_if (pt_not (pt_val (pe_callR (ok_is_item T) (hr.mono (by decide)) rfl T.g_is_item T.F_is_item.kp pass0 (pa_cons (pv 3) (pa_cons (pe_callB call_len (by rfl) T.n_len (by decide +kernel) (pa_cons (pv 1) pa_nil)) pa_nil))))) (pss_one ps_never) pss_nil))))))
      (pss_cons (ps_fld (pv 0) (pe_lc (own := [("one", 2)]) (g := (gName 2)) (tt := tYes) rfl sc_init.nd (pi_tup (pv 1)) (blkOk_by (N := N_init) (sc := defScope s_init) (by decide +kernel)) (fun _ _ _ _ _ => (pg_name (i := 2) sc_init.nd rfl (Or.inl rfl))) (fun _ _ _ _ _ => pts_nil) (fun _ _ _ _ _ => (pe_callTy (listK (K := K)) (by rfl) T.n_list (by decide +kernel) (pa_cons (pv 2) pa_nil)))) rfl)
      (pss_one (ps_expr (pe_methR (pv 0) T.cl T.m_need_room (ok_need_room T) (hr.mono (by decide)) pass0 (pa_cons pe_int (pa_cons pe_int pa_nil))))))), ?_⟩
    obtain ⟨h, p, dx, rest, c, rfl, hp, hi, hR, ⟨hc1, hc2, hc3⟩, q⟩ := h
    have hlen : rest.length = c.length := hR.length
    refine ⟨_, rfl, p, rfl, ⟨rest, .of hp⟩, for_tup (K := K) (a := p) (xs := rest) (fun i σ H' => ∃ v2 v3, σ = [some (.ref h), some (.ref p), v2, v3] ∧ Keep [] H H') ⟨none, none, rfl, .refl⟩ (fun i σ H' _ ⟨_, _, _, k⟩ => .of (k.tup hp)) ?_ ?_⟩
    · rintro i x σ H1 hx ⟨v2, v3, rfl, k⟩
      obtain ⟨r, hr1, a, xs, rfl, _, ha, hxs⟩ := paired_getV hR hx
      have ha1 := k.same _ _ ha
      refine ⟨_, rfl, _, _, _, _, true, rfl, .ty _, .base (.lst ha1), kit_ty (by decide +kernel), true, rfl, iteF ?_⟩
      refine ⟨_, rfl, a, rfl, ⟨xs, .of ha1⟩, for_list (K := K) (a := a) (xs := xs) (fun j σ H' => ∃ v3, σ = [some (.ref h), some (.ref p), some (.ref a), v3] ∧ Keep [] H H') ⟨v3, rfl, k⟩ (fun j σ H' _ ⟨_, _, k'⟩ => .of (k'.same _ _ ha)) ?_ ?_⟩
      · rintro j y σ H2 hy ⟨v3, rfl, k2⟩
        obtain ⟨z, hz1, hz2⟩ := paired_getV hxs hy
        have ho := hc3 r (List.mem_of_getElem? hr1) z (List.mem_of_getElem? hz1)
        refine ⟨_, rfl, _, rfl, _, _, rfl, .inr ⟨_, .of (k2.tup hp), rfl⟩, y, z, _, rfl, hz2.keep k2, okIm_word ho, fun H3 k3 => ⟨_, rfl, ?_⟩⟩
        rw [hlen, ho]
        exact iteF ⟨_, rfl, k2.trans k3⟩
      · rintro σ H2 ⟨v3, rfl, k2⟩
        exact ⟨_, _, rfl, k2⟩
    · rintro σ H1 ⟨v2, v3, rfl, k⟩
      have hs : SqT K (hd [] H1) p rest := .of (by rw [hd_out (by simp)]; exact k.tup hp)
      refine ⟨_, rfl, p, rfl, ⟨rest, .of (k.tup hp)⟩, fun D hD => lc_itP (M := []) (Jv := fun _ => True) (Pw := fun v v' => v ≠ v')
        (Rel := fun H' v (r : List Im) => ∃ a xs, v = .ref a ∧ H1 a = none ∧ a ≠ D ∧ H' a = some (.lst xs) ∧ ImsV H' xs r) (Ok := fun i r => c[i]? = some r) (n := rest.length)
        (Yx := fun i x _ => rest[i]? = some x) hD (by simp) (fun _ _ _ _ => trivial) trivial (by omega) (it_tup hs).1 (it_tup hs).2.1 (fun i H1 y H2 h1 h2 h3 => let z := (it_tup hs).2.2 i H1 y H2 h1 h2 h3; ⟨z.1, z.2.1, z.2.2.1⟩)
        (fun H1 H2 y z k ⟨a, xs, e, n1, n2, h3, h4⟩ => ⟨a, xs, e, n1, n2, k.at (by simpa using n2) h3, h4.keep k⟩) ?_ gName_mono ?_⟩
      · rintro i x H2 acc hi1 k2 _ hDn hacc hx Qe hQ
        obtain ⟨r, hr2, a, xs, rfl, _, h3, h4⟩ := paired_getV hR hx
        refine ⟨rfl, _, rfl, _, _, rfl, .inl (.of ((k.trans k2).same _ _ h3)), fun b nb => ?_⟩
        refine hQ _ r _ (.new nb) trivial hr2 ⟨b, xs, rfl, k2.free nb (by simp), (fun z => by rw [z, hDn] at nb; cases nb), upd_same, (h4.keep (k.trans k2)).keep (.new (S := []) nb)⟩ fun y' hy' e => ?_
        obtain ⟨_, a', _, rfl, _, _, h5, _⟩ := hacc y' hy'
        cases e
        rw [nb] at h5
        cases h5
      · intro acc zs H2 k2 _ hA hW hP hL hO
        have ez : zs = c := by
          refine List.ext_getElem? fun i => ?_
          cases hb : zs[i]? with
          | none =>
            have h1 := List.getElem?_eq_none_iff.mp hb
            rw [List.getElem?_eq_none (by omega)]
          | some b => exact (hO i b hb).symm
        rw [ez] at hP
        obtain ⟨bs, eb, hb⟩ : ∃ bs : List Addr, acc = bs.map V.ref ∧ Paired (fun a r => (H1 a = none ∧ a ≠ D) ∧ ∃ xs, H2 a = some (.lst xs) ∧ ImsV H2 xs r) bs c := by
          clear hA hO hL ez q hc1 hc2 hc3 hR hlen hW
          induction hP with
          | nil => exact ⟨[], rfl, .nil⟩
          | cons a t ih =>
            obtain ⟨b, xs, rfl, n1, n2, h3, h4⟩ := a
            obtain ⟨bs, rfl, hb⟩ := ih
            exact ⟨b :: bs, rfl, .cons ⟨⟨n1, n2⟩, xs, h3, h4⟩ hb⟩
        have k12 := k.trans k2
        have hi2 := k12.same _ _ hi
        have fr : ∀ a ∈ bs, H1 a = none ∧ a ≠ D := fun a ha => let ⟨i, h1⟩ := List.getElem?_of_mem ha; (paired_getV hb h1).choose_spec.2.1
        have hDh : h ≠ D := fun z => by rw [← z, k.same _ _ hi] at hD; cases hD
        refine ⟨_, rfl, h, T.C, dx, [], rfl, hi2, T.cl, T.na_lists, (by decide), ?_⟩
        have kp : Keep [h] H2 (upd H2 h (.ins T.C dx [("lists", .ref D)])) := .put (by simp) hi2 rfl
        have hat : HeapAt T.C (upd H2 h (.ins T.C dx [("lists", .ref D)])) h D bs c := by
          refine ⟨⟨dx, upd_same⟩, by rw [upd_ne hDh.symm, hA, eb], ?_, fun z => (fr D z).2 rfl, paired_mem hb fun i a r h1 h2 ⟨⟨n1, n2⟩, xs, h3, h4⟩ => ⟨xs, kp.at (fun z => ?_) h3, h4.keep kp⟩⟩
          · rw [eb] at hW
            exact (List.pairwise_map.mp hW).imp fun {a b} n e => n (by rw [e])
          · rw [List.mem_singleton.mp z, k.same _ _ hi] at n1
            cases n1
        refine ⟨_, rfl, h, dx, _, rfl, upd_same, rfl, h, D, bs, c, 0, 0, rfl, hat, by omega, by omega, fun H3 k3 => ?_⟩
        exact q H3 D bs (k.free hD (by simp)) (fun a ha => k.free (fr a ha).1 (by simp)) ((k12.all.trans kp).trans k3.all) (hat.same k3)
  · obtain ⟨h, dx, rest, c, rfl, hi, hR, hc, q⟩ := h
    refine ⟨_, rest, rfl, Nat.le_trans (by rw [hR.length]; exact hc.1) (by decide), fun p np => ⟨h, p, dx, rest, c, rfl, upd_same, ?_, RowsV.keep (.new (S := []) np) (by simp) hR, hc, fun H' l as h1 h2 k x => ?_⟩⟩
    · rw [upd_ne (ne_of_none hi np)]
      exact hi
    · have fr : ∀ {a : Addr}, upd H p (.tup rest) a = none → H a = none := fun {a} z => by
        by_cases e : a = p
        · rw [e]; exact np
        · rw [upd_ne e] at z; exact z
      exact q H' l as (fr h1) (fun a ha => fr (h2 a ha)) ((Keep.new (S := [h]) np).trans k) x
def N_of : List Str := ["cls", "contents"]
theorem sc_of : FnScope N_of ["cls", "contents"] (defScope s_of) := ⟨rfl, rfl, rfl, by decide +kernel, rfl, by decide +kernel, by decide +kernel⟩
theorem ok_of (T : Txt K mg) : FnR P w K mg base CX0 7 T.f_of (spOf T.C) := by
  refine okR T.F_of sc_of (fun vs H Q E h => ?_) (T.F_of.binds fun _ _ _ _ _ _ us hl => match us, hl with | [_, _], _ => rfl) (fun cdv A outer s H vs Q E hr h => ?_)
  · obtain ⟨v, c, rfl, _⟩ := h
    rfl
  · refine ⟨_, (pss_one (ps_ret (pe_makeSV (C := T.C) (i := 0) T.mkC (ok_init T) hr pass0 rfl (.inl rfl) (pv 1)))), ?_⟩
    obtain ⟨v, c, rfl, ⟨a, vs, rfl, _, ha, hR⟩, hc, q⟩ := h
    refine ⟨rfl, _, rfl, a, vs, rfl, .inr (.of ha), fun o dx no nd ne => ?_⟩
    have k1 : Keep [] H (upd (upd H dx (.own o)) o (.ins T.C dx [])) := (Keep.new nd).trans (.new (by rw [upd_ne ne.symm]; exact no))
    refine ⟨o, dx, vs, c, rfl, upd_same, RowsV.keep k1 (by simp) hR, hc, fun H' l as h1 h2 k x => ⟨rfl, ?_⟩⟩
    have fr : ∀ {a : Addr}, upd (upd H dx (.own o)) o (.ins T.C dx []) a = none → H a = none := fun z => k1.free z (by simp)
    exact q H' o l as no (fr h1) (fun a ha => fr (h2 a ha)) (((k1.all (S := [o])).trans k).drop no) x
def N_new : List Str := ["self", "items", "item"]
theorem sc_new : FnScope N_new ["self", "items"] (defScope s_new) := ⟨rfl, rfl, rfl, by decide +kernel, rfl, by decide +kernel, by decide +kernel⟩
theorem ok_new (T : Txt K mg) : FnR P w K mg base CX0 6 T.f_new (spNew T.C) := by
  refine (okStar (sp := fun vs H Q _ => ∃ h p l as c rest r, vs = [.ref h, .ref p] ∧ H p = some (.tup rest) ∧ HeapAt T.C H h l as c ∧ ImsV H rest r ∧ c.length < 60 ∧ total c + r.length ≤ 300 ∧ (∀ x ∈ r, okIm ((c.length : Int) + 1) x = true) ∧
    ∀ H' a, H a = none → Keep [l] H H' → HeapAt T.C H' h l (as ++ [a]) (c ++ [r]) → Q (.int (c.length : Nat)) H') T.F_new sc_new (fun _ _ _ _ _ _ _ => rfl) (fun _ _ _ _ _ _ _ _ _ => rfl) (fun cdv A outer s H vs Q E hr h => ?_)).imp fun vs H Q E h => ?_
  · refine ⟨_, (pss_cons (ps_for PassesOwn.never rfl (pi_tup (pv 1)) (pg_name (i := 2) sc_new.nd rfl (Or.inl rfl))
      (pss_one (ps_expr (pe_methR (pv 0) T.cl T.m_need_item (ok_need_item T) (hr.mono (by decide)) pass0 (pa_cons (pv 2) (pa_cons pe_int pa_nil))))))
      (pss_cons (ps_expr (pe_methR (pv 0) T.cl T.m_need_room (ok_need_room T) (hr.mono (by decide)) pass0 (pa_cons pe_int (pa_cons (pe_callB call_len (by rfl) T.n_len (by decide +kernel) (pa_cons (pv 1) pa_nil)) pa_nil))))
      (pss_cons (ps_expr (pe_bm PySem.F.plainAttrs_list PySem.F.slot_list_append PySem.F.type_list_append mt_append (pe_fld (pv 0) rfl) (pa_cons (pe_callTy call_list_of (by rfl) T.n_list (by decide +kernel) (pa_cons (pv 1) pa_nil)) pa_nil)))
      (pss_one (ps_ret (pe_op op_sub (pe_callB call_len (by rfl) T.n_len (by decide +kernel) (pa_cons (pe_fld (pv 0) rfl) pa_nil)) pe_int)))))), ?_⟩
    obtain ⟨h, p, l, as, c, rest, r, rfl, hp, hat, hI, hc1, hc2, hc3, q⟩ := h
    refine ⟨_, rfl, p, rfl, ⟨rest, .of hp⟩, for_tup (K := K) (a := p) (xs := rest) (fun i σ H' => ∃ v2, σ = [some (.ref h), some (.ref p), v2] ∧ Keep [] H H') ⟨none, rfl, .refl⟩ (fun i σ H' _ ⟨_, _, k⟩ => .of (k.tup hp)) ?_ ?_⟩
    · rintro i x σ H1 hx ⟨v2, rfl, k⟩
      obtain ⟨z, hz, hv⟩ := paired_getV hI hx
      have hat1 := hat.same k
      obtain ⟨dx, hi⟩ := hat1.ins
      exact ⟨_, rfl, h, dx, _, rfl, hi, rfl, _, rfl, h, l, as, c, _, z, 1, rfl, hat1, hv.keep k, hc3 z (List.mem_of_getElem? hz), fun H2 k2 => ⟨_, rfl, k.trans k2⟩⟩
    · rintro σ H1 ⟨v2, rfl, k⟩
      have hat1 := hat.same k
      obtain ⟨dx, hi⟩ := hat1.ins
      refine ⟨_, rfl, h, dx, _, rfl, hi, rfl, _, rfl, _, rest.length, rfl, .inr ⟨_, .of (k.tup hp), rfl⟩, h, l, as, c, 1, rest.length, rfl, hat1, by omega, by rw [hI.length]; exact hc2, fun H2 k2 => ?_⟩
      have hat2 := hat1.same k2
      obtain ⟨dx, hi2⟩ := hat2.ins
      have k12 := k.trans k2
      refine ⟨_, rfl, h, T.C, dx, _, _, rfl, hi2, T.cl, T.na_lists, lk, .inl ⟨rfl, _, .of hat2.lst⟩, _, rfl, p, rest, rfl, .inr (.of (k12.tup hp)), fun a na => ?_⟩
      have nla : l ≠ a := ne_of_none hat2.lst na
      refine ⟨l, _, _, rfl, rfl, (by rw [upd_ne nla]; exact hat2.lst), small_of (by rw [List.length_map, hat2.len]; omega), ?_⟩
      have k3 : Keep [l] H2 (upd (upd H2 a (.lst rest)) l (.lst (as.map V.ref ++ [.ref a]))) := (Keep.new na).trans (.put (by simp) (by rw [upd_ne nla]; exact hat2.lst) rfl)
      have hat3 := hat2.more (r := r) (fun z => by
        obtain ⟨i, h1⟩ := List.getElem?_of_mem z
        obtain ⟨_, _, xs, h2, _⟩ := paired_getV hat2.rows h1
        rw [na] at h2
        cases h2) nla k3 upd_same (by rw [upd_ne nla.symm, upd_same]) ((hI.keep k12).keep k3)
      obtain ⟨dx, hi3⟩ := hat3.ins
      refine ⟨_, rfl, h, T.C, dx, _, _, rfl, hi3, T.cl, T.na_lists, lk, _, _, rfl, .inl ⟨_, .of hat3.lst, rfl⟩, _, _, rfl, rfl, ?_⟩
      have el : (((as ++ [a]).map V.ref).length : Int) - 1 = (c.length : Nat) := by
        rw [List.length_map, List.length_append, hat2.len, List.length_singleton]
        omega
      show Q (.int (((((as ++ [a]).map V.ref).length : Nat) : Int) - 1)) _
      rw [el]
      exact q _ a (k12.free na (by simp)) (k12.all.trans k3) hat3
  · obtain ⟨h, l, as, c, rest, r, rfl, hat, hI, hc1, hc2, hc3, q⟩ := h
    refine ⟨_, rest, rfl, Nat.le_trans (by rw [hI.length]; omega) (show 300 ≤ sizeLine by decide), fun p np => ?_⟩
    have k0 : Keep [] H (upd H p (.tup rest)) := .new np
    exact ⟨h, p, l, as, c, rest, r, rfl, upd_same, hat.same k0, hI.keep k0, hc1, hc2, hc3, fun H' a h1 k x => q H' a (k0.free h1 (by simp)) (k0.all.trans k) x⟩
theorem ixN_of {n p : Nat} (h : p < n) : ixN n (p : Int) = some p := by
  unfold ixN
  rw [if_pos (by omega)]
  simp
  omega
def N_add_at : List Str := ["self", "box", "place", "item"]
theorem sc_add_at : FnScope N_add_at ["self", "box", "place", "item"] (defScope s_add_at) := ⟨rfl, rfl, rfl, by decide +kernel, rfl, by decide +kernel, by decide +kernel⟩
theorem ok_add_at (T : Txt K mg) : FnR P w K mg base CX0 6 T.f_add_at (spAddAt T.C) := by
  refine okR T.F_add_at sc_add_at (fun vs H Q E h => ?_) (T.F_add_at.binds fun _ _ _ _ _ _ us hl => match us, hl with | [_, _, _, _], _ => rfl) (fun cdv A outer s H vs Q E hr h => ?_)
  · obtain ⟨h, l, as, c, r, v, x, a, n, p, rfl, _⟩ := h
    rfl
  · refine ⟨_, (pss_cons (ps_expr (pe_methR (pv 0) T.cl T.m_need_box (ok_need_box T) (hr.mono (by decide)) pass0 (pa_cons (pv 1) pa_nil)))
      (pss_cons (ps_expr (pe_methR (pv 0) T.cl T.m_need_place (ok_need_place T) (hr.mono (by decide)) pass0 (pa_cons (pv 1) (pa_cons (pv 2) (pa_cons pe_int pa_nil)))))
      (pss_cons (ps_expr (pe_methR (pv 0) T.cl T.m_need_item (ok_need_item T) (hr.mono (by decide)) pass0 (pa_cons (pv 3) (pa_cons pe_int pa_nil))))
      (pss_cons (ps_expr (pe_methR (pv 0) T.cl T.m_need_room (ok_need_room T) (hr.mono (by decide)) pass0 (pa_cons pe_int (pa_cons pe_int pa_nil))))
      (pss_one (ps_expr (pe_bm PySem.F.plainAttrs_list PySem.F.slot_list_insert PySem.F.type_list_insert mt_insert (pe_ix ix_list (pe_fld (pv 0) rfl) (pv 1) (fun _ _ => rfl)) (pa_cons (pv 2) (pa_cons (pv 3) pa_nil))))))))), ?_⟩
    obtain ⟨h, l, as, c, r, v, x, a, n, p, rfl, hat, hn, ha, hpl, hv, ho, hc1, hc2, q⟩ := h
    obtain ⟨dx, hi⟩ := hat.ins
    refine ⟨_, rfl, h, dx, _, rfl, hi, rfl, _, rfl, h, l, as, c, n, rfl, hat, (List.getElem?_eq_some_iff.mp hn).1, ?_⟩
    refine ⟨_, rfl, h, dx, _, rfl, hi, rfl, _, rfl, _, rfl, h, l, as, c, r, n, p, 1, rfl, hat, hn, by omega, ?_⟩
    refine ⟨_, rfl, h, dx, _, rfl, hi, rfl, _, rfl, h, l, as, c, v, x, 0, rfl, hat, hv, by simpa using ho, fun H1 k => ?_⟩
    have hat1 := hat.same k
    obtain ⟨dx, hi1⟩ := hat1.ins
    refine ⟨_, rfl, h, dx, _, rfl, hi1, rfl, h, l, as, c, 0, 1, rfl, hat1, by omega, by omega, fun H2 k2 => ?_⟩
    have hat2 := hat1.same k2
    obtain ⟨dx, hi2⟩ := hat2.ins
    obtain ⟨a', xs, h1, h2, h3, h4⟩ := hat2.row hn
    rw [ha] at h1
    cases h1
    have hz : total c < 300 := hc2
    have hrl : r.length ≤ total c := by
      have z := total_set c n r [] hn
      simp at z
      omega
    refine ⟨_, rfl, h, T.C, dx, _, _, rfl, hi2, T.cl, T.na_lists, lk, _, rfl, _, _, _, _, rfl, rfl, .of hat2.lst, atI_nat h2, .inl ⟨rfl, _, .of h3⟩, _, rfl, _, rfl, a, xs, p, v, rfl, rfl, h3, small_of (by rw [h4.length]; omega), by omega, by omega, ?_⟩
    have k3 : Keep [a] H2 (upd H2 a (.lst (xs.take p ++ [v] ++ xs.drop p))) := .put (by simp) h3 rfl
    have tk : ∀ {vs : List V} {zs : List Im} (H' : Hp) (i : Nat), ImsV H' vs zs → ImsV H' (vs.take i) (zs.take i) ∧ ImsV H' (vs.drop i) (zs.drop i) := fun {vs zs} H' i z => by
      induction z generalizing i with
      | nil => cases i <;> exact ⟨.nil, .nil⟩
      | cons a t ih =>
        cases i with
        | zero => exact ⟨.nil, .cons a t⟩
        | succ i => exact ⟨.cons a (ih i).1, (ih i).2⟩
    have h5 := tk _ p (h4.keep k3)
    refine q _ ((k.trans k2).all.trans k3) (hat2.setRow ha h3 k3 ?_ (paired_append (paired_append h5.1 (.cons (((hv.keep k).keep k2).keep k3) .nil)) h5.2))
    rw [upd_same]
    rfl
def N_add_last : List Str := ["self", "box", "item"]
theorem sc_add_last : FnScope N_add_last ["self", "box", "item"] (defScope s_add_last) := ⟨rfl, rfl, rfl, by decide +kernel, rfl, by decide +kernel, by decide +kernel⟩
theorem ok_add_last (T : Txt K mg) : FnR P w K mg base CX0 7 T.f_add_last (spAddLast T.C) := by
  refine okR T.F_add_last sc_add_last (fun vs H Q E h => ?_) (T.F_add_last.binds fun _ _ _ _ _ _ us hl => match us, hl with | [_, _, _], _ => rfl) (fun cdv A outer s H vs Q E hr h => ?_)
  · obtain ⟨h, l, as, c, r, v, x, a, n, rfl, _⟩ := h
    rfl
  · refine ⟨_, (pss_cons (ps_expr (pe_methR (pv 0) T.cl T.m_need_box (ok_need_box T) (hr.mono (by decide)) pass0 (pa_cons (pv 1) pa_nil)))
      (pss_one (ps_expr (pe_methR (pv 0) T.cl T.m_add_at (ok_add_at T) (hr.mono (by decide)) pass0 (pa_cons (pv 1) (pa_cons (pe_callB call_len (by rfl) T.n_len (by decide +kernel) (pa_cons (pe_ix ix_list (pe_fld (pv 0) rfl) (pv 1) (fun _ _ => rfl)) pa_nil)) (pa_cons (pv 2) pa_nil))))))), ?_⟩
    obtain ⟨h, l, as, c, r, v, x, a, n, rfl, hat, hn, ha, hv, ho, hc1, hc2, q⟩ := h
    obtain ⟨dx, hi⟩ := hat.ins
    obtain ⟨a', xs, h1, h2, h3, h4⟩ := hat.row hn
    rw [ha] at h1
    cases h1
    refine ⟨_, rfl, h, dx, _, rfl, hi, rfl, _, rfl, h, l, as, c, n, rfl, hat, (List.getElem?_eq_some_iff.mp hn).1, ?_⟩
    refine ⟨_, rfl, h, dx, _, rfl, hi, rfl, _, rfl, _, rfl, h, T.C, dx, _, _, rfl, hi, T.cl, T.na_lists, lk, _, rfl, _, _, _, _, rfl, rfl, .of hat.lst, atI_nat h2, _, _, rfl, .inl ⟨_, .of h3, rfl⟩, _, rfl, ?_⟩
    refine ⟨h, l, as, c, r, v, x, a, n, xs.length, rfl, hat, hn, ha, by rw [h4.length]; exact Nat.le_refl _, hv, ho, hc1, hc2, fun H' k z => q H' k ?_⟩
    rw [h4.length] at z
    simpa using z
def N_swap : List Str := ["self", "one", "other", "lists"]
theorem sc_swap : FnScope N_swap ["self", "one", "other"] (defScope s_swap) := ⟨rfl, rfl, rfl, by decide +kernel, rfl, by decide +kernel, by decide +kernel⟩
theorem ok_swap (T : Txt K mg) : FnR P w K mg base CX0 5 T.f_swap (spSwap T.C) := by
  refine okR T.F_swap sc_swap (fun vs H Q E h => ?_) (T.F_swap.binds fun _ _ _ _ _ _ us hl => match us, hl with | [_, _, _], _ => rfl) (fun cdv A outer s H vs Q E hr h => ?_)
  · obtain ⟨h, l, as, c, r, s, a, b, i, j, rfl, _⟩ := h
    rfl
  · refine ⟨_, (pss_cons (ps_expr (pe_methR (pv 0) T.cl T.m_need_box (ok_need_box T) (hr.mono (by decide)) pass0 (pa_cons (pv 1) pa_nil)))
      (pss_cons (ps_expr (pe_methR (pv 0) T.cl T.m_need_box (ok_need_box T) (hr.mono (by decide)) pass0 (pa_cons (pv 2) pa_nil)))
      (pss_cons (ps_set (i := 3) sc_swap.nd rfl (Or.inl rfl) (pe_fld (pv 0) rfl))
      (pss_one (ps_asg (pe_tup (pa_cons (pe_ix ix_list (pv 3) (pv 2) (fun _ _ => rfl)) (pa_cons (pe_ix ix_list (pv 3) (pv 1) (fun _ _ => rfl)) pa_nil))) (pg_tup rfl (pgs_cons (pg_sub (pv 3) (pv 1) set_list) (pgs_cons (pg_sub (pv 3) (pv 2) set_list) pgs_nil)))))))), ?_⟩
    obtain ⟨h, l, as, c, r, s, a, b, i, j, rfl, hat, hi1, hj1, ha, hb, q⟩ := h
    obtain ⟨dx, hi⟩ := hat.ins
    have ea : (as.map V.ref)[i]? = some (.ref a) := by rw [List.getElem?_map, ha]; rfl
    have eb : (as.map V.ref)[j]? = some (.ref b) := by rw [List.getElem?_map, hb]; rfl
    have li := (List.getElem?_eq_some_iff.mp ea).1
    have lj := (List.getElem?_eq_some_iff.mp eb).1
    refine ⟨_, rfl, h, dx, _, rfl, hi, rfl, _, rfl, h, l, as, c, i, rfl, hat, (List.getElem?_eq_some_iff.mp hi1).1, ?_⟩
    refine ⟨_, rfl, h, dx, _, rfl, hi, rfl, _, rfl, h, l, as, c, j, rfl, hat, (List.getElem?_eq_some_iff.mp hj1).1, ?_⟩
    refine ⟨_, rfl, h, T.C, dx, _, _, rfl, hi, T.cl, T.na_lists, lk, ?_⟩
    refine ⟨_, rfl, _, rfl, _, _, _, _, rfl, rfl, .of hat.lst, atI_nat eb, _, rfl, _, rfl, _, _, _, _, rfl, rfl, .of hat.lst, atI_nat ea, (show 2 ≤ sizeLine by decide), fun t nt => ?_⟩
    have nl : l ≠ t := ne_of_none hat.lst nt
    have h1 : upd H t (.tup [.ref b, .ref a]) l = some (.lst (as.map V.ref)) := by rw [upd_ne nl]; exact hat.lst
    refine ⟨t, _, rfl, .of upd_same, rfl, _, _, rfl, _, rfl, _, rfl, l, _, i, i, rfl, rfl, h1, ixN_of li, _, _, rfl, _, rfl, _, rfl, l, _, j, j, rfl, rfl, upd_same, ixN_of (by rw [List.length_set]; exact lj), rfl, ?_⟩
    have k : Keep [l] H (upd (upd (upd H t (.tup [.ref b, .ref a])) l (.lst ((as.map V.ref).set i (.ref b)))) l (.lst (((as.map V.ref).set i (.ref b)).set j (.ref a)))) :=
      ((Keep.new nt).trans (.put (by simp) h1 rfl)).trans (.put (by simp) upd_same rfl)
    exact q _ k (hat.swap ha hb hi1 hj1 k upd_same)
end
end K66
namespace K66
open PySem PySem.Spec PyProof.Rows L2 Rg
/-! ### the error, the heap's == -/
def spXi (C : Addr) : Sp := fun vs H Q _ => ∃ e0 v, vs = [.ref e0, v] ∧ H e0 = some (exo e0 C none) ∧ ∀ dx, H dx = none → dx ≠ e0 → Q .non (upd (upd H dx (exd dx [("number", v)])) e0 (exo e0 C (some dx)))
/-- a thing that is no number of one of n boxes -/
def OutBox (K : PySem.W.Frag) (H : Hp) (v : V) (n : Nat) : Prop := (∃ i : Int, v = .int i ∧ (i < 0 ∨ (n : Int) ≤ i)) ∨ NotInt K H v
def spNeedBoxX (K : PySem.W.Frag) (C CN : Addr) : Sp := fun vs H Q E => ∃ h l as c v, vs = [.ref h, v] ∧ HeapAt C H h l as c ∧
  ((∃ n : Nat, v = .int n ∧ n < c.length ∧ Q .non H) ∨ (OutBox K H v c.length ∧ ∀ H' d, Keep [] H H' → H' d = some (.xd [("number", v)]) → E (.ref CN) (some d) H'))
theorem HeapAt.dp {K : PySem.W.Frag} {C : Addr} {H : Hp} {h l : Addr} {as : List Addr} {c : Cont} (x : HeapAt C H h l as c) : Dp K H (.ref l) (contD c) :=
  .lst (.of x.lst) (by
    have z := x.rows
    clear x
    induction z with
    | nil => exact .nil
    | cons a t ih => exact .cons (.lst (.of a.choose_spec.1) (dpAll_of (fun _ _ z => z.dp) a.choose_spec.2)) ih)
theorem fine_lay : ∀ {x : Im}, fineIm x → x.d.canLay0 = true
  | .i _, _ => rfl
  | .s x, h => by
    show x.cps.all (fun c => decide (c < 0x110000)) = true
    rw [Array.all_eq_true_iff_forall_mem]
    exact fun c hc => decide_eq_true (Nat.lt_trans (h.2 c (by simpa using hc)) (by decide))
  | .b n, _ => by
    simp only [Im.d, PyData.canLay0, PyData.canLayAll0, Bool.and_true]
    decide +kernel
theorem lay_all : ∀ {xs : List PyData}, (∀ x ∈ xs, x.canLay0 = true) → PyData.canLayAll0 xs = true
  | [], _ => rfl
  | x :: xs, h => by rw [PyData.canLayAll0, h x (by simp), lay_all fun y hy => h y (List.mem_cons_of_mem _ hy)]; rfl
theorem cont_lay {c : Cont} (h : ∀ r ∈ c, ∀ x ∈ r, fineIm x) : (contD c).canLay0 = true := by
  refine lay_all fun x hx => ?_
  obtain ⟨r, hr, rfl⟩ := List.mem_map.mp hx
  refine lay_all fun y hy => ?_
  obtain ⟨z, hz, rfl⟩ := List.mem_map.mp hy
  exact fine_lay (h r hr z hz)
section
variable {P : Program} {w : World} {K : PySem.W.Frag} {mg : Str → Option Value} {base : Heap}
def N_xi : List Str := ["self", "number"]
theorem sc_xi : FnScope N_xi ["self", "number"] (defScope s_xi_NoBox) := ⟨rfl, rfl, rfl, by decide +kernel, rfl, by decide +kernel, by decide +kernel⟩
theorem ok_xi (T : Txt K mg) : FnR P w K mg base CX0 1 T.f_xi_NoBox (spXi T.C_NoBox) := by
  refine okR T.F_xi_NoBox sc_xi (fun vs H Q E h => ?_) (T.F_xi_NoBox.binds fun _ _ _ _ _ _ us hl => match us, hl with | [_, _], _ => rfl) (fun cdv A outer s H vs Q E hr h => ?_)
  · obtain ⟨e0, v, rfl, _⟩ := h
    rfl
  · refine ⟨_, (pss_cons (ps_expr (pe_baseInit PySem.F.excBase_LookupError (by rfl) (by kernel_rfl) (by decide +kernel) (by decide +kernel) (by rfl) T.n_LookupError T.bi_NoBox (pa_cons (pv 0) (pa_cons pe_str pa_nil))))
      (pss_one (ps_field (newId := "LookupError.__new__") PySem.F.store_LookupError (pv 0) (pv 1)))), ?_⟩
    obtain ⟨e0, v, rfl, he, q⟩ := h
    refine ⟨_, rfl, e0, T.C_NoBox, _, rfl, by decide, T.x_NoBox, he, ?_⟩
    exact ⟨_, rfl, _, rfl, e0, T.C_NoBox, rfl, T.x_NoBox, T.nf_NoBox, he, q⟩
theorem ok_need_boxX (T : Txt K mg) : FnR P w K mg base (L2.CX P w) 4 T.f_need_box (spNeedBoxX K T.C T.C_NoBox) := by
  refine okRX T.F_need_box sc_need_box (fun vs H Q E h => ?_) (T.F_need_box.binds fun _ _ _ _ _ _ us hl => match us, hl with | [_, _], _ => rfl) (fun cdv A outer s H vs Q E hr h => ?_)
  · obtain ⟨h, l, as, c, v, rfl, _⟩ := h
    rfl
  · refine ⟨_, (pss_one (ps_if (pt_cmpR (op_notInOwn T.m_contains.at_ T.m_contains.fn (ok_contains T) (hr.mono (by decide)) pass0) (pv 1) (pv 0) (by rfl)) (pss_one (ps_raise rfl (takes_of (E := E) rfl rfl rfl rfl) (pmk_exG T.x_NoBox PySem.F.excBase_LookupError T.i_NoBox T.ti_NoBox (ok_xi T) (hr.mono (by decide)) pass0 rfl T.g_NoBox (pa_cons (pv 1) pa_nil)))) pss_nil)), ?_⟩
    obtain ⟨h, l, as, c, v, rfl, hp, hh⟩ := h
    obtain ⟨dx, hi⟩ := hp.ins
    rcases hh with ⟨n, rfl, hn, q⟩ | ⟨ho, q⟩
    · refine ⟨_, rfl, _, rfl, h, dx, _, rfl, hi, h, l, as, c, hp, .inl ⟨n, rfl, _, rfl, _, rfl, ?_⟩⟩
      rw [decide_eq_true (show (0 : Int) ≤ (n : Int) by omega), decide_eq_true (show (n : Int) ≤ (c.length : Int) - 1 by omega)]
      exact iteF q
    · have fin : ∀ a : Addr, H a = none → spXi T.C_NoBox [.ref a, v] (upd H a (exo a T.C_NoBox none)) (fun r H2 => r = .non ∧ ∃ (d : Addr) (fs : List (Str × V)), H2 a = some (exo a T.C_NoBox (some d)) ∧ H2 d = some (exd d fs) ∧ H d = none ∧ E (.ref T.C_NoBox) (some d) (upd (del H2 a) d (.xd fs))) (fun _ _ _ => False) := fun a na => by
        refine ⟨a, v, rfl, upd_same, fun d nd ne => ⟨rfl, d, [("number", v)], upd_same, ?_, ?_, ?_⟩⟩
        · rw [upd_ne ne, upd_same]
        · rw [upd_ne ne] at nd
          exact nd
        · rw [upd_ne ne] at nd
          refine q _ d (fun b o _ e => ?_) upd_same
          rw [upd_ne (ne_of_none e nd), del_ne (ne_of_none e na), upd_ne (ne_of_none e na), upd_ne (ne_of_none e nd), upd_ne (ne_of_none e na)]
          exact e
      have out : ∀ G : V → Hp → Prop, G (.bl false) H → spContains K T.C [.ref h, v] H G E0 := fun G g => by
        rcases ho with ⟨i, rfl, hi2⟩ | hn
        · refine ⟨h, l, as, c, hp, .inl ⟨i, rfl, ?_⟩⟩
          have e : (decide (0 ≤ i) && decide (i ≤ (c.length : Int) - 1)) = false := by
            rcases hi2 with z | z
            · rw [decide_eq_false (show ¬ 0 ≤ i by omega)]
              rfl
            · rw [decide_eq_false (show ¬ i ≤ (c.length : Int) - 1 by omega), Bool.and_false]
          rw [e]
          exact g
        · exact ⟨h, l, as, c, hp, .inr ⟨v, rfl, hn, g⟩⟩
      refine ⟨_, rfl, _, rfl, h, dx, _, rfl, hi, out _ ⟨_, rfl, _, rfl, iteT ?_⟩⟩
      exact ⟨_, rfl, (show 1 ≤ 1000 by decide), fin⟩
/-! ### == of two heaps -/
def SameC (C : Addr) (a b : Addr) (H : Hp) : Prop := ∃ l1 as1 l2 as2 c, HeapAt C H a l1 as1 c ∧ HeapAt C H b l2 as2 c ∧ ∀ r ∈ c, ∀ x ∈ r, fineIm x
theorem kitOne_self {K : PySem.W.Frag} {v : Value} : PySem.W.kitOne K v v = some true := by
  unfold PySem.W.kitOne
  rw [if_pos (beq_self_eq_true v)]
def N_eq : List Str := ["self", "other"]
theorem sc_eq : FnScope N_eq ["self", "other"] (defScope s_eq) := ⟨rfl, rfl, rfl, by decide +kernel, rfl, by decide +kernel, by decide +kernel⟩
theorem cont_shaped {c : Cont} (h : ∀ r ∈ c, ∀ x ∈ r, fineIm x) : SeqAt.shaped (contD c) = true := by
  refine Bool.and_eq_true_iff.mpr ⟨cont_lay h, decide_eq_true ?_⟩
  have d1 : ∀ x : Im, x.d.depth ≤ 1 := fun x => by
    cases x with
    | i n => exact Nat.zero_le _
    | s x => exact Nat.zero_le _
    | b n =>
      simp only [Im.d, PyData.depth, PyData.depthAll]
      decide
  have d2 : ∀ r : List Im, PyData.depthAll (r.map Im.d) ≤ 1 := fun r => by
    induction r with
    | nil => exact Nat.zero_le _
    | cons x r ih =>
      rw [List.map_cons, PyData.depthAll]
      have := d1 x
      omega
  have d3 : ∀ c : Cont, PyData.depthAll (c.map rowD) ≤ 2 := fun c => by
    induction c with
    | nil => exact Nat.zero_le _
    | cons r c ih =>
      have h2 : (rowD r).depth ≤ 2 := by
        have := d2 r
        simp only [rowD, PyData.depth]
        omega
      rw [List.map_cons, PyData.depthAll]
      omega
  have := d3 c
  simp only [contD, PyData.depth]
  omega
theorem ok_eq (T : Txt K mg) : FnOk P w K mg base CX0 1 T.f_eq T.fd_eq ["self", "other"] (L2.spEq (SameC T.C)) := by
  refine T.F_eq.ok sc_eq (fun vs H Q E h => ?_) fun cdv A outer s H vs Q E hr h => ?_
  · obtain ⟨a, b, rfl, _⟩ := h
    rfl
  · refine ⟨_, (pss_one (ps_ret (pe_and (pe_callB call_isi (by rfl) T.n_isinstance (by decide +kernel) (pa_cons (pv 1) (pa_cons (pe_glob (v := .ref T.C) rfl T.g_Heap rfl) pa_nil))) (pe_one (pe_cmpR (op_eqD hr.units) (pe_fld (pv 0) rfl) (pe_fld (pv 1) rfl) (nomark _)))))), ?_⟩
    obtain ⟨a, b, rfl, ⟨l1, as1, l2, as2, c, h1, h2, hf⟩, q⟩ := h
    obtain ⟨dx, hi1⟩ := h1.ins
    obtain ⟨dy, hi2⟩ := h2.ins
    refine ⟨_, rfl, _, _, _, _, true, rfl, .own _, .base (.ins hi2 T.cl T.ic T.ip T.iu T.im), kitOne_self, true, rfl, iteT ?_⟩
    refine ⟨_, rfl, a, T.C, dx, _, _, rfl, hi1, T.cl, T.na_lists, lk, _, rfl, b, T.C, dy, _, _, rfl, hi2, T.cl, T.na_lists, lk, contD c, contD c, HeapAt.dp h1, HeapAt.dp h2, cont_shaped hf, cont_shaped hf, ?_⟩
    rw [SeqAt.eqv_refl _ (cont_lay hf)]
    exact q H Ext.rfl'
/-! ### references led to another box -/
def ren (x y : Nat) : Im → Im
  | .b k => if k = y then .b x else .b k
  | z => z
def renC (x y : Nat) (c : Cont) : Cont := c.map fun r => r.map (ren x y)
theorem eqv_box (y : Nat) : ∀ z : Im, PyData.eqv z.d (.tuple [.str "box", .int (y : Nat)]) = decide (z = .b y)
  | .i _ => rfl
  | .s _ => rfl
  | .b k => by
    simp only [Im.d, PyData.eqv, PyData.eqvAll, Bool.and_true]
    by_cases e : k = y
    · subst e
      simp
    · have e2 : ((k : Int) == (y : Int)) = false := by
        simp
        omega
      rw [e2, Bool.and_false]
      simp [e]
theorem shaped_box (k : Nat) : SeqAt.shaped (.tuple [.str "box", .int (k : Nat)]) = true := by
  refine Bool.and_eq_true_iff.mpr ⟨fine_lay (x := .b 0) (show 0 < 1000 by decide), decide_eq_true ?_⟩
  simp only [PyData.depth, PyData.depthAll]
  decide
theorem shaped_im {z : Im} (h : fineIm z) : SeqAt.shaped z.d = true := by
  refine Bool.and_eq_true_iff.mpr ⟨fine_lay h, decide_eq_true ?_⟩
  cases z with
  | i n => exact Nat.zero_le _
  | s x => exact Nat.zero_le _
  | b n =>
    simp only [Im.d, PyData.depth, PyData.depthAll]
    decide
def t_ren (K : PySem.W.Frag) : TE := tLc (iList K (tVar 0)) (gName 4) tYes (tLc (iList K (tVar 4)) (gName 3) tYes (tIf (tTest (tOp (rEqD K) (tVar 3) (tTup (tCons (tC (.str "box")) (tCons (tVar 2) tNil))))) (tTup (tCons (tC (.str "box")) (tCons (tVar 1) tNil))) (tVar 3)) [3]) [4]
def spRen : Sp := fun vs H Q _ => ∃ v c, ∃ x y : Nat, vs = [v, .int x, .int y] ∧ ContV [] H v c ∧ (∀ r ∈ c, ∀ z ∈ r, fineIm z) ∧ c.length ≤ 1000 ∧ (∀ r ∈ c, r.length ≤ 1000) ∧ ∀ H' w, Keep [] H H' → ContF H H' w (renC x y c) → Q w H'
theorem pure_ren {v : V} {c : Cont} {x y : Nat} {H : Hp} {Q : VK} (hc : ContV [] H v c) (hf : ∀ r ∈ c, ∀ z ∈ r, fineIm z) (hl : c.length ≤ 1000) (hr : ∀ r ∈ c, r.length ≤ 1000) (q : ∀ H' w, Keep [] H H' → ContF H H' w (renC x y c) → Q w H') :
    t_ren K [some v, some (.int x), some (.int y), none, none] H Q := by
  obtain ⟨a, rs, rfl, _, ha, hR⟩ := hc
  have hlen : rs.length = c.length := hR.length
  have hs : SqL K (hd [] H) a rs := .of (by rw [hd_out (by simp)]; exact ha)
  refine ⟨_, rfl, a, rfl, ⟨_, .of ha⟩, fun D hD => lc_it (M := []) (Jv := fun _ => True)
    (Rel := fun H' v (r : List Im) => ∃ a, v = .ref a ∧ (H a = none ∧ a ≠ D) ∧ ∃ xs, H' a = some (.lst xs) ∧ ImsV H' xs r) (Ok := fun i r => ∃ r0, c[i]? = some r0 ∧ r = r0.map (ren x y)) (n := rs.length)
    (Yx := fun i v _ => rs[i]? = some v) hD (by simp) (fun _ _ _ _ => trivial) trivial (by omega) (it_list hs).1 (it_list hs).2.1 (fun i H1 y H2 h1 h2 h3 => let z := (it_list hs).2.2 i H1 y H2 h1 h2 h3; ⟨z.1, z.2.1, z.2.2.1⟩)
    (fun H1 H2 y z k ⟨a, e, ⟨n1, n2⟩, xs, h3, h4⟩ => ⟨a, e, ⟨n1, n2⟩, xs, k.at (by simpa using n2) h3, h4.keep k⟩) ?_ gName_mono ?_⟩
  · rintro i v H1 hi k _ hDn hv Qe hQ
    obtain ⟨r0, hr0, ar, xs, rfl, _, har, hxs⟩ := paired_getV hR hv
    have har1 := k.same _ _ har
    have hs1 : SqL K (hd [] H1) ar xs := .of (by rw [hd_out (by simp)]; exact har1)
    have hrl := hr r0 (List.mem_of_getElem? hr0)
    have hxl : xs.length = r0.length := hxs.length
    refine ⟨rfl, _, rfl, ar, rfl, ⟨_, .of har1⟩, fun t nt => lc_it (M := []) (Jv := fun _ => True)
      (Rel := fun H' v (z : Im) => ImV H' v z) (Ok := fun j z => ∃ z0, r0[j]? = some z0 ∧ z = ren x y z0) (n := xs.length)
      (Yx := fun j v _ => xs[j]? = some v) nt (by simp) (fun _ _ _ _ => trivial) trivial (by omega) (it_list hs1).1 (it_list hs1).2.1 (fun i H1 y H2 h1 h2 h3 => let z := (it_list hs1).2.2 i H1 y H2 h1 h2 h3; ⟨z.1, z.2.1, z.2.2.1⟩)
      (fun H1 H2 y z k h => h.keep k) ?_ gName_mono ?_⟩
    · rintro j v H2 hj k2 _ _ hv2 Qf hQf
      obtain ⟨z0, hz0, hz⟩ := paired_getV hxs hv2
      have hz2 := hz.keep (k.trans k2)
      have hfz := hf r0 (List.mem_of_getElem? hr0) z0 (List.mem_of_getElem? hz0)
      refine ⟨rfl, _, rfl, _, rfl, (show 2 ≤ sizeLine by decide), fun u nu => ?_⟩
      have k3 : Keep [] H2 (upd H2 u (.tup [.str "box", .int y])) := .new nu
      refine ⟨z0.d, _, (hz2.keep k3).dp, .tup (.of upd_same) (.cons (.str _) (.cons (.int _) .nil)), shaped_im hfz, shaped_box y, _, rfl, ?_⟩
      rw [eqv_box]
      by_cases e : z0 = .b y
      · rw [decide_eq_true e]
        refine iteT ⟨_, rfl, (show 2 ≤ sizeLine by decide), fun u2 nu2 => ?_⟩
        refine hQf _ (.b x) _ (k3.trans (.new nu2)) trivial ⟨z0, hz0, ?_⟩ ⟨u2, rfl, upd_same⟩
        rw [e]
        exact (if_pos rfl).symm
      · rw [decide_eq_false e]
        refine iteF ⟨_, rfl, ?_⟩
        refine hQf _ z0 _ k3 trivial ⟨z0, hz0, ?_⟩ (hz2.keep k3)
        cases z0 with
        | i n => rfl
        | s w => rfl
        | b n => exact (if_neg fun h => e (by rw [h])).symm
    · intro acc zs H2 k2 _ hA hP hL hO
      have ez : zs = r0.map (ren x y) := eq_of_get (by rw [hL, List.length_map, hxl]) fun i z hz => by
        obtain ⟨z0, h1, rfl⟩ := hO i z hz
        rw [List.getElem?_map, h1]
        rfl
      rw [ez] at hP
      exact hQ _ _ _ k2 trivial ⟨r0, hr0, rfl⟩ ⟨t, rfl, ⟨k.free nt (by simp), fun e => hDn (by rw [← e]; exact nt)⟩, acc, hA, hP⟩
  · intro acc zs H1 k _ hA hP hL hO
    have ez : zs = renC x y c := eq_of_get (by rw [hL, hlen]; simp [renC]) fun i z hz => by
      obtain ⟨r0, h1, rfl⟩ := hO i z hz
      unfold renC
      rw [List.getElem?_map, h1]
      rfl
    rw [ez] at hP
    obtain ⟨bs, eb, hb⟩ := refs_of hP
    exact q H1 _ k ⟨D, bs, rfl, hD, by rw [hA, eb], paired_mono (fun a r ⟨⟨n1, _⟩, h⟩ => ⟨n1, h⟩) hb⟩
end
end K66
namespace K66
open PySem PySem.Spec PyProof.Rows L2 Rg
/-! ### joins -/
theorem eqDK {X : Cx} {K : PySem.W.Frag} (hu : X.A.units + 64 < cLine) (h : X.K = K := by rfl) : OpR X (compareOp .Eq) (rEqD K) := h ▸ op_eqD hu
def isc (x y z : Str) : Scope := { kind := .function, names := [(".0", .local), (x, .local), (y, .cell), (z, .cell)], isGenerator := false, isCoroutine := false }
def joinC (c : Cont) (ps : List (Nat × Nat)) : Cont := ps.foldl (fun c p => renC p.1 p.2 c) c
def itemOk (n : Nat) (z : Im) : Prop := okIm (n : Int) z = true ∧ fineIm z
/-- contents whose items are items, written in few signs -/
structure ConOk (c : Cont) : Prop where
  len : c.length ≤ 60
  tot : total c ≤ 300
  ok : ∀ r ∈ c, ∀ z ∈ r, itemOk c.length z
theorem renC_len (x y : Nat) (c : Cont) : (renC x y c).length = c.length := by simp [renC]
theorem renC_tot (x y : Nat) (c : Cont) : total (renC x y c) = total c := by
  simp only [total, renC, List.map_map]
  congr 1
  exact List.map_congr_left fun r _ => by simp
theorem ConOk.ren {c : Cont} (h : ConOk c) {x : Nat} (hx : x < c.length) (y : Nat) : ConOk (renC x y c) := by
  refine ⟨by rw [renC_len]; exact h.len, by rw [renC_tot]; exact h.tot, fun r hr z hz => ?_⟩
  rw [renC_len]
  obtain ⟨r0, h0, rfl⟩ := List.mem_map.mp hr
  obtain ⟨z0, h1, rfl⟩ := List.mem_map.mp hz
  have ho := h.ok r0 h0 z0 h1
  have hl := h.len
  cases z0 with
  | i n => exact ho
  | s w => exact ho
  | b k =>
    show itemOk c.length (if k = y then Im.b x else Im.b k)
    by_cases e : k = y
    · rw [if_pos e]
      refine ⟨?_, show x < 1000 by omega⟩
      simp only [okIm, Bool.and_eq_true, decide_eq_true_eq]
      omega
    · rw [if_neg e]
      exact ho
theorem ConOk.row {c : Cont} (h : ConOk c) {r : List Im} (hr : r ∈ c) : r.length ≤ 1000 := by
  obtain ⟨i, hi⟩ := List.getElem?_of_mem hr
  have z := total_set c i r [] hi
  have := h.tot
  simp at z
  omega
theorem ConOk.join {n : Nat} : ∀ {ps : List (Nat × Nat)} {c : Cont}, ConOk c → c.length = n → (∀ p ∈ ps, p.1 < n ∧ p.2 < n) → ConOk (joinC c ps) ∧ (joinC c ps).length = n
  | [], c, h, e, _ => ⟨h, e⟩
  | p :: ps, c, h, e, hp => ConOk.join (ps := ps) (h.ren (by have := (hp p (by simp)).1; omega) p.2) ((renC_len _ _ _).trans e) fun q hq => hp q (List.mem_cons_of_mem _ hq)
theorem joinC_snoc (c : Cont) (ps : List (Nat × Nat)) (p : Nat × Nat) : joinC c (ps ++ [p]) = renC p.1 p.2 (joinC c ps) := by simp [joinC]
abbrev pairV (p : Nat × Nat) : V × V := (.int p.1, .int p.2)
def spAfter (K : PySem.W.Frag) (C CN : Addr) : Sp := fun vs H Q E => ∃ h l as c ja ts, ∃ ps : List (Nat × Nat), vs = [.ref h, .ref ja] ∧ HeapAt C H h l as c ∧ ConOk c ∧ H ja = some (.lst (ts.map V.ref)) ∧ (∀ p ∈ ps, p.1 < c.length ∧ p.2 < c.length) ∧
  ((Paired (fun t (e : V × V) => H t = some (.tup [e.1, e.2])) ts (ps.map pairV) ∧
      ∀ H' h' l' as', Keep [] H H' → H h' = none → H l' = none → (∀ a ∈ as', H a = none) → HeapAt C H' h' l' as' (joinC c ps) → Q (.ref h') H') ∨
   ∃ u v w rest, Paired (fun t (e : V × V) => H t = some (.tup [e.1, e.2])) ts (ps.map pairV ++ (u, v) :: rest) ∧
      (((∀ H', Keep [] H H' → OutBox K H' u c.length) ∧ w = u) ∨ ((∃ x : Nat, u = .int x ∧ x < c.length) ∧ (∀ H', Keep [] H H' → OutBox K H' v c.length) ∧ w = v)) ∧
      ∀ H' d, Keep [] H H' → H' d = some (.xd [("number", w)]) → E (.ref CN) (some d) H')
section
variable {P : Program} {w : World} {K : PySem.W.Frag} {mg : Str → Option Value} {base : Heap}
def N_renamed : List Str := ["lists", "into", "box", "item", "one"]
theorem sc_renamed : FnScope N_renamed ["lists", "into", "box"] (defScope s_renamed) := ⟨rfl, rfl, rfl, by decide +kernel, rfl, by decide +kernel, by decide +kernel⟩
theorem ok_renamed (T : Txt K mg) : FnR P w K mg base CX0 1 T.f_renamed spRen := by
  refine okR T.F_renamed sc_renamed (fun vs H Q E h => ?_) (T.F_renamed.binds fun _ _ _ _ _ _ us hl => match us, hl with | [_, _, _], _ => rfl) (fun cdv A outer s H vs Q E hr h => ?_)
  · obtain ⟨v, c, x, y, rfl, _⟩ := h
    rfl
  · refine ⟨_, (pss_one (ps_ret (pe_lc (own := [("one", 4)]) (g := (gName 4)) (tt := tYes) rfl sc_renamed.nd (pi_list (pv 0)) (blkOk_by (N := N_renamed) (sc := defScope s_renamed) (by decide +kernel)) (fun _ _ _ _ _ => (pg_name (i := 4) sc_renamed.nd rfl (Or.inl rfl))) (fun _ _ _ _ _ => pts_nil) (fun _ _ _ _ _ => (pe_lc (own := [("item", 3)]) (g := (gName 3)) (tt := tYes) rfl sc_renamed.nd (pil (K := K) (pv 4)) (blkOk_by (N := N_renamed) (sc := isc "one" "box" "into") (by decide +kernel)) (fun _ _ _ _ _ => (pg_name (i := 3) sc_renamed.nd rfl (Or.inl rfl))) (fun _ _ _ _ _ => pts_nil) (fun _ _ _ _ _ => (pe_ifExp (pt_cmpR (eqDK (K := K) hr.units) (pv 3) (pe_tup (pa_cons (pe_glob (v := .str "box") rfl T.g_BOX ⟨_, rfl⟩) (pa_cons (pv 2) pa_nil))) (nomark _)) (pe_tup (pa_cons (pe_glob (v := .str "box") rfl T.g_BOX ⟨_, rfl⟩) (pa_cons (pv 1) pa_nil))) (pv 3)))))))), ?_⟩
    obtain ⟨v, c, x, y, rfl, hc, hf, hl, hrl, q⟩ := h
    exact pure_ren hc hf hl hrl q
def N_l_into : List Str := ["_law_lists", "_law_x", "_law_y", "_law_part", "_law_row"]
theorem sc_l_into : FnScope N_l_into ["_law_lists", "_law_x", "_law_y"] (defScope s_l_into) := ⟨rfl, rfl, rfl, by decide +kernel, rfl, by decide +kernel, by decide +kernel⟩
theorem ok_l_into (T : Txt K mg) : FnR P w K mg base CX0 1 T.f_l_into spRen := by
  refine okR T.F_l_into sc_l_into (fun vs H Q E h => ?_) (T.F_l_into.binds fun _ _ _ _ _ _ us hl => match us, hl with | [_, _, _], _ => rfl) (fun cdv A outer s H vs Q E hr h => ?_)
  · obtain ⟨v, c, x, y, rfl, _⟩ := h
    rfl
  · refine ⟨_, (pss_one (ps_ret (pe_lc (own := [("_law_row", 4)]) (g := (gName 4)) (tt := tYes) rfl sc_l_into.nd (pi_list (pv 0)) (blkOk_by (N := N_l_into) (sc := defScope s_l_into) (by decide +kernel)) (fun _ _ _ _ _ => (pg_name (i := 4) sc_l_into.nd rfl (Or.inl rfl))) (fun _ _ _ _ _ => pts_nil) (fun _ _ _ _ _ => (pe_lc (own := [("_law_part", 3)]) (g := (gName 3)) (tt := tYes) rfl sc_l_into.nd (pil (K := K) (pv 4)) (blkOk_by (N := N_l_into) (sc := isc "_law_row" "_law_x" "_law_y") (by decide +kernel)) (fun _ _ _ _ _ => (pg_name (i := 3) sc_l_into.nd rfl (Or.inl rfl))) (fun _ _ _ _ _ => pts_nil) (fun _ _ _ _ _ => (pe_ifExp (pt_cmpR (eqDK (K := K) hr.units) (pv 3) (pe_tup (pa_cons pe_str (pa_cons (pv 2) pa_nil))) (nomark _)) (pe_tup (pa_cons pe_str (pa_cons (pv 1) pa_nil))) (pv 3)))))))), ?_⟩
    obtain ⟨v, c, x, y, rfl, hc, hf, hl, hrl, q⟩ := h
    exact pure_ren hc hf hl hrl q
def N_after_joins : List Str := ["heap", "joins", "lists", "into", "box"]
theorem sc_after_joins : FnScope N_after_joins ["heap", "joins"] (defScope s_after_joins) := ⟨rfl, rfl, rfl, by decide +kernel, rfl, by decide +kernel, by decide +kernel⟩
theorem ok_after_joins (T : Txt K mg) : FnR P w K mg base (L2.CX P w) 8 T.f_after_joins (spAfter K T.C T.C_NoBox) := by
  refine okRX T.F_after_joins sc_after_joins (fun vs H Q E h => ?_) (T.F_after_joins.binds fun _ _ _ _ _ _ us hl => match us, hl with | [_, _], _ => rfl) (fun cdv A outer s H vs Q E hr h => ?_)
  · obtain ⟨h, l, as, c, ja, ts, ps, rfl, _⟩ := h
    rfl
  · refine ⟨_, (pss_cons (ps_set (i := 2) sc_after_joins.nd rfl (Or.inl rfl) (pe_methR0 (pv 0) T.cl T.m_contents (ok_contents T) (hr.mono (by decide)) pass0))
      (pss_cons (ps_for (passes_of rfl) rfl (pi_list (pv 1)) (pg_tup rfl (pgs_cons (pg_name (i := 3) sc_after_joins.nd rfl (Or.inl rfl)) (pgs_cons (pg_name (i := 4) sc_after_joins.nd rfl (Or.inl rfl)) pgs_nil)))
      (pss_cons (ps_expr (pe_methR (pv 0) T.cl T.m_need_box (ok_need_boxX T) (hr.mono (by decide)) passE (pa_cons (pv 3) pa_nil)))
      (pss_cons (ps_expr (pe_methR (pv 0) T.cl T.m_need_box (ok_need_boxX T) (hr.mono (by decide)) passE (pa_cons (pv 4) pa_nil)))
      (pss_one (ps_set (i := 2) sc_after_joins.nd rfl (Or.inl rfl) (pe_callR (ok_renamed T) (hr.mono (by decide)) rfl T.g_renamed T.F_renamed.kp pass0 (pa_cons (pv 2) (pa_cons (pv 3) (pa_cons (pv 4) pa_nil)))))))))
      (pss_one (ps_ret (ClX.pe_cmeth (pe_glob (v := .ref T.C) rfl T.g_Heap rfl) T.cr T.cm_of (ok_of T) (hr.mono (by decide)) pass0 (pa_cons (pv 2) pa_nil)))))), ?_⟩
    obtain ⟨h, l, as, c, ja, ts, ps, rfl, hat, hok, hja, hps, hcase⟩ := h
    obtain ⟨dx, hi⟩ := hat.ins
    have hlen := hok.len
    refine ⟨_, rfl, h, dx, _, rfl, hi, rfl, h, l, as, c, rfl, hat, by omega, fun H1 v1 k1 hcf => ?_⟩
    have cv1 : ContV [] H1 v1 c := hcf.cont (by simp)
    have hja1 := k1.same _ _ hja
    -- the entries
    obtain ⟨es, hes, hpre, hlast⟩ : ∃ es : List (V × V), Paired (fun t (e : V × V) => H t = some (.tup [e.1, e.2])) ts es ∧ (∀ i p, ps[i]? = some p → es[i]? = some (pairV p)) ∧ ps.length ≤ es.length := by
      rcases hcase with ⟨hp, _⟩ | ⟨u, v, w', rest, hp, _⟩
      · exact ⟨_, hp, fun i p e => by rw [List.getElem?_map, e]; rfl, by simp⟩
      · refine ⟨_, hp, fun i p e => ?_, by simp⟩
        rw [List.getElem?_append_left (by rw [List.length_map]; exact (List.getElem?_eq_some_iff.mp e).1), List.getElem?_map, e]
        rfl
    have htl : (ts.map V.ref).length = es.length := by rw [List.length_map, hes.length]
    refine ⟨_, rfl, ja, rfl, ⟨_, .of hja1⟩, for_list (K := K) (a := ja) (xs := ts.map V.ref) (fun i σ H' => ∃ v2 v3 v4, σ = [some (.ref h), some (.ref ja), some v2, v3, v4] ∧ i ≤ ps.length ∧ Keep [] H H' ∧ ContV [] H' v2 (joinC c (ps.take i)))
      ⟨v1, none, none, rfl, Nat.zero_le _, k1, cv1⟩ (fun i σ H' _ ⟨_, _, _, _, _, k, _⟩ => .of (k.same _ _ hja)) ?_ ?_⟩
    · rintro i y σ H2 hy ⟨v2, v3, v4, rfl, hip, k2, cv2⟩
      rw [List.getElem?_map] at hy
      cases ht : ts[i]? with
      | none => rw [ht] at hy; cases hy
      | some t =>
        rw [ht] at hy
        cases hy
        obtain ⟨e, he, htup⟩ := paired_getV hes ht
        have htup2 := k2.same _ _ htup
        have hat2 := hat.same k2
        obtain ⟨dx2, hi2⟩ := hat2.ins
        refine ⟨t, _, rfl, .of htup2, rfl, _, _, rfl, _, _, rfl, rfl, ?_⟩
        by_cases hlt : i < ps.length
        · have ep := hpre i ps[i] (List.getElem?_eq_getElem hlt)
          rw [he] at ep
          cases ep
          obtain ⟨p1, p2⟩ := hps _ (List.getElem_mem hlt)
          refine ⟨_, rfl, h, dx2, _, rfl, hi2, rfl, _, rfl, h, l, as, c, _, rfl, hat2, .inl ⟨_, rfl, p1, ?_⟩⟩
          refine ⟨_, rfl, h, dx2, _, rfl, hi2, rfl, _, rfl, h, l, as, c, _, rfl, hat2, .inl ⟨_, rfl, p2, ?_⟩⟩
          obtain ⟨hco, hcl⟩ := hok.join (n := c.length) rfl (ps := ps.take i) fun q hq => hps q (List.mem_of_mem_take hq)
          refine ⟨_, rfl, _, rfl, _, rfl, v2, _, _, _, rfl, cv2, fun r hr z hz => (hco.ok r hr z hz).2, by have := hco.len; omega, fun r hr => hco.row hr, fun H3 w3 k3 hcf3 => ?_⟩
          refine ⟨w3, _, _, rfl, hlt, k2.trans k3, ?_⟩
          rw [List.take_succ_eq_append_getElem hlt, joinC_snoc]
          exact hcf3.cont (by simp)
        · have ei : i = ps.length := by omega
          rcases hcase with ⟨hp, _⟩ | ⟨u, v, w', rest, hp, hbad, qE⟩
          · have h2 := hp.length
            have h3 := (List.getElem?_eq_some_iff.mp ht).1
            rw [List.length_map] at h2
            omega
          · have hel : (ps.map pairV ++ (u, v) :: rest)[i]? = some (u, v) := by
              rw [List.getElem?_append_right (by rw [List.length_map]; omega), List.length_map, ei, Nat.sub_self]
              rfl
            obtain ⟨t', ht', htup'⟩ := paired_get hp hel
            rw [ht] at ht'
            cases ht'
            rw [htup] at htup'
            have e12 : [e.1, e.2] = [u, v] := HO.tup.inj (Option.some.inj htup')
            have e1 : e.1 = u := (List.cons.inj e12).1
            have e2 : e.2 = v := (List.cons.inj (List.cons.inj e12).2).1
            rcases hbad with ⟨ho, rfl⟩ | ⟨⟨x, rfl, hx⟩, ho, rfl⟩
            · refine ⟨_, rfl, h, dx2, _, rfl, hi2, rfl, _, rfl, h, l, as, c, e.1, rfl, hat2, .inr ⟨by rw [e1]; exact ho H2 k2, fun H3 d k3 hd => ?_⟩⟩
              rw [e1] at hd
              exact qE H3 d (k2.trans k3) hd
            · refine ⟨_, rfl, h, dx2, _, rfl, hi2, rfl, _, rfl, h, l, as, c, e.1, rfl, hat2, .inl ⟨x, e1, hx, ?_⟩⟩
              refine ⟨_, rfl, h, dx2, _, rfl, hi2, rfl, _, rfl, h, l, as, c, e.2, rfl, hat2, .inr ⟨by rw [e2]; exact ho H2 k2, fun H3 d k3 hd => ?_⟩⟩
              rw [e2] at hd
              exact qE H3 d (k2.trans k3) hd
    · rintro σ H2 ⟨v2, v3, v4, rfl, hip, k2, cv2⟩
      rcases hcase with ⟨hp, q⟩ | ⟨u, v, w', rest, hp, _⟩
      · have hn : (ts.map V.ref).length = ps.length := by rw [List.length_map, hp.length, List.length_map]
        rw [hn, List.take_length] at cv2
        obtain ⟨hco, hcl⟩ := hok.join (n := c.length) rfl hps
        refine ⟨rfl, _, rfl, v2, _, rfl, cv2, ⟨hco.len, hco.tot, fun r hr z hz => (hco.ok r hr z hz).1⟩, fun H3 h3 l3 as3 n1 n2 n3 k3 hat3 => ?_⟩
        exact q H3 h3 l3 as3 (k2.trans k3) (k2.free n1 (by simp)) (k2.free n2 (by simp)) (fun a ha => k2.free (n3 a ha) (by simp)) hat3
      · have h2 := hp.length
        rw [List.length_append, List.length_map, List.length_cons] at h2
        rw [List.length_map] at hip
        omega
end
end K66
namespace K66
open PySem PySem.Spec PyProof.Rows L2 Rg
/-! ### the law's draws -/
def BagAt (H : Hp) (b : Addr) : Prop := ∃ x y : Int, H b = some (.lst [.int x, .int y])
theorem BagAt.same {H H' : Hp} {b : Addr} (k : Keep [] H H') : BagAt H b → BagAt H' b := fun ⟨x, y, h⟩ => ⟨x, y, k.same _ _ h⟩
theorem BagAt.keep {H H' : Hp} {b : Addr} {S : List Addr} (k : Keep S H H') (n : b ∉ S) : BagAt H b → BagAt H' b := fun ⟨x, y, h⟩ => ⟨x, y, k.at n h⟩
def spBag (K : PySem.W.Frag) : Sp := fun vs H Q _ => ∃ (a : Addr) (ns : List Int) (k : Nat), vs = [.ref a, .int k] ∧ SqL K H a (ns.map V.int) ∧ k ≤ 100 ∧ ∀ H' b, H b = none → Keep [] H H' → BagAt H' b → Q (.ref b) H'
def spTake : Sp := fun vs H Q _ => ∃ b, ∃ n : Nat, vs = [.ref b, .int n] ∧ 0 < n ∧ n < 1000000 ∧ BagAt H b ∧ ∀ (r : Nat) H', r < n → Keep [b] H H' → BagAt H' b → Q (.int r) H'
def prs : List Int := [2147483647, 2147483629, 2147483587, 2147483579, 2147483563, 2147483549, 2147483543]
theorem prs_at {j : Nat} (h : j < 7) : ∃ p : Int, atI (prs.map V.int) (j : Int) = some (.int p) ∧ 0 < p ∧ p < 4294967296 := by
  have z : ∀ j, j < 7 → ∃ p : Int, (prs.map V.int)[j]? = some (.int p) ∧ 0 < p ∧ p < 4294967296 := by
    intro j hj
    have hl : j < prs.length := hj
    refine ⟨prs[j], by rw [List.getElem?_map, List.getElem?_eq_getElem hl]; rfl, ?_⟩
    have a : ∀ p ∈ prs, 0 < p ∧ p < 4294967296 := by decide
    exact a _ (List.getElem_mem hl)
  obtain ⟨p, h1, h2⟩ := z j h
  exact ⟨p, atI_nat h1, h2⟩
theorem fmod_in (z : Int) {p : Int} (h : 0 < p) : ∃ r : Nat, z.fmod p = (r : Int) ∧ (r : Int) < p :=
  ⟨(z.fmod p).toNat, (Int.toNat_of_nonneg (Int.fmod_nonneg_of_pos z h)).symm, by rw [Int.toNat_of_nonneg (Int.fmod_nonneg_of_pos z h)]; exact Int.fmod_lt_of_pos z h⟩
section
variable {P : Program} {w : World} {K : PySem.W.Frag} {mg : Str → Option Value} {base : Heap}
theorem cell_if {σ : L2.St} {H : Hp} {Q : VK} {a : Addr} {k : Nat} {ns : List Int} {b : Bool} (h0 : σ[0]? = some (some (.ref a))) (h1 : σ[1]? = some (some (.int k))) (hs : SqL K H a (ns.map V.int)) (hb : b = true → k < ns.length) (hq : ∀ x : Int, Q (.int x) H) :
    if b = true then tOp (rIxL K) (tVar 0) (tVar 1) σ H Q else tC (.int 0) σ H Q := by
  cases b with
  | false => exact iteF (hq 0)
  | true =>
    refine iteT ⟨_, h0, _, h1, _, _, _, .int (ns[k]'(hb rfl)), rfl, rfl, hs, atI_nat ?_, hq _⟩
    rw [List.getElem?_map, List.getElem?_eq_getElem (hb rfl)]
    rfl
theorem pow162 : CPow 16 2 := ⟨by decide, by decide, by decide⟩
def N_l_take : List Str := ["_law_bag_here", "_law_many", "_law_digit"]
theorem sc_l_take : FnScope N_l_take ["_law_bag_here", "_law_many"] (defScope s_l_take) := ⟨rfl, rfl, rfl, by decide +kernel, rfl, by decide +kernel, by decide +kernel⟩
theorem ok_l_take (T : Txt K mg) : FnR P w K mg base CX0 1 T.f_l_take spTake := by
  refine okR T.F_l_take sc_l_take (fun vs H Q E h => ?_) (T.F_l_take.binds fun _ _ _ _ _ _ us hl => match us, hl with | [_, _], _ => rfl) (fun cdv A outer s H vs Q E hr h => ?_)
  · obtain ⟨b, n, rfl, _⟩ := h
    rfl
  · refine ⟨_, (pss_cons (ps_if (pt_cmpR op_gt (pe_ix ix_list (pv 0) pe_int (fun _ _ => rfl)) pe_int (nomark _)) (pss_cons (ps_set (i := 2) sc_l_take.nd rfl (Or.inl rfl) (pe_op op_modN (pe_ix ix_list (pv 0) pe_int (fun _ _ => rfl)) (pv 1)))
      (pss_cons (ps_asg (pe_op op_fdivN (pe_ix ix_list (pv 0) pe_int (fun _ _ => rfl)) (pv 1)) (pg_sub (pv 0) pe_int set_list))
      (pss_one (ps_ret (pv 2))))) pss_nil)
      (pss_cons (ps_asg (pe_op op_modN (pe_op op_mul (pe_ix ix_list (pv 0) pe_int (fun _ _ => rfl)) pe_int) pe_int) (pg_sub (pv 0) pe_int set_list))
      (pss_one (ps_ret (pe_op op_modN (pe_op op_fdivN (pe_op op_modN (pe_op op_mul (pe_ix ix_list (pv 0) pe_int (fun _ _ => rfl)) pe_int) pe_int) (pe_op op_pow pe_int pe_int)) (pv 1)))))), ?_⟩
    obtain ⟨b, n, rfl, hn, hn2, ⟨x, y, hb⟩, q⟩ := h
    have hnz : (n : Int) ≠ 0 := by omega
    have e0 : ∀ x y : Int, atI [V.int x, V.int y] 0 = some (.int x) := fun _ _ => rfl
    have e1 : ∀ x y : Int, atI [V.int x, V.int y] 1 = some (.int y) := fun _ _ => rfl
    refine ⟨_, rfl, _, _, _, _, rfl, rfl, .of hb, e0 _ _, _, _, rfl, rfl, _, rfl, ?_⟩
    cases hx : decide (x > 0) with
    | true =>
      refine iteT ⟨_, rfl, _, _, _, _, rfl, rfl, .of hb, e0 _ _, _, rfl, _, _, rfl, rfl, hnz, ?_⟩
      refine ⟨_, rfl, _, _, _, _, rfl, rfl, .of hb, e0 _ _, _, rfl, _, _, rfl, rfl, ⟨hnz, by omega⟩, _, rfl, b, _, 0, 0, rfl, rfl, hb, rfl, _, rfl, ?_⟩
      obtain ⟨r, er, hr2⟩ := fmod_in x (p := n) (by omega)
      show Q (V.int (x.fmod n)) _
      rw [er]
      exact q r _ (by omega) (.put (by simp) hb rfl) ⟨_, _, upd_same⟩
    | false =>
      refine iteF ?_
      refine ⟨_, rfl, _, _, _, _, rfl, rfl, .of hb, e1 _ _, _, _, rfl, rfl, .inr (by decide), _, _, rfl, rfl, (show (2147483647 : Int) ≠ 0 by decide), _, rfl, b, _, 1, 1, rfl, rfl, hb, rfl, ?_⟩
      refine ⟨_, rfl, _, _, _, _, rfl, rfl, .of upd_same, e1 _ _, _, _, rfl, rfl, .inr (by decide), _, _, rfl, rfl, (show (2147483629 : Int) ≠ 0 by decide), _, _, rfl, rfl, pow162, _, _, rfl, rfl, (show CDivN _ (16 ^ (2 : Int).toNat) from ⟨by decide, by decide⟩), _, rfl, _, _, rfl, rfl, hnz, ?_⟩
      obtain ⟨r, er, hr2⟩ := fmod_in (((y * 48271).fmod 2147483647 * 69621).fmod 2147483629 |>.fdiv (16 ^ (2 : Int).toNat)) (p := n) (by omega)
      show Q (V.int ((((y * 48271).fmod 2147483647 * 69621).fmod 2147483629 |>.fdiv (16 ^ (2 : Int).toNat)).fmod n)) _
      rw [er]
      exact q r _ (by omega) (.put (by simp) hb rfl) ⟨_, _, upd_same⟩
theorem abs_if {σ : L2.St} {H : Hp} {Q : VK} {x : Int} {b : Bool} (h1 : σ[3]? = some (some (.int x))) (hq : ∀ x : Int, Q (.int x) H) :
    if b = true then tCB (fun xs H Q => ∃ i, xs = [.int i] ∧ Q (.int (if i < 0 then -i else i)) H) (tCons (tVar 3) tNil) σ H Q else tC (.int 0) σ H Q := by
  cases b with
  | false => exact iteF (hq 0)
  | true => exact iteT ⟨_, h1, _, rfl, hq _⟩
theorem mod7 {k : Nat} : (k : Int).fmod 7 = ((k % 7 : Nat) : Int) := by
  rw [Int.fmod_eq_emod_of_nonneg _ (by omega)]
  omega
def N_l_bag : List Str := ["_law_script", "_law_at", "_law_primes", "_law_cell", "_law_large", "_law_mixed"]
theorem sc_l_bag : FnScope N_l_bag ["_law_script", "_law_at"] (defScope s_l_bag) := ⟨rfl, rfl, rfl, by decide +kernel, rfl, by decide +kernel, by decide +kernel⟩
theorem ok_l_bag (T : Txt K mg) : FnR P w K mg base CX0 1 T.f_l_bag (spBag K) := by
  refine okR T.F_l_bag sc_l_bag (fun vs H Q E h => ?_) (T.F_l_bag.binds fun _ _ _ _ _ _ us hl => match us, hl with | [_, _], _ => rfl) (fun cdv A outer s H vs Q E hr h => ?_)
  · obtain ⟨a, ns, k, rfl, _⟩ := h
    rfl
  · refine ⟨_, (pss_cons (ps_set (i := 2) sc_l_bag.nd rfl (Or.inl rfl) (pe_tup (pa_cons pe_int (pa_cons pe_int (pa_cons pe_int (pa_cons pe_int (pa_cons pe_int (pa_cons pe_int (pa_cons pe_int pa_nil)))))))))
      (pss_cons (ps_set (i := 3) sc_l_bag.nd rfl (Or.inl rfl) (pe_ifExp (pt_cmpR op_lt (pv 1) (pe_callB call_len (by rfl) T.n_len (by decide +kernel) (pa_cons (pv 0) pa_nil)) (nomark _)) (pe_ix ix_list (pv 0) (pv 1) (fun _ _ => rfl)) pe_int))
      (pss_cons (ps_set (i := 4) sc_l_bag.nd rfl (Or.inl rfl) (pe_ifExp (pt_cmpR op_ge (pe_callB call_abs (by rfl) T.n_abs (by decide +kernel) (pa_cons (pv 3) pa_nil)) (pe_op op_pow pe_int pe_int) (nomark _)) (pe_callB call_abs (by rfl) T.n_abs (by decide +kernel) (pa_cons (pv 3) pa_nil)) pe_int))
      (pss_cons (ps_set (i := 5) sc_l_bag.nd rfl (Or.inl rfl) (pe_op op_modN (pe_op op_pow (pe_op op_add (pe_op op_add (pe_op op_modN (pv 3) pe_int) (pe_op op_mul pe_int (pv 1))) pe_int) pe_int) (pe_ix ix_tup (pv 2) (pe_op op_modN (pv 1) pe_int) (fun _ _ => rfl))))
      (pss_one (ps_ret (pe_lst (pa_cons (pv 4) (pa_cons (pe_op op_add (pe_op op_modN (pe_op op_mul (pv 5) (pe_op op_add (pe_op op_add (pe_op op_fdivN (pv 5) pe_int) (pe_op op_mul pe_int (pv 1))) pe_int)) (pe_ix ix_tup (pv 2) (pe_op op_modN (pe_op op_add (pv 1) pe_int) pe_int) (fun _ _ => rfl))) pe_int) pa_nil))))))))), ?_⟩
    obtain ⟨a, ns, k, rfl, hs, hk, q⟩ := h
    refine ⟨(show 7 ≤ sizeLine by decide), fun t nt => ?_⟩
    have k1 : Keep [] H (upd H t (.tup (prs.map V.int))) := .new nt
    have hs1 : SqL K (upd H t (.tup (prs.map V.int))) a (ns.map V.int) := sqL_same k1.same hs
    have ht : SqT K (upd H t (.tup (prs.map V.int))) t (prs.map V.int) := .of upd_same
    refine ⟨_, rfl, _, rfl, _, _, rfl, .inl ⟨_, hs1, rfl⟩, _, _, rfl, rfl, _, rfl, cell_if (k := k) rfl rfl hs1 (fun e => ?_) fun x => ?_⟩
    · have e := of_decide_eq_true e
      rw [List.length_map] at e
      omega
    · refine ⟨_, rfl, x, rfl, _, _, rfl, rfl, (show CPow 10 18 from ⟨by decide, by decide, by decide⟩), _, _, rfl, rfl, _, rfl, abs_if (x := x) rfl fun g => ?_⟩
      obtain ⟨r, er, hr1⟩ := fmod_in x (p := 2305843009213693951) (by decide)
      obtain ⟨p, hp1, hp2, hp3⟩ := prs_at (j := k % 7) (Nat.mod_lt _ (by decide))
      obtain ⟨p2, hp4, hp5, hp6⟩ := prs_at (j := (k + 3) % 7) (Nat.mod_lt _ (by decide))
      have n7 : (7 : Int) ≠ 0 := by decide
      have hpw : CPow (x.fmod 2305843009213693951 + 77003 * (k : Int) + 23) 3 := ⟨by decide, by decide, by rw [er]; omega⟩
      refine ⟨_, rfl, _, _, rfl, rfl, (show (2305843009213693951 : Int) ≠ 0 by decide), _, rfl, _, _, rfl, rfl, .inl (by decide), _, _, rfl, rfl, _, _, rfl, rfl, _, _, rfl, rfl, hpw, _, rfl, _, rfl, _, _, rfl, rfl, n7,
        t, _, _, _, rfl, rfl, ht, by rw [mod7]; exact hp1, _, _, rfl, rfl, (show p ≠ 0 by omega), ?_⟩
      obtain ⟨m, em, hm1⟩ := fmod_in ((x.fmod 2305843009213693951 + 77003 * (k : Int) + 23) ^ (3 : Int).toNat) (p := p) hp2
      have hml : CMul (((x.fmod 2305843009213693951 + 77003 * (k : Int) + 23) ^ (3 : Int).toNat).fmod p) ((((x.fmod 2305843009213693951 + 77003 * (k : Int) + 23) ^ (3 : Int).toNat).fmod p).fdiv 7 + 5 * (k : Int) + 13) := .inl (by rw [em]; omega)
      refine ⟨_, rfl, _, rfl, _, rfl, _, _, rfl, rfl, (show CDivN _ 7 from ⟨by decide, by decide⟩), _, rfl, _, _, rfl, rfl, .inl (by decide), _, _, rfl, rfl, _, _, rfl, rfl, _, _, rfl, rfl, hml, _, rfl, _, rfl, _, _, rfl, rfl, _, _, rfl, rfl, n7,
        t, _, _, _, rfl, rfl, ht, by rw [show (k : Int) + 3 = ((k + 3 : Nat) : Int) from rfl, mod7]; exact hp4, _, _, rfl, rfl, (show p2 ≠ 0 by omega), _, _, rfl, rfl, (show 2 ≤ sizeLine by decide), fun b nb => ?_⟩
      exact q _ b (k1.free nb (by simp)) (k1.trans (.new nb)) ⟨_, _, upd_same⟩
end
end K66
namespace K66
open PySem PySem.Spec PyProof.Rows L2 Rg
/-! ### the law's contents -/
def LeafOk (x : Im) : Prop := (∀ n, okIm n x = true) ∧ fineIm x
def spLeafL : Sp := fun vs H Q _ => ∃ b, vs = [.ref b] ∧ BagAt H b ∧ ∀ v x H', Keep [b] H H' → BagAt H' b → ImV H' v x → LeafOk x → Q v H'
def RowOk (n m : Nat) (r : List Im) : Prop := r.length ≤ m ∧ ∀ x ∈ r, okIm (n : Int) x = true ∧ fineIm x
def spContents : Sp := fun vs H Q _ => ∃ b, ∃ m : Nat, vs = [.ref b, .int m] ∧ 0 < m ∧ m ≤ 100 ∧ BagAt H b ∧ ∀ v c H', Keep [b] H H' → BagAt H' b → ContF H H' v c → 0 < c.length → c.length ≤ m → (∀ r ∈ c, RowOk c.length 3 r) → Q v H'
def leaves : List Im := [.i 0, .i 1, .i 2, .s "a", .s "b", .s "", .i (-1), .i (10 ^ (39 : Int).toNat), .s "abcdefgh", .i (-(10 ^ (20 : Int).toNat))]
def ixs : List Nat := [0, 1, 1, 2, 3, 3, 4, 5, 6, 7, 8, 9]
theorem leaf_s {x : Str} (h : wordB x = true) (h2 : x.length ≤ 8 ∧ ∀ c ∈ x.cps.toList, c < 1000) : LeafOk (.s x) := ⟨fun _ => h, h2⟩
theorem leaf_i {x : Int} (h : x.natAbs < 10 ^ 40) : LeafOk (.i x) := ⟨fun _ => rfl, h⟩
theorem leaves_ok : ∀ x ∈ leaves, LeafOk x := by
  intro x hx
  simp only [leaves, List.mem_cons, List.not_mem_nil, or_false] at hx
  rcases hx with rfl | rfl | rfl | rfl | rfl | rfl | rfl | rfl | rfl | rfl
  · exact leaf_i (by decide)
  · exact leaf_i (by decide)
  · exact leaf_i (by decide)
  · exact leaf_s (by decide +kernel) (by decide +kernel)
  · exact leaf_s (by decide +kernel) (by decide +kernel)
  · exact leaf_s (by decide +kernel) (by decide +kernel)
  · exact leaf_i (by decide)
  · exact leaf_i (by decide)
  · exact leaf_s (by decide +kernel) (by decide +kernel)
  · exact leaf_i (by decide)
theorem ixs_at {r : Nat} (h : r < 12) : ∃ j, j < leaves.length ∧ ((ixs.map fun x : Nat => V.int x)[r]? = some (.int j)) := by
  have a : ∀ r, r < 12 → ixs.getD r 0 < 10 := by decide
  have hl : r < ixs.length := h
  refine ⟨ixs[r], ?_, by rw [List.getElem?_map, List.getElem?_eq_getElem hl]; rfl⟩
  have z := a r h
  rw [List.getD_eq_getElem?_getD, List.getElem?_eq_getElem hl] at z
  exact z
def Im.v : Im → V
  | .i n => .int n
  | .s x => .str x
  | .b _ => .non
theorem imV_leaf {H : Hp} {x : Im} (h : ∀ n, x ≠ .b n) : ImV H (Im.v x) x := by
  cases x with
  | i n => rfl
  | s x => rfl
  | b n => exact absurd rfl (h n)
theorem ite2 {b : Bool} {A B : Prop} (h1 : b = true → A) (h2 : b = false → B) : if b = true then A else B := by
  cases b with
  | true => exact iteT (h1 rfl)
  | false => exact iteF (h2 rfl)
/-- what the contents are while they are made -/
structure CInv (H : Hp) (b p : Addr) (n m : Nat) (H' : Hp) (as : List Addr) (c : Cont) : Prop where
  kp : Keep [b] H H'
  bag : BagAt H' b
  lst : H' p = some (.lst (as.map V.ref))
  np : p ∉ as
  nd : as.Nodup
  rows : Paired (fun a r => H a = none ∧ ∃ xs, H' a = some (.lst xs) ∧ ImsV H' xs r) as c
  ok : ∀ r ∈ c, RowOk n m r
theorem CInv.notB {H H' : Hp} {b p : Addr} {n m : Nat} {as : List Addr} {c : Cont} (z : CInv H b p n m H' as c) (hb : H b ≠ none) : b ∉ as := fun h => by
  obtain ⟨i, h1⟩ := List.getElem?_of_mem h
  obtain ⟨_, _, h2, _⟩ := paired_getV z.rows h1
  exact hb h2
theorem CInv.step {H H' H2 : Hp} {b p : Addr} {n m : Nat} {as : List Addr} {c : Cont} (z : CInv H b p n m H' as c) (hb : H b ≠ none) (hp : H p = none) (k : Keep [b] H' H2) (g : BagAt H2 b) : CInv H b p n m H2 as c :=
  ⟨z.kp.trans k, g, k.at (fun e => hb (by rw [← List.mem_singleton.mp e]; exact hp)) z.lst, z.np, z.nd, paired_mem z.rows fun i a r h1 _ ⟨h2, xs, h3, h4⟩ => ⟨h2, xs, k.at (fun e => hb (by rw [← List.mem_singleton.mp e]; exact h2)) h3, h4.keep k⟩, z.ok⟩
theorem CInv.put {H H' H2 : Hp} {b p t : Addr} {n m : Nat} {as : List Addr} {c : Cont} (z : CInv H b p n m H' as c) (ht : H t = none) (hb : H b ≠ none) (htp : t ≠ p) (hta : t ∉ as) (k : Keep [t] H' H2) : CInv H b p n m H2 as c :=
  ⟨z.kp.also k ht, z.bag.keep k (fun e => hb (by rw [List.mem_singleton.mp e]; exact ht)), k.at (fun e => htp (List.mem_singleton.mp e).symm) z.lst, z.np, z.nd, paired_mem z.rows fun i a r h1 _ ⟨h2, xs, h3, h4⟩ => ⟨h2, xs, k.at (fun e => hta (by rw [← List.mem_singleton.mp e]; exact List.mem_of_getElem? h1)) h3, h4.keep k⟩, z.ok⟩
/-- one row is written -/
theorem CInv.setRow {H H' H2 : Hp} {b p a : Addr} {n m r : Nat} {as : List Addr} {c : Cont} {ys : List V} {row : List Im} (z : CInv H b p n m H' as c) (hb : H b ≠ none) (e : as[r]? = some a) (k : Keep [a] H' H2) (hy : H2 a = some (.lst ys)) (hI : ImsV H2 ys row) (ho : RowOk n m row) :
    CInv H b p n m H2 as (c.set r row) := by
  have hm := List.mem_of_getElem? e
  obtain ⟨r0, hr0, ha0, _⟩ := paired_getV z.rows e
  refine ⟨z.kp.also k ha0, z.bag.keep k (fun q => hb (by rw [List.mem_singleton.mp q]; exact ha0)), k.at (fun q => z.np (by rw [List.mem_singleton.mp q]; exact hm)) z.lst, z.np, z.nd, paired_of (by rw [List.length_set]; exact z.rows.length) fun i d s h1 h2 => ?_, fun s hs => ?_⟩
  · rw [List.getElem?_set] at h2
    by_cases c1 : r = i
    · subst c1
      rw [e] at h1
      cases h1
      rw [if_pos rfl] at h2
      split at h2
      · cases h2
        exact ⟨ha0, ys, hy, hI⟩
      · cases h2
    · rw [if_neg c1] at h2
      obtain ⟨d', h3, h4, xs, h5, h6⟩ := paired_get z.rows h2
      rw [h1] at h3
      cases h3
      refine ⟨h4, xs, k.at (fun q => c1 ?_) h5, h6.keep k⟩
      rw [List.mem_singleton.mp q] at h1
      have i1 := List.getElem?_eq_some_iff.mp e
      have i2 := List.getElem?_eq_some_iff.mp h1
      exact (List.getElem_inj z.nd).mp (i1.2.trans i2.2.symm)
  · rcases List.mem_or_eq_of_mem_set hs with q | q
    · exact z.ok s q
    · rw [q]
      exact ho
theorem CInv.new {H H' H2 : Hp} {b p : Addr} {n m : Nat} {as : List Addr} {c : Cont} (z : CInv H b p n m H' as c) (k : Keep [] H' H2) : CInv H b p n m H2 as c :=
  ⟨z.kp.trans k.all, z.bag.same k, k.same _ _ z.lst, z.np, z.nd, paired_mem z.rows fun i a r h1 _ ⟨h2, xs, h3, h4⟩ => ⟨h2, xs, k.same _ _ h3, h4.keep k⟩, z.ok⟩
section
variable {P : Program} {w : World} {K : PySem.W.Frag} {mg : Str → Option Value} {base : Heap}
def N_l_leaf : List Str := ["_law_bag_here", "_law_some"]
theorem sc_l_leaf : FnScope N_l_leaf ["_law_bag_here"] (defScope s_l_leaf) := ⟨rfl, rfl, rfl, by decide +kernel, rfl, by decide +kernel, by decide +kernel⟩
theorem ok_l_leaf (T : Txt K mg) : FnR P w K mg base CX0 2 T.f_l_leaf spLeafL := by
  refine okR T.F_l_leaf sc_l_leaf (fun vs H Q E h => ?_) (T.F_l_leaf.binds fun _ _ _ _ _ _ us hl => match us, hl with | [_], _ => rfl) (fun cdv A outer s H vs Q E hr h => ?_)
  · obtain ⟨b, rfl, _⟩ := h
    rfl
  · refine ⟨_, (pss_cons (ps_set (i := 1) sc_l_leaf.nd rfl (Or.inl rfl) (pe_lst (pa_cons pe_int (pa_cons pe_int (pa_cons pe_int (pa_cons pe_str (pa_cons pe_str (pa_cons pe_str (pa_cons (pe_un un_neg pe_int) (pa_cons (pe_op op_pow pe_int pe_int) (pa_cons pe_str (pa_cons (pe_un un_neg (pe_op op_pow pe_int pe_int)) pa_nil))))))))))))
      (pss_one (ps_ret (pe_ix ix_list (pv 1) (pe_ix ix_list (pe_lst (pa_cons pe_int (pa_cons pe_int (pa_cons pe_int (pa_cons pe_int (pa_cons pe_int (pa_cons pe_int (pa_cons pe_int (pa_cons pe_int (pa_cons pe_int (pa_cons pe_int (pa_cons pe_int (pa_cons pe_int pa_nil))))))))))))) (pe_callR (ok_l_take T) (hr.mono (by decide)) rfl T.g_l_take T.F_l_take.kp pass0 (pa_cons (pv 0) (pa_cons pe_int pa_nil))) (fun _ _ => rfl)) (fun _ _ => rfl))))), ?_⟩
    obtain ⟨b, rfl, hb, q⟩ := h
    have p1039 : CPow 10 39 := ⟨by decide, by decide, by decide⟩
    have p1020 : CPow 10 20 := ⟨by decide, by decide, by decide⟩
    refine ⟨1, rfl, _, _, rfl, rfl, p1039, _, _, rfl, rfl, p1020, _, rfl, (show 10 ≤ sizeLine by decide), fun t nt => ?_⟩
    have htb : b ≠ t := by
      obtain ⟨x, y, h⟩ := hb
      exact ne_of_none h nt
    have k1 : Keep [] H (upd H t (.lst (leaves.map Im.v))) := .new nt
    refine ⟨_, rfl, (show 12 ≤ sizeLine by decide), fun t2 nt2 => ?_⟩
    have k2 : Keep [] (upd H t (.lst (leaves.map Im.v))) (upd (upd H t (.lst (leaves.map Im.v))) t2 (.lst (ixs.map fun x : Nat => V.int x))) := .new nt2
    have htt : t ≠ t2 := fun e => by rw [← e, upd_same] at nt2; cases nt2
    have htb2 : b ≠ t2 := by
      obtain ⟨x, y, h⟩ := hb.same k1
      exact ne_of_none h nt2
    refine ⟨_, rfl, b, 12, rfl, by decide, by decide, (hb.same k1).same k2, fun r H3 hr3 k3 hb3 => ?_⟩
    obtain ⟨j, hj, hix⟩ := ixs_at hr3
    have ht3 : H3 t = some (.lst (leaves.map Im.v)) := k3.at (fun e => htb (List.mem_singleton.mp e).symm) (by rw [upd_ne htt]; exact upd_same)
    have ht23 : H3 t2 = some (.lst (ixs.map fun x : Nat => V.int x)) := k3.at (fun e => htb2 (List.mem_singleton.mp e).symm) upd_same
    have hx := leaves_ok _ (List.getElem_mem hj)
    refine ⟨t2, _, _, .int j, rfl, rfl, .of ht23, atI_nat hix, t, _, _, Im.v leaves[j], rfl, rfl, .of ht3, atI_nat (by rw [List.getElem?_map, List.getElem?_eq_getElem hj]; rfl), ?_⟩
    refine q _ _ _ ((k1.trans k2).all.trans k3) hb3 (imV_leaf fun n e => ?_) hx
    rw [e] at hx
    have := hx.1 0
    simp [okIm] at this
    omega
def N_l_contents : List Str := ["_law_bag_here", "_law_most", "_law_total", "_law_found", "_law_k", "_law_row", "_law_turn"]
theorem sc_l_contents : FnScope N_l_contents ["_law_bag_here", "_law_most"] (defScope s_l_contents) := ⟨rfl, rfl, rfl, by decide +kernel, rfl, by decide +kernel, by decide +kernel⟩
theorem ok_l_contents (T : Txt K mg) : FnR P w K mg base CX0 3 T.f_l_contents spContents := by
  refine okR T.F_l_contents sc_l_contents (fun vs H Q E h => ?_) (T.F_l_contents.binds fun _ _ _ _ _ _ us hl => match us, hl with | [_, _], _ => rfl) (fun cdv A outer s H vs Q E hr h => ?_)
  · obtain ⟨b, m, rfl, _⟩ := h
    rfl
  · refine ⟨_, (pss_cons (ps_par (i := 2) (j := 3) (by rfl) sc_l_contents.nd rfl rfl (by decide) rfl rfl (pa_cons (pe_op op_add pe_int (pe_callR (ok_l_take T) (hr.mono (by decide)) rfl T.g_l_take T.F_l_take.kp pass0 (pa_cons (pv 0) (pa_cons (pv 1) pa_nil)))) (pa_cons (pe_lst pa_nil) pa_nil)) (by rfl))
      (pss_cons (ps_for PassesOwn.never rfl (pi_range1 (by rfl) T.n_range (pa_cons (pv 2) pa_nil)) (pg_name (i := 4) sc_l_contents.nd rfl (Or.inl rfl))
      (pss_cons (ps_set (i := 5) sc_l_contents.nd rfl (Or.inl rfl) (pe_lst pa_nil))
      (pss_cons (ps_for PassesOwn.never rfl (pi_range1 (by rfl) T.n_range (pa_cons (pe_callR (ok_l_take T) (hr.mono (by decide)) rfl T.g_l_take T.F_l_take.kp pass0 (pa_cons (pv 0) (pa_cons pe_int pa_nil))) pa_nil)) (pg_name (i := 6) sc_l_contents.nd rfl (Or.inl rfl))
      (pss_one (ps_expr (pe_bm PySem.F.plainAttrs_list PySem.F.slot_list_append PySem.F.type_list_append mt_append (pv 5) (pa_cons (pe_ifExp (pt_cmpR op_gt (pe_callR (ok_l_take T) (hr.mono (by decide)) rfl T.g_l_take T.F_l_take.kp pass0 (pa_cons (pv 0) (pa_cons pe_int pa_nil))) pe_int (nomark _)) (pe_tup (pa_cons pe_str (pa_cons (pe_callR (ok_l_take T) (hr.mono (by decide)) rfl T.g_l_take T.F_l_take.kp pass0 (pa_cons (pv 0) (pa_cons (pv 2) pa_nil))) pa_nil))) (pe_callR (ok_l_leaf T) (hr.mono (by decide)) rfl T.g_l_leaf T.F_l_leaf.kp pass0 (pa_cons (pv 0) pa_nil))) pa_nil)))))
      (pss_one (ps_expr (pe_bm PySem.F.plainAttrs_list PySem.F.slot_list_append PySem.F.type_list_append mt_append (pv 3) (pa_cons (pv 5) pa_nil)))))))
      (pss_one (ps_ret (pv 3))))), ?_⟩
    obtain ⟨b, m, rfl, hm0, hm, hb, q⟩ := h
    have hbn : H b ≠ none := by
      obtain ⟨x, y, h⟩ := hb
      rw [h]; intro z; cases z
    refine ⟨_, rfl, _, rfl, b, m, rfl, hm0, by omega, hb, fun r0 H0 hr0 k0 hb0 => ⟨_, _, rfl, rfl, (show 0 ≤ sizeLine by decide), fun p np0 => ⟨_, _, rfl, ?_⟩⟩⟩
    have np : H p = none := k0.free np0 (fun e => by
      obtain ⟨x, y, h⟩ := hb0
      rw [List.mem_singleton.mp e, h] at np0
      cases np0)
    have hpb : p ≠ b := fun e => hbn (e ▸ np)
    have z0 : CInv H b p (1 + r0) 3 (upd H0 p (.lst [])) [] [] := ⟨k0.trans (.new np0), hb0.same (.new np0), upd_same, by simp, .nil, .nil, by simp⟩
    refine ⟨_, rfl, ((1 + r0 : Nat) : Int), rfl, by omega, by omega, for_range (lo := 0) (n := ((1 + r0 : Nat) : Int).toNat) (fun i σ H' => ∃ v4 v5 v6 as c, σ = [some (.ref b), some (.int m), some (.int ((1 + r0 : Nat) : Int)), some (.ref p), v4, v5, v6] ∧ CInv H b p (1 + r0) 3 H' as c ∧ c.length = i)
      ⟨none, none, none, [], [], rfl, z0, rfl⟩ ?_ ?_⟩
    · rintro i σ H1 hi ⟨v4, v5, v6, as, c, rfl, z, hc⟩
      refine ⟨(show 0 ≤ sizeLine by decide), fun t nt => ?_⟩
      have ht0 : H t = none := z.kp.free nt (fun e => by
        obtain ⟨x, y, h⟩ := z.bag
        rw [List.mem_singleton.mp e, h] at nt
        cases nt)
      have htp : t ≠ p := fun e => by rw [e, z.lst] at nt; cases nt
      have htb : t ≠ b := fun e => hbn (e ▸ ht0)
      have hta : t ∉ as := fun e => by
        obtain ⟨i, h1⟩ := List.getElem?_of_mem e
        obtain ⟨_, _, _, xs, h2, _⟩ := paired_getV z.rows h1
        rw [nt] at h2
        cases h2
      have z1 := z.new (.new (o := .lst []) nt)
      have n0 : (1 + r0) ≤ 100 := by omega
      revert z1
      generalize en : 1 + r0 = n at *
      intro z1
      have hn0 : 0 < n := by omega
      refine ⟨_, rfl, b, 4, rfl, by decide, by decide, z1.bag, fun r1 H2 hr1 k2 hb2 => ⟨r1, rfl, by omega, by omega, for_range (lo := 0) (n := (r1 : Int).toNat) (fun j σ H' => ∃ v6 xs r, σ = [some (.ref b), some (.int m), some (.int n), some (.ref p), some (.int (0 + (i : Nat))), some (.ref t), v6] ∧ CInv H b p n 3 H' as c ∧ H' t = some (.lst xs) ∧ ImsV H' xs r ∧ r.length = j ∧ ∀ x ∈ r, okIm (n : Int) x = true ∧ fineIm x)
        ⟨v6, [], [], rfl, z1.step hbn np k2 hb2, k2.at (fun e => htb (List.mem_singleton.mp e)) upd_same, .nil, rfl, by simp⟩ ?_ ?_⟩⟩
      · rintro j σ H3 hj ⟨v6, xs, r, rfl, z3, ht3, hI, hrl, hro⟩
        have fin : ∀ (H4 : Hp) (v : V) (x : Im), Keep [b] H3 H4 → BagAt H4 b → ImV H4 v x → okIm (n : Int) x = true → fineIm x → H4 t = some (.lst xs) ∧ ∃ v6 ys s, [some (V.ref b), some (.int m), some (.int n), some (.ref p), some (.int (0 + (i : Nat))), some (.ref t), some (.int (0 + (j : Nat)))] = [some (V.ref b), some (.int m), some (.int n), some (.ref p), some (.int (0 + (i : Nat))), some (.ref t), v6] ∧
            CInv H b p n 3 (upd H4 t (.lst (xs ++ [v]))) as c ∧ upd H4 t (.lst (xs ++ [v])) t = some (.lst ys) ∧ ImsV (upd H4 t (.lst (xs ++ [v]))) ys s ∧ s.length = j + 1 ∧ ∀ x ∈ s, okIm (n : Int) x = true ∧ fineIm x := fun H4 v x k4 hb4 hv ho hf => by
          have ht4 := k4.at (fun e => htb (List.mem_singleton.mp e)) ht3
          have k5 : Keep [t] H4 (upd H4 t (.lst (xs ++ [v]))) := .put (by simp) ht4 rfl
          refine ⟨ht4, _, xs ++ [v], r ++ [x], rfl, (z3.step hbn np k4 hb4).put ht0 hbn htp hta k5, upd_same, paired_append ((hI.keep k4).keep k5) (.cons (hv.keep k5) .nil), by simp [hrl], fun y hy => ?_⟩
          rcases List.mem_append.mp hy with hy | hy
          · exact hro y hy
          · rw [List.mem_singleton.mp hy]
            exact ⟨ho, hf⟩
        have hsm : xs.length < sizeLine := small_of (by rw [hI.length]; omega)
        refine ⟨_, rfl, .inl ⟨rfl, _, .of ht3⟩, _, rfl, b, 3, rfl, by decide, by decide, z3.bag, fun r2 H4 hr2 k4 hb4 => ⟨_, _, rfl, rfl, _, rfl, ite2 (fun _ => ?_) fun _ => ?_⟩⟩
        · refine ⟨_, rfl, _, rfl, b, n, rfl, hn0, by omega, hb4, fun r3 H5 hr3 k5 hb5 => ⟨(show 2 ≤ sizeLine by decide), fun u nu => ?_⟩⟩
          have k6 : Keep [] H5 (upd H5 u (.tup [.str "box", .int r3])) := .new nu
          have f := fin _ (.ref u) (.b r3) ((k4.trans k5).trans k6.all) (hb5.same k6) ⟨u, rfl, upd_same⟩ (by simp only [okIm, Bool.and_eq_true, decide_eq_true_eq]; omega) (show r3 < 1000 by omega)
          exact ⟨t, _, _, rfl, rfl, f.1, hsm, f.2⟩
        · refine ⟨_, rfl, b, rfl, hb4, fun v x H5 k5 hb5 hv hx => ?_⟩
          have f := fin _ v x (k4.trans k5) hb5 hv (hx.1 _) hx.2
          exact ⟨t, _, _, rfl, rfl, f.1, hsm, f.2⟩
      · rintro σ H3 ⟨v6, xs, r, rfl, z3, ht3, hI, hrl, hro⟩
        have hl : as.length = c.length := z3.rows.length
        have kp : Keep [p] H3 (upd H3 p (.lst (as.map V.ref ++ [.ref t]))) := .put (by simp) z3.lst rfl
        refine ⟨_, rfl, .inl ⟨rfl, _, .of z3.lst⟩, _, rfl, p, _, _, rfl, rfl, z3.lst, small_of (by rw [List.length_map]; omega), some (.int (0 + (i : Nat))), some (.ref t), v6, as ++ [t], c ++ [r], rfl, ?_, by simp [hc]⟩
        have tp : t ∉ [p] := fun e => htp (List.mem_singleton.mp e)
        refine ⟨z3.kp.also kp np, z3.bag.keep kp (fun e => hpb (List.mem_singleton.mp e).symm), by rw [upd_same, List.map_append]; rfl, fun e => ?_, List.nodup_append.mpr ⟨z3.nd, by simp, fun u hu w hw e => hta (by rw [List.mem_singleton.mp hw] at e; rw [← e]; exact hu)⟩, paired_append (paired_mem z3.rows fun i a r h1 _ ⟨h2, xs, h3, h4⟩ => ⟨h2, xs, kp.at (fun e => z3.np (by rw [← List.mem_singleton.mp e]; exact List.mem_of_getElem? h1)) h3, h4.keep kp⟩) (.cons ⟨ht0, xs, kp.at tp ht3, hI.keep kp⟩ .nil), fun s hs => ?_⟩
        · rcases List.mem_append.mp e with e | e
          · exact z3.np e
          · exact htp (List.mem_singleton.mp e).symm
        · rcases List.mem_append.mp hs with hs | hs
          · exact z3.ok s hs
          · rw [List.mem_singleton.mp hs]
            exact ⟨by omega, hro⟩
    · rintro σ H1 ⟨v4, v5, v6, as, c, rfl, z, hc⟩
      have hcl : c.length = 1 + r0 := by omega
      exact ⟨_, rfl, q _ c _ z.kp z.bag ⟨p, as, rfl, np, z.lst, z.rows⟩ (by omega) (by omega) (by rw [hcl]; exact z.ok)⟩
end
end K66
namespace K66
open PySem PySem.Spec PyProof.Rows L2 Rg
/-! ### twofold contents -/
theorem bag_ne {H : Hp} {b : Addr} (h : BagAt H b) : H b ≠ none := by
  obtain ⟨x, y, h⟩ := h
  rw [h]
  intro z
  cases z
theorem ContF.keepB {H H1 H2 : Hp} {b : Addr} {v : V} {c : Cont} (h : ContF H H1 v c) (hb : H b ≠ none) (k : Keep [b] H1 H2) : ContF H H2 v c := by
  obtain ⟨p, as, e, hp, hl, hr⟩ := h
  refine ⟨p, as, e, hp, k.at (fun z => hb (by rw [← List.mem_singleton.mp z]; exact hp)) hl, paired_mono (fun a r ⟨h1, xs, h2, h3⟩ => ⟨h1, xs, k.at (fun z => hb (by rw [← List.mem_singleton.mp z]; exact h1)) h2, h3.keep k⟩) hr⟩
theorem rowOk_mono {n n' m : Nat} {r : List Im} (h : n ≤ n') (o : RowOk n m r) : RowOk n' m r := ⟨o.1, fun x hx => ⟨by
  have e := (o.2 x hx).1
  cases x with
  | i k => rfl
  | s w => exact e
  | b k =>
    simp only [okIm, Bool.and_eq_true, decide_eq_true_eq] at e ⊢
    omega, (o.2 x hx).2⟩⟩
def spTwofold : Sp := fun vs H Q _ => ∃ b, ∃ m : Nat, vs = [.ref b, .int m] ∧ 0 < m ∧ m ≤ 50 ∧ BagAt H b ∧ ∀ v c H', Keep [b] H H' → BagAt H' b → ContF H H' v c → 0 < c.length → c.length ≤ 2 * m → (∀ r ∈ c, RowOk c.length 3 r) → Q v H'
section
variable {P : Program} {w : World} {K : PySem.W.Frag} {mg : Str → Option Value} {base : Heap}
def N_l_twofold : List Str := ["_law_bag_here", "_law_most", "_law_first", "_law_total", "_law_second", "_law_row", "_law_again", "_law_part", "_law_spot"]
theorem sc_l_twofold : FnScope N_l_twofold ["_law_bag_here", "_law_most"] (defScope s_l_twofold) := ⟨rfl, rfl, rfl, by decide +kernel, rfl, by decide +kernel, by decide +kernel⟩
theorem ok_l_twofold (T : Txt K mg) : FnR P w K mg base CX0 4 T.f_l_twofold spTwofold := by
  refine okR T.F_l_twofold sc_l_twofold (fun vs H Q E h => ?_) (T.F_l_twofold.binds fun _ _ _ _ _ _ us hl => match us, hl with | [_, _], _ => rfl) (fun cdv A outer s H vs Q E hr h => ?_)
  · obtain ⟨b, m, rfl, _⟩ := h
    rfl
  · refine ⟨_, (pss_cons (ps_set (i := 2) sc_l_twofold.nd rfl (Or.inl rfl) (pe_callR (ok_l_contents T) (hr.mono (by decide)) rfl T.g_l_contents T.F_l_contents.kp pass0 (pa_cons (pv 0) (pa_cons (pv 1) pa_nil))))
      (pss_cons (ps_par (i := 3) (j := 4) (by rfl) sc_l_twofold.nd rfl rfl (by decide) rfl rfl (pa_cons (pe_callB call_len (by rfl) T.n_len (by decide +kernel) (pa_cons (pv 2) pa_nil)) (pa_cons (pe_lst pa_nil) pa_nil)) (by rfl))
      (pss_cons (ps_for PassesOwn.never rfl (pi_list (pv 2)) (pg_name (i := 5) sc_l_twofold.nd rfl (Or.inl rfl))
      (pss_cons (ps_set (i := 6) sc_l_twofold.nd rfl (Or.inl rfl) (pe_lst pa_nil))
      (pss_cons (ps_for PassesOwn.never rfl (pi_list (pv 5)) (pg_name (i := 7) sc_l_twofold.nd rfl (Or.inl rfl))
      (pss_cons (ps_if (PW.pt (pw_and (pt_val (pe_callB call_isi (by rfl) T.n_isinstance (by decide +kernel) (pa_cons (pv 7) (pa_cons (pe_bltn (v := .ty "tuple") (by rfl) T.n_tuple (by decide +kernel) rfl) pa_nil)))) (pw_and1 (pt_cmpR op_gt (pe_callR (ok_l_take T) (hr.mono (by decide)) rfl T.g_l_take T.F_l_take.kp pass0 (pa_cons (pv 0) (pa_cons pe_int pa_nil))) pe_int (nomark _))))) (pss_one (ps_set (i := 7) sc_l_twofold.nd rfl (Or.inl rfl) (pe_tup (pa_cons pe_str (pa_cons (pe_op op_add (pe_ix ix_tup (pv 7) pe_int (fun _ _ => rfl)) (pv 3)) pa_nil))))) pss_nil)
      (pss_one (ps_expr (pe_bm PySem.F.plainAttrs_list PySem.F.slot_list_append PySem.F.type_list_append mt_append (pv 6) (pa_cons (pv 7) pa_nil))))))
      (pss_one (ps_expr (pe_bm PySem.F.plainAttrs_list PySem.F.slot_list_append PySem.F.type_list_append mt_append (pv 4) (pa_cons (pv 6) pa_nil)))))))
      (pss_cons (ps_set (i := 8) sc_l_twofold.nd rfl (Or.inl rfl) (pe_ix ix_list (pv 4) (pe_callR (ok_l_take T) (hr.mono (by decide)) rfl T.g_l_take T.F_l_take.kp pass0 (pa_cons (pv 0) (pa_cons (pv 3) pa_nil))) (fun _ _ => rfl)))
      (pss_cons (ps_if (PW.pt (pw_and (pt_cmpR (op_neD hr.units) (pv 8) (pe_lst pa_nil) (nomark _)) (pw_and1 (pt_cmpR op_eq (pe_callR (ok_l_take T) (hr.mono (by decide)) rfl T.g_l_take T.F_l_take.kp pass0 (pa_cons (pv 0) (pa_cons pe_int pa_nil))) pe_int (nomark _))))) (pss_one (ps_asg (pe_callR (ok_l_leaf T) (hr.mono (by decide)) rfl T.g_l_leaf T.F_l_leaf.kp pass0 (pa_cons (pv 0) pa_nil)) (pg_sub (pv 8) (pe_callR (ok_l_take T) (hr.mono (by decide)) rfl T.g_l_take T.F_l_take.kp pass0 (pa_cons (pv 0) (pa_cons (pe_callB call_len (by rfl) T.n_len (by decide +kernel) (pa_cons (pv 8) pa_nil)) pa_nil))) set_list))) pss_nil)
      (pss_one (ps_ret (pe_op op_cat (pv 2) (pv 4))))))))), ?_⟩
    obtain ⟨b, m, rfl, hm0, hm, hb, q⟩ := h
    have hbn := bag_ne hb
    refine ⟨_, rfl, _, rfl, b, m, rfl, hm0, by omega, hb, fun v c H1 k1 hb1 hcf hc0 hcm hro => ?_⟩
    have hbn1 := bag_ne hb1
    have hcf0 := hcf
    obtain ⟨p1, as1, rfl, hp1, hl1, hrow1⟩ := hcf
    have hl : as1.length = c.length := hrow1.length
    have npb : p1 ≠ b := fun e => hbn (by rw [← e]; exact hp1)
    refine ⟨_, rfl, _, c.length, rfl, .inl ⟨_, .of hl1, by rw [List.length_map, hl]⟩, (show 0 ≤ sizeLine by decide), fun p2 np2 => ⟨_, _, rfl, ?_⟩⟩
    have npp : p1 ≠ p2 := fun e => by rw [← e, hl1] at np2; cases np2
    have np2b : p2 ≠ b := fun e => hbn1 (e ▸ np2)
    have z0 : CInv H1 b p2 (2 * c.length) 3 (upd H1 p2 (.lst [])) [] [] := ⟨.new np2, hb1.same (.new np2), upd_same, by simp, .nil, .nil, by simp⟩
    have keepP : ∀ {H'}, Keep [b] H1 H' → H' p1 = some (.lst (as1.map V.ref)) := fun k => k.at (fun e => npb (List.mem_singleton.mp e)) hl1
    refine ⟨_, rfl, p1, rfl, ⟨_, .of (keepP z0.kp)⟩, for_list (K := K) (a := p1) (xs := as1.map V.ref) (fun i σ H' => ∃ v5 v6 v7 as2 c2, σ = [some (.ref b), some (.int m), some (.ref p1), some (.int c.length), some (.ref p2), v5, v6, v7, none] ∧ CInv H1 b p2 (2 * c.length) 3 H' as2 c2 ∧ c2.length = i)
      ⟨none, none, none, [], [], rfl, z0, rfl⟩ (fun i σ H' _ ⟨_, _, _, _, _, _, z, _⟩ => .of (keepP z.kp)) ?_ ?_⟩
    · rintro i y σ H2 hy ⟨v5, v6, v7, as2, c2, rfl, z, hc2⟩
      rw [List.getElem?_map] at hy
      cases ha : as1[i]? with
      | none => rw [ha] at hy; cases hy
      | some ar =>
        rw [ha] at hy
        cases hy
        obtain ⟨r, hr0, har0, xs, har, hxs⟩ := paired_getV hrow1 ha
        have narb : ar ≠ b := fun e => hbn (by rw [← e]; exact har0)
        have keepR : ∀ {H'}, Keep [b] H1 H' → H' ar = some (.lst xs) := fun k => k.at (fun e => narb (List.mem_singleton.mp e)) har
        obtain ⟨hrl, hri⟩ := hro r (List.mem_of_getElem? hr0)
        refine ⟨(show 0 ≤ sizeLine by decide), fun t nt => ?_⟩
        have ht0 : H1 t = none := z.kp.free nt (fun e => by
          obtain ⟨x, y, h⟩ := z.bag
          rw [List.mem_singleton.mp e, h] at nt
          cases nt)
        have htp : t ≠ p2 := fun e => by rw [e, z.lst] at nt; cases nt
        have htb : t ≠ b := fun e => hbn1 (e ▸ ht0)
        have hta : t ∉ as2 := fun e => by
          obtain ⟨i, h1⟩ := List.getElem?_of_mem e
          obtain ⟨_, _, _, xs, h2, _⟩ := paired_getV z.rows h1
          rw [nt] at h2
          cases h2
        have z1 := z.new (.new (o := .lst []) nt)
        refine ⟨_, rfl, ar, rfl, ⟨_, .of (keepR z1.kp)⟩, for_list (K := K) (a := ar) (xs := xs) (fun j σ H' => ∃ v7 ys s, σ = [some (.ref b), some (.int m), some (.ref p1), some (.int c.length), some (.ref p2), some (.ref ar), some (.ref t), v7, none] ∧ CInv H1 b p2 (2 * c.length) 3 H' as2 c2 ∧ H' t = some (.lst ys) ∧ ImsV H' ys s ∧ s.length = j ∧ ∀ x ∈ s, okIm ((2 * c.length : Nat) : Int) x = true ∧ fineIm x)
          ⟨v7, [], [], rfl, z1, upd_same, .nil, rfl, by simp⟩ (fun j σ H' _ ⟨_, _, _, _, z, _⟩ => .of (keepR z.kp)) ?_ ?_⟩
        · rintro j y σ H3 hy ⟨v7, ys, s', rfl, z3, ht3, hI, hsl, hso⟩
          obtain ⟨x, hx, hv⟩ := paired_getV hxs hy
          have hv3 := hv.keep z3.kp
          obtain ⟨hxo, hxf⟩ := hri x (List.mem_of_getElem? hx)
          have hj := (List.getElem?_eq_some_iff.mp hx).1
          have hsm : ys.length < sizeLine := small_of (by rw [hI.length]; omega)
          have fin : ∀ (H4 : Hp) (v : V) (x : Im), Keep [b] H3 H4 → BagAt H4 b → ImV H4 v x → okIm ((2 * c.length : Nat) : Int) x = true → fineIm x → H4 t = some (.lst ys) ∧ ∃ v7 zs s, [some (V.ref b), some (.int m), some (.ref p1), some (.int c.length), some (.ref p2), some (.ref ar), some (.ref t), some v, none] = [some (V.ref b), some (.int m), some (.ref p1), some (.int c.length), some (.ref p2), some (.ref ar), some (.ref t), v7, none] ∧
              CInv H1 b p2 (2 * c.length) 3 (upd H4 t (.lst (ys ++ [v]))) as2 c2 ∧ upd H4 t (.lst (ys ++ [v])) t = some (.lst zs) ∧ ImsV (upd H4 t (.lst (ys ++ [v]))) zs s ∧ s.length = j + 1 ∧ ∀ x ∈ s, okIm ((2 * c.length : Nat) : Int) x = true ∧ fineIm x := fun H4 v x k4 hb4 hv ho hf => by
            have ht4 := k4.at (fun e => htb (List.mem_singleton.mp e)) ht3
            have k5 : Keep [t] H4 (upd H4 t (.lst (ys ++ [v]))) := .put (by simp) ht4 rfl
            refine ⟨ht4, _, ys ++ [v], s' ++ [x], rfl, (z3.step hbn1 np2 k4 hb4).put ht0 hbn1 htp hta k5, upd_same, paired_append ((hI.keep k4).keep k5) (.cons (hv.keep k5) .nil), by simp [hsl], fun y hy => ?_⟩
            rcases List.mem_append.mp hy with hy | hy
            · exact hso y hy
            · rw [List.mem_singleton.mp hy]
              exact ⟨ho, hf⟩
          have up : okIm ((2 * c.length : Nat) : Int) x = true := ((rowOk_mono (n' := 2 * c.length) (by omega) (hro r (List.mem_of_getElem? hr0))).2 x (List.mem_of_getElem? hx)).1
          have app : ∀ (H4 : Hp) (v : V) (x : Im), Keep [b] H3 H4 → BagAt H4 b → ImV H4 v x → okIm ((2 * c.length : Nat) : Int) x = true → fineIm x → H4 t = some (.lst ys) ∧ ∃ v7 zs s, [some (V.ref b), some (.int m), some (.ref p1), some (.int c.length), some (.ref p2), some (.ref ar), some (.ref t), some v, none] = [some (V.ref b), some (.int m), some (.ref p1), some (.int c.length), some (.ref p2), some (.ref ar), some (.ref t), v7, none] ∧
              CInv H1 b p2 (2 * c.length) 3 (upd H4 t (.lst (ys ++ [v]))) as2 c2 ∧ upd H4 t (.lst (ys ++ [v])) t = some (.lst zs) ∧ ImsV (upd H4 t (.lst (ys ++ [v]))) zs s ∧ s.length = j + 1 ∧ ∀ x ∈ s, okIm ((2 * c.length : Nat) : Int) x = true ∧ fineIm x := fin
          cases x with
          | i n1 =>
            have f := fin H3 y (.i n1) .refl z3.bag hv3 up hxf
            refine ⟨_, rfl, _, _, _, _, false, rfl, .ty _, (ImV.ty hv3), kit_ty (show kitB "int" "tuple" = some false by decide +kernel), _, rfl, iteF (iteF ?_)⟩
            exact ⟨_, rfl, .inl ⟨rfl, _, .of ht3⟩, _, rfl, t, _, _, rfl, rfl, ht3, hsm, f.2⟩
          | s w1 =>
            have f := fin H3 y (.s w1) .refl z3.bag hv3 up hxf
            refine ⟨_, rfl, _, _, _, _, false, rfl, .ty _, (ImV.ty hv3), kit_ty (show kitB "str" "tuple" = some false by decide +kernel), _, rfl, iteF (iteF ?_)⟩
            exact ⟨_, rfl, .inl ⟨rfl, _, .of ht3⟩, _, rfl, t, _, _, rfl, rfl, ht3, hsm, f.2⟩
          | b n1 =>
            have hty := ImV.ty (K := K) hv3
            have hvb := hv3
            obtain ⟨t1, rfl, ht1⟩ := hv3
            have hn1 : n1 < c.length := by
              simp only [okIm, Bool.and_eq_true, decide_eq_true_eq] at hxo
              omega
            refine ⟨_, rfl, _, _, _, _, true, rfl, .ty _, hty, kit_ty (show kitB "tuple" "tuple" = some true by decide +kernel), _, rfl, iteT ?_⟩
            refine ⟨_, rfl, b, 8, rfl, by decide, by decide, z3.bag, fun r1 H4 hr1 k4 hb4 => ⟨_, _, rfl, rfl, _, rfl, ite2 (fun _ => ?_) fun _ => ?_⟩⟩
            · have ht14 := k4.tup ht1
              refine ⟨_, rfl, _, _, _, _, rfl, rfl, .of ht14, rfl, _, rfl, _, _, rfl, rfl, (show 2 ≤ sizeLine by decide), fun u nu => ?_⟩
              have k5 : Keep [] H4 (upd H4 u (.tup [.str "box", .int ((n1 + c.length : Nat) : Int)])) := .new nu
              have f := fin _ (.ref u) (.b (n1 + c.length)) (k4.trans k5.all) (hb4.same k5) ⟨u, rfl, upd_same⟩ (by simp only [okIm, Bool.and_eq_true, decide_eq_true_eq]; omega) (show n1 + c.length < 1000 by omega)
              exact ⟨_, rfl, .inl ⟨rfl, _, .of f.1⟩, _, rfl, t, _, _, rfl, rfl, f.1, hsm, f.2⟩
            · have f := fin H4 (.ref t1) (.b n1) k4 hb4 (hvb.keep k4) up hxf
              exact ⟨_, rfl, .inl ⟨rfl, _, .of f.1⟩, _, rfl, t, _, _, rfl, rfl, f.1, hsm, f.2⟩
        · rintro σ H3 ⟨v7, ys, s', rfl, z3, ht3, hI, hsl, hso⟩
          have hl2 : as2.length = c2.length := z3.rows.length
          have hxl : xs.length = r.length := hxs.length
          have hil : i < as1.length := (List.getElem?_eq_some_iff.mp ha).1
          have kp : Keep [p2] H3 (upd H3 p2 (.lst (as2.map V.ref ++ [.ref t]))) := .put (by simp) z3.lst rfl
          refine ⟨_, rfl, .inl ⟨rfl, _, .of z3.lst⟩, _, rfl, p2, _, _, rfl, rfl, z3.lst, small_of (by rw [List.length_map]; omega), some (.ref ar), some (.ref t), v7, as2 ++ [t], c2 ++ [s'], rfl, ?_, by simp [hc2]⟩
          have tp : t ∉ [p2] := fun e => htp (List.mem_singleton.mp e)
          refine ⟨z3.kp.also kp np2, z3.bag.keep kp (fun e => np2b (List.mem_singleton.mp e).symm), by rw [upd_same, List.map_append]; rfl, fun e => ?_, List.nodup_append.mpr ⟨z3.nd, by simp, fun u hu w hw e => hta (by rw [List.mem_singleton.mp hw] at e; rw [← e]; exact hu)⟩, paired_append (paired_mem z3.rows fun i a r h1 _ ⟨h2, xs, h3, h4⟩ => ⟨h2, xs, kp.at (fun e => z3.np (by rw [← List.mem_singleton.mp e]; exact List.mem_of_getElem? h1)) h3, h4.keep kp⟩) (.cons ⟨ht0, ys, kp.at tp ht3, hI.keep kp⟩ .nil), fun s hs => ?_⟩
          · rcases List.mem_append.mp e with e | e
            · exact z3.np e
            · exact htp (List.mem_singleton.mp e).symm
          · rcases List.mem_append.mp hs with hs | hs
            · exact z3.ok s hs
            · rw [List.mem_singleton.mp hs]
              exact ⟨by omega, hso⟩
    · rintro σ H2 ⟨v5, v6, v7, as2, c2, rfl, z, hc2⟩
      rw [List.length_map, hl] at hc2
      have hl2 : as2.length = c2.length := z.rows.length
      -- what comes behind the change, if any
      have fin : ∀ (H3 : Hp) (c3 : Cont) (v8 : Option V), CInv H1 b p2 (2 * c.length) 3 H3 as2 c3 → c3.length = c.length → tRet (tOp rCat (tVar 2) (tVar 4)) { nx := fun _ H' => Q .non H', rt := Q } [some (.ref b), some (.int m), some (.ref p1), some (.int c.length), some (.ref p2), v5, v6, v7, v8] H3 := fun H3 c3 v8 z3 hc3 => by
        refine ⟨_, rfl, _, rfl, p1, p2, _, _, rfl, rfl, keepP z3.kp, z3.lst, Nat.le_of_lt (small_of (by simp only [List.length_map]; omega)), fun p3 np3 => ?_⟩
        have kn : Keep [] H3 (upd H3 p3 (.lst (as1.map V.ref ++ as2.map V.ref))) := .new np3
        have hp30 : H p3 = none := (k1.trans z3.kp).free np3 (fun e => by
          obtain ⟨x, y, h⟩ := z3.bag
          rw [List.mem_singleton.mp e, h] at np3
          cases np3)
        have hrow : Paired (fun a r => H a = none ∧ ∃ xs, upd H3 p3 (.lst (as1.map V.ref ++ as2.map V.ref)) a = some (.lst xs) ∧ ImsV (upd H3 p3 (.lst (as1.map V.ref ++ as2.map V.ref))) xs r) (as1 ++ as2) (c ++ c3) :=
          paired_append (paired_mono (fun a r ⟨h1, xs, h2, h3⟩ => ⟨h1, xs, kn.same _ _ (z3.kp.at (fun e => hbn (by rw [← List.mem_singleton.mp e]; exact h1)) h2), (h3.keep z3.kp).keep kn⟩) hrow1)
            (paired_mono (fun a r ⟨h1, xs, h2, h3⟩ => ⟨k1.free h1 (fun e => hbn1 (by rw [← List.mem_singleton.mp e]; exact h1)), xs, kn.same _ _ h2, h3.keep kn⟩) z3.rows)
        have e2 : (c ++ c3).length = 2 * c.length := by rw [List.length_append]; omega
        refine q (.ref p3) (c ++ c3) _ ((k1.trans z3.kp).trans kn.all) (z3.bag.same kn) ⟨p3, as1 ++ as2, rfl, hp30, by rw [upd_same, List.map_append], hrow⟩ (by omega) (by omega) fun r hr => ?_
        rw [e2]
        rcases List.mem_append.mp hr with hr | hr
        · exact rowOk_mono (by omega) (hro r hr)
        · exact z3.ok r hr
      refine ⟨_, rfl, _, rfl, _, rfl, b, c.length, rfl, hc0, by omega, z.bag, fun r1 H3 hr1 k3 hb3 => ?_⟩
      have z3 := z.step hbn1 np2 k3 hb3
      obtain ⟨a, ha⟩ : ∃ a, as2[r1]? = some a := ⟨_, List.getElem?_eq_getElem (by omega)⟩
      obtain ⟨row, hrow, ha0, xs, hax, hxs⟩ := paired_getV z3.rows ha
      have hrl := (z3.ok row (List.mem_of_getElem? hrow)).1
      have hri := (z3.ok row (List.mem_of_getElem? hrow)).2
      have hnab : a ≠ b := fun e => hbn1 (e ▸ ha0)
      refine ⟨p2, _, _, _, rfl, rfl, .of z3.lst, atI_nat (v := V.ref a) (by rw [List.getElem?_map, ha]; rfl), ?_⟩
      refine ⟨_, rfl, (show 0 ≤ sizeLine by decide), fun e ne => ?_⟩
      have ke : Keep [] H3 (upd H3 e (.lst [])) := .new ne
      have z4 := z3.new ke
      have hax4 := ke.same _ _ hax
      refine ⟨rowD row, .list [], .lst (.of hax4) (dpAll_of (fun _ _ z => z.dp) (hxs.keep ke)), .lst (.of upd_same) .nil, ?_, rfl, _, rfl, ite2 (fun t => ?_) fun t => ?_⟩
      · have hc := cont_shaped (c := [row]) fun r hr x hx => by
          rw [List.mem_singleton.mp hr] at hx
          exact (hri x hx).2
        have h1 := Bool.and_eq_true_iff.mp hc
        have h2 : (contD [row]).canLay0 = true := h1.1
        simp only [contD, List.map_cons, List.map_nil, PyData.canLay0, PyData.canLayAll0, Bool.and_true] at h2
        refine Bool.and_eq_true_iff.mpr ⟨h2, decide_eq_true ?_⟩
        have h3 := of_decide_eq_true h1.2
        simp only [contD, List.map_cons, List.map_nil, PyData.depth, PyData.depthAll] at h3
        omega
      · refine ⟨_, rfl, b, 2, rfl, by decide, by decide, z4.bag, fun r2 H5 hr2 k5 hb5 => ⟨rfl, _, rfl, ite2 (fun _ => ?_) fun _ => ?_⟩⟩
        · have z5 := z4.step hbn1 np2 k5 hb5
          refine ⟨_, rfl, b, rfl, hb5, fun lv lx H6 k6 hb6 hlv hlo => ?_⟩
          have z6 := z5.step hbn1 np2 k6 hb6
          have hax6 := k6.at (fun e => hnab (List.mem_singleton.mp e)) (k5.at (fun e => hnab (List.mem_singleton.mp e)) hax4)
          have hxs6 := ((hxs.keep ke).keep k5).keep k6
          have hrow0 : 0 < row.length := by
            cases row with
            | nil => cases t
            | cons _ _ => exact Nat.succ_pos _
          have hxl : xs.length = row.length := hxs.length
          refine ⟨_, rfl, _, rfl, _, rfl, _, row.length, rfl, .inl ⟨_, .of hax6, hxl.symm⟩, b, row.length, rfl, hrow0, by omega, hb6, fun r3 H7 hr3 k7 hb7 => ?_⟩
          have z7 := z6.step hbn1 np2 k7 hb7
          have hax7 := k7.at (fun e => hnab (List.mem_singleton.mp e)) hax6
          refine ⟨a, xs, r3, r3, rfl, rfl, hax7, ixN_of (by omega), ?_⟩
          have ks : Keep [a] H7 (upd H7 a (.lst (xs.set r3 lv))) := .put (by simp) hax7 rfl
          have z8 := z7.setRow (row := row.set r3 lx) hbn1 ha ks upd_same (paired_set ((hlv.keep k7).keep ks) r3 ((hxs6.keep k7).keep ks)) ⟨by rw [List.length_set]; exact hrl, fun x hx => by
            rcases List.mem_or_eq_of_mem_set hx with hx | hx
            · exact hri x hx
            · rw [hx]
              exact ⟨hlo.1 _, hlo.2⟩⟩
          exact fin _ _ _ z8 (by rw [List.length_set]; exact hc2)
        · exact fin _ _ _ (z4.step hbn1 np2 k5 hb5) hc2
      · exact fin _ _ _ z4 hc2
end
end K66
namespace K66
open PySem PySem.Spec PyProof.Rows L2 Rg
def spHeapL (C : Addr) : Sp := fun vs H Q _ => ∃ v c, vs = [v] ∧ ContV [] H v c ∧ okCont c ∧ ∀ H' h l as, H h = none → H l = none → (∀ a ∈ as, H a = none) → Keep [] H H' → HeapAt C H' h l as c → Q (.ref h) H'
/-- a thing that repr writes -/
def Shown (K : PySem.W.Frag) (H : Hp) (v : V) : Prop := ∃ d, Rp d 1000 3 ∧ ∀ H', Keep [] H H' → Dp K H' v d
/-- all but b and the tables stays -/
def KeepN (b : Addr) (H H' : Hp) : Prop := ∀ a o, a ≠ b → (∀ ps, o ≠ .tbl ps) → H a = some o → H' a = some o
theorem KeepN.of {b : Addr} {H H' : Hp} (k : Keep [b] H H') : KeepN b H H' := fun a o n _ e => k a o (.inl fun z => n (List.mem_singleton.mp z)) e
theorem KeepN.trans {b : Addr} {H H1 H2 : Hp} (x : KeepN b H H1) (y : KeepN b H1 H2) : KeepN b H H2 := fun a o n t e => y a o n t (x a o n t e)
theorem KeepN.tup {b a : Addr} {H H' : Hp} {xs : List V} (k : KeepN b H H') (hb : BagAt H b) (e : H a = some (.tup xs)) : H' a = some (.tup xs) :=
  k a _ (fun z => by
    obtain ⟨x, y, h⟩ := hb
    rw [z, h] at e
    cases e) (fun _ z => by cases z) e
def ShownN (K : PySem.W.Frag) (b : Addr) (H : Hp) (v : V) : Prop := ∃ d, Rp d 1000 3 ∧ ∀ H', KeepN b H H' → Dp K H' v d
theorem ShownN.at {K : PySem.W.Frag} {b : Addr} {H H' : Hp} {v : V} (h : ShownN K b H v) (k : KeepN b H H') : Shown K H' v := let ⟨d, r, p⟩ := h; ⟨d, r, fun H2 k2 => p H2 (k.trans (.of k2.all))⟩
def spStrange (K : PySem.W.Frag) : Sp := fun vs H Q _ => ∃ b, ∃ n : Nat, vs = [.ref b, .int n] ∧ 0 < n ∧ n ≤ 100 ∧ BagAt H b ∧ ∀ v H', Keep [b] H H' → BagAt H' b → (∀ H2, KeepN b H' H2 → OutBox K H2 v n) → ShownN K b H' v → Q v H'
section
variable {P : Program} {w : World} {K : PySem.W.Frag} {mg : Str → Option Value} {base : Heap}
def N_l_heap : List Str := ["_law_contents_here", "_law_row"]
theorem sc_l_heap : FnScope N_l_heap ["_law_contents_here"] (defScope s_l_heap) := ⟨rfl, rfl, rfl, by decide +kernel, rfl, by decide +kernel, by decide +kernel⟩
theorem ok_l_heap (T : Txt K mg) : FnR P w K mg base CX0 8 T.f_l_heap (spHeapL T.C) := by
  refine okR T.F_l_heap sc_l_heap (fun vs H Q E h => ?_) (T.F_l_heap.binds fun _ _ _ _ _ _ us hl => match us, hl with | [_], _ => rfl) (fun cdv A outer s H vs Q E hr h => ?_)
  · obtain ⟨v, c, rfl, _⟩ := h
    rfl
  · refine ⟨_, (pss_one (ps_ret (ClX.pe_cmeth (pe_glob (v := .ref T.C) rfl T.g_Heap rfl) T.cr T.cm_of (ok_of T) (hr.mono (by decide)) pass0 (pa_cons (pe_lc (own := [("_law_row", 1)]) (g := (gName 1)) (tt := tYes) rfl sc_l_heap.nd (pi_list (pv 0)) (blkOk_by (N := N_l_heap) (sc := defScope s_l_heap) (by decide +kernel)) (fun _ _ _ _ _ => (pg_name (i := 1) sc_l_heap.nd rfl (Or.inl rfl))) (fun _ _ _ _ _ => pts_nil) (fun _ _ _ _ _ => (pe_callTy (listK (K := K)) (by rfl) T.n_list (by decide +kernel) (pa_cons (pv 1) pa_nil)))) pa_nil)))), ?_⟩
    obtain ⟨v, c, rfl, ⟨a, rs, rfl, _, ha, hR⟩, hc, q⟩ := h
    have hlen : rs.length = c.length := hR.length
    have hc60 := hc.1
    have hs : SqL K (hd [] H) a rs := .of (by rw [hd_out (by simp)]; exact ha)
    refine ⟨rfl, _, rfl, a, rfl, ⟨rs, .of ha⟩, fun D hD => lc_it (M := []) (Jv := fun _ => True)
      (Rel := fun H' v (r : List Im) => ∃ a xs, v = .ref a ∧ a ≠ D ∧ H' a = some (.lst xs) ∧ ImsV H' xs r) (Ok := fun i r => c[i]? = some r) (n := rs.length)
      (Yx := fun i x _ => rs[i]? = some x) hD (by simp) (fun _ _ _ _ => trivial) trivial (by omega) (it_list hs).1 (it_list hs).2.1 (fun i H1 y H2 h1 h2 h3 => let z := (it_list hs).2.2 i H1 y H2 h1 h2 h3; ⟨z.1, z.2.1, z.2.2.1⟩)
      (fun H1 H2 y z k ⟨a, xs, e, n2, h3, h4⟩ => ⟨a, xs, e, n2, k.at (by simpa using n2) h3, h4.keep k⟩) ?_ gName_mono ?_⟩
    · rintro i x H1 hi1 k _ hDn hx Qe hQ
      obtain ⟨r, hr2, ar, xs, rfl, _, h3, h4⟩ := paired_getV hR hx
      refine ⟨rfl, _, rfl, _, _, rfl, .inl (.of (k.same _ _ h3)), fun p np => ?_⟩
      exact hQ _ r _ (.new np) trivial hr2 ⟨p, xs, rfl, fun z => hDn (by rw [← z]; exact np), upd_same, (h4.keep k).keep (.new (S := []) np)⟩
    · intro acc zs H1 k _ hA hP hL hO
      have ez : zs = c := eq_of_get (by rw [hL, hlen]) fun i z hz => hO i z hz
      rw [ez] at hP
      refine ⟨_, c, rfl, ⟨D, acc, rfl, by simp, hA, paired_mono (fun v z ⟨a, xs, e1, _, e3, e4⟩ => ⟨a, xs, e1, by simp, e3, e4⟩) hP⟩, hc, fun H2 h l as n1 n2 n3 k2 hat => ?_⟩
      exact q H2 h l as (k.free n1 (by simp)) (k.free n2 (by simp)) (fun a ha => k.free (n3 a ha) (by simp)) (k.trans k2) hat
def N_l_strange : List Str := ["_law_bag_here", "_law_total", "_law_some"]
theorem sc_l_strange : FnScope N_l_strange ["_law_bag_here", "_law_total"] (defScope s_l_strange) := ⟨rfl, rfl, rfl, by decide +kernel, rfl, by decide +kernel, by decide +kernel⟩
theorem shown_int {H : Hp} {b : Addr} {i : Int} (h : i.natAbs < 10 ^ 40) : ShownN K b H (.int i) := ⟨.int i, (rp_int h).mono (by decide) (by decide), fun _ _ => .int _⟩
theorem ok_l_strange (T : Txt K mg) : FnR P w K mg base CX0 2 T.f_l_strange (spStrange K) := by
  refine okR T.F_l_strange sc_l_strange (fun vs H Q E h => ?_) (T.F_l_strange.binds fun _ _ _ _ _ _ us hl => match us, hl with | [_, _], _ => rfl) (fun cdv A outer s H vs Q E hr h => ?_)
  · obtain ⟨b, n, rfl, _⟩ := h
    rfl
  · refine ⟨_, (pss_cons (ps_set (i := 2) sc_l_strange.nd rfl (Or.inl rfl) (pe_lst (pa_cons (pe_un un_neg pe_int) (pa_cons (pv 1) (pa_cons (pe_op op_add (pv 1) (pe_op op_pow pe_int pe_int)) (pa_cons pe_bl (pa_cons pe_bl (pa_cons pe_non (pa_cons pe_str (pa_cons (pe_tup (pa_cons pe_str (pa_cons pe_int pa_nil))) (pa_cons (pe_lst (pa_cons pe_int pa_nil)) (pa_cons (pe_tup pa_nil) (pa_cons pe_int pa_nil)))))))))))))
      (pss_one (ps_ret (pe_ix ix_list (pv 2) (pe_callR (ok_l_take T) (hr.mono (by decide)) rfl T.g_l_take T.F_l_take.kp pass0 (pa_cons (pv 0) (pa_cons pe_int pa_nil))) (fun _ _ => rfl))))), ?_⟩
    obtain ⟨b, n, rfl, hn0, hn, hb, q⟩ := h
    have p1030 : CPow 10 30 := ⟨by decide, by decide, by decide⟩
    refine ⟨1, rfl, _, rfl, _, rfl, _, _, rfl, rfl, p1030, _, _, rfl, rfl, (show 2 ≤ sizeLine by decide), fun t1 n1 => ⟨(show 1 ≤ sizeLine by decide), fun t2 n2 => ⟨(show 0 ≤ sizeLine by decide), fun t3 n3 => ⟨(show 11 ≤ sizeLine by decide), fun t n4 => ?_⟩⟩⟩⟩
    have k1 : Keep [] H (upd H t1 (.tup [.str "box", .int 0])) := .new n1
    have k2 := k1.trans (Keep.new (S := []) (o := .lst [.int 0]) n2)
    have k3 := k2.trans (Keep.new (S := []) (o := .tup []) n3)
    obtain ⟨vals, ev⟩ : ∃ vals : List V, vals = [.int (-1), .int n, .int ((n : Int) + 10 ^ (30 : Int).toNat), .bl true, .bl false, .non, .str "0", .ref t1, .ref t2, .ref t3, .int 1000] := ⟨_, rfl⟩
    have k4 := k3.trans (Keep.new (S := []) (o := .lst vals) n4)
    have e12 : t1 ≠ t2 := fun e => by rw [← e, upd_same] at n2; cases n2
    have e13 : t1 ≠ t3 := fun e => by rw [← e, upd_ne e12, upd_same] at n3; cases n3
    have e23 : t2 ≠ t3 := fun e => by rw [← e, upd_same] at n3; cases n3
    have g1 : upd (upd (upd H t1 (.tup [.str "box", .int 0])) t2 (.lst [.int 0])) t3 (.tup []) t1 = some (.tup [.str "box", .int 0]) := by rw [upd_ne e13, upd_ne e12, upd_same]
    have g2 : upd (upd (upd H t1 (.tup [.str "box", .int 0])) t2 (.lst [.int 0])) t3 (.tup []) t2 = some (.lst [.int 0]) := by rw [upd_ne e23, upd_same]
    have g3 : upd (upd (upd H t1 (.tup [.str "box", .int 0])) t2 (.lst [.int 0])) t3 (.tup []) t3 = some (.tup []) := upd_same
    have hbt : ∀ {u : Addr} {o : HO}, upd (upd (upd H t1 (.tup [.str "box", .int 0])) t2 (.lst [.int 0])) t3 (.tup []) u = some o → u ≠ t := fun h => ne_of_none h n4
    have hb3 := hb.same k3
    have hbt4 : b ≠ t := by
      obtain ⟨x, y, h⟩ := hb3
      exact hbt h
    have kn4 : Keep [] (upd (upd (upd H t1 (.tup [.str "box", .int 0])) t2 (.lst [.int 0])) t3 (.tup [])) (upd (upd (upd (upd H t1 (.tup [.str "box", .int 0])) t2 (.lst [.int 0])) t3 (.tup [])) t (.lst vals)) := .new n4
    have hv4 : upd (upd (upd (upd H t1 (.tup [.str "box", .int 0])) t2 (.lst [.int 0])) t3 (.tup [])) t (.lst vals) t = some (.lst vals) := upd_same
    have hb4 := hb3.same kn4
    have hbn : H b ≠ none := bag_ne hb
    have nb : ∀ {u : Addr}, H u = none → u ∉ [b] := fun h e => hbn (by rw [← List.mem_singleton.mp e]; exact h)
    have f1 : H t1 = none := n1
    have f2 : H t2 = none := by rw [upd_ne (Ne.symm e12)] at n2; exact n2
    have f3 : H t3 = none := by rw [upd_ne (Ne.symm e23), upd_ne (Ne.symm e13)] at n3; exact n3
    have f4 : H t = none := k3.free n4 (by simp)
    rw [ev] at kn4 hv4 hb4 k4
    refine ⟨_, rfl, _, rfl, b, 11, rfl, by decide, by decide, hb4, fun r H5 hr5 k5 hb5 => ?_⟩
    have hv5 := k5.at (nb f4) hv4
    have hr6 : r < vals.length := by rw [ev]; exact hr5
    refine ⟨t, _, _, vals[r], rfl, rfl, .of hv5, atI_nat (by rw [← ev]; exact List.getElem?_eq_getElem hr6), ?_⟩
    have h1 := k5.at (nb f1) (kn4.same _ _ g1)
    have h2 := k5.at (nb f2) (kn4.same _ _ g2)
    have h3 := k5.at (nb f3) (kn4.same _ _ g3)
    have nbl : t2 ≠ b := fun e => hbn (e ▸ f2)
    have ntb : ∀ ps, HO.lst [V.int 0] ≠ .tbl ps := fun _ z => by cases z
    have all : ∀ v ∈ vals, (∀ H2, KeepN b H5 H2 → OutBox K H2 v n) ∧ ShownN K b H5 v := by
      intro v hv
      rw [ev] at hv
      simp only [List.mem_cons, List.not_mem_nil, or_false] at hv
      rcases hv with rfl | rfl | rfl | rfl | rfl | rfl | rfl | rfl | rfl | rfl | rfl
      · exact ⟨fun _ _ => .inl ⟨_, rfl, .inl (by decide)⟩, shown_int (by decide)⟩
      · exact ⟨fun _ _ => .inl ⟨_, rfl, .inr (Int.le_refl _)⟩, shown_int (by omega)⟩
      · refine ⟨fun _ _ => .inl ⟨_, rfl, .inr ?_⟩, shown_int ?_⟩
        · have : (0 : Int) ≤ 10 ^ (30 : Int).toNat := by decide
          omega
        · have e : (10 : Int) ^ (30 : Int).toNat = 1000000000000000000000000000000 := by decide
          rw [e]
          omega
      · exact ⟨fun _ _ => .inr ⟨"bool", .base (.bl true), .inr ⟨by decide +kernel, by decide +kernel⟩⟩, .bool true, ⟨rfl, rfl, rfl, by decide, by decide⟩, fun _ _ => .bl _⟩
      · exact ⟨fun _ _ => .inr ⟨"bool", .base (.bl false), .inr ⟨by decide +kernel, by decide +kernel⟩⟩, .bool false, ⟨rfl, rfl, rfl, by decide, by decide⟩, fun _ _ => .bl _⟩
      · exact ⟨fun _ _ => .inr ⟨"NoneType", .base .non, .inl (by decide +kernel)⟩, .none, ⟨rfl, rfl, rfl, by decide, by decide⟩, fun _ _ => .non⟩
      · exact ⟨fun _ _ => .inr ⟨"str", .base (.str "0"), .inl (by decide +kernel)⟩, .str "0", (rp_str (by decide +kernel) (by decide +kernel)).mono (by decide) (by decide), fun _ _ => .str _⟩
      · refine ⟨fun H2 k => .inr ⟨"tuple", .base (.tup (k.tup hb5 h1)), .inl (by decide +kernel)⟩, .tuple [.str "box", .int 0], (rp_im (x := .b 0) (show 0 < 1000 by decide)).mono (by decide) (by decide), fun H2 k => .tup (.of (k.tup hb5 h1)) (.cons (.str _) (.cons (.int _) .nil))⟩
      · refine ⟨fun H2 k => .inr ⟨"list", .base (.lst (k _ _ nbl ntb h2)), .inl (by decide +kernel)⟩, .list [.int 0], (rp_list (w := 140) (n := 0) fun y hy => by rw [List.mem_singleton.mp hy]; exact rp_int (by decide)).mono (show (140 + 1) * 1 ≤ 1000 by decide) (by decide), fun H2 k => .lst (.of (k _ _ nbl ntb h2)) (.cons (.int _) .nil)⟩
      · refine ⟨fun H2 k => .inr ⟨"tuple", .base (.tup (k.tup hb5 h3)), .inl (by decide +kernel)⟩, .tuple [], (rp_tup (w := 0) (n := 0) (xs := []) (by simp)).mono (by decide) (by decide), fun H2 k => .tup (.of (k.tup hb5 h3)) .nil⟩
      · exact ⟨fun _ _ => .inl ⟨_, rfl, .inr (by omega)⟩, shown_int (by decide)⟩
    obtain ⟨o1, o2⟩ := all _ (List.getElem_mem hr6)
    exact q _ H5 (k4.all.trans k5) hb5 o1 o2
end
end K66
namespace K66
open PySem PySem.Spec PyProof.Rows L2 Rg
/-! ### ringed contents -/
def spRinged : Sp := fun vs H Q _ => ∃ b, vs = [.ref b, .int 10] ∧ BagAt H b ∧ ∀ v c H', Keep [b] H H' → BagAt H' b → ContF H H' v c → 0 < c.length → c.length ≤ 10 → (∀ r ∈ c, RowOk c.length 3 r) → Q v H'
theorem cut_all {xs : List V} {m : Int} (h0 : 0 ≤ m) (h : (xs.length : Int) ≤ m) : cutV xs none (some m) = xs := by
  have e : HT.sIx xs.length xs.length (some m) = xs.length := by
    show (if m < 0 then _ else min m.toNat xs.length) = _
    rw [if_neg (by omega)]
    omega
  unfold cutV
  rw [e]
  simp [HT.sIx_none]
theorem fmod_nat {k n : Nat} (h : 0 < n) : (k : Int).fmod n = ((k % n : Nat) : Int) := by
  rw [Int.fmod_eq_emod_of_nonneg _ (by omega)]
  omega
/-- size boxes in a ring, behind tot others -/
def ringRow (tot size k : Nat) : List Im := [.s "a", .b (tot + (k + 1) % size)]
def ringC (tot size : Nat) : Cont := (List.range size).map (ringRow tot size)
section
variable {P : Program} {w : World} {K : PySem.W.Frag} {mg : Str → Option Value} {base : Heap}
def N_l_ringed : List Str := ["_law_bag_here", "_law_most", "_law_found", "_law_total", "_law_turn", "_law_size", "_law_k"]
theorem sc_l_ringed : FnScope N_l_ringed ["_law_bag_here", "_law_most"] (defScope s_l_ringed) := ⟨rfl, rfl, rfl, by decide +kernel, rfl, by decide +kernel, by decide +kernel⟩
theorem ok_l_ringed (T : Txt K mg) : FnR P w K mg base CX0 5 T.f_l_ringed spRinged := by
  refine okR T.F_l_ringed sc_l_ringed (fun vs H Q E h => ?_) (T.F_l_ringed.binds fun _ _ _ _ _ _ us hl => match us, hl with | [_, _], _ => rfl) (fun cdv A outer s H vs Q E hr h => ?_)
  · obtain ⟨b, rfl, _⟩ := h
    rfl
  · refine ⟨_, (pss_cons (ps_if (pt_cmpR op_gt (pe_callR (ok_l_take T) (hr.mono (by decide)) rfl T.g_l_take T.F_l_take.kp pass0 (pa_cons (pv 0) (pa_cons pe_int pa_nil))) pe_int (nomark _)) (pss_one (ps_ret (pe_callR (ok_l_twofold T) (hr.mono (by decide)) rfl T.g_l_twofold T.F_l_twofold.kp pass0 (pa_cons (pv 0) (pa_cons (pe_op op_fdivN (pe_op op_add (pv 1) pe_int) pe_int) pa_nil))))) pss_nil)
      (pss_cons (ps_asg (pe_tup (pa_cons (pe_lst pa_nil) (pa_cons pe_int pa_nil))) (pg_tup rfl (pgs_cons (pg_name (i := 2) sc_l_ringed.nd rfl (Or.inl rfl)) (pgs_cons (pg_name (i := 3) sc_l_ringed.nd rfl (Or.inr rfl)) pgs_nil))))
      (pss_cons (ps_for PassesOwn.never rfl (pi_range1 (by rfl) T.n_range (pa_cons pe_int pa_nil)) (pg_name (i := 4) sc_l_ringed.nd rfl (Or.inl rfl))
      (pss_cons (ps_set (i := 5) sc_l_ringed.nd rfl (Or.inr rfl) (pe_op op_add pe_int (pe_callR (ok_l_take T) (hr.mono (by decide)) rfl T.g_l_take T.F_l_take.kp pass0 (pa_cons (pv 0) (pa_cons (pe_callB (call_max2 rfl) (by rfl) T.n_max (by decide +kernel) (pa_cons pe_int (pa_cons (pe_op op_fdivN (pv 1) pe_int) pa_nil))) pa_nil)))))
      (pss_cons (ps_set (i := 2) sc_l_ringed.nd rfl (Or.inl rfl) (pe_op op_cat (pv 2) (pe_lc (own := [("_law_k", 6)]) (g := (gName 6)) (tt := tYes) rfl sc_l_ringed.nd (pi_range1 (by rfl) T.n_range (pa_cons (pv 5) pa_nil)) (blkOk_by (N := N_l_ringed) (sc := defScope s_l_ringed) (by decide +kernel)) (fun _ _ _ _ _ => (pg_name (i := 6) sc_l_ringed.nd rfl (Or.inl rfl))) (fun _ _ _ _ _ => pts_nil) (fun _ _ _ _ _ => (pe_lst (pa_cons pe_str (pa_cons (pe_tup (pa_cons pe_str (pa_cons (pe_op op_add (pv 3) (pe_op op_modN (pe_op op_add (pv 6) pe_int) (pv 5))) pa_nil))) pa_nil)))))))
      (pss_one (ps_set (i := 3) sc_l_ringed.nd rfl (Or.inr rfl) (pe_op op_add (pv 3) (pv 5)))))))
      (pss_one (ps_ret (pe_ifExp (pt_cmpR op_le (pv 3) (pv 1) (nomark _)) (pe_slice sl_list (pv 2) po_none (po_some (pv 1))) (pe_callR (ok_l_contents T) (hr.mono (by decide)) rfl T.g_l_contents T.F_l_contents.kp pass0 (pa_cons (pv 0) (pa_cons (pv 1) pa_nil))))))))), ?_⟩
    obtain ⟨b, rfl, hb, q⟩ := h
    have hbn := bag_ne hb
    have d2 : CDivN 10 2 := ⟨by decide, by decide⟩
    have d2' : CDivN (10 + 1) 2 := ⟨by decide, by decide⟩
    refine ⟨_, rfl, b, 3, rfl, by decide, by decide, hb, fun r0 H1 hr0 k1 hb1 => ⟨_, _, rfl, rfl, _, rfl, ite2 (fun _ => ?_) fun _ => ?_⟩⟩
    · refine ⟨_, rfl, _, rfl, _, _, rfl, rfl, _, _, rfl, rfl, d2', b, 5, rfl, by decide, by decide, hb1, fun v c H2 k2 hb2 hcf h0 h1 h2 => ?_⟩
      exact q v c H2 (k1.trans k2) hb2 (by
        obtain ⟨p, as, e, hp, hl, hrw⟩ := hcf
        have nb : ∀ {a : Addr}, H1 a = none → a ∉ [b] := fun h e => bag_ne hb1 (by rw [← List.mem_singleton.mp e]; exact h)
        exact ⟨p, as, e, k1.free hp (nb hp), hl, paired_mono (fun a r ⟨h1, h2⟩ => ⟨k1.free h1 (nb h1), h2⟩) hrw⟩) h0 h1 h2
    · refine ⟨(show 0 ≤ sizeLine by decide), fun p0 np0 => ⟨(show 2 ≤ sizeLine by decide), fun t nt => ⟨t, _, rfl, .of upd_same, rfl, _, _, rfl, _, _, rfl, rfl, ?_⟩⟩⟩
      have k2 : Keep [] H1 (upd (upd H1 p0 (.lst [])) t (.tup [.ref p0, .int 0])) := (Keep.new np0).trans (.new nt)
      have ntp : p0 ≠ t := fun e => by rw [← e, upd_same] at nt; cases nt
      have nb1 : ∀ {a : Addr}, H1 a = none → a ∉ [b] := fun h e => bag_ne hb1 (by rw [← List.mem_singleton.mp e]; exact h)
      refine ⟨2, rfl, by decide, by decide, for_range (lo := 0) (n := (2 : Int).toNat) (fun i σ H' => ∃ v4 v5 v2 c, σ = [some (.ref b), some (.int 10), some v2, some (.int (c.length : Nat)), v4, v5, none] ∧ Keep [b] H H' ∧ BagAt H' b ∧ ContF H H' v2 c ∧ c.length ≤ 5 * i ∧ (0 < i → 0 < c.length) ∧ ∀ r ∈ c, RowOk c.length 3 r)
        ⟨none, none, .ref p0, [], rfl, k1.trans k2.all, hb1.same k2, ⟨p0, [], rfl, k1.free np0 (nb1 np0), by rw [upd_ne ntp]; exact upd_same, .nil⟩, Nat.le_refl _, fun h => absurd h (by decide), by simp⟩ ?_ ?_⟩
      · rintro i σ H2 hi ⟨v4, v5, v2, c, rfl, k2, hb2, hcf, hcl, hc0, hro⟩
        have hi2 : i < 2 := hi
        refine ⟨_, rfl, _, rfl, _, _, rfl, rfl, d2, _, _, rfl, b, 5, congrArg (fun z : Int => [V.ref b, .int z]) (by decide), by decide, by decide, hb2, fun r H3 hr3 k3 hb3 => ⟨_, _, rfl, rfl, ?_⟩⟩
        have hcf3 := ContF.keepB hcf hbn k3
        obtain ⟨p, as, rfl, hp0, hpl, hrow⟩ := hcf3
        have hal : as.length = c.length := hrow.length
        have nbb : ∀ {a : Addr}, H a = none → a ∉ [b] := fun h e => hbn (by rw [← List.mem_singleton.mp e]; exact h)
        refine ⟨_, rfl, _, rfl, ((1 + r : Nat) : Int), rfl, by omega, by omega, fun D hD => lc_it (M := []) (Jv := fun _ => True)
          (Rel := fun H' v (r : List Im) => ∃ a, v = .ref a ∧ (H3 a = none ∧ a ≠ D) ∧ ∃ xs, H' a = some (.lst xs) ∧ ImsV H' xs r) (Ok := fun k row => k < 1 + r ∧ row = ringRow c.length (1 + r) k) (n := ((1 + r : Nat) : Int).toNat)
          (Yx := fun k x _ => x = .int (0 + (k : Nat)) ∧ k < 1 + r) hD (by simp) (fun _ _ _ _ => trivial) trivial (by omega) it_range.1 it_range.2.1 (fun i H1 y H2 h1 h2 h3 => let z := it_range.2.2 i H1 y H2 h1 h2 h3; ⟨z.1, z.2.1, z.2.2.1, by omega⟩)
          (fun H1 H2 y z k ⟨a, e, ⟨n1, n2⟩, xs, h3, h4⟩ => ⟨a, e, ⟨n1, n2⟩, xs, k.at (by simpa using n2) h3, h4.keep k⟩) ?_ gName_mono ?_⟩
        · rintro k x H4 hk k4 _ hDn ⟨rfl, hk2⟩ Qe hQ
          have hne : ((1 + r : Nat) : Int) ≠ 0 := by omega
          refine ⟨rfl, _, rfl, _, rfl, _, _, rfl, rfl, _, rfl, _, _, rfl, rfl, hne, _, _, rfl, rfl, (show 2 ≤ sizeLine by decide), fun u nu => ⟨(show 2 ≤ sizeLine by decide), fun u2 nu2 => ?_⟩⟩
          have ev : ((c.length : Nat) : Int) + ((0 + (k : Nat) : Int) + 1).fmod ((1 + r : Nat) : Int) = ((c.length + (k + 1) % (1 + r) : Nat) : Int) := by
            have e1 : (0 : Int) + (k : Nat) + 1 = ((k + 1 : Nat) : Int) := by omega
            rw [e1, fmod_nat (by omega)]
            omega
          have hu : upd H4 u (.tup [.str "box", .int (((c.length : Nat) : Int) + ((0 + (k : Nat) : Int) + 1).fmod ((1 + r : Nat) : Int))]) u = some (.tup [.str "box", .int ((c.length + (k + 1) % (1 + r) : Nat) : Int)]) := by rw [upd_same, ev]
          have ku : Keep [] H4 (upd H4 u (.tup [.str "box", .int (((c.length : Nat) : Int) + ((0 + (k : Nat) : Int) + 1).fmod ((1 + r : Nat) : Int))])) := .new nu
          have hu0 : H3 u2 = none := k4.free (ku.free nu2 (by simp)) (by simp)
          have hu2D : u2 ≠ D := fun e => hDn (by rw [← e]; exact ku.free nu2 (by simp))
          exact hQ _ (ringRow c.length (1 + r) k) _ (ku.trans (.new nu2)) trivial ⟨hk2, rfl⟩ ⟨u2, rfl, ⟨hu0, hu2D⟩, _, upd_same, .cons rfl (.cons ⟨u, rfl, by rw [upd_ne (ne_of_none hu nu2)]; exact hu⟩ .nil)⟩
        · intro acc zs H4 k4 _ hA hP hL hO
          have ez : zs = ringC c.length (1 + r) := eq_of_get (by rw [hL]; simp [ringC]; omega) fun k z hz => by
            obtain ⟨hk, rfl⟩ := hO k z hz
            unfold ringC
            rw [List.getElem?_map, List.getElem?_range hk]
            rfl
          rw [ez] at hP
          obtain ⟨bs, eb, hbs⟩ := refs_of hP
          rw [eb] at hA
          have hbl : bs.length = 1 + r := by rw [hbs.length]; simp [ringC]
          have hb4 := hb3.same k4
          refine ⟨p, D, _, _, rfl, rfl, k4.same _ _ hpl, hA, Nat.le_of_lt (small_of (by simp only [List.length_map]; omega)), fun p' np' => ?_⟩
          have kn : Keep [] H4 (upd H4 p' (.lst (as.map V.ref ++ bs.map V.ref))) := .new np'
          have k34 := k4.trans kn
          have kH : Keep [b] H H3 := k2.trans k3
          have hp'0 : H p' = none := kH.free (k4.free np' (by simp)) (fun e => by
            obtain ⟨x, y, h⟩ := hb4
            rw [List.mem_singleton.mp e, h] at np'
            cases np')
          have el : (c ++ ringC c.length (1 + r)).length = c.length + (1 + r) := by simp [ringC]
          have frb : ∀ {a : Addr}, H3 a = none → H a = none := fun {a} h => kH.free h (fun e => by
            obtain ⟨x, y, h2⟩ := hb3
            rw [List.mem_singleton.mp e, h2] at h
            cases h)
          refine ⟨_, rfl, _, rfl, _, _, rfl, rfl, some (.int (0 + (i : Nat))), some (.int ((1 + r : Nat) : Int)), .ref p', c ++ ringC c.length (1 + r), by rw [el]; rfl, kH.trans k34.all, hb4.same kn, ⟨p', as ++ bs, rfl, hp'0, by rw [upd_same, List.map_append], paired_append (paired_mono (fun a r ⟨h1, xs, h2, h3⟩ => ⟨h1, xs, k34.same _ _ h2, h3.keep k34⟩) hrow) (paired_mono (fun a r ⟨⟨h1, _⟩, xs, h2, h3⟩ => ⟨frb h1, xs, kn.same _ _ h2, h3.keep kn⟩) hbs)⟩, by rw [el]; omega, fun _ => by omega, fun row hrw => ?_⟩
          rcases List.mem_append.mp hrw with hrw | hrw
          · exact rowOk_mono (by omega) (hro row hrw)
          · obtain ⟨k, hk, rfl⟩ := List.mem_map.mp hrw
            have hk := List.mem_range.mp hk
            have hm : (k + 1) % (1 + r) < 1 + r := Nat.mod_lt _ (by omega)
            refine ⟨(show 2 ≤ 3 by decide), fun x hx => ?_⟩
            rcases List.mem_cons.mp hx with e | hx
            · rw [e]
              have o := leaf_s (x := "a") (by decide +kernel) (by decide +kernel)
              exact ⟨o.1 _, o.2⟩
            · rw [List.mem_singleton.mp hx]
              refine ⟨?_, show _ < 1000 by omega⟩
              simp only [okIm, Bool.and_eq_true, decide_eq_true_eq]
              omega
      · rintro σ H2 ⟨v4, v5, v2, c, rfl, k2, hb2, hcf, hcl, hc0, hro⟩
        have hc0 := hc0 (by decide)
        have hcl : c.length ≤ 10 := hcl
        refine ⟨_, rfl, _, rfl, _, _, rfl, rfl, _, rfl, ?_⟩
        rw [decide_eq_true (show ((c.length : Nat) : Int) ≤ 10 by omega)]
        obtain ⟨p, as, rfl, hp0, hpl, hrow⟩ := hcf
        have hal : as.length = c.length := hrow.length
        refine iteT ⟨_, rfl, _, rfl, 10, rfl, p, _, rfl, .of hpl, fun p' np' => ?_⟩
        rw [cut_all (by decide) (by rw [List.length_map]; omega)]
        have kn : Keep [] H2 (upd H2 p' (.lst (as.map V.ref))) := .new np'
        have hp'0 : H p' = none := k2.free np' (fun e => by
          obtain ⟨x, y, h⟩ := hb2
          rw [List.mem_singleton.mp e, h] at np'
          cases np')
        exact q _ c _ (k2.trans kn.all) (hb2.same kn) ⟨p', as, rfl, hp'0, upd_same, paired_mono (fun a r ⟨h1, xs, h2, h3⟩ => ⟨h1, xs, kn.same _ _ h2, h3.keep kn⟩) hrow⟩ hc0 hcl hro
end
end K66
namespace K66
open PySem PySem.Spec PyProof.Rows L2 Rg LamX
/-! ### the call that is told -/
theorem reprVK {X : Cx} {K : PySem.W.Frag} (hg : X.A.guards = some []) (hu : X.A.units + 64 < cLine) (h : X.K = K := by rfl) : CallR X (.builtin "repr") (rReprV K) := h ▸ call_reprV hg hu
def TTnb (K : PySem.W.Frag) (CN : Addr) : V → (XK → Hp → VK → Prop) → Hp → VK → Prop := fun v tl H Q => ∀ (E : XK) (Q' : VK), (∀ d H', H' d = some (.xd [("number", v)]) → Shown K H' v → (∀ H2, Keep [] H' H2 → Q (.bl true) H2) → E (.ref CN) (some d) H') → tl E H Q'
def N_l_no_box : List Str := ["_law_call", "_law_thing", "e", "_law_strange_here"]
theorem sc_l_no_box : FnScope N_l_no_box ["_law_call", "_law_thing"] (defScope s_l_no_box) := ⟨rfl, rfl, rfl, by decide +kernel, rfl, by decide +kernel, by decide +kernel⟩
theorem nobox_gives {X : Cx} (T : Txt X.K X.mg) (hg : X.A.guards = some []) (hu : ∀ env, (X.A.deeper env).units + 64 < cLine) (g : Addr) (cdg : Value) (q : Str) : GivesTo2 X N_l_no_box "_law_no_box" (defScope s_l_no_box) g cdg (defBody s_l_no_box) "_law_call" q (TTnb X.K T.C_NoBox) := by
  intro f c' s H Q v tl act hc h
  refine ⟨_, pss_cons (ps_try_as (i := 2) (c := .ref T.C_NoBox) (Wout := fun _ _ _ _ => False)
      (tb := fun W D σ H => σ[0]? = some (some (.ref f)) ∧ H c' = some (CodeO c' q) ∧ tl (WE W σ) H (fun _ H1 => D.nx σ H1))
      rfl rfl sc_l_no_box.nd rfl rfl ⟨rfl, by decide, .inl T.g_NoBox⟩ L2.takes0 (fun W pn xe tk _ => pss_one (ps_expr (act W pn xe _ _ tk)))
      (fun a oe cls d pn hz hf => pss_cons (ps_set (i := 3) sc_l_no_box.nd rfl (Or.inl rfl) (pe_callB (call_isX T.is_NoBox hz hf) (by rfl) T.n_isinstance (by decide +kernel) (pa_cons (pv 2) (pa_cons (pe_tup (pa_cons (pe_glob (v := .ref T.C_Endless) rfl T.g_Endless rfl) (pa_cons (pe_glob (v := .ref T.C_Full) rfl T.g_Full rfl) (pa_cons (pe_glob (v := .ref T.C_NoPlace) rfl T.g_NoPlace rfl) (pa_cons (pe_glob (v := .ref T.C_NothingDone) rfl T.g_NothingDone rfl) (pa_cons (pe_glob (v := .ref T.C_RingError) rfl T.g_RingError rfl) (pa_cons (pe_glob (v := .ref T.C_TooDeep) rfl T.g_TooDeep rfl) (pa_cons (pe_glob (v := .ref T.C_TooMany) rfl T.g_TooMany rfl) pa_nil)))))))) pa_nil))))
        (pss_one (ps_ret (pe_and (pe_cmpR op_eq (pe_callB (reprVK (K := X.K) (by exact hg) (by exact hu (envOfC "_law_no_box" (defScope s_l_no_box) s.heap.objs.size g cdg))) (by rfl) T.n_repr (by decide +kernel) (pa_cons (pe_xf T.xf_NoBox T.nf_NoBox hz hf (pv 2)) pa_nil)) (pe_callB (reprVK (K := X.K) (by exact hg) (by exact hu (envOfC "_law_no_box" (defScope s_l_no_box) s.heap.objs.size g cdg))) (by rfl) T.n_repr (by decide +kernel) (pa_cons (pv 1) pa_nil)) (nomark _))
          (pe_and (pe_callB (call_isX T.is_NoBox hz hf) (by rfl) T.n_isinstance (by decide +kernel) (pa_cons (pv 2) (pa_cons (pe_bltn (v := .ty "LookupError") (by rfl) T.n_LookupError (by decide +kernel) rfl) pa_nil))) (pe_one (pe_not (pv 3)))))))))
    (pss_one (ps_ret pe_bl)), ?_⟩
  refine ⟨rfl, hc, h _ _ fun d H' hxd ⟨dd, hdd, hdp⟩ hQ => ⟨true, T.em_NoBox, fun _ a na => ?_, fun z => Bool.noConfusion z⟩⟩
  obtain ⟨f1, f2, f3, f4⟩ := hdd.fits (by decide) (by decide)
  refine ⟨_, rfl, (show 7 ≤ sizeLine by decide), fun tp ntp => ⟨rfl, d, _, rfl, by rw [upd_ne (ne_of_none hxd ntp)]; exact hxd, .inr ⟨tp, _, _, false, rfl, upd_same, fun us hus => ClsV.all (.cons (.own _) (.cons (.own _) (.cons (.own _) (.cons (.own _) (.cons (.own _) (.cons (.own _) (.cons (.own _) .nil))))))) hus, T.kit0, ?_⟩⟩⟩
  have kt := Keep.new (S := []) (o := .tup [V.ref T.C_Endless, .ref T.C_Full, .ref T.C_NoPlace, .ref T.C_NothingDone, .ref T.C_RingError, .ref T.C_TooDeep, .ref T.C_TooMany]) ntp
  have hx2 := kt.same _ _ hxd
  refine ⟨_, rfl, rfl, rfl, d, _, v, rfl, hx2, rfl, v, dd, rfl, hdp _ kt, f1, f2, f3, f4, _, rfl, v, dd, rfl, hdp _ kt, f1, f2, f3, f4, rfl, _, rfl, ite2 (fun _ => ?_) fun t => absurd t (by simp)⟩
  refine ⟨_, rfl, rfl, d, _, rfl, hx2, .inl ⟨_, _, true, rfl, fun u ru => ru, T.kit1, true, rfl, iteT ?_⟩⟩
  exact ⟨_, rfl, false, rfl, hQ _ kt⟩
end K66
namespace K66
open PySem PySem.Spec PyProof.Rows L2 Rg LamX
def lamQ : Str := (envOfC "_law_right" (defScope s_l_right) 0 0 .none).qual ++ "<lambda>"
/-- a def by its body, its code object known, where nothing is under way -/
theorem okGdC {P : Program} {w : World} {K : PySem.W.Frag} {mg : Str → Option Value} {base : Heap} {qual nm : Str} {st : Stmt} {f c : Addr} {N ps : List Str} {k : Nat} {sp : Sp}
    (L : ∃ (oc : Value) (od : Option Addr) (kV doc pm : Value) (an : Option Addr) (ct : Value) (osl : Array (Option Value)), K.lookup f = some ⟨oc, od, .func (PySem.W.fnOf nm qual (defArgs st) (defBody st) (defScope st) .none kV doc pm an (.ref c) ct), osl⟩ ∧ PySem.W.codeIn K (.ref c) qual = true)
    (kp : PySem.W.keepIn K (.ref f) = true) (S : FnScope N ps (defScope st)) (len : ∀ vs H Q E, sp vs H Q E → vs.length = ps.length) (hb : ∀ fd, Fun K nm qual st f fd → Binds K fd ps [])
    (hbody : ∀ (A : Around) (outer : List Env) (s : Shared) (H : Hp) (vs : List V) (Q : VK) (E : XK), (A.deeper (envOfC qual (defScope st) s.heap.objs.size f (.ref c))).guards = some [] → Room k (A.deeper (envOfC qual (defScope st) s.heap.objs.size f (.ref c))) → sp vs H Q E →
      ∃ t, PSs (cxOf CX0 P w K mg base N qual (defScope st) f (.ref c) A outer s H E).nox (defBody st) t ∧ t { nx := fun _ H' => Q .non H', rt := Q } (start N vs) H) : FnGd P w K mg base CX0 (k + 1) f sp := by
  obtain ⟨oc, od, kV, doc, pm, an, ct, osl, lk, hcd⟩ := L
  have hb := hb _ ⟨⟨oc, od, kV, doc, pm, an, .ref c, ct, osl, rfl, lk, hcd⟩, kp⟩
  intro A outer s H us vs Q E hA hr e0 rv hsp
  have hl : us.length = ps.length := by rw [← rv.length]; exact len _ _ _ _ hsp
  have hbd := hb s us (e0.mod.kin.keeps fun b o e => (e0.bs b o e).1) (by simpa using hl)
  rw [List.append_nil] at hbd
  refine StX.run_bnd (G := fun vs' H' => vs' = vs ∧ H' = H) lk hcd S hr e0 (fun A' Ex Q' h => hbd _ _ _ _ (h s H vs us e0 Un.refl rfl (fun _ _ z => z) rv (by rw [rv.length]; exact hl) ⟨rfl, rfl⟩)) fun s2 H2 vs2 ⟨e1, e2⟩ hr2 => ?_
  subst e1 e2
  obtain ⟨t, h, q⟩ := hbody A outer s2 H2 vs2 Q E hA hr2 hsp
  exact ⟨t, h.nox, q⟩
theorem conOk_of {c : Cont} (h : ∀ r ∈ c, RowOk c.length 3 r) (hl : c.length ≤ 20) : ConOk c := by
  have t : ∀ {c : Cont} {n : Nat}, (∀ r ∈ c, RowOk n 3 r) → total c ≤ 3 * c.length := fun {c n} h => by
    induction c with
    | nil => exact Nat.le_refl _
    | cons r c ih =>
      have h1 := (h r (by simp)).1
      have h2 := ih fun s hs => h s (List.mem_cons_of_mem _ hs)
      simp only [total, List.map_cons, List.sum_cons, List.length_cons] at h2 ⊢
      omega
  have := t h
  exact ⟨by omega, by omega, fun r hr x hx => (h r hr).2 x hx⟩
theorem paired_take {α γ : Type} {R : α → γ → Prop} {vs : List α} {zs : List γ} (h : Paired R vs zs) : ∀ n : Nat, Paired R (vs.take n) (zs.take n) := by
  induction h with
  | nil => intro n; cases n <;> exact .nil
  | cons a t ih =>
    intro n
    cases n with
    | zero => exact .nil
    | succ n => exact .cons a (ih n)
theorem tot_rows {n : Nat} : ∀ {c : Cont}, (∀ r ∈ c, RowOk n 3 r) → total c ≤ 3 * c.length
  | [], _ => Nat.le_refl _
  | r :: c, h => by
    have h1 := (h r (by simp)).1
    have h2 := tot_rows (c := c) fun s hs => h s (List.mem_cons_of_mem _ hs)
    simp only [total, List.map_cons, List.sum_cons, List.length_cons] at h2 ⊢
    omega
theorem joinC_tot : ∀ (ps : List (Nat × Nat)) (c : Cont), total (joinC c ps) = total c
  | [], _ => rfl
  | p :: ps, c => (joinC_tot ps (renC p.1 p.2 c)).trans (renC_tot p.1 p.2 c)
theorem pairs_map {H : Hp} : ∀ {ts : List Addr} {ps : List (Nat × Nat)}, Paired (fun t (p : Nat × Nat) => H t = some (.tup [.int p.1, .int p.2])) ts ps → Paired (fun t (e : V × V) => H t = some (.tup [e.1, e.2])) ts (ps.map pairV)
  | _, _, .nil => .nil
  | _, _, .cons a t => .cons a (pairs_map t)
def psD (ps : List (Nat × Nat)) : PyData := .list (ps.map fun p => .tuple [.int p.1, .int p.2])
theorem psD_dp {K : PySem.W.Frag} {H : Hp} {s : Addr} {ts : List Addr} {ps : List (Nat × Nat)} (hs : H s = some (.lst (ts.map V.ref))) (h : Paired (fun t (p : Nat × Nat) => H t = some (.tup [.int p.1, .int p.2])) ts ps) : Dp K H (.ref s) (psD ps) :=
  .lst (.of hs) (by
    clear hs
    induction h with
    | nil => exact .nil
    | cons a t ih => exact .cons (.tup (.of a) (.cons (.int _) (.cons (.int _) .nil))) ih)
theorem psD_lay (ps : List (Nat × Nat)) : (psD ps).canLay0 = true := by
  refine lay_all fun x hx => ?_
  obtain ⟨p, _, rfl⟩ := List.mem_map.mp hx
  simp only [PyData.canLay0, PyData.canLayAll0, Bool.and_true]
theorem psD_shaped (ps : List (Nat × Nat)) : SeqAt.shaped (psD ps) = true := by
  refine Bool.and_eq_true_iff.mpr ⟨psD_lay ps, decide_eq_true ?_⟩
  have d : PyData.depthAll (ps.map fun p => .tuple [.int p.1, .int p.2]) ≤ 1 := by
    induction ps with
    | nil => exact Nat.zero_le _
    | cons p ps ih =>
      rw [List.map_cons, PyData.depthAll]
      have e : (PyData.tuple [.int p.1, .int p.2]).depth ≤ 1 := by
        simp only [PyData.depth, PyData.depthAll]
        decide
      omega
  simp only [psD, PyData.depth]
  omega
theorem cut_take {xs : List V} {m : Int} (h0 : 0 ≤ m) : cutV xs none (some m) = xs.take m.toNat := by
  have e : HT.sIx xs.length xs.length (some m) = min m.toNat xs.length := by
    show (if m < 0 then _ else min m.toNat xs.length) = _
    rw [if_neg (by omega)]
  unfold cutV
  rw [e]
  simp [HT.sIx_none]
theorem ContV.lenV {K : PySem.W.Frag} {S : List Addr} {H : Hp} {v : V} {c : Cont} (h : ContV S H v c) : LenV K v H c.length := by
  obtain ⟨a, vs, rfl, _, h2, h3⟩ := h
  exact .inl ⟨vs, .of h2, h3.length.symm⟩
theorem ne_same (x : V) : (!decide (x = x)) = true → False := fun h => by simp at h
/-- what stands while right runs -/
structure RInv (C : Addr) (H : Hp) (b h l : Addr) (as : List Addr) (v : V) (c : Cont) (H' : Hp) : Prop where
  kp : Keep [b] H H'
  bag : BagAt H' b
  hat : HeapAt C H' h l as c
  cv : ContV [b] H' v c
theorem RInv.take {C : Addr} {H H' H2 : Hp} {b h l : Addr} {as : List Addr} {v : V} {c : Cont} (z : RInv C H b h l as v c H') (hh : b ≠ h) (hl : b ≠ l) (ha : b ∉ as) (k : Keep [b] H' H2) (g : BagAt H2 b) : RInv C H b h l as v c H2 :=
  ⟨z.kp.trans k, g, z.hat.keepL k hl ha hh, z.cv.keep k (fun m hm => hm)⟩
theorem RInv.new {C : Addr} {H H' H2 : Hp} {b h l : Addr} {as : List Addr} {v : V} {c : Cont} (z : RInv C H b h l as v c H') (k : Keep [] H' H2) : RInv C H b h l as v c H2 :=
  ⟨z.kp.trans k.all, z.bag.same k, z.hat.same k, z.cv.keep k (by simp)⟩
theorem BagAt.of_same {H H' : Hp} {b : Addr} (e : H' b = H b) : BagAt H b → BagAt H' b := fun ⟨x, y, h⟩ => ⟨x, y, by rw [e]; exact h⟩
theorem ImV.keepN {b : Addr} {H H' : Hp} {v : V} (hb : BagAt H b) (k : KeepN b H H') : ∀ {x : Im}, ImV H v x → ImV H' v x
  | .i _, h => h
  | .s _, h => h
  | .b _, ⟨a, h1, h2⟩ => ⟨a, h1, k.tup hb h2⟩
theorem HeapAt.keepN {C b : Addr} {H H' : Hp} {h l : Addr} {as : List Addr} {c : Cont} (x : HeapAt C H h l as c) (hb : BagAt H b) (k : KeepN b H H') (hh : b ≠ h) (hl : b ≠ l) (ha : b ∉ as) : HeapAt C H' h l as c := by
  obtain ⟨dx, hi⟩ := x.ins
  refine ⟨⟨dx, k _ _ (Ne.symm hh) (fun _ z => by cases z) hi⟩, k _ _ (Ne.symm hl) (fun _ z => by cases z) x.lst, x.nd, x.nl, paired_mem x.rows fun i a r h1 _ ⟨xs, h2, h3⟩ => ⟨xs, k _ _ (fun z => ha (by rw [← z]; exact List.mem_of_getElem? h1)) (fun _ z => by cases z) h2, paired_mono (fun v z q => ImV.keepN hb k q) h3⟩⟩
theorem tabs_keep {b : Addr} {H H' : Hp} {TS : List (Addr × Str)} (hb : BagAt H b) (k : Keep [b] H H') (h : Tabs TS H) : Tabs TS H' := fun p hp => by
  obtain ⟨x, y, hb⟩ := hb
  obtain ⟨ps, e1, e2, e3⟩ := h p hp
  refine ⟨ps, k.at (fun z => ?_) e1, e2, fun pos cv z => ?_⟩
  · rw [List.mem_singleton.mp z, hb] at e1
    cases e1
  · obtain ⟨c, e, hc⟩ := e3 pos cv z
    refine ⟨c, e, k.at (fun z => ?_) hc⟩
    rw [List.mem_singleton.mp z, hb] at hc
    have hc2 : HO.lst [V.int x, .int y] = HO.ext _ := Option.some.inj hc
    cases hc2
def spRight (K : PySem.W.Frag) (TS : List (Addr × Str)) : Sp := fun vs H Q _ => ∃ b, vs = [.ref b] ∧ BagAt H b ∧ Tabs TS H ∧ ∀ H', KeepN b H H' → BagAt H' b → Tabs TS H' → Q (.bl true) H'
section
variable {P : Program} {w : World} {K : PySem.W.Frag} {mg : Str → Option Value} {base : Heap}
def N_l_right : List Str := ["_law_bag_here", "_law_lists", "_law_heap_here", "_law_due", "_law_steps", "_law_turn", "_law_x", "_law_y", "_law_handed", "_law_made", "_law_spot", "_law_strange_here", "_law_pair", "_law_odd", "_law_some", "_law_later"]
theorem sc_l_right : FnScope N_l_right ["_law_bag_here"] (defScope s_l_right) := ⟨rfl, rfl, rfl, by decide +kernel, rfl, by decide +kernel, by decide +kernel⟩
theorem ok_l_right (T : Txt K mg) (TB : TabB base mg T.c_l_right T.p_l_right) : FnGd P w K mg base CX0 20 T.f_l_right (spRight K [(T.p_l_right, lamQ)]) := by
  obtain ⟨noc, nod, nkV, ndc, npm, nan, ncd, nct, nsl, nfd, nlk, nhcd⟩ := T.F_l_no_box.ex
  have nb := T.F_l_no_box.binds (ps := ["_law_call", "_law_thing"]) fun _ _ _ _ _ _ us hl => match us, hl with | [_, _], _ => rfl
  rw [nfd] at nlk nb
  refine okGdC T.L_l_right T.F_l_right.kp sc_l_right (fun vs H Q E h => ?_) (fun fd F => F.binds fun _ _ _ _ _ _ us hl => match us, hl with | [_], _ => rfl) (fun A outer s H vs Q E hg hr h => ?_)
  · obtain ⟨b, rfl, _⟩ := h
    rfl
  · refine ⟨_, (pss_cons (ps_set (i := 1) sc_l_right.nd rfl (Or.inr rfl) (pe_callR (ok_l_ringed T) (hr.mono (by decide)) rfl T.g_l_ringed T.F_l_ringed.kp pass0 (pa_cons (pv 0) (pa_cons pe_int pa_nil))))
  (pss_cons (ps_asg (pe_tup (pa_cons (pe_callR (ok_l_heap T) (hr.mono (by decide)) rfl T.g_l_heap T.F_l_heap.kp pass0 (pa_cons (pv 1) pa_nil)) (pa_cons (pv 1) pa_nil))) (pg_tup rfl (pgs_cons (pg_name (i := 2) sc_l_right.nd rfl (Or.inr rfl)) (pgs_cons (pg_name (i := 3) sc_l_right.nd rfl (Or.inl rfl)) pgs_nil))))
  (pss_cons (ps_setLc (i := 4) (own := [("_law_turn", 5)]) (g := (gName 5)) (tt := tYes) rfl sc_l_right.nd rfl rfl (sw_true rfl rfl rfl (by decide +kernel)) (pi_range1 (by rfl) T.n_range (pa_cons (pe_callR (ok_l_take T) (hr.mono (by decide)) rfl T.g_l_take T.F_l_take.kp pass0 (pa_cons (pv 0) (pa_cons pe_int pa_nil))) pa_nil)) (blkOk_by (N := N_l_right) (sc := defScope s_l_right) (by decide +kernel)) (fun _ _ _ _ _ => (pg_name (i := 5) sc_l_right.nd rfl (Or.inl rfl))) (fun _ _ _ _ _ => pts_nil) (fun _ _ _ _ _ => (pe_tup (pa_cons (pe_callR (ok_l_take T) (hr.mono (by decide)) rfl T.g_l_take T.F_l_take.kp pass0 (pa_cons (pv 0) (pa_cons (pe_callB (lenK (K := K)) (by rfl) T.n_len (by decide +kernel) (pa_cons (pv 1) pa_nil)) pa_nil))) (pa_cons (pe_callR (ok_l_take T) (hr.mono (by decide)) rfl T.g_l_take T.F_l_take.kp pass0 (pa_cons (pv 0) (pa_cons (pe_callB (lenK (K := K)) (by rfl) T.n_len (by decide +kernel) (pa_cons (pv 1) pa_nil)) pa_nil))) pa_nil)))))
  (pss_cons (ps_for PassesOwn.never rfl (pi_list (pv 4)) (pg_tup rfl (pgs_cons (pg_name (i := 6) sc_l_right.nd rfl (Or.inl rfl)) (pgs_cons (pg_name (i := 7) sc_l_right.nd rfl (Or.inl rfl)) pgs_nil)))
  (pss_one (ps_set (i := 3) sc_l_right.nd rfl (Or.inl rfl) (pe_callR (ok_l_into T) (hr.mono (by decide)) rfl T.g_l_into T.F_l_into.kp pass0 (pa_cons (pv 3) (pa_cons (pv 6) (pa_cons (pv 7) pa_nil)))))))
  (pss_cons (ps_set (i := 8) sc_l_right.nd rfl (Or.inl rfl) (pe_callTy call_list_of (by rfl) T.n_list (by decide +kernel) (pa_cons (pv 4) pa_nil)))
  (pss_cons (ps_set (i := 9) sc_l_right.nd rfl (Or.inl rfl) (pe_callR (ok_after_joins T) (hr.mono (by decide)) rfl T.g_after_joins T.F_after_joins.kp passL (pa_cons (pv 2) (pa_cons (pv 8) pa_nil))))
  (pss_cons (ps_if (PW.pt (pw_or (pt_cmpR op_ne (pe_callB (call_reprD hg hr) (by rfl) T.n_repr (by decide +kernel) (pa_cons (pe_methR0 (pv 9) T.cl T.m_contents (ok_contents T) (hr.mono (by decide)) pass0) pa_nil)) (pe_callB (call_reprD hg hr) (by rfl) T.n_repr (by decide +kernel) (pa_cons (pv 3) pa_nil)) (nomark _)) (pw_or (pt_cmpR (op_neD hr.units) (pv 8) (pv 4) (nomark _)) (pw_or1 (pt_cmpR (op_neD hr.units) (pe_methR0 (pv 2) T.cl T.m_contents (ok_contents T) (hr.mono (by decide)) pass0) (pv 1) (nomark _)))))) (pss_one (ps_ret pe_bl)) pss_nil)
  (pss_cons (ps_par (i := 10) (j := 11) (by rfl) sc_l_right.nd rfl rfl (by decide) rfl rfl (pa_cons (pe_callR (ok_l_take T) (hr.mono (by decide)) rfl T.g_l_take T.F_l_take.kp pass0 (pa_cons (pv 0) (pa_cons (pe_op op_add (pe_callB call_len (by rfl) T.n_len (by decide +kernel) (pa_cons (pv 4) pa_nil)) pe_int) pa_nil))) (pa_cons (pe_callR (ok_l_strange T) (hr.mono (by decide)) rfl T.g_l_strange T.F_l_strange.kp pass0 (pa_cons (pv 0) (pa_cons (pe_callB call_len (by rfl) T.n_len (by decide +kernel) (pa_cons (pv 1) pa_nil)) pa_nil))) pa_nil)) (by rfl))
  (pss_cons (ps_set (i := 12) sc_l_right.nd rfl (Or.inl rfl) (pe_ix ix_list (pe_lst (pa_cons (pe_tup (pa_cons pe_int (pa_cons (pv 11) pa_nil))) (pa_cons (pe_tup (pa_cons (pv 11) (pa_cons pe_int pa_nil))) (pa_cons (pe_tup (pa_cons (pv 11) (pa_cons pe_str pa_nil))) pa_nil)))) (pe_callR (ok_l_take T) (hr.mono (by decide)) rfl T.g_l_take T.F_l_take.kp pass0 (pa_cons (pv 0) (pa_cons pe_int pa_nil))) (fun _ _ => rfl)))
  (pss_cons (ps_set (i := 13) sc_l_right.nd rfl (Or.inr rfl) (pe_op op_cat (pe_slice sl_list (pv 4) po_none (po_some (pe_callB (call_min2 rfl) (by rfl) T.n_min (by decide +kernel) (pa_cons (pv 10) (pa_cons pe_int pa_nil))))) (pe_lst (pa_cons (pv 12) (pa_cons (pe_tup (pa_cons (pe_un un_neg pe_int) (pa_cons pe_int pa_nil))) pa_nil)))))
  (pss_cons (ps_for PassesOwn.never rfl (pi_tup (pe_tup (pa_cons (pe_lst pa_nil) (pa_cons (pe_lst (pa_cons (pe_tup (pa_cons pe_int (pa_cons pe_int pa_nil))) pa_nil)) (pa_cons (pv 4) pa_nil))))) (pg_name (i := 14) sc_l_right.nd rfl (Or.inl rfl))
  (pss_cons (ps_set (i := 15) sc_l_right.nd rfl (Or.inl rfl) (pe_callR (ok_after_joins T) (hr.mono (by decide)) rfl T.g_after_joins T.F_after_joins.kp passL (pa_cons (pv 2) (pa_cons (pv 14) pa_nil))))
  (pss_cons (ps_expr (pe_methR (pv 15) T.cl T.m_add_last (ok_add_last T) (hr.mono (by decide)) pass0 (pa_cons pe_int (pa_cons pe_int pa_nil))))
  (pss_cons (ps_expr (pe_methR (pv 15) T.cl T.m_new (ok_new T) (hr.mono (by decide)) pass0 (pa_cons pe_int pa_nil)))
  (pss_cons (ps_expr (pe_methR (pv 15) T.cl T.m_swap (ok_swap T) (hr.mono (by decide)) pass0 (pa_cons pe_int (pa_cons (pe_op op_sub (pe_callB call_len (by rfl) T.n_len (by decide +kernel) (pa_cons (pv 1) pa_nil)) pe_int) pa_nil))))
  (pss_one (ps_if (pt_cmpR (op_neD hr.units) (pe_methR0 (pv 2) T.cl T.m_contents (ok_contents T) (hr.mono (by decide)) pass0) (pv 1) (nomark _)) (pss_one (ps_ret pe_bl)) pss_nil)))))))
  (pss_one (ps_ret (pe_and (pe_lamcall2 (T := [(T.p_l_right, lamQ)]) (TT := TTnb K T.C_NoBox) (k := 9) (j := 11) (t := fun E => tCallR (spAfter K T.C T.C_NoBox) E (tCons (tVar 2) (tCons (tVar 13) tNil))) rfl T.g_l_no_box T.F_l_no_box.kp nlk nhcd nb sc_l_no_box rfl (.inl rfl)
        (nobox_gives (X := (cxOf CX0 P w K mg base N_l_right "_law_right" (defScope s_l_right) T.f_l_right (.ref T.c_l_right) A outer s H E).nox) T hg (fun env => (hr.deeper env).units) T.f_l_no_box ncd _) TB rfl (List.mem_singleton.mpr rfl) (fun p hp _ => by rw [List.mem_singleton.mp hp]; rfl) (hr.mono (by decide)) (show LamS (defScope s_l_right) _ from lamS_by (by decide +kernel)) rfl (fun _ _ _ _ _ => rfl)
        (fun A outer s H E f c' hr2 => pe_callR (ok_after_joins T) (hr2.mono (by decide)) rfl T.g_after_joins T.F_after_joins.kp (passes_call (takes_of rfl rfl rfl rfl) fun _ _ _ _ h => h) (pa_cons (pe_var (i := 2) rfl (.inr (.inr rfl))) (pa_cons (pe_var (i := 13) rfl (.inr (.inr rfl))) pa_nil))) rfl (.inl rfl)) (pe_one (pe_cmpR (op_eqG (rcG_ins (ok_eq T) T.m_eq.at_ T.m_eq.fn (T.F_eq.binds fun _ _ _ _ _ _ us hl => match us, hl with | [_, _], _ => rfl) pass0) (hr.mono (by decide))) (pe_callR (ok_after_joins T) (hr.mono (by decide)) rfl T.g_after_joins T.F_after_joins.kp passL (pa_cons (pv 2) (pa_cons (pe_lst pa_nil) pa_nil))) (pv 2) (nomark _))))))))))))))))), ?_⟩
    obtain ⟨b, rfl, hb, hT, q⟩ := h
    have hbn := bag_ne hb
    refine ⟨_, rfl, b, rfl, hb, fun v c H1 k1 hb1 hcf hc0 hc10 hro => ?_⟩
    have hbn1 := bag_ne hb1
    have cv1 : ContV [b] H1 v c := hcf.cont (S := [b]) fun x hx => by rw [List.mem_singleton.mp hx]; exact hbn
    have hok := conOk_of hro (by omega)
    have hokC : okCont c := ⟨hok.len, hok.tot, fun r hr x hx => (hok.ok r hr x hx).1⟩
    have hfine : ∀ r ∈ c, ∀ x ∈ r, fineIm x := fun r hr x hx => (hok.ok r hr x hx).2
    refine ⟨_, rfl, v, c, rfl, cv1.sub (by simp), hokC, fun H2 h l as nh nl nas k2 hat => ⟨_, rfl, (show 2 ≤ sizeLine by decide), fun t nt => ⟨t, _, rfl, .of upd_same, rfl, _, _, rfl, _, _, rfl, rfl, ?_⟩⟩⟩
    have nbh : b ≠ h := fun e => hbn1 (e ▸ nh)
    have nbl : b ≠ l := fun e => hbn1 (e ▸ nl)
    have nba : b ∉ as := fun e => hbn1 (nas b e)
    have kt : Keep [] H2 (upd H2 t (.tup [.ref h, v])) := .new nt
    have z3 : RInv T.C H b h l as v c (upd H2 t (.tup [.ref h, v])) := RInv.new (H' := H2) ⟨k1.trans k2.all, hb1.same k2, hat, cv1.keep k2 (by simp)⟩ kt
    revert z3
    generalize upd H2 t (.tup [.ref h, v]) = H3
    intro z3
    -- the steps
    refine ⟨_, rfl, b, 11, rfl, by decide, by decide, z3.bag, fun r0 H4 hr0 k4 hb4 => ⟨r0, rfl, by omega, by omega, fun s hs0 => lc_it (M := [b]) (Jv := fun H' => BagAt H' b)
      (Rel := fun H' v (p : Nat × Nat) => ∃ t, v = .ref t ∧ H' t = some (.tup [.int p.1, .int p.2])) (Ok := fun _ p => p.1 < c.length ∧ p.2 < c.length) (n := (r0 : Int).toNat)
      (Yx := fun _ _ _ => True) hs0 (fun m hm => by rw [List.mem_singleton.mp hm]; exact bag_ne hb4) (fun H H' e hb => BagAt.of_same (e b (by simp)) hb) hb4 (by omega) it_range.1 it_range.2.1 (fun i H1 y H2 h1 h2 h3 => let z := it_range.2.2 i H1 y H2 h1 h2 h3; ⟨z.1, z.2.1, trivial⟩)
      (fun H1 H2 y z k ⟨t, e, h3⟩ => ⟨t, e, k.tup h3⟩) ?_ gName_mono ?_⟩⟩
    · rintro i x H5 hi k5 hb5 hDn _ Qe hQ
      have z5 := z3.take nbh nbl nba (k4.trans k5) hb5
      refine ⟨rfl, _, rfl, _, rfl, v, c.length, rfl, ContV.lenV z5.cv, b, c.length, rfl, hc0, by omega, hb5, fun x1 H6 hx1 k6 hb6 => ?_⟩
      have z6 := z5.take nbh nbl nba k6 hb6
      refine ⟨_, rfl, _, rfl, v, c.length, rfl, ContV.lenV z6.cv, b, c.length, rfl, hc0, by omega, hb6, fun y1 H7 hy1 k7 hb7 => ⟨(show 2 ≤ sizeLine by decide), fun u nu => ?_⟩⟩
      exact hQ _ (x1, y1) _ ((k6.trans k7).trans (Keep.new nu)) (hb7.same (.new nu)) ⟨hx1, hy1⟩ ⟨u, rfl, upd_same⟩
    · intro acc ps H5 k5 hb5 hA hP hL hO
      obtain ⟨ts, ets, hts⟩ := refs_of hP
      rw [ets] at hA
      have z5 := z3.take nbh nbl nba (k4.trans k5) hb5
      have hpl : ps.length ≤ 10 := by rw [hL]; omega
      have hps : ∀ p ∈ ps, p.1 < c.length ∧ p.2 < c.length := fun p hp => let ⟨i, h1⟩ := List.getElem?_of_mem hp; hO i p h1
      have htl : ts.length = ps.length := hts.length
      -- the contents that are due
      refine ⟨_, rfl, s, rfl, ⟨_, .of hA⟩, for_list (K := K) (a := s) (xs := ts.map V.ref) (fun i σ H' => ∃ v3 v6 v7, σ = [some (.ref b), some v, some (.ref h), some v3, some (.ref s), none, v6, v7, none, none, none, none, none, none, none, none] ∧ Keep [] H5 H' ∧ ContV [] H' v3 (joinC c (ps.take i)))
        ⟨v, none, none, rfl, .refl, z5.cv.sub (by simp)⟩ (fun i σ H' _ ⟨_, _, _, _, k, _⟩ => .of (k.same _ _ hA)) ?_ ?_⟩
      · rintro i y σ H6 hy ⟨v3, v6, v7, rfl, k6, cv3⟩
        rw [List.getElem?_map] at hy
        cases ht : ts[i]? with
        | none => rw [ht] at hy; cases hy
        | some t =>
          rw [ht] at hy
          cases hy
          obtain ⟨p, hp, htup⟩ := paired_getV hts ht
          obtain ⟨hil, hie⟩ := List.getElem?_eq_some_iff.mp hp
          obtain ⟨hco, hcl⟩ := hok.join (n := c.length) rfl (ps := ps.take i) fun q hq => hps q (List.mem_of_mem_take hq)
          refine ⟨t, _, rfl, .of (k6.same _ _ htup), rfl, _, _, rfl, _, _, rfl, rfl, _, rfl, _, rfl, _, rfl, v3, _, p.1, p.2, rfl, cv3, fun r hr z hz => (hco.ok r hr z hz).2, by have := hco.len; omega, fun r hr => hco.row hr, fun H7 w k7 hcf7 => ?_⟩
          refine ⟨w, _, _, rfl, k6.trans k7, ?_⟩
          rw [List.take_succ_eq_append_getElem hil, joinC_snoc, hie]
          exact hcf7.cont (by simp)
      · rintro σ H6 ⟨v3, v6, v7, rfl, k6, cv3⟩
        rw [List.length_map, htl, List.take_length] at cv3
        have z6 := z5.new k6
        have hA6 := k6.same _ _ hA
        have hts6 : Paired (fun t (p : Nat × Nat) => H6 t = some (.tup [.int p.1, .int p.2])) ts ps := paired_mono (fun _ _ h => k6.same _ _ h) hts
        obtain ⟨hco, hcl⟩ := hok.join (n := c.length) rfl hps
        -- handed, made
        refine ⟨_, rfl, _, _, rfl, .inl (.of hA6), fun hd nhd => ?_⟩
        have k7 : Keep [] H6 (upd H6 hd (.lst (ts.map V.ref))) := .new nhd
        have hhd : upd H6 hd (.lst (ts.map V.ref)) hd = some (.lst (ts.map V.ref)) := upd_same
        revert k7 hhd
        generalize upd H6 hd (.lst (ts.map V.ref)) = H7
        intro k7 hhd
        have z7 := z6.new k7
        have hts7 : Paired (fun t (p : Nat × Nat) => H7 t = some (.tup [.int p.1, .int p.2])) ts ps := paired_mono (fun _ _ h => k7.same _ _ h) hts6
        refine ⟨_, rfl, _, rfl, h, l, as, c, hd, ts, ps, rfl, z7.hat, hok, hhd, hps, .inl ⟨pairs_map hts7, fun H8 h8 l8 as8 k8 n1 n2 n3 hat8 => ?_⟩⟩
        have z8 := z7.new k8
        have hA8 := k8.same _ _ (k7.same _ _ hA6)
        have hhd8 := k8.same _ _ hhd
        have hts8 : Paired (fun t (p : Nat × Nat) => H8 t = some (.tup [.int p.1, .int p.2])) ts ps := paired_mono (fun _ _ h => k8.same _ _ h) hts7
        have cv38 := (cv3.keep k7 (by simp)).keep k8 (by simp)
        obtain ⟨dx8, hi8⟩ := hat8.ins
        -- made.contents() against what is due
        refine ⟨_, rfl, h8, dx8, _, rfl, hi8, rfl, h8, l8, as8, _, rfl, hat8, by have := hco.len; omega, fun H9 v9 k9 hcf9 => ?_⟩
        have cv9 : ContV [] H9 v9 (joinC c ps) := hcf9.cont (by simp)
        have cv39 := cv38.keep k9 (by simp)
        have z9 := z8.new k9
        have rpJ : Rp (contD (joinC c ps)) 100000 3 := rp_cont (fun r hr x hx => (hco.ok r hr x hx).2) hco.tot (by have := hco.len; omega)
        obtain ⟨f1, f2, f3, f4⟩ := rpJ.fits (by decide) (by decide)
        have c1 := cv9
        have c2 := cv3
        obtain ⟨a9, _, rfl, _⟩ := c1
        obtain ⟨a3, _, rfl, _⟩ := c2
        refine ⟨a9, _, rfl, cv9.dp, f1, f2, f3, f4, _, rfl, a3, _, rfl, cv39.dp, f1, f2, f3, f4, rfl, _, rfl, ite2 (fun t => (ne_same _ t).elim) fun _ => ?_⟩
        have hA9 := k9.same _ _ hA8
        have hhd9 := k9.same _ _ hhd8
        have hts9 : Paired (fun t (p : Nat × Nat) => H9 t = some (.tup [.int p.1, .int p.2])) ts ps := paired_mono (fun _ _ h => k9.same _ _ h) hts8
        refine ⟨_, rfl, _, rfl, psD ps, psD ps, psD_dp hhd9 hts9, psD_dp hA9 hts9, psD_shaped ps, psD_shaped ps, _, rfl, ite2 (fun t => by rw [SeqAt.eqv_refl _ (psD_lay ps)] at t; cases t) fun _ => ?_⟩
        obtain ⟨dx9, hi9⟩ := z9.hat.ins
        refine ⟨_, rfl, h, dx9, _, rfl, hi9, rfl, h, l, as, c, rfl, z9.hat, by omega, fun H10 v10 k10 hcf10 => ?_⟩
        have cv10 : ContV [] H10 v10 c := hcf10.cont (by simp)
        have z10 := z9.new k10
        refine ⟨_, rfl, contD c, contD c, cv10.dp, z10.cv.dp, cont_shaped hfine, cont_shaped hfine, _, rfl, ite2 (fun t => by rw [SeqAt.eqv_refl _ (cont_lay hfine)] at t; cases t) fun _ => ?_⟩
        have hA10 := k10.same _ _ hA9
        have hts10 : Paired (fun t (p : Nat × Nat) => H10 t = some (.tup [.int p.1, .int p.2])) ts ps := paired_mono (fun _ _ h => k10.same _ _ h) hts9
        -- a spot, a strange thing
        refine ⟨_, rfl, _, rfl, _, _, rfl, .inl ⟨_, .of hA10, rfl⟩, _, _, rfl, rfl, b, (ts.map V.ref).length + 1, rfl, by omega, by rw [List.length_map]; omega, z10.bag, fun spot H11 hsp k11 hb11 => ?_⟩
        have z11 := z10.take nbh nbl nba k11 hb11
        refine ⟨_, rfl, _, rfl, v, c.length, rfl, ContV.lenV z11.cv, b, c.length, rfl, hc0, by omega, hb11, fun sv H12 k12 hb12 hout hsh => ⟨_, _, rfl, ?_⟩⟩
        have z12 := z11.take nbh nbl nba k12 hb12
        have nsb : s ∉ [b] := fun e => by
          have hx := hb4
          obtain ⟨x, y, hx⟩ := hx
          rw [List.mem_singleton.mp e, hx] at hs0
          cases hs0
        have hA12 := k12.at nsb (k11.at nsb hA10)
        have hts12 : Paired (fun t (p : Nat × Nat) => H12 t = some (.tup [.int p.1, .int p.2])) ts ps := paired_mono (fun _ _ h => k12.tup (k11.tup h)) hts10
        -- the pair that is none
        refine ⟨_, rfl, (show 2 ≤ sizeLine by decide), fun t1 n1 => ⟨_, rfl, (show 2 ≤ sizeLine by decide), fun t2 n2 => ⟨_, rfl, (show 2 ≤ sizeLine by decide), fun t3 n3 => ⟨(show 3 ≤ sizeLine by decide), fun L nL => ?_⟩⟩⟩⟩
        have e12 : t1 ≠ t2 := fun e => by rw [← e, upd_same] at n2; cases n2
        have e13 : t1 ≠ t3 := fun e => by rw [← e, upd_ne e12, upd_same] at n3; cases n3
        have e23 : t2 ≠ t3 := fun e => by rw [← e, upd_same] at n3; cases n3
        obtain ⟨Hq, eHq⟩ : ∃ Hq, Hq = upd (upd (upd H12 t1 (.tup [.int 0, sv])) t2 (.tup [sv, .int 0])) t3 (.tup [sv, .str "x"]) := ⟨_, rfl⟩
        have g1 : Hq t1 = some (.tup [.int 0, sv]) := by rw [eHq, upd_ne e13, upd_ne e12, upd_same]
        have g2 : Hq t2 = some (.tup [sv, .int 0]) := by rw [eHq, upd_ne e23, upd_same]
        have g3 : Hq t3 = some (.tup [sv, .str "x"]) := by rw [eHq]; exact upd_same
        have kq : Keep [] H12 Hq := by rw [eHq]; exact ((Keep.new n1).trans (.new n2)).trans (.new n3)
        have k13 : Keep [] H12 (upd Hq L (.lst [.ref t1, .ref t2, .ref t3])) := kq.trans (.new (by rw [eHq]; exact nL))
        have kL : Keep [] Hq (upd Hq L (.lst [.ref t1, .ref t2, .ref t3])) := .new (by rw [eHq]; exact nL)
        have hL : upd Hq L (.lst [.ref t1, .ref t2, .ref t3]) L = some (.lst [.ref t1, .ref t2, .ref t3]) := upd_same
        have g1' := kL.same _ _ g1
        have g2' := kL.same _ _ g2
        have g3' := kL.same _ _ g3
        have hub : ∃ ub, H12 b = some ub := by
          obtain ⟨x, y, h⟩ := hb12
          exact ⟨_, h⟩
        obtain ⟨ub, hub⟩ := hub
        have nLb : L ∉ [b] := fun e => by
          have h2 := kq.same _ _ hub
          rw [eHq] at h2
          rw [List.mem_singleton.mp e, h2] at nL
          cases nL
        rw [← eHq]
        revert k13 hL g1' g2' g3'
        generalize upd Hq L (.lst [.ref t1, .ref t2, .ref t3]) = H13
        intro k13 hL g1' g2' g3'
        have z13 := z12.new k13
        refine ⟨_, rfl, b, 3, rfl, by decide, by decide, z13.bag, fun r H14 hr14 k14 hb14 => ?_⟩
        have z14 := z13.take nbh nbl nba k14 hb14
        have hL14 := k14.at nLb hL
        obtain ⟨tp, u, w, hpick, htp, hbad⟩ : ∃ (tp : Addr) (u w : V), ([V.ref t1, .ref t2, .ref t3])[r]? = some (.ref tp) ∧ H14 tp = some (.tup [u, w]) ∧ (sv = u ∨ (u = .int 0 ∧ sv = w)) := by
          match r, hr14 with
          | 0, _ => exact ⟨t1, _, _, rfl, k14.tup g1', .inr ⟨rfl, rfl⟩⟩
          | 1, _ => exact ⟨t2, _, _, rfl, k14.tup g2', .inl rfl⟩
          | 2, _ => exact ⟨t3, _, _, rfl, k14.tup g3', .inl rfl⟩
        have hA14 := k14.at nsb (k13.same _ _ hA12)
        have hts14 : Paired (fun t (p : Nat × Nat) => H14 t = some (.tup [.int p.1, .int p.2])) ts ps := paired_mono (fun _ _ h => k14.tup (k13.tup h)) hts12
        refine ⟨L, _, _, V.ref tp, rfl, rfl, .of hL14, atI_nat hpick, ?_⟩
        -- the odd joins
        refine ⟨_, rfl, _, rfl, _, _, rfl, _, rfl, s, _, rfl, .of hA14, fun q1 nq1 => ?_⟩
        rw [cut_take (by split <;> omega)]
        generalize eK : Int.toNat (if (8 : Int) < ((spot : Nat) : Int) then (8 : Int) else ((spot : Nat) : Int)) = n
        refine ⟨_, rfl, _, rfl, (show 2 ≤ sizeLine by decide), fun t7 n7 => ⟨(show 2 ≤ sizeLine by decide), fun q2 nq2 => ?_⟩⟩
        have hq1 : upd H14 q1 (.lst ((ts.map V.ref).take n)) q1 = some (.lst ((ts.map V.ref).take n)) := upd_same
        have k15 : Keep [] H14 (upd H14 q1 (.lst ((ts.map V.ref).take n))) := .new nq1
        have k16 : Keep [] (upd H14 q1 (.lst ((ts.map V.ref).take n))) (upd (upd H14 q1 (.lst ((ts.map V.ref).take n))) t7 (.tup [.int (-7), .int 0])) := .new n7
        have ht7 : upd (upd H14 q1 (.lst ((ts.map V.ref).take n))) t7 (.tup [.int (-7), .int 0]) t7 = some (.tup [.int (-7), .int 0]) := upd_same
        have k17 : Keep [] (upd (upd H14 q1 (.lst ((ts.map V.ref).take n))) t7 (.tup [.int (-7), .int 0])) (upd (upd (upd H14 q1 (.lst ((ts.map V.ref).take n))) t7 (.tup [.int (-7), .int 0])) q2 (.lst [.ref tp, .ref t7])) := .new nq2
        have hq17 := k17.same _ _ (k16.same _ _ hq1)
        refine ⟨q1, q2, _, _, rfl, rfl, hq17, upd_same, Nat.le_of_lt (small_of (by simp only [List.length_take, List.length_map, List.length_cons, List.length_nil]; omega)), fun od nod => ?_⟩
        have k18 : Keep [] H14 (upd (upd (upd (upd H14 q1 (.lst ((ts.map V.ref).take n))) t7 (.tup [.int (-7), .int 0])) q2 (.lst [.ref tp, .ref t7])) od (.lst ((ts.map V.ref).take n ++ [.ref tp, .ref t7]))) := ((k15.trans k16).trans k17).trans (.new nod)
        have kod : Keep [] (upd (upd H14 q1 (.lst ((ts.map V.ref).take n))) t7 (.tup [.int (-7), .int 0])) (upd (upd (upd (upd H14 q1 (.lst ((ts.map V.ref).take n))) t7 (.tup [.int (-7), .int 0])) q2 (.lst [.ref tp, .ref t7])) od (.lst ((ts.map V.ref).take n ++ [.ref tp, .ref t7]))) := k17.trans (.new nod)
        have ht18 := kod.same _ _ ht7
        have hod : upd (upd (upd (upd H14 q1 (.lst ((ts.map V.ref).take n))) t7 (.tup [.int (-7), .int 0])) q2 (.lst [.ref tp, .ref t7])) od (.lst ((ts.map V.ref).take n ++ [.ref tp, .ref t7])) od = some (.lst ((ts.map V.ref).take n ++ [.ref tp, .ref t7])) := upd_same
        clear k15 k16 k17 hq17 hq1 ht7 kod
        revert k18 ht18 hod
        generalize upd (upd (upd (upd H14 q1 (.lst ((ts.map V.ref).take n))) t7 (.tup [.int (-7), .int 0])) q2 (.lst [.ref tp, .ref t7])) od (.lst ((ts.map V.ref).take n ++ [.ref tp, .ref t7])) = H18
        intro k18 ht18 hod
        have z18 := z14.new k18
        have hA18 := k18.same _ _ hA14
        have hts18 : Paired (fun t (p : Nat × Nat) => H18 t = some (.tup [.int p.1, .int p.2])) ts ps := paired_mono (fun _ _ h => k18.tup h) hts14
        have htp18 := k18.tup htp
        -- three later heaps
        refine ⟨(show 0 ≤ sizeLine by decide), fun l1 nl1 => ⟨(show 2 ≤ sizeLine by decide), fun tz ntz => ⟨(show 1 ≤ sizeLine by decide), fun l2 nl2 => ⟨_, rfl, (show 3 ≤ sizeLine by decide), fun t4 nt4 => ?_⟩⟩⟩⟩
        have m1 : Keep [] H18 (upd H18 l1 (.lst [])) := .new nl1
        have m2 : Keep [] (upd H18 l1 (.lst [])) (upd (upd H18 l1 (.lst [])) tz (.tup [.int 0, .int 0])) := .new ntz
        have m3 : Keep [] (upd (upd H18 l1 (.lst [])) tz (.tup [.int 0, .int 0])) (upd (upd (upd H18 l1 (.lst [])) tz (.tup [.int 0, .int 0])) l2 (.lst [.ref tz])) := .new nl2
        have m4 : Keep [] (upd (upd (upd H18 l1 (.lst [])) tz (.tup [.int 0, .int 0])) l2 (.lst [.ref tz])) (upd (upd (upd (upd H18 l1 (.lst [])) tz (.tup [.int 0, .int 0])) l2 (.lst [.ref tz])) t4 (.tup [.ref l1, .ref l2, .ref s])) := .new nt4
        have w1 := m4.same _ _ (m3.same _ _ (m2.same _ _ (show upd H18 l1 (.lst []) l1 = some (.lst []) from upd_same)))
        have w2 := m4.same _ _ (m3.same _ _ (show upd (upd H18 l1 (.lst [])) tz (.tup [.int 0, .int 0]) tz = some (.tup [.int 0, .int 0]) from upd_same))
        have w3 := m4.same _ _ (show upd (upd (upd H18 l1 (.lst [])) tz (.tup [.int 0, .int 0])) l2 (.lst [.ref tz]) l2 = some (.lst [.ref tz]) from upd_same)
        have w4 : upd (upd (upd (upd H18 l1 (.lst [])) tz (.tup [.int 0, .int 0])) l2 (.lst [.ref tz])) t4 (.tup [.ref l1, .ref l2, .ref s]) t4 = some (.tup [.ref l1, .ref l2, .ref s]) := upd_same
        have k22 := ((m1.trans m2).trans m3).trans m4
        clear m1 m2 m3 m4
        revert w1 w2 w3 w4 k22
        generalize upd (upd (upd (upd H18 l1 (.lst [])) tz (.tup [.int 0, .int 0])) l2 (.lst [.ref tz])) t4 (.tup [.ref l1, .ref l2, .ref s]) = H22
        intro w1 w2 w3 w4 k22
        have z22 := z18.new k22
        have some_ : ∀ y ∈ [V.ref l1, .ref l2, .ref s], ∃ (ja : Addr) (ts' : List Addr) (ps' : List (Nat × Nat)), y = .ref ja ∧ H22 ja = some (.lst (ts'.map V.ref)) ∧ Paired (fun t (p : Nat × Nat) => H22 t = some (.tup [.int p.1, .int p.2])) ts' ps' ∧ ∀ p ∈ ps', p.1 < c.length ∧ p.2 < c.length := by
          intro y hy
          simp only [List.mem_cons, List.not_mem_nil, or_false] at hy
          rcases hy with rfl | rfl | rfl
          · exact ⟨l1, [], [], rfl, w1, .nil, by simp⟩
          · exact ⟨l2, [tz], [(0, 0)], rfl, w3, .cons w2 .nil, fun p hp => by rw [List.mem_singleton.mp hp]; exact ⟨hc0, hc0⟩⟩
          · exact ⟨s, ts, ps, rfl, k22.same _ _ hA18, paired_mono (fun _ _ h => k22.tup h) hts18, hps⟩
        refine ⟨t4, rfl, ⟨_, .of w4⟩, for_tup (K := K) (a := t4) (xs := [V.ref l1, .ref l2, .ref s]) (fun i σ H' => ∃ v14 v15, σ = [some (.ref b), some v, some (.ref h), some (.ref a3), some (.ref s), none, v6, v7, some (.ref hd), some (.ref h8), some (.int spot), some sv, some (.ref tp), some (.ref od), v14, v15] ∧ Keep [] H22 H')
          ⟨none, none, rfl, .refl⟩ (fun i σ H' _ ⟨_, _, _, k⟩ => .of (k.tup w4)) ?_ ?_⟩
        · rintro i y σ H23 hy ⟨v14, v15, rfl, k23⟩
          obtain ⟨ja, ts', ps', rfl, hja, hts', hps'⟩ := some_ y (List.mem_of_getElem? hy)
          have z23 := z22.new k23
          obtain ⟨hco2, hcl2⟩ := hok.join (n := c.length) rfl hps'
          have htj := joinC_tot ps' c
          have htr := tot_rows hro
          refine ⟨_, rfl, _, rfl, h, l, as, c, ja, ts', ps', rfl, z23.hat, hok, k23.same _ _ hja, hps', .inl ⟨pairs_map (paired_mono (fun _ _ h => k23.tup h) hts'), fun H24 h2 l2 as2 k24 m1 m2 m3 hat2 => ?_⟩⟩
          revert hco2 hcl2 htj hat2
          generalize joinC c ps' = cJ
          intro hco2 hcl2 htj hat2
          obtain ⟨dx2, hi2⟩ := hat2.ins
          have hal2 : as2.length = cJ.length := hat2.len
          obtain ⟨rw0, hr0'⟩ : ∃ r, cJ[0]? = some r := ⟨_, List.getElem?_eq_getElem (by omega)⟩
          obtain ⟨a0, ha0⟩ : ∃ a, as2[0]? = some a := ⟨_, List.getElem?_eq_getElem (by omega)⟩
          refine ⟨_, rfl, h2, dx2, _, rfl, hi2, rfl, h2, l2, as2, cJ, rw0, .int 5, .i 5, a0, 0, rfl, hat2, hr0', ha0, rfl, rfl, by omega, by omega, fun H25 k25 hat25 => ?_⟩
          have tset := total_set cJ 0 rw0 (rw0 ++ [.i 5]) hr0'
          have hl3 : (cJ.set 0 (rw0 ++ [Im.i 5])).length = cJ.length := List.length_set ..
          rw [List.length_append, List.length_singleton] at tset
          obtain ⟨dx3, hi3⟩ := hat25.ins
          have kk25 : Keep [] H23 H25 := k24.also k25 (m3 a0 (List.mem_of_getElem? ha0))
          refine ⟨_, rfl, h2, dx3, _, rfl, hi3, rfl, h2, l2, as2, _, [.int 7], [.i 7], rfl, hat25, .cons rfl .nil, by omega, by rw [List.length_singleton]; omega, fun x hx => by rw [List.mem_singleton.mp hx]; rfl, fun H26 a7 na7 k26 hat26 => ?_⟩
          obtain ⟨dx4, hi4⟩ := hat26.ins
          have kk26 : Keep [] H23 H26 := kk25.also k26 m2
          have z26 := z23.new kk26
          have hl4 : (cJ.set 0 (rw0 ++ [Im.i 5]) ++ [[Im.i 7]]).length = c.length + 1 := by rw [List.length_append, hl3, hcl2]; rfl
          have hal4 : (as2 ++ [a7]).length = c.length + 1 := by rw [hat26.len, hl4]
          obtain ⟨rA, hrA⟩ : ∃ r, (cJ.set 0 (rw0 ++ [Im.i 5]) ++ [[Im.i 7]])[0]? = some r := ⟨_, List.getElem?_eq_getElem (by omega)⟩
          obtain ⟨rB, hrB⟩ : ∃ r, (cJ.set 0 (rw0 ++ [Im.i 5]) ++ [[Im.i 7]])[c.length - 1]? = some r := ⟨_, List.getElem?_eq_getElem (by omega)⟩
          obtain ⟨aA, haA⟩ : ∃ r, (as2 ++ [a7])[0]? = some r := ⟨_, List.getElem?_eq_getElem (by omega)⟩
          obtain ⟨aB, haB⟩ : ∃ r, (as2 ++ [a7])[c.length - 1]? = some r := ⟨_, List.getElem?_eq_getElem (by omega)⟩
          refine ⟨_, rfl, h2, dx4, _, rfl, hi4, rfl, _, rfl, v, c.length, rfl, ContV.lenV z26.cv, _, _, rfl, rfl, h2, l2, as2 ++ [a7], _, rA, rB, aA, aB, 0, c.length - 1, congrArg (fun z : Int => [V.ref h2, .int 0, .int z]) (by omega), hat26, hrA, hrB, haA, haB, fun H27 k27 hat27 => ?_⟩
          have kk27 : Keep [] H23 H27 := kk26.also k27 m2
          have z27 := z23.new kk27
          obtain ⟨dx5, hi5⟩ := z27.hat.ins
          refine ⟨_, rfl, h, dx5, _, rfl, hi5, rfl, h, l, as, c, rfl, z27.hat, by omega, fun H28 v28 k28 hcf28 => ?_⟩
          have cv28 : ContV [] H28 v28 c := hcf28.cont (by simp)
          have z28 := z27.new k28
          exact ⟨_, rfl, contD c, contD c, cv28.dp, z28.cv.dp, cont_shaped hfine, cont_shaped hfine, _, rfl, ite2 (fun t => by rw [SeqAt.eqv_refl _ (cont_lay hfine)] at t; cases t) fun _ => ⟨_, _, rfl, (k23.trans kk27).trans k28⟩⟩
        · rintro σ H23 ⟨v14, v15, rfl, k23⟩
          have z23 := z22.new k23
          have hT23 := tabs_keep hb z23.kp hT
          have k1823 := k22.trans k23
          have kN0 : KeepN b H12 H23 := (KeepN.of (((k13.all (S := [b])).trans k14).trans (k18.trans k1823).all))
          have htp23 := k1823.tup htp18
          have ht723 := k1823.tup ht18
          have hod23 := k1823.same _ _ hod
          have hts23 : Paired (fun t (p : Nat × Nat) => H23 t = some (.tup [.int p.1, .int p.2])) ts ps := paired_mono (fun _ _ h => k1823.tup h) hts18
          have nodb : od ≠ b := fun e => by
            have hx := z23.bag
            obtain ⟨x, y, hx⟩ := hx
            rw [e, hx] at hod23
            have h1 := congrArg List.length (HO.lst.inj (Option.some.inj hod23))
            have h2 : V.int x ∈ (ts.map V.ref).take n ++ [V.ref tp, .ref t7] := by
              rw [← HO.lst.inj (Option.some.inj hod23)]
              simp
            rcases List.mem_append.mp h2 with h2 | h2
            · obtain ⟨_, _, h3⟩ := List.mem_map.mp (List.mem_of_mem_take h2)
              cases h3
            · simp at h2
          refine ⟨sv, rfl, hT23, fun H24 eN T24 E1 Q1 hE => ?_⟩
          have kN : KeepN b H23 H24 := fun a o _ nt e => eN a o e nt
          have hat24 := HeapAt.keepN z23.hat z23.bag kN nbh nbl nba
          have hod24 := kN _ _ nodb (fun _ z => by cases z) hod23
          have hts24 : Paired (fun t (p : Nat × Nat) => H24 t = some (.tup [.int p.1, .int p.2])) (ts.take n) (ps.take n) := paired_take (paired_mono (fun _ _ h => kN.tup z23.bag h) hts23) n
          have htp24 := kN.tup z23.bag htp23
          have ht724 := kN.tup z23.bag ht723
          have hpsn : ∀ p ∈ ps.take n, p.1 < c.length ∧ p.2 < c.length := fun p hp => hps p (List.mem_of_mem_take hp)
          have hent : Paired (fun t (e : V × V) => H24 t = some (.tup [e.1, e.2])) (ts.take n ++ [tp, t7]) ((ps.take n).map pairV ++ (u, w) :: [(.int (-7), .int 0)]) := paired_append (pairs_map hts24) (.cons htp24 (.cons ht724 .nil))
          have hodL : H24 od = some (.lst ((ts.take n ++ [tp, t7]).map V.ref)) := by
            rw [List.map_append, List.map_take]
            exact hod24
          have hb24 : BagAt H24 b := by
            obtain ⟨x, y, hx⟩ := z23.bag
            exact ⟨x, y, eN b _ hx fun _ z => by cases z⟩
          have kN1 := kN0.trans kN
          refine ⟨_, rfl, _, rfl, h, l, as, c, od, _, ps.take n, rfl, hat24, hok, hodL, hpsn, .inr ⟨u, w, sv, _, hent, ?_, fun H25 d k25 hd => hE d H25 hd (hsh.at (kN1.trans (.of k25.all))) fun H26 k26 => ?_⟩⟩
          · rcases hbad with e | ⟨e1, e2⟩
            · exact .inl ⟨fun H' k => by rw [← e]; exact hout H' (kN1.trans (.of k.all)), e⟩
            · exact .inr ⟨⟨0, e1, hc0⟩, fun H' k => by rw [← e2]; exact hout H' (kN1.trans (.of k.all)), e2⟩
          · have k2426 := k25.trans k26
            refine ⟨true, rfl, iteT ?_⟩
            refine ⟨_, rfl, (show 0 ≤ sizeLine by decide), fun e ne => ?_⟩
            have ke : Keep [] H26 (upd H26 e (.lst [])) := .new ne
            have hat27 := (hat24.same k2426).same ke
            refine ⟨h, l, as, c, e, [], [], rfl, hat27, hok, upd_same, by simp, .inl ⟨.nil, fun H28 h2 l2 as2 k28 m1 m2 m3 hat2 => ?_⟩⟩
            have hat28 := hat27.same k28
            obtain ⟨dA, hiA⟩ := hat2.ins
            obtain ⟨dB, hiB⟩ := hat28.ins
            refine ⟨_, rfl, ⟨h2, h, dA, dB, _, _, rfl, rfl, hiA, hiB, l2, as2, l, as, c, hat2, hat28, hfine⟩, fun H29 ext => ?_⟩
            have k2429 : Keep [] H24 H29 := ((k2426.trans ke).trans k28).trans (.of ext)
            exact q H29 (((KeepN.of z23.kp).trans kN).trans (.of k2429.all)) (hb24.same k2429) (T24.ext fun b o e => k2429.same b o e)
end
end K66
namespace K66
open PySem PySem.Spec PyProof.Rows L2 Rg LamX
/-- everything but the tables is kept -/
def KeepT (H H' : Hp) : Prop := ∀ a o, (∀ ps, o ≠ .tbl ps) → H a = some o → H' a = some o
theorem KeepT.refl {H : Hp} : KeepT H H := fun _ _ _ h => h
theorem KeepT.of {H H1 H2 : Hp} (k : KeepT H H1) (x : Keep [] H1 H2) : KeepT H H2 := fun a o n h => x.same a o (k a o n h)
theorem KeepT.drop {b : Addr} {H H1 H2 : Hp} (k : KeepT H H1) (hb : ∀ o, H b = some o → ∃ ps, o = .tbl ps) (x : KeepN b H1 H2) : KeepT H H2 := fun a o n h => x a o (fun e => by rw [e] at h; obtain ⟨ps, z⟩ := hb _ h; exact n _ z) n (k a o n h)
theorem tabs_keep0 {H H' : Hp} {TS : List (Addr × Str)} (k : Keep [] H H') (h : Tabs TS H) : Tabs TS H' := fun p hp => by
  obtain ⟨ps, e1, e2, e3⟩ := h p hp
  refine ⟨ps, k.same _ _ e1, e2, fun pos cv z => ?_⟩
  obtain ⟨c, e, hc⟩ := e3 pos cv z
  exact ⟨c, e, k.same _ _ hc⟩
def spLaw (K : PySem.W.Frag) (cs : List (Addr × Addr)) : Sp := fun vs H Q _ => ∃ (a : Addr) (ns : List Int), vs = [.ref a] ∧ SqL K H a (ns.map V.int) ∧ ns.length ≤ 63 ∧ (∀ p ∈ cs, H p.2 = some (.tbl #[])) ∧ ∀ H', Q (.bl true) H'
section
variable {P : Program} {w : World} {K : PySem.W.Frag} {mg : Str → Option Value} {base : Heap}
theorem sqL_T {H H' : Hp} {a : Addr} {xs : List V} (k : KeepT H H') (h : SqL K H a xs) : SqL K H' a xs := by
  rcases h with h | h
  · refine .inl ?_
    rcases h with h | ⟨g, h⟩
    · exact .inl (k _ _ (fun _ z => by cases z) h)
    · exact .inr ⟨g, k _ _ (fun _ z => by cases z) h⟩
  · exact .inr (by simpa using h)
def N_law : List Str := ["_law_script", "_law_k", "_law_bag_here", "_law_turn"]
theorem sc_law : FnScope N_law ["_law_script"] (defScope s_law) := ⟨rfl, rfl, rfl, by decide +kernel, rfl, by decide +kernel, by decide +kernel⟩
theorem ok_law (T : Txt K mg) (TB : ∀ p ∈ [(T.c_l_right, T.p_l_right)], TabB base mg p.1 p.2) : FnGd P w K mg base CX0 60 T.f_law (spLaw K [(T.c_l_right, T.p_l_right)]) := by
  refine okGd T.F_law sc_law (fun vs H Q E h => ?_) (T.F_law.binds fun _ _ _ _ _ _ us hl => match us, hl with | [_], _ => rfl) (fun cdv A outer s H vs Q E hg hr h => ?_)
  · obtain ⟨a, ns, rfl, _⟩ := h
    rfl
  · refine ⟨_, (pss_cons (ps_for PassesOwn.never rfl (pi_range1 (by rfl) T.n_range (pa_cons (pe_callB (call_max2 rfl) (by rfl) T.n_max (by decide +kernel) (pa_cons pe_int (pa_cons (pe_callB (call_min2 rfl) (by rfl) T.n_min (by decide +kernel) (pa_cons pe_int (pa_cons (pe_callB call_len (by rfl) T.n_len (by decide +kernel) (pa_cons (pv 0) pa_nil)) pa_nil))) pa_nil))) pa_nil)) (pg_name (i := 1) sc_law.nd rfl (Or.inl rfl))
  (pss_cons (ps_set (i := 2) sc_law.nd rfl (Or.inl rfl) (pe_callR (ok_l_bag T) (hr.mono (by decide)) rfl T.g_l_bag T.F_l_bag.kp pass0 (pa_cons (pv 0) (pa_cons (pv 1) pa_nil))))
  (pss_one (ps_for PassesOwn.never rfl (pi_range1 (by rfl) T.n_range (pa_cons pe_int pa_nil)) (pg_name (i := 3) sc_law.nd rfl (Or.inl rfl))
  (pss_one (ps_if (pt_not (pt_val (pe_callGd (ok_l_right T (TB _ (List.mem_singleton.mpr rfl))) hg (hr.mono (by decide)) rfl T.g_l_right T.F_l_right.kp pass0 (pa_cons (pv 2) pa_nil)))) (pss_one (ps_ret pe_bl)) pss_nil))))))
  (pss_one (ps_ret pe_bl))), ?_⟩
    obtain ⟨a, ns, rfl, hs, hns, hT, q⟩ := h
    have hM : ∀ x : Int, 0 ≤ x → x ≤ 63 → ∃ j : Nat, (if (if x < 4 then x else 4) > 2 then (if x < 4 then x else 4) else 2) = (j : Int) ∧ j ≤ 6 := fun x h1 h2 => by
      refine ⟨((if (if x < 4 then x else 4) > 2 then (if x < 4 then x else 4) else 2) : Int).toNat, ?_, ?_⟩ <;> split <;> split <;> omega
    obtain ⟨j, ej, hj⟩ := hM ((ns.map V.int).length : Nat) (by omega) (by rw [List.length_map]; omega)
    have tb0 : Tabs [(T.p_l_right, lamQ)] H := fun p hp => by
      rw [List.mem_singleton.mp hp]
      exact TabS.nil (hT _ (List.mem_singleton.mpr rfl))
    refine ⟨_, rfl, _, _, rfl, .inl ⟨_, hs, rfl⟩, _, _, rfl, _, _, rfl, j, congrArg (fun z : Int => [V.int z]) ej, by omega, by omega, for_range (lo := 0) (n := (j : Int).toNat) (fun i σ H' => ∃ v1 v2 v3, σ = [some (.ref a), v1, v2, v3] ∧ KeepT H H' ∧ Tabs [(T.p_l_right, lamQ)] H')
      ⟨none, none, none, rfl, .refl, tb0⟩ ?_ ?_⟩
    · rintro i σ H1 hi ⟨v1, v2, v3, rfl, k1, tb1⟩
      have e0 : (0 : Int) + (i : Nat) = (i : Nat) := by omega
      rw [e0]
      refine ⟨_, rfl, _, rfl, a, ns, i, rfl, sqL_T k1 hs, by omega, fun H2 b nb k2 hb2 => ?_⟩
      have k12 := k1.of k2
      have tb2 : Tabs [(T.p_l_right, lamQ)] H2 := tabs_keep0 k2 tb1
      have hb0 : ∀ o, H b = some o → ∃ ps, o = .tbl ps := fun o ho => by
        cases o with
        | tbl ps => exact ⟨ps, rfl⟩
        | _ => 
          have := k1 _ _ (fun _ z => by cases z) ho
          rw [nb] at this; cases this
      refine ⟨6, rfl, by decide, by decide, for_range (lo := 0) (n := (6 : Int).toNat) (fun t σ H' => ∃ v3, σ = [some (.ref a), some (.int (i : Nat)), some (.ref b), v3] ∧ KeepT H H' ∧ BagAt H' b ∧ Tabs [(T.p_l_right, lamQ)] H')
        ⟨v3, rfl, k12, hb2, tb2⟩ ?_ ?_⟩
      · rintro t σ H3 ht ⟨v3, rfl, k3, hb3, tb3⟩
        refine ⟨_, rfl, b, rfl, hb3, tb3, fun H4 k4 hb4 tb4 => ?_⟩
        exact ⟨_, rfl, _, rfl, k3.drop hb0 k4, hb4, tb4⟩
      · rintro σ H3 ⟨v3, rfl, k3, hb3, tb3⟩
        exact ⟨_, _, _, rfl, k3, tb3⟩
    · rintro σ H1 ⟨v1, v2, v3, rfl, k1, tb1⟩
      exact q _
theorem law_start (K : PySem.W.Frag) (cs : List (Addr × Addr)) (H : Hp) (a : Addr) (ns : List Int) (hl : ns.length ≤ 63) (hT : ∀ p ∈ cs, H p.2 = some (.tbl #[])) (hS : SqL K H a (ns.map V.int)) : spLaw K cs [.ref a] H (fun v _ => v = .bl true) fun _ _ _ => False := ⟨a, ns, rfl, hS, hl, hT, fun _ => rfl⟩
end
end K66
namespace K66
open PySem PySem.Spec PyProof.Rows L2 Rg
theorem end_mk {P : Program} {w : World} {K : PySem.W.Frag} {h : Heap} {mg : Str → Option Value} {fa : Addr} (X : K.In h) (G : h.Ns mainGlobals mg) (hfa : mg "law" = some (.ref fa))
    {f_is_integer : Addr} {od_is_integer an_is_integer : Option Addr} {sl_is_integer : Array (Option Value)} {oc_is_integer kV_is_integer dc_is_integer pm_is_integer cd_is_integer ct_is_integer : Value}
    {f_is_within : Addr} {od_is_within an_is_within : Option Addr} {sl_is_within : Array (Option Value)} {oc_is_within kV_is_within dc_is_within pm_is_within cd_is_within ct_is_within : Value}
    {f_is_word : Addr} {od_is_word an_is_word : Option Addr} {sl_is_word : Array (Option Value)} {oc_is_word kV_is_word dc_is_word pm_is_word cd_is_word ct_is_word : Value}
    {f_is_leaf : Addr} {od_is_leaf an_is_leaf : Option Addr} {sl_is_leaf : Array (Option Value)} {oc_is_leaf kV_is_leaf dc_is_leaf pm_is_leaf cd_is_leaf ct_is_leaf : Value}
    {f_is_reference : Addr} {od_is_reference an_is_reference : Option Addr} {sl_is_reference : Array (Option Value)} {oc_is_reference kV_is_reference dc_is_reference pm_is_reference cd_is_reference ct_is_reference : Value}
    {f_is_item : Addr} {od_is_item an_is_item : Option Addr} {sl_is_item : Array (Option Value)} {oc_is_item kV_is_item dc_is_item pm_is_item cd_is_item ct_is_item : Value}
    {f_renamed : Addr} {od_renamed an_renamed : Option Addr} {sl_renamed : Array (Option Value)} {oc_renamed kV_renamed dc_renamed pm_renamed cd_renamed ct_renamed : Value}
    {f_after_joins : Addr} {od_after_joins an_after_joins : Option Addr} {sl_after_joins : Array (Option Value)} {oc_after_joins kV_after_joins dc_after_joins pm_after_joins cd_after_joins ct_after_joins : Value}
    {f_l_bag : Addr} {od_l_bag an_l_bag : Option Addr} {sl_l_bag : Array (Option Value)} {oc_l_bag kV_l_bag dc_l_bag pm_l_bag cd_l_bag ct_l_bag : Value}
    {f_l_take : Addr} {od_l_take an_l_take : Option Addr} {sl_l_take : Array (Option Value)} {oc_l_take kV_l_take dc_l_take pm_l_take cd_l_take ct_l_take : Value}
    {f_l_leaf : Addr} {od_l_leaf an_l_leaf : Option Addr} {sl_l_leaf : Array (Option Value)} {oc_l_leaf kV_l_leaf dc_l_leaf pm_l_leaf cd_l_leaf ct_l_leaf : Value}
    {f_l_contents : Addr} {od_l_contents an_l_contents : Option Addr} {sl_l_contents : Array (Option Value)} {oc_l_contents kV_l_contents dc_l_contents pm_l_contents cd_l_contents ct_l_contents : Value}
    {f_l_twofold : Addr} {od_l_twofold an_l_twofold : Option Addr} {sl_l_twofold : Array (Option Value)} {oc_l_twofold kV_l_twofold dc_l_twofold pm_l_twofold cd_l_twofold ct_l_twofold : Value}
    {f_l_heap : Addr} {od_l_heap an_l_heap : Option Addr} {sl_l_heap : Array (Option Value)} {oc_l_heap kV_l_heap dc_l_heap pm_l_heap cd_l_heap ct_l_heap : Value}
    {f_l_into : Addr} {od_l_into an_l_into : Option Addr} {sl_l_into : Array (Option Value)} {oc_l_into kV_l_into dc_l_into pm_l_into cd_l_into ct_l_into : Value}
    {f_l_no_box : Addr} {od_l_no_box an_l_no_box : Option Addr} {sl_l_no_box : Array (Option Value)} {oc_l_no_box kV_l_no_box dc_l_no_box pm_l_no_box cd_l_no_box ct_l_no_box : Value}
    {f_l_strange : Addr} {od_l_strange an_l_strange : Option Addr} {sl_l_strange : Array (Option Value)} {oc_l_strange kV_l_strange dc_l_strange pm_l_strange cd_l_strange ct_l_strange : Value}
    {f_l_ringed : Addr} {od_l_ringed an_l_ringed : Option Addr} {sl_l_ringed : Array (Option Value)} {oc_l_ringed kV_l_ringed dc_l_ringed pm_l_ringed cd_l_ringed ct_l_ringed : Value}
    {f_l_right : Addr} {od_l_right an_l_right : Option Addr} {sl_l_right : Array (Option Value)} {oc_l_right kV_l_right dc_l_right pm_l_right ct_l_right : Value}
    {c_l_right p_l_right : Addr}
    {f_law : Addr} {od_law an_law : Option Addr} {sl_law : Array (Option Value)} {oc_law kV_law dc_law pm_law cd_law ct_law : Value}
    {C : Addr}
    {f_init : Addr} {od_init an_init : Option Addr} {sl_init : Array (Option Value)} {oc_init kV_init dc_init pm_init cd_init ct_init : Value}
    {f_of : Addr} {od_of an_of : Option Addr} {sl_of : Array (Option Value)} {oc_of kV_of dc_of pm_of cd_of ct_of : Value}
    {p_of : Addr} {rest_of : List Value}
    {f_eq : Addr} {od_eq an_eq : Option Addr} {sl_eq : Array (Option Value)} {oc_eq kV_eq dc_eq pm_eq cd_eq ct_eq : Value}
    {f_len : Addr} {od_len an_len : Option Addr} {sl_len : Array (Option Value)} {oc_len kV_len dc_len pm_len cd_len ct_len : Value}
    {f_contains : Addr} {od_contains an_contains : Option Addr} {sl_contains : Array (Option Value)} {oc_contains kV_contains dc_contains pm_contains cd_contains ct_contains : Value}
    {f_need_box : Addr} {od_need_box an_need_box : Option Addr} {sl_need_box : Array (Option Value)} {oc_need_box kV_need_box dc_need_box pm_need_box cd_need_box ct_need_box : Value}
    {f_need_place : Addr} {od_need_place an_need_place : Option Addr} {sl_need_place : Array (Option Value)} {oc_need_place kV_need_place dc_need_place pm_need_place cd_need_place ct_need_place : Value}
    {f_need_item : Addr} {od_need_item an_need_item : Option Addr} {sl_need_item : Array (Option Value)} {oc_need_item kV_need_item dc_need_item pm_need_item cd_need_item ct_need_item : Value}
    {f_need_room : Addr} {od_need_room an_need_room : Option Addr} {sl_need_room : Array (Option Value)} {oc_need_room kV_need_room dc_need_room pm_need_room cd_need_room ct_need_room : Value}
    {f_new : Addr} {od_new an_new : Option Addr} {sl_new : Array (Option Value)} {oc_new kV_new dc_new pm_new cd_new ct_new : Value}
    {f_add_at : Addr} {od_add_at an_add_at : Option Addr} {sl_add_at : Array (Option Value)} {oc_add_at kV_add_at dc_add_at pm_add_at cd_add_at ct_add_at : Value}
    {f_add_last : Addr} {od_add_last an_add_last : Option Addr} {sl_add_last : Array (Option Value)} {oc_add_last kV_add_last dc_add_last pm_add_last cd_add_last ct_add_last : Value}
    {f_swap : Addr} {od_swap an_swap : Option Addr} {sl_swap : Array (Option Value)} {oc_swap kV_swap dc_swap pm_swap cd_swap ct_swap : Value}
    {f_contents : Addr} {od_contents an_contents : Option Addr} {sl_contents : Array (Option Value)} {oc_contents kV_contents dc_contents pm_contents cd_contents ct_contents : Value}
    {t_MOST_BOXES : Tok}
    {t_MOST_ITEMS : Tok}
    {t_BOX : Tok}
    {t_LETTERS : Tok}
    {t_MOST_LETTERS : Tok}
    {C_Endless : Addr}
    {C_Full : Addr}
    {C_NoPlace : Addr}
    {C_NothingDone : Addr}
    {C_RingError : Addr}
    {C_TooDeep : Addr}
    {C_TooMany : Addr}
    {C_NoBox : Addr}
    {f_xi_NoBox : Addr} {od_xi_NoBox an_xi_NoBox : Option Addr} {sl_xi_NoBox : Array (Option Value)} {oc_xi_NoBox kV_xi_NoBox dc_xi_NoBox pm_xi_NoBox cd_xi_NoBox ct_xi_NoBox : Value}
    (a_is_integer : PySem.W.nsIn K mainGlobals "is_integer" = some (some (.ref f_is_integer)))
    (l_is_integer : K.lookup f_is_integer = some ⟨oc_is_integer, od_is_integer, .func (PySem.W.fnOf "is_integer" "is_integer" (defArgs s_is_integer) (defBody s_is_integer) (defScope s_is_integer) .none kV_is_integer dc_is_integer pm_is_integer an_is_integer cd_is_integer ct_is_integer), sl_is_integer⟩)
    (c_is_integer : PySem.W.codeIn K cd_is_integer "is_integer" = true)
    (k_is_integer : PySem.W.keepIn K (.ref f_is_integer) = true)
    (a_is_within : PySem.W.nsIn K mainGlobals "is_within" = some (some (.ref f_is_within)))
    (l_is_within : K.lookup f_is_within = some ⟨oc_is_within, od_is_within, .func (PySem.W.fnOf "is_within" "is_within" (defArgs s_is_within) (defBody s_is_within) (defScope s_is_within) .none kV_is_within dc_is_within pm_is_within an_is_within cd_is_within ct_is_within), sl_is_within⟩)
    (c_is_within : PySem.W.codeIn K cd_is_within "is_within" = true)
    (k_is_within : PySem.W.keepIn K (.ref f_is_within) = true)
    (a_is_word : PySem.W.nsIn K mainGlobals "is_word" = some (some (.ref f_is_word)))
    (l_is_word : K.lookup f_is_word = some ⟨oc_is_word, od_is_word, .func (PySem.W.fnOf "is_word" "is_word" (defArgs s_is_word) (defBody s_is_word) (defScope s_is_word) .none kV_is_word dc_is_word pm_is_word an_is_word cd_is_word ct_is_word), sl_is_word⟩)
    (c_is_word : PySem.W.codeIn K cd_is_word "is_word" = true)
    (k_is_word : PySem.W.keepIn K (.ref f_is_word) = true)
    (a_is_leaf : PySem.W.nsIn K mainGlobals "is_leaf" = some (some (.ref f_is_leaf)))
    (l_is_leaf : K.lookup f_is_leaf = some ⟨oc_is_leaf, od_is_leaf, .func (PySem.W.fnOf "is_leaf" "is_leaf" (defArgs s_is_leaf) (defBody s_is_leaf) (defScope s_is_leaf) .none kV_is_leaf dc_is_leaf pm_is_leaf an_is_leaf cd_is_leaf ct_is_leaf), sl_is_leaf⟩)
    (c_is_leaf : PySem.W.codeIn K cd_is_leaf "is_leaf" = true)
    (k_is_leaf : PySem.W.keepIn K (.ref f_is_leaf) = true)
    (a_is_reference : PySem.W.nsIn K mainGlobals "is_reference" = some (some (.ref f_is_reference)))
    (l_is_reference : K.lookup f_is_reference = some ⟨oc_is_reference, od_is_reference, .func (PySem.W.fnOf "is_reference" "is_reference" (defArgs s_is_reference) (defBody s_is_reference) (defScope s_is_reference) .none kV_is_reference dc_is_reference pm_is_reference an_is_reference cd_is_reference ct_is_reference), sl_is_reference⟩)
    (c_is_reference : PySem.W.codeIn K cd_is_reference "is_reference" = true)
    (k_is_reference : PySem.W.keepIn K (.ref f_is_reference) = true)
    (a_is_item : PySem.W.nsIn K mainGlobals "is_item" = some (some (.ref f_is_item)))
    (l_is_item : K.lookup f_is_item = some ⟨oc_is_item, od_is_item, .func (PySem.W.fnOf "is_item" "is_item" (defArgs s_is_item) (defBody s_is_item) (defScope s_is_item) .none kV_is_item dc_is_item pm_is_item an_is_item cd_is_item ct_is_item), sl_is_item⟩)
    (c_is_item : PySem.W.codeIn K cd_is_item "is_item" = true)
    (k_is_item : PySem.W.keepIn K (.ref f_is_item) = true)
    (a_renamed : PySem.W.nsIn K mainGlobals "renamed" = some (some (.ref f_renamed)))
    (l_renamed : K.lookup f_renamed = some ⟨oc_renamed, od_renamed, .func (PySem.W.fnOf "renamed" "renamed" (defArgs s_renamed) (defBody s_renamed) (defScope s_renamed) .none kV_renamed dc_renamed pm_renamed an_renamed cd_renamed ct_renamed), sl_renamed⟩)
    (c_renamed : PySem.W.codeIn K cd_renamed "renamed" = true)
    (k_renamed : PySem.W.keepIn K (.ref f_renamed) = true)
    (a_after_joins : PySem.W.nsIn K mainGlobals "after_joins" = some (some (.ref f_after_joins)))
    (l_after_joins : K.lookup f_after_joins = some ⟨oc_after_joins, od_after_joins, .func (PySem.W.fnOf "after_joins" "after_joins" (defArgs s_after_joins) (defBody s_after_joins) (defScope s_after_joins) .none kV_after_joins dc_after_joins pm_after_joins an_after_joins cd_after_joins ct_after_joins), sl_after_joins⟩)
    (c_after_joins : PySem.W.codeIn K cd_after_joins "after_joins" = true)
    (k_after_joins : PySem.W.keepIn K (.ref f_after_joins) = true)
    (a_l_bag : PySem.W.nsIn K mainGlobals "_law_bag" = some (some (.ref f_l_bag)))
    (l_l_bag : K.lookup f_l_bag = some ⟨oc_l_bag, od_l_bag, .func (PySem.W.fnOf "_law_bag" "_law_bag" (defArgs s_l_bag) (defBody s_l_bag) (defScope s_l_bag) .none kV_l_bag dc_l_bag pm_l_bag an_l_bag cd_l_bag ct_l_bag), sl_l_bag⟩)
    (c_l_bag : PySem.W.codeIn K cd_l_bag "_law_bag" = true)
    (k_l_bag : PySem.W.keepIn K (.ref f_l_bag) = true)
    (a_l_take : PySem.W.nsIn K mainGlobals "_law_take" = some (some (.ref f_l_take)))
    (l_l_take : K.lookup f_l_take = some ⟨oc_l_take, od_l_take, .func (PySem.W.fnOf "_law_take" "_law_take" (defArgs s_l_take) (defBody s_l_take) (defScope s_l_take) .none kV_l_take dc_l_take pm_l_take an_l_take cd_l_take ct_l_take), sl_l_take⟩)
    (c_l_take : PySem.W.codeIn K cd_l_take "_law_take" = true)
    (k_l_take : PySem.W.keepIn K (.ref f_l_take) = true)
    (a_l_leaf : PySem.W.nsIn K mainGlobals "_law_leaf" = some (some (.ref f_l_leaf)))
    (l_l_leaf : K.lookup f_l_leaf = some ⟨oc_l_leaf, od_l_leaf, .func (PySem.W.fnOf "_law_leaf" "_law_leaf" (defArgs s_l_leaf) (defBody s_l_leaf) (defScope s_l_leaf) .none kV_l_leaf dc_l_leaf pm_l_leaf an_l_leaf cd_l_leaf ct_l_leaf), sl_l_leaf⟩)
    (c_l_leaf : PySem.W.codeIn K cd_l_leaf "_law_leaf" = true)
    (k_l_leaf : PySem.W.keepIn K (.ref f_l_leaf) = true)
    (a_l_contents : PySem.W.nsIn K mainGlobals "_law_contents" = some (some (.ref f_l_contents)))
    (l_l_contents : K.lookup f_l_contents = some ⟨oc_l_contents, od_l_contents, .func (PySem.W.fnOf "_law_contents" "_law_contents" (defArgs s_l_contents) (defBody s_l_contents) (defScope s_l_contents) .none kV_l_contents dc_l_contents pm_l_contents an_l_contents cd_l_contents ct_l_contents), sl_l_contents⟩)
    (c_l_contents : PySem.W.codeIn K cd_l_contents "_law_contents" = true)
    (k_l_contents : PySem.W.keepIn K (.ref f_l_contents) = true)
    (a_l_twofold : PySem.W.nsIn K mainGlobals "_law_twofold" = some (some (.ref f_l_twofold)))
    (l_l_twofold : K.lookup f_l_twofold = some ⟨oc_l_twofold, od_l_twofold, .func (PySem.W.fnOf "_law_twofold" "_law_twofold" (defArgs s_l_twofold) (defBody s_l_twofold) (defScope s_l_twofold) .none kV_l_twofold dc_l_twofold pm_l_twofold an_l_twofold cd_l_twofold ct_l_twofold), sl_l_twofold⟩)
    (c_l_twofold : PySem.W.codeIn K cd_l_twofold "_law_twofold" = true)
    (k_l_twofold : PySem.W.keepIn K (.ref f_l_twofold) = true)
    (a_l_heap : PySem.W.nsIn K mainGlobals "_law_heap" = some (some (.ref f_l_heap)))
    (l_l_heap : K.lookup f_l_heap = some ⟨oc_l_heap, od_l_heap, .func (PySem.W.fnOf "_law_heap" "_law_heap" (defArgs s_l_heap) (defBody s_l_heap) (defScope s_l_heap) .none kV_l_heap dc_l_heap pm_l_heap an_l_heap cd_l_heap ct_l_heap), sl_l_heap⟩)
    (c_l_heap : PySem.W.codeIn K cd_l_heap "_law_heap" = true)
    (k_l_heap : PySem.W.keepIn K (.ref f_l_heap) = true)
    (a_l_into : PySem.W.nsIn K mainGlobals "_law_into" = some (some (.ref f_l_into)))
    (l_l_into : K.lookup f_l_into = some ⟨oc_l_into, od_l_into, .func (PySem.W.fnOf "_law_into" "_law_into" (defArgs s_l_into) (defBody s_l_into) (defScope s_l_into) .none kV_l_into dc_l_into pm_l_into an_l_into cd_l_into ct_l_into), sl_l_into⟩)
    (c_l_into : PySem.W.codeIn K cd_l_into "_law_into" = true)
    (k_l_into : PySem.W.keepIn K (.ref f_l_into) = true)
    (a_l_no_box : PySem.W.nsIn K mainGlobals "_law_no_box" = some (some (.ref f_l_no_box)))
    (l_l_no_box : K.lookup f_l_no_box = some ⟨oc_l_no_box, od_l_no_box, .func (PySem.W.fnOf "_law_no_box" "_law_no_box" (defArgs s_l_no_box) (defBody s_l_no_box) (defScope s_l_no_box) .none kV_l_no_box dc_l_no_box pm_l_no_box an_l_no_box cd_l_no_box ct_l_no_box), sl_l_no_box⟩)
    (c_l_no_box : PySem.W.codeIn K cd_l_no_box "_law_no_box" = true)
    (k_l_no_box : PySem.W.keepIn K (.ref f_l_no_box) = true)
    (a_l_strange : PySem.W.nsIn K mainGlobals "_law_strange" = some (some (.ref f_l_strange)))
    (l_l_strange : K.lookup f_l_strange = some ⟨oc_l_strange, od_l_strange, .func (PySem.W.fnOf "_law_strange" "_law_strange" (defArgs s_l_strange) (defBody s_l_strange) (defScope s_l_strange) .none kV_l_strange dc_l_strange pm_l_strange an_l_strange cd_l_strange ct_l_strange), sl_l_strange⟩)
    (c_l_strange : PySem.W.codeIn K cd_l_strange "_law_strange" = true)
    (k_l_strange : PySem.W.keepIn K (.ref f_l_strange) = true)
    (a_l_ringed : PySem.W.nsIn K mainGlobals "_law_ringed" = some (some (.ref f_l_ringed)))
    (l_l_ringed : K.lookup f_l_ringed = some ⟨oc_l_ringed, od_l_ringed, .func (PySem.W.fnOf "_law_ringed" "_law_ringed" (defArgs s_l_ringed) (defBody s_l_ringed) (defScope s_l_ringed) .none kV_l_ringed dc_l_ringed pm_l_ringed an_l_ringed cd_l_ringed ct_l_ringed), sl_l_ringed⟩)
    (c_l_ringed : PySem.W.codeIn K cd_l_ringed "_law_ringed" = true)
    (k_l_ringed : PySem.W.keepIn K (.ref f_l_ringed) = true)
    (a_l_right : PySem.W.nsIn K mainGlobals "_law_right" = some (some (.ref f_l_right)))
    (l_l_right : K.lookup f_l_right = some ⟨oc_l_right, od_l_right, .func (PySem.W.fnOf "_law_right" "_law_right" (defArgs s_l_right) (defBody s_l_right) (defScope s_l_right) .none kV_l_right dc_l_right pm_l_right an_l_right (.ref c_l_right) ct_l_right), sl_l_right⟩)
    (c_l_right_ : PySem.W.codeIn K (.ref c_l_right) "_law_right" = true)
    (k_l_right : PySem.W.keepIn K (.ref f_l_right) = true)
    (h_l_right : PySem.W.codeHdIn K c_l_right p_l_right = true)
    (a_law : PySem.W.nsIn K mainGlobals "law" = some (some (.ref f_law)))
    (l_law : K.lookup f_law = some ⟨oc_law, od_law, .func (PySem.W.fnOf "law" "law" (defArgs s_law) (defBody s_law) (defScope s_law) .none kV_law dc_law pm_law an_law cd_law ct_law), sl_law⟩)
    (c_law : PySem.W.codeIn K cd_law "law" = true)
    (k_law : PySem.W.keepIn K (.ref f_law) = true)
    (a_Heap : PySem.W.nsIn K mainGlobals "Heap" = some (some (.ref C)))
    (pg_ : PySem.W.plainGet K C Str.empty = true)
    (hd_ : PySem.W.hasDictIn K C = true)
    (po_ : PySem.W.plainOver K C = true)
    (sa_ : PySem.W.findIn K (.ref C) "__setattr__" = some (some (.builtin "object.__setattr__")))
    (rd_ : PySem.W.readsIn K C (.type "type") = true)
    (ga_ : PySem.W.specialIn K (.ref C) "__getattribute__" = some (some (.builtin "type.__getattribute__")))
    (a_init : PySem.W.findIn K (.ref C) "__init__" = some (some (.ref f_init)))
    (i_init : PySem.W.isFn K (.ref f_init) = true)
    (l_init : K.lookup f_init = some ⟨oc_init, od_init, .func (PySem.W.fnOf "__init__" "Heap.__init__" (defArgs s_init) (defBody s_init) (defScope s_init) .none kV_init dc_init pm_init an_init cd_init ct_init), sl_init⟩)
    (c_init : PySem.W.codeIn K cd_init "Heap.__init__" = true)
    (k_init : PySem.W.keepIn K (.ref f_init) = true)
    (mk_ : PySem.W.makesIn K C = true)
    (kc_ : PySem.W.keepIn K (.ref C) = true)
    (cf_of : PySem.W.findCls K (.ref C) (.type "type") "of" = some (.get (.builtin "classmethod.__get__") (.ref p_of) .none (.ref C)))
    (rc_of : PySem.W.recIn K p_of "classmethod" = some (.ref f_of :: rest_of))
    (fi_of : PySem.W.fnIn K f_of = true)
    (l_of : K.lookup f_of = some ⟨oc_of, od_of, .func (PySem.W.fnOf "of" "Heap.of" (defArgs s_of) (defBody s_of) (defScope s_of) .none kV_of dc_of pm_of an_of cd_of ct_of), sl_of⟩)
    (c_of : PySem.W.codeIn K cd_of "Heap.of" = true)
    (k_of : PySem.W.keepIn K (.ref f_of) = true)
    (a_eq : PySem.W.findIn K (.ref C) "__eq__" = some (some (.ref f_eq)))
    (i_eq : PySem.W.isFn K (.ref f_eq) = true)
    (l_eq : K.lookup f_eq = some ⟨oc_eq, od_eq, .func (PySem.W.fnOf "__eq__" "Heap.__eq__" (defArgs s_eq) (defBody s_eq) (defScope s_eq) .none kV_eq dc_eq pm_eq an_eq cd_eq ct_eq), sl_eq⟩)
    (c_eq : PySem.W.codeIn K cd_eq "Heap.__eq__" = true)
    (k_eq : PySem.W.keepIn K (.ref f_eq) = true)
    (a_len : PySem.W.findIn K (.ref C) "__len__" = some (some (.ref f_len)))
    (i_len : PySem.W.isFn K (.ref f_len) = true)
    (l_len : K.lookup f_len = some ⟨oc_len, od_len, .func (PySem.W.fnOf "__len__" "Heap.__len__" (defArgs s_len) (defBody s_len) (defScope s_len) .none kV_len dc_len pm_len an_len cd_len ct_len), sl_len⟩)
    (c_len : PySem.W.codeIn K cd_len "Heap.__len__" = true)
    (k_len : PySem.W.keepIn K (.ref f_len) = true)
    (a_contains : PySem.W.findIn K (.ref C) "__contains__" = some (some (.ref f_contains)))
    (i_contains : PySem.W.isFn K (.ref f_contains) = true)
    (l_contains : K.lookup f_contains = some ⟨oc_contains, od_contains, .func (PySem.W.fnOf "__contains__" "Heap.__contains__" (defArgs s_contains) (defBody s_contains) (defScope s_contains) .none kV_contains dc_contains pm_contains an_contains cd_contains ct_contains), sl_contains⟩)
    (c_contains : PySem.W.codeIn K cd_contains "Heap.__contains__" = true)
    (k_contains : PySem.W.keepIn K (.ref f_contains) = true)
    (a_need_box : PySem.W.findIn K (.ref C) "need_box" = some (some (.ref f_need_box)))
    (i_need_box : PySem.W.isFn K (.ref f_need_box) = true)
    (l_need_box : K.lookup f_need_box = some ⟨oc_need_box, od_need_box, .func (PySem.W.fnOf "need_box" "Heap.need_box" (defArgs s_need_box) (defBody s_need_box) (defScope s_need_box) .none kV_need_box dc_need_box pm_need_box an_need_box cd_need_box ct_need_box), sl_need_box⟩)
    (c_need_box : PySem.W.codeIn K cd_need_box "Heap.need_box" = true)
    (k_need_box : PySem.W.keepIn K (.ref f_need_box) = true)
    (a_need_place : PySem.W.findIn K (.ref C) "need_place" = some (some (.ref f_need_place)))
    (i_need_place : PySem.W.isFn K (.ref f_need_place) = true)
    (l_need_place : K.lookup f_need_place = some ⟨oc_need_place, od_need_place, .func (PySem.W.fnOf "need_place" "Heap.need_place" (defArgs s_need_place) (defBody s_need_place) (defScope s_need_place) .none kV_need_place dc_need_place pm_need_place an_need_place cd_need_place ct_need_place), sl_need_place⟩)
    (c_need_place : PySem.W.codeIn K cd_need_place "Heap.need_place" = true)
    (k_need_place : PySem.W.keepIn K (.ref f_need_place) = true)
    (a_need_item : PySem.W.findIn K (.ref C) "need_item" = some (some (.ref f_need_item)))
    (i_need_item : PySem.W.isFn K (.ref f_need_item) = true)
    (l_need_item : K.lookup f_need_item = some ⟨oc_need_item, od_need_item, .func (PySem.W.fnOf "need_item" "Heap.need_item" (defArgs s_need_item) (defBody s_need_item) (defScope s_need_item) .none kV_need_item dc_need_item pm_need_item an_need_item cd_need_item ct_need_item), sl_need_item⟩)
    (c_need_item : PySem.W.codeIn K cd_need_item "Heap.need_item" = true)
    (k_need_item : PySem.W.keepIn K (.ref f_need_item) = true)
    (a_need_room : PySem.W.findIn K (.ref C) "need_room" = some (some (.ref f_need_room)))
    (i_need_room : PySem.W.isFn K (.ref f_need_room) = true)
    (l_need_room : K.lookup f_need_room = some ⟨oc_need_room, od_need_room, .func (PySem.W.fnOf "need_room" "Heap.need_room" (defArgs s_need_room) (defBody s_need_room) (defScope s_need_room) .none kV_need_room dc_need_room pm_need_room an_need_room cd_need_room ct_need_room), sl_need_room⟩)
    (c_need_room : PySem.W.codeIn K cd_need_room "Heap.need_room" = true)
    (k_need_room : PySem.W.keepIn K (.ref f_need_room) = true)
    (a_new : PySem.W.findIn K (.ref C) "new" = some (some (.ref f_new)))
    (i_new : PySem.W.isFn K (.ref f_new) = true)
    (l_new : K.lookup f_new = some ⟨oc_new, od_new, .func (PySem.W.fnOf "new" "Heap.new" (defArgs s_new) (defBody s_new) (defScope s_new) .none kV_new dc_new pm_new an_new cd_new ct_new), sl_new⟩)
    (c_new : PySem.W.codeIn K cd_new "Heap.new" = true)
    (k_new : PySem.W.keepIn K (.ref f_new) = true)
    (a_add_at : PySem.W.findIn K (.ref C) "add_at" = some (some (.ref f_add_at)))
    (i_add_at : PySem.W.isFn K (.ref f_add_at) = true)
    (l_add_at : K.lookup f_add_at = some ⟨oc_add_at, od_add_at, .func (PySem.W.fnOf "add_at" "Heap.add_at" (defArgs s_add_at) (defBody s_add_at) (defScope s_add_at) .none kV_add_at dc_add_at pm_add_at an_add_at cd_add_at ct_add_at), sl_add_at⟩)
    (c_add_at : PySem.W.codeIn K cd_add_at "Heap.add_at" = true)
    (k_add_at : PySem.W.keepIn K (.ref f_add_at) = true)
    (a_add_last : PySem.W.findIn K (.ref C) "add_last" = some (some (.ref f_add_last)))
    (i_add_last : PySem.W.isFn K (.ref f_add_last) = true)
    (l_add_last : K.lookup f_add_last = some ⟨oc_add_last, od_add_last, .func (PySem.W.fnOf "add_last" "Heap.add_last" (defArgs s_add_last) (defBody s_add_last) (defScope s_add_last) .none kV_add_last dc_add_last pm_add_last an_add_last cd_add_last ct_add_last), sl_add_last⟩)
    (c_add_last : PySem.W.codeIn K cd_add_last "Heap.add_last" = true)
    (k_add_last : PySem.W.keepIn K (.ref f_add_last) = true)
    (a_swap : PySem.W.findIn K (.ref C) "swap" = some (some (.ref f_swap)))
    (i_swap : PySem.W.isFn K (.ref f_swap) = true)
    (l_swap : K.lookup f_swap = some ⟨oc_swap, od_swap, .func (PySem.W.fnOf "swap" "Heap.swap" (defArgs s_swap) (defBody s_swap) (defScope s_swap) .none kV_swap dc_swap pm_swap an_swap cd_swap ct_swap), sl_swap⟩)
    (c_swap : PySem.W.codeIn K cd_swap "Heap.swap" = true)
    (k_swap : PySem.W.keepIn K (.ref f_swap) = true)
    (a_contents : PySem.W.findIn K (.ref C) "contents" = some (some (.ref f_contents)))
    (i_contents : PySem.W.isFn K (.ref f_contents) = true)
    (l_contents : K.lookup f_contents = some ⟨oc_contents, od_contents, .func (PySem.W.fnOf "contents" "Heap.contents" (defArgs s_contents) (defBody s_contents) (defScope s_contents) .none kV_contents dc_contents pm_contents an_contents cd_contents ct_contents), sl_contents⟩)
    (c_contents : PySem.W.codeIn K cd_contents "Heap.contents" = true)
    (k_contents : PySem.W.keepIn K (.ref f_contents) = true)
    (vic : PySem.W.findIn K (.ref C) "__class__" = some (some (.builtin "object.__class__")))
    (vim : PySem.W.mroIn K C (.type "object") = some true)
    (vip : PySem.W.specialIn K (.builtin "object.__class__") "__get__" = some (some (.builtin "getset_descriptor.__get__")))
    (viu : PySem.W.takesIn K (.builtin "object.__class__") = some true)
    (na_lists : PySem.W.findIn K (.ref C) "lists" = some none)
    (cv_MOST_BOXES : PySem.W.findCls K (.ref C) (.type "type") "MOST_BOXES" = some (.val (.int 60 t_MOST_BOXES)))
    (cv_MOST_ITEMS : PySem.W.findCls K (.ref C) (.type "type") "MOST_ITEMS" = some (.val (.int 300 t_MOST_ITEMS)))
    (b_BOX : PySem.W.nsIn K mainGlobals "BOX" = some (some (.str "box" t_BOX)))
    (b_LETTERS : PySem.W.nsIn K mainGlobals "LETTERS" = some (some (.str "abcdefghijklmnopqrstuvwxyz" t_LETTERS)))
    (b_MOST_LETTERS : PySem.W.nsIn K mainGlobals "MOST_LETTERS" = some (some (.int 8 t_MOST_LETTERS)))
    (a_Endless : PySem.W.nsIn K mainGlobals "Endless" = some (some (.ref C_Endless)))
    (a_Full : PySem.W.nsIn K mainGlobals "Full" = some (some (.ref C_Full)))
    (a_NoPlace : PySem.W.nsIn K mainGlobals "NoPlace" = some (some (.ref C_NoPlace)))
    (a_NothingDone : PySem.W.nsIn K mainGlobals "NothingDone" = some (some (.ref C_NothingDone)))
    (a_RingError : PySem.W.nsIn K mainGlobals "RingError" = some (some (.ref C_RingError)))
    (a_TooDeep : PySem.W.nsIn K mainGlobals "TooDeep" = some (some (.ref C_TooDeep)))
    (a_TooMany : PySem.W.nsIn K mainGlobals "TooMany" = some (some (.ref C_TooMany)))
    (a_NoBox : PySem.W.nsIn K mainGlobals "NoBox" = some (some (.ref C_NoBox)))
    (xq_NoBox : PySem.W.excInitIn K C_NoBox [.type "LookupError", .type "Exception", .type "BaseException", .type "object"] "LookupError.__new__" = true)
    (xd_NoBox : PySem.W.hasDictIn K C_NoBox = true)
    (xs_NoBox : PySem.W.findIn K (.ref C_NoBox) "__setattr__" = some (some (.builtin "object.__setattr__")))
    (xb_NoBox : PySem.W.subIn K (.ref C_NoBox) (.type "BaseException") = some true)
    (xt_NoBox : PySem.W.typeIn K (.ref C_NoBox) = some (.type "type"))
    (xk_NoBox : PySem.W.keepIn K (.ref C_NoBox) = true)
    (xi_NoBox : PySem.W.findIn K (.ref C_NoBox) "__init__" = some (some (.ref f_xi_NoBox)))
    (l_xi_NoBox : K.lookup f_xi_NoBox = some ⟨oc_xi_NoBox, od_xi_NoBox, .func (PySem.W.fnOf "__init__" "NoBox.__init__" (defArgs s_xi_NoBox) (defBody s_xi_NoBox) (defScope s_xi_NoBox) .none kV_xi_NoBox dc_xi_NoBox pm_xi_NoBox an_xi_NoBox cd_xi_NoBox ct_xi_NoBox), sl_xi_NoBox⟩)
    (c_xi_NoBox : PySem.W.codeIn K cd_xi_NoBox "NoBox.__init__" = true)
    (k_xi_NoBox : PySem.W.keepIn K (.ref f_xi_NoBox) = true)
    (xj_NoBox : PySem.W.typeIn K (.ref f_xi_NoBox) = some (.type "function"))
    (xn_NoBox : PySem.W.findIn K (.ref C_NoBox) "number" = some none)
    (xg_NoBox : PySem.W.findIn K (.ref C_NoBox) "__getattribute__" = some (some (.builtin "BaseException.__getattribute__")))
    (xh_NoBox : PySem.W.findIn K (.ref C_NoBox) "__getattr__" = some none)
    (xl_NoBox : (PySem.W.clsIn K C_NoBox).isSome = true)
    (xc_NoBox : PySem.W.findIn K (.ref C_NoBox) "__class__" = some (some (.builtin "object.__class__")))
    (xp_NoBox : PySem.W.specialIn K (.builtin "object.__class__") "__get__" = some (some (.builtin "getset_descriptor.__get__")))
    (xu_NoBox : PySem.W.takesIn K (.builtin "object.__class__") = some true)
    (xm_NoBox : PySem.W.mroIn K C_NoBox (.type "object") = some true)
    (xe_NoBox : PySem.W.exmOne K (.ref C_NoBox) (.ref C_NoBox) = some true)
    (xv_NoBox : PySem.W.findCls K (.type "LookupError") (.type "type") "__init__" = some (.val (.builtin "LookupError.__init__")))
    (kt0 : PySem.W.kitAny K (.ref C_NoBox) [.ref C_Endless, .ref C_Full, .ref C_NoPlace, .ref C_NothingDone, .ref C_RingError, .ref C_TooDeep, .ref C_TooMany] = some false)
    (kt1 : PySem.W.kitOne K (.ref C_NoBox) (.type "LookupError") = some true)
    (z_LookupError : PySem.W.nsIn K mainGlobals "LookupError" = some none)
    (z_abs : PySem.W.nsIn K mainGlobals "abs" = some none)
    (z_all : PySem.W.nsIn K mainGlobals "all" = some none)
    (z_bool : PySem.W.nsIn K mainGlobals "bool" = some none)
    (z_int : PySem.W.nsIn K mainGlobals "int" = some none)
    (z_isinstance : PySem.W.nsIn K mainGlobals "isinstance" = some none)
    (z_len : PySem.W.nsIn K mainGlobals "len" = some none)
    (z_list : PySem.W.nsIn K mainGlobals "list" = some none)
    (z_max : PySem.W.nsIn K mainGlobals "max" = some none)
    (z_min : PySem.W.nsIn K mainGlobals "min" = some none)
    (z_range : PySem.W.nsIn K mainGlobals "range" = some none)
    (z_repr : PySem.W.nsIn K mainGlobals "repr" = some none)
    (z_str : PySem.W.nsIn K mainGlobals "str" = some none)
    (z_tuple : PySem.W.nsIn K mainGlobals "tuple" = some none)
    : ∀ base : Heap, K.In base → base.Ns mainGlobals mg → (∀ p ∈ [(c_l_right, p_l_right)], LamX.TabB base mg p.1 p.2) → FnGd P w K mg base CX0 60 fa (spLaw K [(c_l_right, p_l_right)]) := by
  have e : fa = f_law := Value.ref.inj (Option.some.inj (hfa.symm.trans (PySem.W.mg_of X G a_law)))
  rw [e]
  exact fun base _ _ TB => ok_law (⟨f_is_integer, _, fun_mk (st := s_is_integer) l_is_integer c_is_integer k_is_integer, PySem.W.mg_of X G a_is_integer, f_is_within, _, fun_mk (st := s_is_within) l_is_within c_is_within k_is_within, PySem.W.mg_of X G a_is_within, f_is_word, _, fun_mk (st := s_is_word) l_is_word c_is_word k_is_word, PySem.W.mg_of X G a_is_word, f_is_leaf, _, fun_mk (st := s_is_leaf) l_is_leaf c_is_leaf k_is_leaf, PySem.W.mg_of X G a_is_leaf, f_is_reference, _, fun_mk (st := s_is_reference) l_is_reference c_is_reference k_is_reference, PySem.W.mg_of X G a_is_reference, f_is_item, _, fun_mk (st := s_is_item) l_is_item c_is_item k_is_item, PySem.W.mg_of X G a_is_item, f_renamed, _, fun_mk (st := s_renamed) l_renamed c_renamed k_renamed, PySem.W.mg_of X G a_renamed, f_after_joins, _, fun_mk (st := s_after_joins) l_after_joins c_after_joins k_after_joins, PySem.W.mg_of X G a_after_joins, f_l_bag, _, fun_mk (st := s_l_bag) l_l_bag c_l_bag k_l_bag, PySem.W.mg_of X G a_l_bag, f_l_take, _, fun_mk (st := s_l_take) l_l_take c_l_take k_l_take, PySem.W.mg_of X G a_l_take, f_l_leaf, _, fun_mk (st := s_l_leaf) l_l_leaf c_l_leaf k_l_leaf, PySem.W.mg_of X G a_l_leaf, f_l_contents, _, fun_mk (st := s_l_contents) l_l_contents c_l_contents k_l_contents, PySem.W.mg_of X G a_l_contents, f_l_twofold, _, fun_mk (st := s_l_twofold) l_l_twofold c_l_twofold k_l_twofold, PySem.W.mg_of X G a_l_twofold, f_l_heap, _, fun_mk (st := s_l_heap) l_l_heap c_l_heap k_l_heap, PySem.W.mg_of X G a_l_heap, f_l_into, _, fun_mk (st := s_l_into) l_l_into c_l_into k_l_into, PySem.W.mg_of X G a_l_into, f_l_no_box, _, fun_mk (st := s_l_no_box) l_l_no_box c_l_no_box k_l_no_box, PySem.W.mg_of X G a_l_no_box, f_l_strange, _, fun_mk (st := s_l_strange) l_l_strange c_l_strange k_l_strange, PySem.W.mg_of X G a_l_strange, f_l_ringed, _, fun_mk (st := s_l_ringed) l_l_ringed c_l_ringed k_l_ringed, PySem.W.mg_of X G a_l_ringed, f_l_right, _, fun_mk (st := s_l_right) l_l_right c_l_right_ k_l_right, PySem.W.mg_of X G a_l_right, f_law, _, fun_mk (st := s_law) l_law c_law k_law, PySem.W.mg_of X G a_law, C, PySem.W.mg_of X G a_Heap, ⟨pg_, hd_, po_, sa_⟩, ⟨rd_, ga_⟩, f_init, _, fun_mk (st := s_init) l_init c_init k_init, ⟨mk_, a_init, i_init, kc_⟩, f_of, _, fun_mk (st := s_of) l_of c_of k_of, p_of, ⟨cf_of, ⟨_, rc_of⟩, fi_of⟩, f_eq, _, fun_mk (st := s_eq) l_eq c_eq k_eq, ⟨a_eq, i_eq, k_eq⟩, f_len, _, fun_mk (st := s_len) l_len c_len k_len, ⟨a_len, i_len, k_len⟩, f_contains, _, fun_mk (st := s_contains) l_contains c_contains k_contains, ⟨a_contains, i_contains, k_contains⟩, f_need_box, _, fun_mk (st := s_need_box) l_need_box c_need_box k_need_box, ⟨a_need_box, i_need_box, k_need_box⟩, f_need_place, _, fun_mk (st := s_need_place) l_need_place c_need_place k_need_place, ⟨a_need_place, i_need_place, k_need_place⟩, f_need_item, _, fun_mk (st := s_need_item) l_need_item c_need_item k_need_item, ⟨a_need_item, i_need_item, k_need_item⟩, f_need_room, _, fun_mk (st := s_need_room) l_need_room c_need_room k_need_room, ⟨a_need_room, i_need_room, k_need_room⟩, f_new, _, fun_mk (st := s_new) l_new c_new k_new, ⟨a_new, i_new, k_new⟩, f_add_at, _, fun_mk (st := s_add_at) l_add_at c_add_at k_add_at, ⟨a_add_at, i_add_at, k_add_at⟩, f_add_last, _, fun_mk (st := s_add_last) l_add_last c_add_last k_add_last, ⟨a_add_last, i_add_last, k_add_last⟩, f_swap, _, fun_mk (st := s_swap) l_swap c_swap k_swap, ⟨a_swap, i_swap, k_swap⟩, f_contents, _, fun_mk (st := s_contents) l_contents c_contents k_contents, ⟨a_contents, i_contents, k_contents⟩, vic, vim, vip, viu, na_lists, _, ⟨cv_MOST_BOXES, ⟨_, rfl⟩⟩, _, ⟨cv_MOST_ITEMS, ⟨_, rfl⟩⟩, t_BOX, PySem.W.mg_of X G b_BOX, t_LETTERS, PySem.W.mg_of X G b_LETTERS, t_MOST_LETTERS, PySem.W.mg_of X G b_MOST_LETTERS, PySem.W.mg_none_of X G z_LookupError, PySem.W.mg_none_of X G z_abs, PySem.W.mg_none_of X G z_all, PySem.W.mg_none_of X G z_bool, PySem.W.mg_none_of X G z_int, PySem.W.mg_none_of X G z_isinstance, PySem.W.mg_none_of X G z_len, PySem.W.mg_none_of X G z_list, PySem.W.mg_none_of X G z_max, PySem.W.mg_none_of X G z_min, PySem.W.mg_none_of X G z_range, PySem.W.mg_none_of X G z_repr, PySem.W.mg_none_of X G z_str, PySem.W.mg_none_of X G z_tuple, C_Endless, PySem.W.mg_of X G a_Endless, C_Full, PySem.W.mg_of X G a_Full, C_NoPlace, PySem.W.mg_of X G a_NoPlace, C_NothingDone, PySem.W.mg_of X G a_NothingDone, C_RingError, PySem.W.mg_of X G a_RingError, C_TooDeep, PySem.W.mg_of X G a_TooDeep, C_TooMany, PySem.W.mg_of X G a_TooMany, C_NoBox, PySem.W.mg_of X G a_NoBox, ⟨xq_NoBox, xd_NoBox, xs_NoBox, xb_NoBox, xt_NoBox, xk_NoBox⟩, f_xi_NoBox, _, fun_mk (st := s_xi_NoBox) l_xi_NoBox c_xi_NoBox k_xi_NoBox, xi_NoBox, xj_NoBox, xn_NoBox, ⟨xg_NoBox, xh_NoBox, xb_NoBox, xd_NoBox⟩, ⟨xl_NoBox, xg_NoBox, xh_NoBox, xb_NoBox, xc_NoBox, xp_NoBox, xu_NoBox, xm_NoBox⟩, xe_NoBox, xv_NoBox, kt0, kt1, c_l_right, p_l_right, ⟨_, _, _, _, _, _, _, _, l_l_right, c_l_right_⟩⟩ : Txt K mg) TB
end K66
open PySem PySem.W PyProof.Rows in
set_option maxRecDepth 100000 in
set_option maxHeartbeats 0 in
theorem PySem.Challenge.cw_ringlists_k66_joins_done_holds : PySem.Challenge.rw_ringlists_k66_joins_done.Holds := by
  w_on; o_law; k_head; (case hw => w_witness2)
  k_fill
  refine Rg.walk_ofGT (l := PySem.Challenge.rw_ringlists_k66_joins_done) (n := 63) (k := 60) rfl (by decide) rfl ⟨rfl, by decide, by decide⟩ (fun w h Y => PySem.W.km_in_of Y) ?F
  case F =>
    intro w mg fa h Y KX G hmg
    have hmg : mg "law" = some (.ref fa) := hmg
    refine' Rg.lawAt_of (PySem.W.km_in_of Y) (PySem.W.km_tabs_of Y _ (List.Mem.head _)) ?zz1 ?zz2 (fun H a ns hl hT hS => K66.law_start _ _ H a ns hl hT hS) (K66.end_mk KX G hmg ?a_is_integer ?l_is_integer ?c_is_integer ?k_is_integer ?a_is_within ?l_is_within ?c_is_within ?k_is_within ?a_is_word ?l_is_word ?c_is_word ?k_is_word ?a_is_leaf ?l_is_leaf ?c_is_leaf ?k_is_leaf ?a_is_reference ?l_is_reference ?c_is_reference ?k_is_reference ?a_is_item ?l_is_item ?c_is_item ?k_is_item ?a_renamed ?l_renamed ?c_renamed ?k_renamed ?a_after_joins ?l_after_joins ?c_after_joins ?k_after_joins ?a_l_bag ?l_l_bag ?c_l_bag ?k_l_bag ?a_l_take ?l_l_take ?c_l_take ?k_l_take ?a_l_leaf ?l_l_leaf ?c_l_leaf ?k_l_leaf ?a_l_contents ?l_l_contents ?c_l_contents ?k_l_contents ?a_l_twofold ?l_l_twofold ?c_l_twofold ?k_l_twofold ?a_l_heap ?l_l_heap ?c_l_heap ?k_l_heap ?a_l_into ?l_l_into ?c_l_into ?k_l_into ?a_l_no_box ?l_l_no_box ?c_l_no_box ?k_l_no_box ?a_l_strange ?l_l_strange ?c_l_strange ?k_l_strange ?a_l_ringed ?l_l_ringed ?c_l_ringed ?k_l_ringed ?a_l_right ?l_l_right ?c_l_right_ ?k_l_right ?h_l_right ?a_law ?l_law ?c_law ?k_law ?a_Heap ?pg_ ?hd_ ?po_ ?sa_ ?rd_ ?ga_ ?a_init ?i_init ?l_init ?c_init ?k_init ?mk_ ?kc_ ?cf_of ?rc_of ?fi_of ?l_of ?c_of ?k_of ?a_eq ?i_eq ?l_eq ?c_eq ?k_eq ?a_len ?i_len ?l_len ?c_len ?k_len ?a_contains ?i_contains ?l_contains ?c_contains ?k_contains ?a_need_box ?i_need_box ?l_need_box ?c_need_box ?k_need_box ?a_need_place ?i_need_place ?l_need_place ?c_need_place ?k_need_place ?a_need_item ?i_need_item ?l_need_item ?c_need_item ?k_need_item ?a_need_room ?i_need_room ?l_need_room ?c_need_room ?k_need_room ?a_new ?i_new ?l_new ?c_new ?k_new ?a_add_at ?i_add_at ?l_add_at ?c_add_at ?k_add_at ?a_add_last ?i_add_last ?l_add_last ?c_add_last ?k_add_last ?a_swap ?i_swap ?l_swap ?c_swap ?k_swap ?a_contents ?i_contents ?l_contents ?c_contents ?k_contents ?vic ?vim ?vip ?viu ?na_lists ?cv_MOST_BOXES ?cv_MOST_ITEMS ?b_BOX ?b_LETTERS ?b_MOST_LETTERS ?a_Endless ?a_Full ?a_NoPlace ?a_NothingDone ?a_RingError ?a_TooDeep ?a_TooMany ?a_NoBox ?xq_NoBox ?xd_NoBox ?xs_NoBox ?xb_NoBox ?xt_NoBox ?xk_NoBox ?xi_NoBox ?l_xi_NoBox ?c_xi_NoBox ?k_xi_NoBox ?xj_NoBox ?xn_NoBox ?xg_NoBox ?xh_NoBox ?xl_NoBox ?xc_NoBox ?xp_NoBox ?xu_NoBox ?xm_NoBox ?xe_NoBox ?xv_NoBox ?kt0 ?kt1 ?z_LookupError ?z_abs ?z_all ?z_bool ?z_int ?z_isinstance ?z_len ?z_list ?z_max ?z_min ?z_range ?z_repr ?z_str ?z_tuple)
    (case a_is_integer => k_is)
    (case l_is_integer => k_is)
    (case c_is_integer => k_is)
    (case k_is_integer => k_is)
    (case a_is_within => k_is)
    (case l_is_within => k_is)
    (case c_is_within => k_is)
    (case k_is_within => k_is)
    (case a_is_word => k_is)
    (case l_is_word => k_is)
    (case c_is_word => k_is)
    (case k_is_word => k_is)
    (case a_is_leaf => k_is)
    (case l_is_leaf => k_is)
    (case c_is_leaf => k_is)
    (case k_is_leaf => k_is)
    (case a_is_reference => k_is)
    (case l_is_reference => k_is)
    (case c_is_reference => k_is)
    (case k_is_reference => k_is)
    (case a_is_item => k_is)
    (case l_is_item => k_is)
    (case c_is_item => k_is)
    (case k_is_item => k_is)
    (case a_renamed => k_is)
    (case l_renamed => k_is)
    (case c_renamed => k_is)
    (case k_renamed => k_is)
    (case a_after_joins => k_is)
    (case l_after_joins => k_is)
    (case c_after_joins => k_is)
    (case k_after_joins => k_is)
    (case a_l_bag => k_is)
    (case l_l_bag => k_is)
    (case c_l_bag => k_is)
    (case k_l_bag => k_is)
    (case a_l_take => k_is)
    (case l_l_take => k_is)
    (case c_l_take => k_is)
    (case k_l_take => k_is)
    (case a_l_leaf => k_is)
    (case l_l_leaf => k_is)
    (case c_l_leaf => k_is)
    (case k_l_leaf => k_is)
    (case a_l_contents => k_is)
    (case l_l_contents => k_is)
    (case c_l_contents => k_is)
    (case k_l_contents => k_is)
    (case a_l_twofold => k_is)
    (case l_l_twofold => k_is)
    (case c_l_twofold => k_is)
    (case k_l_twofold => k_is)
    (case a_l_heap => k_is)
    (case l_l_heap => k_is)
    (case c_l_heap => k_is)
    (case k_l_heap => k_is)
    (case a_l_into => k_is)
    (case l_l_into => k_is)
    (case c_l_into => k_is)
    (case k_l_into => k_is)
    (case a_l_no_box => k_is)
    (case l_l_no_box => k_is)
    (case c_l_no_box => k_is)
    (case k_l_no_box => k_is)
    (case a_l_strange => k_is)
    (case l_l_strange => k_is)
    (case c_l_strange => k_is)
    (case k_l_strange => k_is)
    (case a_l_ringed => k_is)
    (case l_l_ringed => k_is)
    (case c_l_ringed => k_is)
    (case k_l_ringed => k_is)
    (case a_l_right => k_is)
    (case l_l_right => k_is)
    (case c_l_right_ => k_is)
    (case k_l_right => k_is)
    (case h_l_right => kernel_rfl)
    (case a_law => k_is)
    (case l_law => k_is)
    (case c_law => k_is)
    (case k_law => k_is)
    (case a_Heap => k_is)
    (case pg_ => k_is)
    (case hd_ => k_is)
    (case po_ => k_is)
    (case sa_ => k_is)
    (case rd_ => k_is)
    (case ga_ => k_is)
    (case a_init => k_is)
    (case i_init => k_is)
    (case l_init => k_is)
    (case c_init => k_is)
    (case k_init => k_is)
    (case mk_ => k_is)
    (case kc_ => k_is)
    (case cf_of => k_is)
    (case rc_of => k_is)
    (case fi_of => k_is)
    (case l_of => k_is)
    (case c_of => k_is)
    (case k_of => k_is)
    (case a_eq => k_is)
    (case i_eq => k_is)
    (case l_eq => k_is)
    (case c_eq => k_is)
    (case k_eq => k_is)
    (case a_len => k_is)
    (case i_len => k_is)
    (case l_len => k_is)
    (case c_len => k_is)
    (case k_len => k_is)
    (case a_contains => k_is)
    (case i_contains => k_is)
    (case l_contains => k_is)
    (case c_contains => k_is)
    (case k_contains => k_is)
    (case a_need_box => k_is)
    (case i_need_box => k_is)
    (case l_need_box => k_is)
    (case c_need_box => k_is)
    (case k_need_box => k_is)
    (case a_need_place => k_is)
    (case i_need_place => k_is)
    (case l_need_place => k_is)
    (case c_need_place => k_is)
    (case k_need_place => k_is)
    (case a_need_item => k_is)
    (case i_need_item => k_is)
    (case l_need_item => k_is)
    (case c_need_item => k_is)
    (case k_need_item => k_is)
    (case a_need_room => k_is)
    (case i_need_room => k_is)
    (case l_need_room => k_is)
    (case c_need_room => k_is)
    (case k_need_room => k_is)
    (case a_new => k_is)
    (case i_new => k_is)
    (case l_new => k_is)
    (case c_new => k_is)
    (case k_new => k_is)
    (case a_add_at => k_is)
    (case i_add_at => k_is)
    (case l_add_at => k_is)
    (case c_add_at => k_is)
    (case k_add_at => k_is)
    (case a_add_last => k_is)
    (case i_add_last => k_is)
    (case l_add_last => k_is)
    (case c_add_last => k_is)
    (case k_add_last => k_is)
    (case a_swap => k_is)
    (case i_swap => k_is)
    (case l_swap => k_is)
    (case c_swap => k_is)
    (case k_swap => k_is)
    (case a_contents => k_is)
    (case i_contents => k_is)
    (case l_contents => k_is)
    (case c_contents => k_is)
    (case k_contents => k_is)
    (case vic => k_is)
    (case vim => k_is)
    (case vip => k_is)
    (case viu => k_is)
    (case na_lists => k_is)
    (case cv_MOST_BOXES => k_is)
    (case cv_MOST_ITEMS => k_is)
    (case b_BOX => k_is)
    (case b_LETTERS => k_is)
    (case b_MOST_LETTERS => k_is)
    (case a_Endless => k_is)
    (case a_Full => k_is)
    (case a_NoPlace => k_is)
    (case a_NothingDone => k_is)
    (case a_RingError => k_is)
    (case a_TooDeep => k_is)
    (case a_TooMany => k_is)
    (case a_NoBox => k_is)
    (case xq_NoBox => kernel_rfl)
    (case xd_NoBox => k_is)
    (case xs_NoBox => k_is)
    (case xb_NoBox => k_is)
    (case xt_NoBox => k_is)
    (case xk_NoBox => k_is)
    (case xi_NoBox => k_is)
    (case l_xi_NoBox => k_is)
    (case c_xi_NoBox => k_is)
    (case k_xi_NoBox => k_is)
    (case xj_NoBox => k_is)
    (case xn_NoBox => k_is)
    (case xg_NoBox => k_is)
    (case xh_NoBox => k_is)
    (case xl_NoBox => kernel_rfl)
    (case xc_NoBox => k_is)
    (case xp_NoBox => k_is)
    (case xu_NoBox => k_is)
    (case xm_NoBox => k_is)
    (case xe_NoBox => kernel_rfl)
    (case xv_NoBox => k_is)
    (case kt0 => kernel_rfl)
    (case kt1 => kernel_rfl)
    (case z_LookupError => k_is)
    (case z_abs => k_is)
    (case z_all => k_is)
    (case z_bool => k_is)
    (case z_int => k_is)
    (case z_isinstance => k_is)
    (case z_len => k_is)
    (case z_list => k_is)
    (case z_max => k_is)
    (case z_min => k_is)
    (case z_range => k_is)
    (case z_repr => k_is)
    (case z_str => k_is)
    (case z_tuple => k_is)
    (case zz1 => kernel_rfl)
    (case zz2 => kernel_rfl)
