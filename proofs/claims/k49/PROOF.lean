import PyProof.Rows.All
import Wide.All
import OpenK.AllK
import Wide.FinOn
import HandS.ForMost
import HandS.Flow
import HandS.Style
import HandS.IsInst
import HandS.ClsMeth
import HandS.Star
import HandS.SlotsOwn
import HandS.ListItems
import HandS.OwnEq
import PyProof.ReprLen
import PySem.Challenge.RW_ringlists_k49_deep_copies
set_option Elab.async false
set_option linter.all false
set_option maxRecDepth 100000
set_option maxHeartbeats 8000000
/-! RgA: rules of our own over the hand layer: calls by positional promises, own __contains__ and __len__, repr of data, the guards. -/
namespace Rg
open PySem PySem.Spec PyProof.Rows L2

/-! ### calls by positional promises -/
def tCallR (sp : Sp) (E : XK) (t : TA) : TE := fun s H Q => t s H fun vs H1 => sp vs H1 Q E
def tMethR0 (C : Addr) (m : Str) (sp : Sp) (E : XK) (ta : TE) : TE := fun s H Q => ta s H fun x H1 =>
  ∃ a dx fs, x = .ref a ∧ H1 a = some (.ins C dx fs) ∧ fs.lookup m = none ∧ sp [x] H1 Q E
section
variable {X : Cx} {CX : CXT} {k i : Nat} {f C : Addr} {sp : Sp} {E : XK} {x m : Str} {e o : Expr} {es : List Expr} {te ta : TE} {t : TA} {p p2 pos apos : Pos}
theorem pe_callR (F : FnR X.prog X.w X.K X.mg X.base CX k f sp) (hr : Room k X.A) (hg : Gl X x) (hm : X.mg x = some (.ref f)) (hk : PySem.W.keepIn X.K (.ref f) = true) (hx : Passes CX X E) (ha : PA X (e :: es) t)
    (hd : (x == ("__debug__" : Str)) = false := by decide) (he : starEach (e :: es) X.env = (false, eval e X.env) :: starEach es X.env := by rfl) (hpl : (backTo pos (starEach es X.env)).any (·.1) = false := by rfl) :
    PE X (.Call (.Name x p) (e :: es) [] pos) (tCallR sp E t) := ⟨fun pins s σ H Q I h =>
  wpAny_Call_Name_kw (ld_glob I hg hm (PySem.W.callWith_K (h₀ := X.base) I.ok.mod.kin hk
    (thn (ha.run pos pins s σ H _ I h) fun us s1 ⟨vs, H1, I1, r, q⟩ => ⟨I1.kIn, wpAny_call (run_fnR F hr hx I1 r q)⟩) he hpl) hd)⟩
theorem pe_callR0 (F : FnR X.prog X.w X.K X.mg X.base CX k f sp) (hr : Room k X.A) (hg : Gl X x) (hm : X.mg x = some (.ref f)) (hk : PySem.W.keepIn X.K (.ref f) = true) (hx : Passes CX X E)
    (hd : (x == ("__debug__" : Str)) = false := by decide) : PE X (.Call (.Name x p) [] [] pos) (tCallR sp E tNil) := ⟨fun pins s σ H Q I h =>
  wpAny_Call_Name_kw (ld_glob I hg hm (PySem.W.callWith_K0 I.kIn hk (wpAny_call (run_fnR F hr hx I .nil h))) hd)⟩
theorem pe_methR0 {pl : Sem Bool} (he : PE X o ta) (c : Cls X.K C) (hm : Meth X.K C m f) (F : FnR X.prog X.w X.K X.mg X.base CX k f sp) (hr : Room k X.A) (hx : Passes CX X E)
    (ht : eval (.Call (.Attribute o m apos) [] [] pos) X.env = (do
      let ov ← eval o X.env
      standAt apos.atName
      let (f, first) ← holding [ov] (getMethod ov m pl)
      callWith pos f first (backTo pos (starEach [] X.env)) (backToKw pos (keywordEach [] X.env))) := by rfl) :
    PE X (.Call (.Attribute o m apos) [] [] pos) (tMethR0 C m sp E ta) := by
  refine ⟨fun pins s σ H Q I h => ?_⟩
  refine PySem.W.methodCall_KW (pl := pl) (thn (he.run pins s σ H _ I h) fun u s1 ⟨x, H1, I1, rx, a, dx, fs, ex, ea, l, q⟩ => ?_) ht
  subst ex
  cases (show u = Value.ref a from rx)
  refine getmeth_ok I1 ea c hm l ?_
  exact PySem.W.callWith_K0 (first := [.ref a]) I1.kIn hm.kp (wpAny_call (run_fnR (us := [.ref a]) (vs := [.ref a]) F hr hx I1 (.cons rfl .nil) q))

/-- C( *y), C a class that stands in a local name -/
def tMakeSV (K : PySem.W.Frag) (C : Addr) (i : Nat) (sp : Sp) (E : XK) (te : TE) : TE := fun s H Q => s[i]? = some (some (.ref C)) ∧ te s H fun y H1 => ∃ a xs, y = V.ref a ∧ (SqT K H1 a xs ∨ SqL K H1 a xs) ∧
  ∀ o dx, H1 o = Option.none → H1 dx = Option.none → dx ≠ o → sp (V.ref o :: xs) (upd (upd H1 dx (.own o)) o (.ins C dx [])) (fun v H2 => v = .non ∧ Q (.ref o) H2) E
theorem pe_makeSV (M : Mk X.K C f) (F : FnR X.prog X.w X.K X.mg X.base CX k f sp) (hr : Room (k + 1) X.A) (hx : Passes CX X E) (hN : X.N[i]? = some x) (hv : Vis X.env.scope x) (he : PE X e te)
    (hd : (x == ("__debug__" : Str)) = false := by decide) (hcd : (x == ("__classdict__" : Str)) = false := by decide) (hst : starEach [.Starred e p2] X.env = [(true, eval e X.env)] := by rfl) :
    PE X (.Call (.Name x p) [.Starred e p2] [] pos) (tMakeSV X.K C i sp E te) := by
  refine ⟨fun pins s σ H Q I h => ?_⟩
  obtain ⟨hs, h⟩ := h
  refine wpAny_Call_Name_kw (thn ((pe_var (pos := p) (i := i) hN hv hd hcd).run pins s σ H (fun v H1 => v = .ref C ∧ H1 = H) I ⟨.ref C, hs, rfl, rfl⟩) fun u s1 ⟨v, H1, I1, r1, ev, eH⟩ => ?_)
  subst ev
  rw [eH] at I1
  cases r1
  refine PySem.W.callWith_S (h₀ := X.base) I.ok.mod.kin M.kp (thn (he.run pins s1 σ H _ I1 h) fun v s2 ⟨y, H2, I2, ry, a, xs, ey, hxs, q⟩ => ?_) hst
  subst ey
  cases (show v = Value.ref a from ry)
  exact StX.star_any I2 hxs fun us s3 I3 rv => ⟨I3.kIn, StX.run_makeR M F hr hx I3 rv q⟩

/-! ### own __contains__, own __len__ -/
def rNotInOwn (C : Addr) (sp : Sp) (E : XK) : R2 := fun x y H Q => ∃ a dx fs, y = .ref a ∧ H a = some (.ins C dx fs) ∧ sp [y, x] H (fun v H' => ∃ b, v = .bl b ∧ Q (.bl (!b)) H') E
theorem op_notInOwn {n : Nat} {g : Addr} (hs : PySem.W.findIn X.K (.ref C) "__contains__" = some (some (.ref g))) (hf : PySem.W.isFn X.K (.ref g) = true) (F : FnR X.prog X.w X.K X.mg X.base CX n g sp) (hr : Room n X.A) (hx : Passes CX X E) :
    OpR X (compareOp .NotIn) (rNotInOwn C sp E) := by
  intro pins s σ H x y v u Q I rx ry hq
  obtain ⟨a, dx, fs, rfl, ha, q⟩ := hq
  cases (show u = Value.ref a from ry)
  obtain ⟨mA, J, _⟩ := ins_get I.hok ha
  obtain ⟨od, J, _⟩ := J.look
  obtain ⟨m, hF⟩ := I.fr
  refine PySem.W.notIn_K hF I.ok.mod.kin J hs hf (thn (wpAny_call (run_fnR (us := [.ref a, v]) (vs := [.ref a, x]) F hr hx I (.cons rfl (.cons rx .nil)) q)) fun r s' z => ?_)
  obtain ⟨z, H', I', rz, b, eb, qz⟩ := z
  subst eb
  cases (show r = Value.bool b from rz)
  exact wpAny_truthy_bool ⟨.bl (!b), H', I', rfl, qz⟩
def rLenOwn (C : Addr) (sp : Sp) (E : XK) : List V → Hp → VK → Prop := fun xs H Q => ∃ a dx fs, xs = [.ref a] ∧ H a = some (.ins C dx fs) ∧ sp [.ref a] H (fun v H' => ∃ n : Int, v = .int n ∧ (0 ≤ n ∧ n < 2 ^ 63) ∧ Q (.int n) H') E
theorem call_lenOwn {n : Nat} {g : Addr} (hs : PySem.W.findIn X.K (.ref C) "__len__" = some (some (.ref g))) (hf : PySem.W.isFn X.K (.ref g) = true) (F : FnR X.prog X.w X.K X.mg X.base CX n g sp) (hr : Room (n + 1) X.A) (hx : Passes CX X E) :
    CallR X (.builtin "len") (rLenOwn C sp E) := by
  intro pins s σ H xs us Q I r h
  obtain ⟨a, dx, fs, rfl, ha, q⟩ := h
  obtain ⟨u, rfl, ru⟩ := vals1 r
  cases (show u = Value.ref a from ru)
  obtain ⟨mA, J, _⟩ := ins_get I.hok ha
  obtain ⟨od, J, _⟩ := J.look
  obtain ⟨m, hF⟩ := I.fr
  refine PySem.W.len_K hF I.ok.mod.kin J hs hf (thn (wpAny_call (SlX.run_at (us := [.ref a]) (ws := [.ref a]) F hr.in1 I.env0.in1 hx I (.cons rfl .nil) q)) fun r s' z => ?_)
  obtain ⟨z, H', I', rz, k, ek, hk, qz⟩ := z
  subst ek
  obtain ⟨t, e⟩ := (show ∃ t, r = Value.int k t from rz)
  subst e
  exact ⟨hk, .int k, H', I'.tok _, ⟨_, rfl⟩, qz⟩

/-! ### repr of data -/
/-- repr(x), x data whose text has a size -/
def rReprD (K : PySem.W.Frag) : List V → Hp → VK → Prop := fun xs H Q => ∃ a d, xs = [.ref a] ∧ Dp K H (.ref a) d ∧ d.showable = true ∧ d.hasDict = false ∧ d.depth ≤ 30 ∧ d.shown.length ≤ sizeLine ∧ Q (.str d.shown) H
theorem call_reprD (hg : X.A.guards = some []) (hr : Room k X.A) : CallR X (.builtin "repr") (rReprD X.K) := by
  intro pins s σ H xs us Q I r h
  obtain ⟨a, d, rfl, hd, h1, h2, h3, h4, q⟩ := h
  obtain ⟨u, rfl, ru⟩ := vals1 r
  cases (show u = Value.ref a from ru)
  obtain ⟨as, hread⟩ := Dp.reads I d (.ref a) (.ref a) hd rfl
  refine PySem.repr_of_reads' (h₀ := s.heap) hread h1 (fun z => by rw [h2] at z; cases z) hg (by have := hr.units; omega) (fun b o e => e) (fun h' u tk hk => ?_) h4
  exact ⟨.str d.shown, H, I.kept (t' := tk) hk, ⟨_, rfl⟩, q⟩
end

/-! ### promises that know that nothing is under way (no repr around) -/
def FnGd (P : Program) (w : World) (K : PySem.W.Frag) (mg : Str → Option Value) (base : Heap) (CX : CXT) (k : Nat) (f : Addr) (sp : Sp) : Prop :=
  ∀ (A : Around) (outer : List Env) (s : Shared) (H : Hp) (us : List Value) (vs : List V) (Q : VK) (E : XK), A.guards = some [] → Room k A → Env0 P w K mg base A outer s H → Vals vs us → sp vs H Q E →
    codeAny (model P w) A (.call (.ref f) ⟨us, []⟩) (CR CX outer P w H s Q E) s
section
variable {X : Cx} {CX : CXT} {k i : Nat} {f C : Addr} {sp : Sp} {E : XK} {x m : Str} {e o : Expr} {es : List Expr} {te ta : TE} {t : TA} {p p2 pos apos : Pos}
theorem run_fnGd {pins : List (Addr × Obj)} {σ : L2.St} {H : Hp} {s : Shared} {Q : VK} {us : List Value} {vs : List V} (F : FnGd X.prog X.w X.K X.mg X.base CX k f sp) (hA : X.A.guards = some []) (hr : Room k X.A) (hx : Passes CX X E) (I : Inv X pins σ H s) (r : Vals vs us) (h : sp vs H Q E) :
    codeAny (model X.prog X.w) X.A (.call (.ref f) ⟨us, []⟩) (fun r s' => match r with | .ok (.ret v) => EP X pins σ Q v s' | .ok _ => False | .error e => X.xe e s') s := by
  refine codeAny_mono (F X.A X.stack s H us vs Q E hA hr I.env0 r h) fun r s' hq => ?_
  match r, hq with
  | .error e, hq => exact hx pins σ H s e s' I hq
  | .ok (.ret u), hq => exact I.after hq
theorem pe_callGd (F : FnGd X.prog X.w X.K X.mg X.base CX k f sp) (hA : X.A.guards = some []) (hr : Room k X.A) (hg : Gl X x) (hm : X.mg x = some (.ref f)) (hk : PySem.W.keepIn X.K (.ref f) = true) (hx : Passes CX X E) (ha : PA X (e :: es) t)
    (hd : (x == ("__debug__" : Str)) = false := by decide) (he : starEach (e :: es) X.env = (false, eval e X.env) :: starEach es X.env := by rfl) (hpl : (backTo pos (starEach es X.env)).any (·.1) = false := by rfl) :
    PE X (.Call (.Name x p) (e :: es) [] pos) (tCallR sp E t) := ⟨fun pins s σ H Q I h =>
  wpAny_Call_Name_kw (ld_glob I hg hm (PySem.W.callWith_K (h₀ := X.base) I.ok.mod.kin hk
    (thn (ha.run pos pins s σ H _ I h) fun us s1 ⟨vs, H1, I1, r, q⟩ => ⟨I1.kIn, wpAny_call (run_fnGd F hA hr hx I1 r q)⟩) he hpl) hd)⟩
end
section
variable {P : Program} {w : World} {K : PySem.W.Frag} {mg : Str → Option Value} {base : Heap}
/-- a def by its body, where nothing is under way -/
theorem okGd {qual nm : Str} {st : Stmt} {f : Addr} {fd : FuncData} {N ps : List Str} {k : Nat} {sp : Sp} (F : Fun K nm qual st f fd) (S : FnScope N ps (defScope st)) (len : ∀ vs H Q E, sp vs H Q E → vs.length = ps.length) (hb : Binds K fd ps [])
    (hbody : ∀ (cdv : Value) (A : Around) (outer : List Env) (s : Shared) (H : Hp) (vs : List V) (Q : VK) (E : XK), (A.deeper (envOfC qual (defScope st) s.heap.objs.size f cdv)).guards = some [] → Room k (A.deeper (envOfC qual (defScope st) s.heap.objs.size f cdv)) → sp vs H Q E →
      ∃ t, PSs (cxOf CX0 P w K mg base N qual (defScope st) f cdv A outer s H E).nox (defBody st) t ∧ t { nx := fun _ H' => Q .non H', rt := Q } (start N vs) H) : FnGd P w K mg base CX0 (k + 1) f sp := by
  intro A outer s H us vs Q E hA hr e0 rv hsp
  obtain ⟨oc, od, kV, doc, pm, an, cdv, ct, osl, rfl, lk, hcd⟩ := F.ex
  have hl : us.length = ps.length := by rw [← rv.length]; exact len _ _ _ _ hsp
  have hbd := hb s us (e0.mod.kin.keeps fun b o e => (e0.bs b o e).1) (by simpa using hl)
  rw [List.append_nil] at hbd
  refine StX.run_bnd (G := fun vs' H' => vs' = vs ∧ H' = H) lk hcd S hr e0 (fun A' Ex Q' h => hbd _ _ _ _ (h s H vs us e0 Un.refl rfl (fun _ _ z => z) rv (by rw [rv.length]; exact hl) ⟨rfl, rfl⟩)) fun s2 H2 vs2 ⟨e1, e2⟩ hr2 => ?_
  subst e1 e2
  obtain ⟨t, h, q⟩ := hbody cdv A outer s2 H2 vs2 Q E hA hr2 hsp
  exact ⟨t, h.nox, q⟩
/-- a def by its body, its promise by positional values -/
theorem okR {qual nm : Str} {st : Stmt} {f : Addr} {fd : FuncData} {N ps : List Str} {k : Nat} {sp : Sp} (F : Fun K nm qual st f fd) (S : FnScope N ps (defScope st)) (len : ∀ vs H Q E, sp vs H Q E → vs.length = ps.length) (hb : Binds K fd ps [])
    (hbody : ∀ (cdv : Value) (A : Around) (outer : List Env) (s : Shared) (H : Hp) (vs : List V) (Q : VK) (E : XK), Room k (A.deeper (envOfC qual (defScope st) s.heap.objs.size f cdv)) → sp vs H Q E →
      ∃ t, PSs (cxOf CX0 P w K mg base N qual (defScope st) f cdv A outer s H E).nox (defBody st) t ∧ t { nx := fun _ H' => Q .non H', rt := Q } (start N vs) H) : FnR P w K mg base CX0 (k + 1) f sp :=
  (((F.ok S len hbody).raw hb .nil).imp fun vs H Q E h => by rw [List.append_nil]; exact h)
end
/-- a method with one parameter ahead of a star parameter -/
theorem okStar {P : Program} {w : World} {K : PySem.W.Frag} {mg : Str → Option Value} {base : Heap} {qual nm p1 pv : Str} {st : Stmt} {f : Addr} {fd : FuncData} {N : List Str} {k : Nat} {sp : Sp} (F : Fun K nm qual st f fd) (S : FnScope N [p1, pv] (defScope st))
    (h0 : ∀ (kV doc pm : Value) (an : Option Addr) (cdv ct a : Value), bindArgs (PySem.W.fnOf nm qual (defArgs st) (defBody st) (defScope st) .none kV doc pm an cdv ct) ⟨[a], []⟩ = (newTuple [] >>= fun t => pure [(p1, a), (pv, t)]))
    (h1 : ∀ (kV doc pm : Value) (an : Option Addr) (cdv ct a r : Value) (rs : List Value), bindArgs (PySem.W.fnOf nm qual (defArgs st) (defBody st) (defScope st) .none kV doc pm an cdv ct) ⟨a :: r :: rs, []⟩ = (newTuple (r :: rs) >>= fun t => pure [(p1, a), (pv, t)]))
    (hbody : ∀ (cdv : Value) (A : Around) (outer : List Env) (s : Shared) (H : Hp) (vs : List V) (Q : VK) (E : XK), Room k (A.deeper (envOfC qual (defScope st) s.heap.objs.size f cdv)) → sp vs H Q E →
      ∃ t, PSs (cxOf CX0 P w K mg base N qual (defScope st) f cdv A outer s H E).nox (defBody st) t ∧ t { nx := fun _ H' => Q .non H', rt := Q } (start N vs) H) :
    FnR P w K mg base CX0 (k + 1) f (fun vs H Q E => ∃ v rest, vs = v :: rest ∧ rest.length ≤ sizeLine ∧ ∀ p, H p = none → sp [v, .ref p] (upd H p (.tup rest)) Q E) := by
  obtain ⟨oc, od, kV, doc, pm, an, cdv, ct, osl, rfl, lk, hcd⟩ := F.ex
  refine (StX.fn_star (ps := [p1]) (pv := pv) (sp := sp) lk hcd S StX.cxUp_none (StX.bind_star1 (B := fun us => bindArgs (PySem.W.fnOf nm qual (defArgs st) (defBody st) (defScope st) .none kV doc pm an cdv ct) ⟨us, []⟩) (h0 kV doc pm an cdv ct) (h1 kV doc pm an cdv ct)) fun A outer s H vs Q E hr hsp => ?_).imp ?_
  · obtain ⟨t, h, q⟩ := hbody cdv A outer s H vs Q E hr hsp
    exact ⟨t, h.nox, q⟩
  · rintro vs H Q E ⟨v, rest, rfl, hz, q⟩
    exact ⟨[v], rest, rfl, rfl, hz, q⟩
/-! ### rules within a comprehension's block, the written part told -/
section
variable {X : Cx} {K : PySem.W.Frag} {tg e : Expr} {te : TE} {f : Str} {pos : Pos}
def rListOf (K : PySem.W.Frag) : List V → Hp → VK → Prop := fun xs H Q => ∃ p ys, xs = [.ref p] ∧ (SqL K H p ys ∨ SqT K H p ys) ∧ ∀ l, H l = none → Q (.ref l) (upd H l (.lst ys))
theorem listK (h : X.K = K := by rfl) : CallR X (.type "list") (rListOf K) := h ▸ call_list_of
theorem isiK (h : X.K = K := by rfl) : CallR X (.builtin "isinstance") (rIsi K) := h ▸ call_isi
def rLenK (K : PySem.W.Frag) : List V → Hp → VK → Prop := fun xs H Q => ∃ x n, xs = [x] ∧ LenV K x H n ∧ Q (.int n) H
theorem lenK (h : X.K = K := by rfl) : CallR X (.builtin "len") (rLenK K) := h ▸ call_len
theorem ixlK (h : X.K = K := by rfl) : IxR X (rIxL K) := h ▸ ix_list
theorem ixtK (h : X.K = K := by rfl) : IxR X (rIxT K) := h ▸ ix_tup
theorem inK (h : X.K = K := by rfl) : OpR X (compareOp .In) (rIn K false) := h ▸ op_in_seq
theorem notInK (h : X.K = K := by rfl) : OpR X (compareOp .NotIn) (rIn K true) := h ▸ op_notIn_seq
theorem pil (hl : PE X e te) (h : X.K = K := by rfl) : PI X tg e (iList K te) := h ▸ pi_list hl
theorem pit (hl : PE X e te) (h : X.K = K := by rfl) : PI X tg e (iTup K te) := h ▸ pi_tup hl
theorem fldK (he : PE X e te) (h : X.K = K := by rfl) (hb : attributeBase e f X.env (eval e X.env) = eval e X.env := by rfl) : PE X (.Attribute e f pos) (tFld K te f) := h ▸ pe_fld he hb
end
end Rg
/-! RgB: the end of a law whose promise knows that nothing is under way. -/
namespace Rg
open PySem PySem.Spec PyProof.Rows L2

/-- the heap at the law's entry: the script alone, frozen, where it is no object of the module -/
def H0 (K : PySem.W.Frag) (a : Addr) (vs : List Value) (ns : List Int) : Hp := fun b =>
  if b = a ∧ K.lookup a = none then some (.frz { cls := .type "list", data := .seq vs.toArray } (.lst (ns.map V.int))) else none
section
variable {K : PySem.W.Frag} {a : Addr} {vs : List Value} {ns : List Int}
theorem H0_some {b : Addr} {u : HO} (h : H0 K a vs ns b = some u) : b = a ∧ K.lookup a = none ∧ u = .frz { cls := .type "list", data := .seq vs.toArray } (.lst (ns.map V.int)) := by
  by_cases c : b = a ∧ K.lookup a = none
  · rw [H0, if_pos c] at h
    exact ⟨c.1, c.2, (Option.some.inj h).symm⟩
  · rw [H0, if_neg c] at h
    cases h
theorem H0_only : Only (H0 K a vs ns) := fun b => by
  by_cases c : b = a ∧ K.lookup a = none
  · exact .inr ⟨_, _, if_pos c⟩
  · exact .inl (if_neg c)
end
theorem law_callG {P : Program} {w : World} {K : PySem.W.Frag} {mg mb : Str → Option Value} {k : Nat} {fa a : Addr} {sp : Sp} {s1 : Shared} {vs : List Value} {ns : List Int}
    (KX : K.In s1.heap) (hns : s1.heap.Ns mainGlobals mg) (hb : s1.heap.Ns builtinsNs mb) (hbb : ∀ x : Str, x ≠ "__name__" → mb x = bootBuiltins x) (hlim : s1.heap.NoLimit) (hg : s1.gens = #[])
    (ha : s1.heap.get? a = some { cls := .type "list", data := .seq vs.toArray }) (hi : IntsAre vs ns) (hl : ns.length ≤ sizeLine) (hr : Room k callerA)
    (F : ∀ base : Heap, K.In base → base.Ns mainGlobals mg → FnGd P w K mg base CX0 k fa sp)
    (hsp : ∀ H : Hp, Only H → SqL K H a (ns.map V.int) → sp [.ref a] H (fun v _ => v = .bl true) fun _ _ _ => False) :
    codeAny (model P w) callerA (.call (.ref fa) ⟨[.ref a], []⟩) (fun r s' => r = .ok (.ret (.bool true)) ∧ OldK s1.heap s'.heap ∧ s'.os = s1.os ∧ AllBare s'.gens) s1 := by
  have rv := vals_ints hi
  have hok : HOk P w (H0 K a vs ns) s1.heap := fun b u z => by
    obtain ⟨rfl, _, rfl⟩ := H0_some z
    exact ⟨ha, by rw [List.length_map]; exact hl, vs, _, rv, ha⟩
  -- what is no script and stands, stands in the hidden heap too
  have dict_in : ∀ {b : Addr} {m : Str → Option Value}, s1.heap.Ns b m → (hidT s1.heap (H0 K a vs ns)).Ns b m := fun {b m} ⟨o, es, ep, e, d, r⟩ => by
    refine ⟨o, es, ep, hidT_get e ?_, d, r⟩
    cases q : H0 K a vs ns b with
    | none => rfl
    | some u =>
      obtain ⟨rfl, _, _⟩ := H0_some q
      rw [ha] at e
      cases e
      cases (show Data.seq vs.toArray _ = Data.dict es ep from d)
  have hKb : K.In (hidT s1.heap (H0 K a vs ns)) := fun b o e => hidT_get (KX b o e) (by
    cases q : H0 K a vs ns b with
    | none => rfl
    | some u =>
      obtain ⟨rfl, n, _⟩ := H0_some q
      rw [n] at e
      cases e)
  have hM : Mod K mg (hidT s1.heap (H0 K a vs ns)) := ⟨hKb, dict_in hns, ⟨mb, dict_in hb, hbb⟩, let ⟨mc, h1, h2⟩ := hlim; ⟨mc, dict_in h1, h2⟩⟩
  have e0 : Env0 P w K mg (hidT s1.heap (H0 K a vs ns)) callerA [] s1 (H0 K a vs ns) :=
    ⟨rfl, hM, fun b o e => of_hidT e, Nat.le_of_eq (hidT_size _ _), trivial, fun b hb => absurd (show b ∈ ([] : List Addr) from hb) (by simp), hok, .of_eq hg⟩
  have hS : SqL K (H0 K a vs ns) a (ns.map V.int) := by
    cases hk : K.lookup a with
    | none => exact .inl (.inr ⟨_, if_pos ⟨rfl, hk⟩⟩)
    | some o =>
      have e := KX a o hk
      rw [ha] at e
      cases e
      exact .inr ⟨_, vs.toArray, _, hk, rfl, rfl, rfl, by rw [List.size_toArray, hi.length]; exact hl, by simpa using rv⟩
  refine codeAny_mono (F _ hKb (dict_in hns) callerA [] s1 (H0 K a vs ns) [.ref a] [.ref a] _ _ rfl hr e0 (.cons rfl .nil) (hsp _ H0_only hS)) fun r s' h => ?_
  match r, h with
  | .error e, h => exact False.elim h
  | .ok (.ret u), h =>
    obtain ⟨v, H', os, bare, un, hok', r', q⟩ := h
    subst q
    cases (show u = Value.bool true from r')
    refine ⟨rfl, OldK.of_keep fun b o e => ?_, os, bare⟩
    cases q : H0 K a vs ns b with
    | none => exact un.keep b o e q (fun z => absurd (show b ∈ ([] : List Addr) from z) (by simp)) (by simp)
    | some u =>
      obtain ⟨_, _, eu⟩ := H0_some q
      rw [eu] at q
      have e2 := (hok' b _ (un.frzs b _ _ q)).1
      rw [(hok b _ q).1] at e
      cases e
      exact e2
theorem walk_ofG {l : PySem.W.OpenLaw} {n k : Nat} {q : Program} {loose : List Str} {XP : (Str → Option Value) → Heap → Prop} {YP : World → Heap → Prop} {d : DefRec} {K : Params → PySem.W.Frag} {sp : PySem.W.Frag → Sp}
    (hn : l.most = some n) (hn2 : n ≤ sizeLine) (hdf : d.params.defaults = []) (hr : Room k callerA) (hY : ∀ (w : World) (h : Heap), YP w h → (K w.params).In h)
    (F : ∀ (w : World) (mg : Str → Option Value) (fa : Addr) (h : Heap), (K w.params).In h → h.Ns mainGlobals mg → mg d.name = some (.ref fa) →
      ∀ base : Heap, (K w.params).In base → base.Ns mainGlobals mg → FnGd l.prog w (K w.params) mg base CX0 k fa (sp (K w.params)))
    (hsp : ∀ (K : PySem.W.Frag) (H : Hp) (a : Addr) (ns : List Int), ns.length ≤ n → Only H → SqL K H a (ns.map V.int) → sp K [.ref a] H (fun v _ => v = .bl true) fun _ _ _ => False) :
    PySem.W.WalkO q loose XP YP l.row.toRowW d [] (fun f vs => PySem.call f vs) :=
  Att.attach_call hn hdf fun w s0 s1 mg mb fa o pm cd doc a vs ns G Y _ _ _ hmg hobj hints hlen hg =>
    law_callG (hY w _ Y) G.T.g G.T.b G.T.builtins G.T.nolimit hg hobj hints (Nat.le_trans hlen hn2) hr (F w mg fa _ (hY w _ Y) G.T.g hmg) fun H hO hS => hsp _ H a ns hlen hO hS
end Rg
/-! RgD: heaps of which some addresses may change, what stays; items, rows, contents; comprehensions by what each item gives. -/
namespace Rg
open PySem PySem.Spec PyProof.Rows L2

/-- H without the addresses of S -/
def hd (S : List Addr) (H : Hp) : Hp := fun a => if a ∈ S then none else H a
/-- objects that nobody changes -/
def stays : HO → Bool
  | .tup _ => true
  | .frz _ _ => true
  | _ => false
/-- all that was tracked outside S stands, and all that nobody changes -/
def Keep (S : List Addr) (H H' : Hp) : Prop := ∀ a o, (a ∉ S ∨ stays o = true) → H a = some o → H' a = some o
section
variable {S T : List Addr} {H H1 H2 H' : Hp} {a b p : Addr} {o u : HO}
theorem hd_in (h : a ∈ S) : hd S H a = none := if_pos h
theorem hd_out (h : a ∉ S) : hd S H a = H a := if_neg h
theorem hd_some (h : hd S H a = some o) : a ∉ S ∧ H a = some o := by
  by_cases c : a ∈ S
  · rw [hd_in c] at h
    cases h
  · rw [hd_out c] at h
    exact ⟨c, h⟩
theorem hd_same : Same (hd S H) H := fun a o h => (hd_some h).2
theorem hd_sub (h : ∀ x ∈ S, x ∈ T) : Same (hd T H) (hd S H) := fun a o e => by
  obtain ⟨n, e⟩ := hd_some e
  rw [hd_out fun z => n (h a z)]
  exact e
theorem Keep.refl : Keep S H H := fun _ _ _ h => h
theorem Keep.trans (x : Keep S H H1) (y : Keep S H1 H2) : Keep S H H2 := fun a o n h => y a o n (x a o n h)
theorem Keep.mono (x : Keep S H H') (h : ∀ y ∈ S, y ∈ T) : Keep T H H' := fun a o n e => x a o (n.imp_left fun n z => n (h a z)) e
theorem Keep.all (x : Keep [] H H') : Keep S H H' := x.mono fun _ z => absurd z (by simp)
theorem Keep.same (x : Keep [] H H') : Same H H' := fun a o h => x a o (.inl (by simp)) h
theorem Keep.of (x : Same H H') : Keep S H H' := fun a o _ h => x a o h
theorem Keep.new (h : H p = none) : Keep S H (upd H p o) := fun a u _ e => by rw [upd_ne (ne_of_none e h)]; exact e
theorem Keep.put (h : p ∈ S) (hu : H p = some u) (hs : stays u = false) : Keep S H (upd H p o) := fun a w n e => by
  rw [upd_ne fun z : a = p => ?_]
  · exact e
  · rw [z, hu] at e
    cases e
    rcases n with n | n
    · exact n (by rw [z]; exact h)
    · rw [hs] at n
      cases n
theorem Keep.hd (x : Keep S H H') (h : ∀ y ∈ S, y ∈ T) : Same (hd T H) (hd T H') := fun a o e => by
  obtain ⟨n, e⟩ := hd_some e
  rw [hd_out n]
  exact x a o (.inl fun z => n (h a z)) e
theorem Keep.at (x : Keep S H H') (n : a ∉ S) (e : H a = some o) : H' a = some o := x a o (.inl n) e
theorem Keep.tup (x : Keep S H H') {xs : List V} (e : H a = some (.tup xs)) : H' a = some (.tup xs) := x a _ (.inr rfl) e
/-- what is free now was free -/
theorem Keep.free (x : Keep S H H') (h : H' a = none) (n : a ∉ S) : H a = none := by
  cases q : H a with
  | none => rfl
  | some o => rw [x a o (.inl n) q] at h; cases h
/-- an object made in between may change as well -/
theorem Keep.drop (x : Keep (p :: S) H H') (h : H p = none) : Keep S H H' := fun a o n e => x a o (n.imp_left fun n z => by
  rcases List.mem_cons.mp z with z | z
  · rw [z, h] at e; cases e
  · exact n z) e
theorem Keep.upd_fresh (x : Keep S H H1) (h : H p = none) : Keep S H (upd H1 p o) := fun a u n e => by
  rw [upd_ne (ne_of_none e h)]
  exact x a u n e
theorem ne_in {S : List Addr} (h : ∀ x ∈ S, H x ≠ none) (hp : H p = none) : p ∉ S := fun z => h p z hp
theorem upd_ne_none (h : H a ≠ none) : upd H p o a ≠ none := by
  unfold upd
  split
  · simp
  · exact h
theorem Keep.there (x : Keep S H H') (n : a ∉ S) (h : H a ≠ none) : H' a ≠ none := by
  cases q : H a with
  | none => exact absurd q h
  | some o => rw [x a o (.inl n) q]; simp
end

section
variable {K : PySem.W.Frag} {H H' : Hp} {a : Addr} {xs : List V}
theorem sqL_same (e : Same H H') (h : SqL K H a xs) : SqL K H' a xs := e.seq h
theorem sqT_same (e : Same H H') (h : SqT K H a xs) : SqT K H' a xs := by
  rcases h with (h | ⟨o, h⟩) | h
  · exact .inl (.inl (e _ _ h))
  · exact .inl (.inr ⟨o, e _ _ h⟩)
  · exact .inr h
theorem Dp.same (e : Same H H') {v : V} {d : PyData} (h : Dp K H v d) : Dp K H' v d :=
  Dp.rec (motive_1 := fun v d _ => Dp K H' v d) (motive_2 := fun vs ds _ => DpAll K H' vs ds)
    .non .bl .int .str (fun h _ ih => .lst (e.seq h) ih) (fun h _ ih => .tup (sqT_same e h) ih) .nil (fun _ _ i1 i2 => .cons i1 i2) h
theorem DpAll.same (e : Same H H') : ∀ {vs : List V} {ds : List PyData}, DpAll K H vs ds → DpAll K H' vs ds
  | _, _, .nil => .nil
  | _, _, .cons h t => .cons (Dp.same e h) (DpAll.same e t)
theorem dpAll_of {γ : Type} {R : V → γ → Prop} {g : γ → PyData} (hR : ∀ v z, R v z → Dp K H v (g z)) : ∀ {vs : List V} {zs : List γ}, Paired R vs zs → DpAll K H vs (zs.map g)
  | _, _, .nil => .nil
  | _, _, .cons h t => .cons (hR _ _ h) (dpAll_of hR t)
theorem paired_mono {α γ : Type} {R R' : α → γ → Prop} (h : ∀ v z, R v z → R' v z) : ∀ {vs : List α} {zs : List γ}, Paired R vs zs → Paired R' vs zs
  | _, _, .nil => .nil
  | _, _, .cons a t => .cons (h _ _ a) (paired_mono h t)
theorem paired_get {α γ : Type} {R : α → γ → Prop} : ∀ {vs : List α} {zs : List γ} {i : Nat} {z : γ}, Paired R vs zs → zs[i]? = some z → ∃ v, vs[i]? = some v ∧ R v z
  | _, _, _, _, .nil, e => by simp at e
  | _, _, 0, _, .cons h _, e => by simp at e; subst e; exact ⟨_, rfl, h⟩
  | _, _, i + 1, z, .cons _ t, e => by
    obtain ⟨v, h1, h2⟩ := paired_get (i := i) (z := z) t (by simpa using e)
    exact ⟨v, by simpa using h1, h2⟩
theorem paired_getV {α γ : Type} {R : α → γ → Prop} : ∀ {vs : List α} {zs : List γ} {i : Nat} {v : α}, Paired R vs zs → vs[i]? = some v → ∃ z, zs[i]? = some z ∧ R v z
  | _, _, _, _, .nil, e => by simp at e
  | _, _, 0, _, .cons h _, e => by simp at e; subst e; exact ⟨_, rfl, h⟩
  | _, _, i + 1, v, .cons _ t, e => by
    obtain ⟨z, h1, h2⟩ := paired_getV (i := i) (v := v) t (by simpa using e)
    exact ⟨z, by simpa using h1, h2⟩
theorem paired_append {α γ : Type} {R : α → γ → Prop} : ∀ {vs ws : List α} {zs ys : List γ}, Paired R vs zs → Paired R ws ys → Paired R (vs ++ ws) (zs ++ ys)
  | _, _, _, _, .nil, s => s
  | _, _, _, _, .cons h t, s => .cons h (paired_append t s)
theorem paired_set {α γ : Type} {R : α → γ → Prop} {v : α} {z : γ} (r : R v z) : ∀ {vs : List α} {zs : List γ} (i : Nat), Paired R vs zs → Paired R (vs.set i v) (zs.set i z)
  | _, _, _, .nil => .nil
  | _, _, 0, .cons _ t => .cons r t
  | _, _, i + 1, .cons h t => .cons h (paired_set r i t)
theorem paired_map {α γ β : Type} {R : α → γ → Prop} {f : β → α} {g : β → γ} : ∀ {l : List β}, (∀ x ∈ l, R (f x) (g x)) → Paired R (l.map f) (l.map g)
  | [], _ => .nil
  | x :: l, h => .cons (h x (by simp)) (paired_map fun y hy => h y (by simp [hy]))
end

theorem paired_eq {γ : Type} {f : γ → V} : ∀ {acc : List V} {zs : List γ}, Paired (fun v z => v = f z) acc zs → acc = zs.map f
  | _, _, .nil => rfl
  | _, _, .cons a t => by rw [a, paired_eq t]; rfl
theorem paired_mem {α γ : Type} {R R' : α → γ → Prop} : ∀ {vs : List α} {zs : List γ}, Paired R vs zs → (∀ (i : Nat) v z, vs[i]? = some v → zs[i]? = some z → R v z → R' v z) → Paired R' vs zs
  | _, _, .nil, _ => .nil
  | _, _, .cons a t, h => .cons (h 0 _ _ rfl rfl a) (paired_mem t fun i v z h1 h2 r => h (i + 1) v z (by simpa using h1) (by simpa using h2) r)
theorem paired_of {α γ : Type} {R : α → γ → Prop} : ∀ {vs : List α} {zs : List γ}, vs.length = zs.length → (∀ (i : Nat) v z, vs[i]? = some v → zs[i]? = some z → R v z) → Paired R vs zs
  | [], [], _, _ => .nil
  | [], _ :: _, h, _ => by simp at h
  | _ :: _, [], h, _ => by simp at h
  | v :: vs, z :: zs, h, k => .cons (k 0 v z rfl rfl) (paired_of (by simpa using h) fun i v z h1 h2 => k (i + 1) v z (by simpa using h1) (by simpa using h2))

/-! ### items, rows, contents -/
/-- an item: an integer, a word, a reference -/
inductive Im where
  | i (n : Int) | s (x : Str) | b (n : Nat)
  deriving DecidableEq
def Im.d : Im → PyData
  | .i n => .int n
  | .s x => .str x
  | .b n => .tuple [.str "box", .int n]
def rowD (r : List Im) : PyData := .list (r.map Im.d)
def contD (c : List (List Im)) : PyData := .list (c.map rowD)
def ImV (H : Hp) (v : V) : Im → Prop
  | .i n => v = .int n
  | .s x => v = .str x
  | .b n => ∃ a, v = .ref a ∧ H a = some (.tup [.str "box", .int n])
abbrev ImsV (H : Hp) : List V → List Im → Prop := Paired (ImV H)
/-- a list of items, of rows, none of whose lists stands in S -/
def RowV (S : List Addr) (H : Hp) (v : V) (r : List Im) : Prop := ∃ a xs, v = .ref a ∧ a ∉ S ∧ H a = some (.lst xs) ∧ ImsV H xs r
abbrev RowsV (S : List Addr) (H : Hp) : List V → List (List Im) → Prop := Paired (RowV S H)
def ContV (S : List Addr) (H : Hp) (v : V) (c : List (List Im)) : Prop := ∃ a vs, v = .ref a ∧ a ∉ S ∧ H a = some (.lst vs) ∧ RowsV S H vs c
section
variable {K : PySem.W.Frag} {M S : List Addr} {H H' : Hp} {v : V}
theorem ImV.keep (k : Keep M H H') : ∀ {x : Im}, ImV H v x → ImV H' v x
  | .i _, h => h
  | .s _, h => h
  | .b _, ⟨a, h1, h2⟩ => ⟨a, h1, k.tup h2⟩
theorem ImV.dp : ∀ {x : Im}, ImV H v x → Dp K H v x.d
  | .i _, h => by rw [show v = _ from h]; exact .int _
  | .s _, h => by rw [show v = _ from h]; exact .str _
  | .b _, ⟨a, h1, h2⟩ => by rw [h1]; exact .tup (.of h2) (.cons (.str _) (.cons (.int _) .nil))
theorem ImsV.keep (k : Keep M H H') {vs : List V} {r : List Im} (h : ImsV H vs r) : ImsV H' vs r := paired_mono (fun _ _ z => z.keep k) h
theorem RowV.keep (k : Keep M H H') (hs : ∀ m ∈ M, m ∈ S) {r : List Im} : RowV S H v r → RowV S H' v r := fun ⟨a, xs, h1, h2, h3, h4⟩ => ⟨a, xs, h1, h2, k.at (fun z => h2 (hs a z)) h3, h4.keep k⟩
theorem RowV.dp {r : List Im} : RowV S H v r → Dp K H v (rowD r) := fun ⟨a, xs, h1, _, h2, h3⟩ => by rw [h1]; exact .lst (.of h2) (dpAll_of (fun _ _ z => z.dp) h3)
theorem RowsV.keep (k : Keep M H H') (hs : ∀ m ∈ M, m ∈ S) {vs : List V} {c : List (List Im)} (h : RowsV S H vs c) : RowsV S H' vs c := paired_mono (fun _ _ z => z.keep k hs) h
theorem ContV.keep (k : Keep M H H') (hs : ∀ m ∈ M, m ∈ S) {c : List (List Im)} : ContV S H v c → ContV S H' v c := fun ⟨a, xs, h1, h2, h3, h4⟩ => ⟨a, xs, h1, h2, k.at (fun z => h2 (hs a z)) h3, RowsV.keep k hs h4⟩
theorem ContV.dp {c : List (List Im)} : ContV S H v c → Dp K H v (contD c) := fun ⟨a, xs, h1, _, h2, h3⟩ => by rw [h1]; exact .lst (.of h2) (dpAll_of (fun _ _ z => z.dp) h3)
/-- fewer addresses are hidden -/
theorem RowV.sub {T : List Addr} (hs : ∀ x ∈ S, x ∈ T) {r : List Im} : RowV T H v r → RowV S H v r := fun ⟨a, xs, h1, h2, h3⟩ => ⟨a, xs, h1, fun z => h2 (hs a z), h3⟩
theorem ContV.sub {T : List Addr} (hs : ∀ x ∈ S, x ∈ T) {c : List (List Im)} : ContV T H v c → ContV S H v c := fun ⟨a, xs, h1, h2, h3, h4⟩ => ⟨a, xs, h1, fun z => h2 (hs a z), h3, paired_mono (fun _ _ z => z.sub hs) h4⟩
/-- an address that was free is hidden too -/
theorem RowV.more {p : Addr} (hp : H p = none) {r : List Im} : RowV S H v r → RowV (p :: S) H v r := fun ⟨a, xs, h1, h2, h3, h4⟩ =>
  ⟨a, xs, h1, fun z => (List.mem_cons.mp z).elim (fun e => by rw [e, hp] at h3; cases h3) h2, h3, h4⟩
theorem ContV.more {p : Addr} (hp : H p = none) {c : List (List Im)} : ContV S H v c → ContV (p :: S) H v c := fun ⟨a, xs, h1, h2, h3, h4⟩ =>
  ⟨a, xs, h1, fun z => (List.mem_cons.mp z).elim (fun e => by rw [e, hp] at h3; cases h3) h2, h3, paired_mono (fun _ _ z => z.more hp) h4⟩
end

/-! ### what a comprehension gives, item by item -/
section
variable {γ : Type} {M : List Addr} {Jv : Hp → Prop} {Rel : Hp → V → γ → Prop} {H1 : Hp} {D : Addr} {Qd : Hp → Prop} {J : L2.It} {n : Nat} {Yx : Nat → V → Hp → Prop} {Ok : Nat → γ → Prop} {g : TG} {te : TE} {vs : List Nat} {σ : L2.St}
/-- M: the addresses that the items' making may change; Jv: what holds of them -/
theorem lc_itP {Pw : V → V → Prop} (hD : H1 D = none) (hM : ∀ m ∈ M, H1 m ≠ none) (jst : ∀ H H', (∀ m ∈ M, H' m = H m) → Jv H → Jv H') (j0 : Jv H1) (hn : n ≤ 100000)
    (go : ∀ i H, i < n → Keep M H1 H → J.go i H) (stop : ∀ H, Keep M H1 H → J.stop n H)
    (yld : ∀ i H x H', i < n → Keep M H1 H → J.yld i H x H' → Keep [] H H' ∧ (∀ m ∈ M, H' m = H m) ∧ Yx i x H')
    (hRel : ∀ H H' y z, Keep (D :: M) H H' → Rel H y z → Rel H' y z)
    (step : ∀ i x H acc, i < n → Keep M H1 H → Jv H → H D = some (.lst acc) → (∀ y ∈ acc, ∃ z, Rel H y z) → Yx i x H → ∀ Qe : VK, (∀ y z H', Keep M H H' → Jv H' → Ok i z → Rel H' y z → (∀ y' ∈ acc, Pw y' y) → Qe y H') →
      g x (wipe σ vs) H fun σ2 H2 => wipe σ2 vs = wipe σ vs ∧ te σ2 H2 Qe)
    (gm : ∀ x σ H Q Q', (∀ σ' H', Q σ' H' → Q' σ' H') → g x σ H Q → g x σ H Q')
    (fin : ∀ acc zs H', Keep M H1 H' → Jv H' → H' D = some (.lst acc) → acc.Pairwise Pw → Paired (fun y z => Rel H' y z) acc zs → zs.length = n → (∀ i z, zs[i]? = some z → Ok i z) → Qd H') :
    ∃ W : Nat → Nat → Hp → Prop, (∃ m, W 0 m (upd H1 D (.lst []))) ∧ ∀ i m H, W i m H →
      (J.stop i H ∧ Qd H) ∨ (J.go i H ∧ ∃ Nx : Hp → Prop, (∀ H', Nx H' → ∃ m', m' < m ∧ W (i + 1) m' H') ∧ ∀ x H', J.yld i H x H' → g x (wipe σ vs) H' fun σ2 H2 => wipe σ2 vs = wipe σ vs ∧ tYes σ2 H2 fun b H3 =>
        if b = true then te σ2 H3 fun y H4 => ∃ acc, H4 D = some (.lst acc) ∧ acc.length < sizeLine ∧ Nx (upd H4 D (.lst (acc ++ [y]))) else Nx H3) := by
  have nD : D ∉ M := ne_in hM hD
  refine ⟨fun i m H => m = n - i ∧ i ≤ n ∧ Keep M H1 H ∧ Jv H ∧ ∃ acc zs, H D = some (.lst acc) ∧ acc.Pairwise Pw ∧ Paired (fun y z => Rel H y z) acc zs ∧ zs.length = i ∧ ∀ j z, zs[j]? = some z → Ok j z, ⟨n, ?_⟩, ?_⟩
  · refine ⟨rfl, Nat.zero_le _, Keep.new hD, jst _ _ (fun m hm => upd_ne fun z => nD (z ▸ hm)) j0, [], [], upd_same, .nil, .nil, rfl, fun j z e => by simp at e⟩
  · rintro i m H ⟨rfl, hi, k, jv, acc, zs, hA, hW, hP, hL, hO⟩
    by_cases hlt : i < n
    · refine .inr ⟨go i H hlt k, fun H' => i + 1 ≤ n ∧ Keep M H1 H' ∧ Jv H' ∧ ∃ acc zs, H' D = some (.lst acc) ∧ acc.Pairwise Pw ∧ Paired (fun y z => Rel H' y z) acc zs ∧ zs.length = i + 1 ∧ ∀ j z, zs[j]? = some z → Ok j z,
        fun H' h => ⟨n - (i + 1), by omega, rfl, h⟩, fun x H' hy => ?_⟩
      obtain ⟨k1, hm1, yx⟩ := yld i H x H' hlt k hy
      have k2 : Keep M H1 H' := k.trans k1.all
      refine gm _ _ _ _ _ (fun σ2 H2 q => ?_) (step i x H' acc hlt k2 (jst _ _ hm1 jv) (k1.same D _ hA) (fun y hy => let ⟨i, h1⟩ := List.getElem?_of_mem hy; let ⟨z, _, r⟩ := paired_getV hP h1; ⟨z, hRel _ _ _ _ k1.all r⟩) yx
        (fun y H4 => ∃ acc, H4 D = some (.lst acc) ∧ acc.length < sizeLine ∧ (fun H' => i + 1 ≤ n ∧ Keep M H1 H' ∧ Jv H' ∧ ∃ acc zs, H' D = some (.lst acc) ∧ acc.Pairwise Pw ∧ Paired (fun y z => Rel H' y z) acc zs ∧ zs.length = i + 1 ∧ ∀ j z, zs[j]? = some z → Ok j z) (upd H4 D (.lst (acc ++ [y]))))
        (fun y z H4 k4 j4 o4 r4 w4 => ?_))
      · exact ⟨q.1, by unfold tYes; dsimp only; rw [if_pos rfl]; exact q.2⟩
      · have hA4 : H4 D = some (.lst acc) := k4.at nD (k1.same D _ hA)
        have al : acc.length = i := by rw [hP.length, hL]
        have k5 : Keep (D :: M) H4 (upd H4 D (.lst (acc ++ [y]))) := Keep.put (by simp) hA4 rfl
        refine ⟨acc, hA4, Nat.lt_of_le_of_lt (show acc.length ≤ 100000 by omega) (by decide), hlt, (k2.trans k4).upd_fresh hD, jst _ _ (fun m hm => upd_ne fun z => nD (z ▸ hm)) j4, acc ++ [y], zs ++ [z], upd_same, List.pairwise_append.mpr ⟨hW, List.pairwise_singleton _ _, fun a ha b hb => by rw [List.mem_singleton] at hb; rw [hb]; exact w4 a ha⟩, ?_, by rw [List.length_append, hL]; rfl, fun j w e => ?_⟩
        · have kx : Keep (D :: M) H (upd H4 D (.lst (acc ++ [y]))) := ((k1.all (S := M)).trans k4 |>.mono fun m hm => List.mem_cons_of_mem _ hm).trans k5
          exact Paired.snoc (paired_mono (fun y z r => hRel _ _ y z kx r) hP) (hRel _ _ _ _ k5 r4)
        · rw [List.getElem?_append] at e
          by_cases c : j < zs.length
          · rw [if_pos c] at e
            exact hO j w e
          · rw [if_neg c] at e
            have hj : j - zs.length = 0 := by
              cases q : j - zs.length with
              | zero => rfl
              | succ k => rw [q] at e; simp at e
            rw [hj] at e
            simp at e
            have : j = i := by omega
            rw [this, ← e]
            exact o4
    · have e : i = n := by omega
      subst e
      exact .inl ⟨stop H k, fin acc zs H k jv hA hW hP hL hO⟩
theorem lc_it (hD : H1 D = none) (hM : ∀ m ∈ M, H1 m ≠ none) (jst : ∀ H H', (∀ m ∈ M, H' m = H m) → Jv H → Jv H') (j0 : Jv H1) (hn : n ≤ 100000)
    (go : ∀ i H, i < n → Keep M H1 H → J.go i H) (stop : ∀ H, Keep M H1 H → J.stop n H)
    (yld : ∀ i H x H', i < n → Keep M H1 H → J.yld i H x H' → Keep [] H H' ∧ (∀ m ∈ M, H' m = H m) ∧ Yx i x H')
    (hRel : ∀ H H' y z, Keep (D :: M) H H' → Rel H y z → Rel H' y z)
    (step : ∀ i x H, i < n → Keep M H1 H → Jv H → H D ≠ none → Yx i x H → ∀ Qe : VK, (∀ y z H', Keep M H H' → Jv H' → Ok i z → Rel H' y z → Qe y H') →
      g x (wipe σ vs) H fun σ2 H2 => wipe σ2 vs = wipe σ vs ∧ te σ2 H2 Qe)
    (gm : ∀ x σ H Q Q', (∀ σ' H', Q σ' H' → Q' σ' H') → g x σ H Q → g x σ H Q')
    (fin : ∀ acc zs H', Keep M H1 H' → Jv H' → H' D = some (.lst acc) → Paired (fun y z => Rel H' y z) acc zs → zs.length = n → (∀ i z, zs[i]? = some z → Ok i z) → Qd H') :
    ∃ W : Nat → Nat → Hp → Prop, (∃ m, W 0 m (upd H1 D (.lst []))) ∧ ∀ i m H, W i m H →
      (J.stop i H ∧ Qd H) ∨ (J.go i H ∧ ∃ Nx : Hp → Prop, (∀ H', Nx H' → ∃ m', m' < m ∧ W (i + 1) m' H') ∧ ∀ x H', J.yld i H x H' → g x (wipe σ vs) H' fun σ2 H2 => wipe σ2 vs = wipe σ vs ∧ tYes σ2 H2 fun b H3 =>
        if b = true then te σ2 H3 fun y H4 => ∃ acc, H4 D = some (.lst acc) ∧ acc.length < sizeLine ∧ Nx (upd H4 D (.lst (acc ++ [y]))) else Nx H3) :=
  lc_itP (Pw := fun _ _ => True) hD hM jst j0 hn go stop yld hRel (fun i x H acc h1 h2 h3 h4 _ h6 Qe hQ => step i x H h1 h2 h3 (by rw [h4]; simp) h6 Qe fun y z H' a b c d => hQ y z H' a b c d fun _ _ => trivial) gm
    fun acc zs H' a b c _ e f g => fin acc zs H' a b c e f g
end
theorem gName_mono {i : Nat} : ∀ (x : V) (σ : L2.St) (H : Hp) (Q Q' : L2.St → Hp → Prop), (∀ σ' H', Q σ' H' → Q' σ' H') → gName i x σ H Q → gName i x σ H Q' := fun _ _ _ _ _ h q => h _ _ q
/-! the three things of a list, a tuple that stands still -/
section
variable {K : PySem.W.Frag} {M : List Addr} {H1 : Hp} {a : Addr} {xs : List V}
theorem it_list (h : SqL K (hd M H1) a xs) : (∀ i H, i < xs.length → Keep M H1 H → (Itl K a).go i H) ∧ (∀ H, Keep M H1 H → (Itl K a).stop xs.length H) ∧
    ∀ i H x H', i < xs.length → Keep M H1 H → (Itl K a).yld i H x H' → Keep [] H H' ∧ (∀ m ∈ M, H' m = H m) ∧ (xs[i]? = some x ∧ H' = H) := by
  have q : ∀ H, Keep M H1 H → SqL K H a xs := fun H k => ((Keep.hd k fun _ z => z).trans hd_same).seq h
  refine ⟨fun i H hi k => ⟨xs, xs[i], q H k, by simp [hi]⟩, fun H k => ⟨xs, q H k, Nat.le_refl _⟩, fun i H x H' hi k y => ?_⟩
  obtain ⟨rfl, y⟩ := y
  exact ⟨.refl, fun _ _ => rfl, y xs (q _ k), rfl⟩
theorem it_tup (h : SqT K (hd M H1) a xs) : (∀ i H, i < xs.length → Keep M H1 H → (Itt K a).go i H) ∧ (∀ H, Keep M H1 H → (Itt K a).stop xs.length H) ∧
    ∀ i H x H', i < xs.length → Keep M H1 H → (Itt K a).yld i H x H' → Keep [] H H' ∧ (∀ m ∈ M, H' m = H m) ∧ (xs[i]? = some x ∧ H' = H) := by
  have q : ∀ H, Keep M H1 H → SqT K H a xs := fun H k => sqT_same ((Keep.hd k fun _ z => z).trans hd_same) h
  refine ⟨fun i H hi k => ⟨xs, xs[i], q H k, by simp [hi]⟩, fun H k => ⟨xs, q H k, Nat.le_refl _⟩, fun i H x H' hi k y => ?_⟩
  obtain ⟨rfl, y⟩ := y
  exact ⟨.refl, fun _ _ => rfl, y xs (q _ k), rfl⟩
theorem it_range {lo : Int} {n : Nat} : (∀ i H, i < n → Keep M H1 H → (Itr lo n).go i H) ∧ (∀ H, Keep M H1 H → (Itr lo n).stop n H) ∧
    ∀ i H x H', i < n → Keep M H1 H → (Itr lo n).yld i H x H' → Keep [] H H' ∧ (∀ m ∈ M, H' m = H m) ∧ (x = .int (lo + i) ∧ H' = H) :=
  ⟨fun i _ hi _ => hi, fun _ _ => Nat.le_refl n, fun i H x H' _ _ ⟨e, y⟩ => by subst e; exact ⟨.refl, fun _ _ => rfl, y, rfl⟩⟩
theorem it_str {x : Str} : (∀ i H, i < x.cps.size → Keep M H1 H → (Its x).go i H) ∧ (∀ H, Keep M H1 H → (Its x).stop x.cps.size H) ∧
    ∀ i H y H', i < x.cps.size → Keep M H1 H → (Its x).yld i H y H' → Keep [] H H' ∧ (∀ m ∈ M, H' m = H m) ∧ ((∃ c, x.cps[i]? = some c ∧ y = .str ⟨#[c]⟩) ∧ H' = H) :=
  ⟨fun i _ hi _ => hi, fun _ _ => Nat.le_refl _, fun i H y H' _ _ ⟨e, z⟩ => by subst e; exact ⟨.refl, fun _ _ => rfl, z, rfl⟩⟩
/-- enumerate: the pair is a new tuple -/
theorem it_enum (h : SqL K (hd M H1) a xs) (hM : ∀ m ∈ M, H1 m ≠ none) : (∀ i H, i < xs.length → Keep M H1 H → (Ite K a).go i H) ∧ (∀ H, Keep M H1 H → (Ite K a).stop xs.length H) ∧
    ∀ i H x H', i < xs.length → Keep M H1 H → (∀ m ∈ M, H m ≠ none) → (Ite K a).yld i H x H' → Keep [] H H' ∧ (∀ m ∈ M, H' m = H m) ∧ ∃ T y, x = .ref T ∧ xs[i]? = some y ∧ H T = none ∧ H' = upd H T (.tup [.int (i : Nat), y]) := by
  have q : ∀ H, Keep M H1 H → SqL K H a xs := fun H k => ((Keep.hd k fun _ z => z).trans hd_same).seq h
  refine ⟨fun i H hi k => ⟨xs, xs[i], q H k, by simp [hi]⟩, fun H k => ⟨xs, q H k, Nat.le_refl _⟩, fun i H x H' hi k hm y => ?_⟩
  obtain ⟨T, y, e1, e2, e3, e4⟩ := y
  subst e3
  exact ⟨.new e2, fun m z => upd_ne fun e => hm m z (e ▸ e2), T, y, e1, e4 xs (q _ k), e2, rfl⟩
end
/-- [x for row in rows for x in row], rows a list of lists -/
theorem lc2_flat {K : PySem.W.Frag} {l D : Addr} {as : List Addr} {xss : List (List V)} {i j : Nat} {σ : L2.St} {H1 : Hp} {Qd : Hp → Prop} (hD : H1 D = none) (hl : H1 l = some (.lst (as.map V.ref))) (hP : Paired (fun a xs => H1 a = some (.lst xs)) as xss)
    (hz : xss.flatten.length ≤ 100000) (w1 : ∀ x, wipe ((wipe σ [i, j]).set i (some x)) [i, j] = wipe σ [i, j]) (w2 : ∀ x y, wipe ((wipe ((wipe σ [i, j]).set i (some x)) [j]).set j (some y)) [j] = wipe ((wipe σ [i, j]).set i (some x)) [j])
    (w3 : ∀ x, ((wipe σ [i, j]).set i (some x))[i]? = some (some x)) (w4 : ∀ x y, ((wipe ((wipe σ [i, j]).set i (some x)) [j]).set j (some y))[j]? = some (some y)) (fin : ∀ H, Keep [] H1 H → H D = some (.lst xss.flatten) → Qd H) :
    ∃ W : Nat → Nat → Hp → Prop, (∃ m, W 0 m (upd H1 D (.lst []))) ∧ ∀ n m H, W n m H →
      ((Itl K l).stop n H ∧ Qd H) ∨ ((Itl K l).go n H ∧ ∃ Nx : Hp → Prop, (∀ H', Nx H' → ∃ m', m' < m ∧ W (n + 1) m' H') ∧ ∀ x H', (Itl K l).yld n H x H' → gName i x (wipe σ [i, j]) H' fun σ2 H2 => wipe σ2 [i, j] = wipe σ [i, j] ∧ tYes σ2 H2 fun b H3 =>
        if b = true then iList K (tVar i) σ2 H3 fun J1 H4 => ∃ W1 : Nat → Nat → Hp → Prop, (∃ m, W1 0 m H4) ∧ ∀ p k H, W1 p k H →
          (J1.stop p H ∧ Nx H) ∨ (J1.go p H ∧ ∃ Nx1 : Hp → Prop, (∀ H', Nx1 H' → ∃ k', k' < k ∧ W1 (p + 1) k' H') ∧ ∀ x H', J1.yld p H x H' → gName j x (wipe σ2 [j]) H' fun σ3 H5 => wipe σ3 [j] = wipe σ2 [j] ∧ tYes σ3 H5 fun b H6 =>
            if b = true then tVar j σ3 H6 fun y H7 => ∃ acc, H7 D = some (.lst acc) ∧ acc.length < sizeLine ∧ Nx1 (upd H7 D (.lst (acc ++ [y]))) else Nx1 H6)
        else Nx H3) := by
  have hlen := hP.length
  refine ⟨fun n m H => m = as.length - n ∧ n ≤ as.length ∧ Keep [] H1 H ∧ H D = some (.lst (xss.take n).flatten), ⟨as.length, by simp, Nat.zero_le _, .new hD, by rw [upd_same]; simp⟩, ?_⟩
  rintro n m H ⟨rfl, hn, k, hA⟩
  have hl' := k.same l _ hl
  by_cases hlt : n < as.length
  · refine .inr ⟨⟨_, .ref as[n], .of hl', by simp [hlt]⟩, fun H' => n + 1 ≤ as.length ∧ Keep [] H1 H' ∧ H' D = some (.lst (xss.take (n + 1)).flatten), fun H' h => ⟨as.length - (n + 1), by omega, rfl, h⟩, ?_⟩
    rintro x H' ⟨e1, hx⟩
    subst e1
    have hx := hx _ (.of hl')
    have hx2 : x = .ref as[n] := by
      rw [List.getElem?_map, List.getElem?_eq_getElem hlt] at hx
      exact (Option.some.inj hx).symm
    subst hx2
    obtain ⟨xs, hxs, ha⟩ := paired_getV hP (List.getElem?_eq_getElem hlt)
    have hn2 : n < xss.length := by omega
    have exs : xss[n] = xs := by rw [List.getElem?_eq_getElem hn2] at hxs; exact Option.some.inj hxs
    have etk : (xss.take (n + 1)).flatten = (xss.take n).flatten ++ xs := by rw [List.take_succ_eq_append_getElem hn2, List.flatten_append, exs]; simp
    have hsz : ∀ q, q ≤ xs.length → ((xss.take n).flatten ++ xs.take q).length ≤ 100000 := fun q hq => by
      refine Nat.le_trans ?_ hz
      have h1 : xss.flatten = (xss.take n).flatten ++ (xs ++ (xss.drop (n + 1)).flatten) := by
        have h2 : xss = xss.take n ++ (xss[n] :: xss.drop (n + 1)) := by rw [← List.drop_eq_getElem_cons hn2, List.take_append_drop]
        rw [exs] at h2
        exact (congrArg List.flatten h2).trans (by rw [List.flatten_append, List.flatten_cons])
      rw [h1]
      simp only [List.length_append, List.length_take]
      omega
    refine ⟨w1 _, ?_⟩
    unfold tYes
    dsimp only
    rw [if_pos rfl]
    have ha' := k.same _ _ ha
    refine ⟨_, w3 _, _, rfl, ⟨_, .of ha'⟩, fun p q H4 => q = xs.length - p ∧ p ≤ xs.length ∧ Keep [] H1 H4 ∧ H4 D = some (.lst ((xss.take n).flatten ++ xs.take p)), ⟨xs.length, by simp, Nat.zero_le _, k, by simpa using hA⟩, ?_⟩
    rintro p q H4 ⟨rfl, hp, k4, hA4⟩
    have ha4 := k4.same _ _ ha
    by_cases hlt2 : p < xs.length
    · refine .inr ⟨⟨_, xs[p], .of ha4, by simp [hlt2]⟩, fun H' => p + 1 ≤ xs.length ∧ Keep [] H1 H' ∧ H' D = some (.lst ((xss.take n).flatten ++ xs.take (p + 1))), fun H' h => ⟨xs.length - (p + 1), by omega, rfl, h⟩, ?_⟩
      rintro y H5 ⟨e5, hy⟩
      subst e5
      have hy := hy _ (.of ha4)
      rw [List.getElem?_eq_getElem hlt2] at hy
      have hy2 := Option.some.inj hy
      refine ⟨w2 _ _, ?_⟩
      rw [if_pos rfl]
      refine ⟨_, w4 _ _, _, hA4, Nat.lt_of_le_of_lt (hsz p hp) (by decide), hlt2, ?_, ?_⟩
      · exact k4.upd_fresh hD
      · rw [upd_same, List.take_succ_eq_append_getElem hlt2, hy2, List.append_assoc]
    · have e : p = xs.length := by omega
      subst e
      refine .inl ⟨⟨_, .of ha4, Nat.le_refl _⟩, hlt, k4, ?_⟩
      rw [hA4, etk, List.take_length]
  · have e : n = as.length := by omega
    subst e
    refine .inl ⟨⟨_, .of hl', by simp⟩, fin H k ?_⟩
    rw [hA, hlen, List.take_length]
end Rg
/-! RgH: a heap object: its list of lists, each of items. -/
namespace Rg
open PySem PySem.Spec PyProof.Rows L2
abbrev Cont := List (List Im)
def total (c : Cont) : Nat := (c.map List.length).sum
/-- at h an instance of C whose list of lists stands at l, the lists at as; they hold c -/
structure HeapAt (C : Addr) (H : Hp) (h l : Addr) (as : List Addr) (c : Cont) : Prop where
  ins : ∃ dx, H h = some (.ins C dx [("lists", .ref l)])
  lst : H l = some (.lst (as.map V.ref))
  nd : as.Nodup
  nl : l ∉ as
  rows : Paired (fun a r => ∃ xs, H a = some (.lst xs) ∧ ImsV H xs r) as c
section
variable {C : Addr} {H H' : Hp} {h l a : Addr} {as : List Addr} {c : Cont} {M : List Addr}
theorem HeapAt.len (x : HeapAt C H h l as c) : as.length = c.length := x.rows.length
theorem HeapAt.keep (x : HeapAt C H h l as c) (k : Keep M H H') (hh : h ∉ M) (hl : l ∉ M) (ha : ∀ a ∈ as, a ∉ M) : HeapAt C H' h l as c := by
  obtain ⟨dx, hi⟩ := x.ins
  refine ⟨⟨dx, k.at hh hi⟩, k.at hl x.lst, x.nd, x.nl, paired_mem x.rows fun i a r h1 h2 ⟨xs, e, q⟩ => ⟨xs, k.at (ha a (List.mem_of_getElem? h1)) e, q.keep k⟩⟩
theorem HeapAt.same (x : HeapAt C H h l as c) (k : Keep [] H H') : HeapAt C H' h l as c := x.keep k (by simp) (by simp) fun _ _ => by simp
/-- the list of the i-th box -/
theorem HeapAt.row (x : HeapAt C H h l as c) {i : Nat} {r : List Im} (e : c[i]? = some r) : ∃ a xs, as[i]? = some a ∧ (as.map V.ref)[i]? = some (.ref a) ∧ H a = some (.lst xs) ∧ ImsV H xs r := by
  obtain ⟨a, h1, xs, h2, h3⟩ := paired_get x.rows e
  exact ⟨a, xs, h1, by rw [List.getElem?_map, h1]; rfl, h2, h3⟩
theorem HeapAt.hne (x : HeapAt C H h l as c) : h ≠ l ∧ h ∉ as := by
  obtain ⟨dx, hi⟩ := x.ins
  refine ⟨ne_of hi x.lst (by intro q; cases q), fun z => ?_⟩
  obtain ⟨i, hi2⟩ := List.getElem?_of_mem z
  obtain ⟨r, _, xs, h2, _⟩ := paired_getV x.rows hi2
  rw [hi] at h2
  cases h2
/-- the list of one box is written -/
theorem HeapAt.setRow (x : HeapAt C H h l as c) {i : Nat} {xs ys : List V} {r : List Im} (e : as[i]? = some a) (ho : H a = some (.lst xs)) (k : Keep [a] H H') (he : H' a = some (.lst ys)) (q : ImsV H' ys r) :
    HeapAt C H' h l as (c.set i r) := by
  have hm := List.mem_of_getElem? e
  obtain ⟨dx, hi⟩ := x.ins
  have nh : h ∉ [a] := fun z => x.hne.2 (by rw [List.mem_singleton] at z; rw [z]; exact hm)
  have nl : l ∉ [a] := fun z => x.nl (by rw [List.mem_singleton] at z; rw [z]; exact hm)
  refine ⟨⟨dx, k.at nh hi⟩, k.at nl x.lst, x.nd, x.nl, paired_of (by rw [List.length_set]; exact x.len) fun j b s h1 h2 => ?_⟩
  rw [List.getElem?_set] at h2
  by_cases c1 : i = j
  · subst c1
    rw [e] at h1
    cases h1
    rw [if_pos rfl] at h2
    split at h2
    · cases h2
      exact ⟨ys, he, q⟩
    · cases h2
  · rw [if_neg c1] at h2
    obtain ⟨b', h3, ys', h4, h5⟩ := paired_get x.rows h2
    rw [h3] at h1
    cases h1
    refine ⟨ys', k.at (fun z => ?_) h4, h5.keep k⟩
    rw [List.mem_singleton] at z
    subst z
    have i1 := (List.getElem?_eq_some_iff.mp e)
    have i2 := (List.getElem?_eq_some_iff.mp h3)
    exact c1 ((List.getElem_inj x.nd).mp (i1.2.trans i2.2.symm))
/-- a box more -/
theorem HeapAt.more (x : HeapAt C H h l as c) {xs : List V} {r : List Im} (hn : a ∉ as) (hla : l ≠ a) (k : Keep [l] H H') (hl : H' l = some (.lst (as.map V.ref ++ [.ref a]))) (he : H' a = some (.lst xs)) (q : ImsV H' xs r) :
    HeapAt C H' h l (as ++ [a]) (c ++ [r]) := by
  obtain ⟨dx, hi⟩ := x.ins
  refine ⟨⟨dx, k.at (fun z => x.hne.1 (List.mem_singleton.mp z)) hi⟩, by rw [List.map_append]; exact hl, ?_, fun z => ?_, paired_append (paired_mem x.rows fun i b r h1 h2 ⟨ys, e, q⟩ => ⟨ys, k.at (fun z => ?_) e, q.keep k⟩) (.cons ⟨xs, he, q⟩ .nil)⟩
  · rw [List.nodup_append]
    refine ⟨x.nd, by simp, fun u hu v hv => ?_⟩
    rw [List.mem_singleton] at hv
    subst hv
    exact fun z => hn (z ▸ hu)
  · rcases List.mem_append.mp z with z | z
    · exact x.nl z
    · exact hla (List.mem_singleton.mp z)
  · rw [List.mem_singleton] at z
    exact x.nl (z ▸ List.mem_of_getElem? h1)
/-- two lists change their places -/
theorem HeapAt.swap (x : HeapAt C H h l as c) {i j : Nat} {a b : Addr} {r s : List Im} (ei : as[i]? = some a) (ej : as[j]? = some b) (ri : c[i]? = some r) (rj : c[j]? = some s) (k : Keep [l] H H')
    (hl : H' l = some (.lst (((as.map V.ref).set i (.ref b)).set j (.ref a)))) : HeapAt C H' h l ((as.set i b).set j a) ((c.set i s).set j r) := by
  obtain ⟨dx, hi⟩ := x.ins
  have hli : i < as.length := (List.getElem?_eq_some_iff.mp ei).1
  have hlj : j < as.length := (List.getElem?_eq_some_iff.mp ej).1
  have hperm : ((as.set i b).set j a).Perm as := by
    have e1 : as[i] = a := (List.getElem?_eq_some_iff.mp ei).2
    have e2 : as[j] = b := (List.getElem?_eq_some_iff.mp ej).2
    rw [← e1, ← e2]
    exact List.set_set_perm hli hlj
  refine ⟨⟨dx, k.at (fun z => x.hne.1 (List.mem_singleton.mp z)) hi⟩, ?_, hperm.nodup_iff.mpr x.nd, fun z => x.nl (hperm.mem_iff.mp z), ?_⟩
  · rw [hl, List.map_set, List.map_set]
  · have kk : ∀ u ∈ as, u ∉ [l] := fun u hu z => x.nl (by rw [List.mem_singleton] at z; exact z ▸ hu)
    have base : Paired (fun a r => ∃ xs, H' a = some (.lst xs) ∧ ImsV H' xs r) as c := paired_mem x.rows fun i u r h1 h2 ⟨ys, e, q⟩ => ⟨ys, k.at (kk u (List.mem_of_getElem? h1)) e, q.keep k⟩
    have pa : ∃ xs, H' a = some (.lst xs) ∧ ImsV H' xs r := by
      obtain ⟨a', h1, z⟩ := paired_get base ri
      rw [ei] at h1
      cases h1
      exact z
    have pb : ∃ xs, H' b = some (.lst xs) ∧ ImsV H' xs s := by
      obtain ⟨a', h1, z⟩ := paired_get base rj
      rw [ej] at h1
      cases h1
      exact z
    exact paired_set pa j (paired_set pb i base)
end
theorem total_append (c : Cont) (r : List Im) : total (c ++ [r]) = total c + r.length := by simp [total]
theorem total_set : ∀ (c : Cont) (i : Nat) (r s : List Im), c[i]? = some r → total (c.set i s) + r.length = total c + s.length
  | [], i, r, s, h => by simp at h
  | x :: c, 0, r, s, h => by
    simp at h
    subst h
    simp [total]
    omega
  | x :: c, i + 1, r, s, h => by
    have ih := total_set c i r s (by simpa using h)
    simp only [total, List.set_cons_succ, List.map_cons, List.sum_cons] at ih ⊢
    omega
/-- contents in lists that are new -/
def ContF (H H' : Hp) (v : V) (c : Cont) : Prop := ∃ p as, v = .ref p ∧ H p = none ∧ H' p = some (.lst (as.map V.ref)) ∧ Paired (fun a r => H a = none ∧ ∃ xs, H' a = some (.lst xs) ∧ ImsV H' xs r) as c
theorem ContF.cont {H H' : Hp} {v : V} {c : Cont} {S : List Addr} (hS : ∀ x ∈ S, H x ≠ none) : ContF H H' v c → ContV S H' v c := fun ⟨p, as, e, hp, hl, q⟩ =>
  ⟨p, as.map V.ref, e, ne_in hS hp, hl, by
    have z : ∀ {as : List Addr} {c : Cont}, Paired (fun a r => H a = none ∧ ∃ xs, H' a = some (.lst xs) ∧ ImsV H' xs r) as c → RowsV S H' (as.map V.ref) c := fun {as c} q => by
      induction q with
      | nil => exact .nil
      | cons a t ih => exact .cons ⟨_, _, rfl, ne_in hS a.1, a.2.choose_spec.1, a.2.choose_spec.2⟩ ih
    exact z q⟩
end Rg
/-! RgV: the boxes in the order of opening, and how many are open at once. -/
namespace Rg
/-- the items of a box at depth d are visited from order o, deepest m, to o', m' -/
inductive Fold (c : List (List Im)) : Nat → List Im → List Nat → Nat → List Nat → Nat → Prop
  | nil {d : Nat} {o : List Nat} {m : Nat} : Fold c d [] o m o m
  | skip {d : Nat} {x : Im} {r : List Im} {o o' : List Nat} {m m' : Nat} : (∀ n, x = .b n → n ∈ o) → Fold c d r o m o' m' → Fold c d (x :: r) o m o' m'
  | go {d n : Nat} {row r : List Im} {o o1 o' : List Nat} {m m1 m' : Nat} : n ∉ o → c[n]? = some row → Fold c (d + 1) row (o ++ [n]) (d + 1) o1 m1 → Fold c d r o1 (max m m1) o' m' → Fold c d (.b n :: r) o m o' m'
/-- box n is opened at depth d -/
def Vis (c : List (List Im)) (n : Nat) (o : List Nat) (d : Nat) (o' : List Nat) (m' : Nat) : Prop := ∃ row, c[n]? = some row ∧ Fold c d row (o ++ [n]) d o' m'
section
variable {c : List (List Im)} {d n m m' m1 m2 : Nat} {r r1 r2 : List Im} {o o' o1 o2 : List Nat}
theorem Fold.append (h : Fold c d r1 o m o1 m1) : Fold c d r2 o1 m1 o2 m2 → Fold c d (r1 ++ r2) o m o2 m2 := by
  induction h with
  | nil => exact id
  | skip hx _ ih => exact fun k => .skip hx (ih k)
  | go hn hr h1 _ _ ih => exact fun k => .go hn hr h1 (ih k)
theorem Fold.det (h : Fold c d r o m o1 m1) : ∀ {o2 m2}, Fold c d r o m o2 m2 → o1 = o2 ∧ m1 = m2 := by
  induction h with
  | nil =>
    intro o2 m2 k
    cases k
    exact ⟨rfl, rfl⟩
  | skip hx _ ih =>
    intro o2 m2 k
    cases k with
    | skip _ k => exact ih k
    | go hn _ _ _ => exact absurd (hx _ rfl) hn
  | go hn hr h1 h2 ih1 ih2 =>
    intro o2 m2 k
    cases k with
    | skip hx _ => exact absurd (hx _ rfl) hn
    | go _ hr' k1 k2 =>
      rw [hr] at hr'
      cases hr'
      obtain ⟨rfl, rfl⟩ := ih1 k1
      exact ih2 k2
theorem Vis.det (h : Vis c n o d o1 m1) (k : Vis c n o d o2 m2) : o1 = o2 ∧ m1 = m2 := by
  obtain ⟨row, hr, h⟩ := h
  obtain ⟨row', hr', k⟩ := k
  rw [hr] at hr'
  cases hr'
  exact h.det k
theorem Fold.unshift (h : Fold c d r o m o' m') : ∀ k q, m = max k q → ∃ q', Fold c d r o q o' q' ∧ m' = max k q' := by
  induction h with
  | nil => exact fun k q e => ⟨q, .nil, e⟩
  | skip hx _ ih =>
    intro k q e
    obtain ⟨q', h1, h2⟩ := ih k q e
    exact ⟨q', .skip hx h1, h2⟩
  | @go _ _ _ _ _ _ _ _ mm _ hn hr h1 _ _ ih =>
    intro k q e
    obtain ⟨q', h2, h3⟩ := ih k (max q mm) (by rw [e]; omega)
    exact ⟨q', .go hn hr h1 h2, h3⟩
theorem Fold.pre (h : Fold c d r o m o' m') : ∃ t, o' = o ++ t := by
  induction h with
  | nil => exact ⟨[], by simp⟩
  | skip _ _ ih => exact ih
  | go _ _ _ _ ih1 ih2 =>
    obtain ⟨t1, e1⟩ := ih1
    obtain ⟨t2, e2⟩ := ih2
    exact ⟨_, by rw [e2, e1, List.append_assoc, List.append_assoc]⟩
theorem Fold.sub (h : Fold c d r o m o' m') : ∀ x ∈ o, x ∈ o' := by
  obtain ⟨t, e⟩ := h.pre
  intro x hx
  rw [e]
  exact List.mem_append_left _ hx
theorem Fold.nodup (h : Fold c d r o m o' m') : o.Nodup → o'.Nodup := by
  induction h with
  | nil => exact id
  | skip _ _ ih => exact ih
  | go hn _ _ _ ih1 ih2 =>
    intro k
    refine ih2 (ih1 (List.nodup_append.mpr ⟨k, by simp, fun a ha b hb e => ?_⟩))
    rw [List.mem_singleton] at hb
    rw [e, hb] at ha
    exact hn ha
theorem Fold.range (h : Fold c d r o m o' m') : (∀ x ∈ o, x < c.length) → ∀ x ∈ o', x < c.length := by
  induction h with
  | nil => exact id
  | skip _ _ ih => exact ih
  | go _ hr _ _ ih1 ih2 =>
    intro k
    refine ih2 (ih1 fun x hx => ?_)
    rcases List.mem_append.mp hx with hx | hx
    · exact k x hx
    · rw [List.mem_singleton.mp hx]
      exact (List.getElem?_eq_some_iff.mp hr).1
/-- the references of a row are opened; a box opened on the way has its references opened -/
theorem Fold.closed (h : Fold c d r o m o' m') : (∀ n, Im.b n ∈ r → n ∈ o') ∧ ∀ x ∈ o', x ∈ o ∨ ∀ row, c[x]? = some row → ∀ n, Im.b n ∈ row → n ∈ o' := by
  induction h with
  | nil => exact ⟨fun n h => by simp at h, fun x hx => .inl hx⟩
  | skip hx k ih =>
    refine ⟨fun n hn => ?_, ih.2⟩
    rcases List.mem_cons.mp hn with e | hn
    · exact k.sub _ (hx n e.symm)
    · exact ih.1 n hn
  | @go d n row r o o1 o' m m1 m' hn hr h1 h2 ih1 ih2 =>
    refine ⟨fun k hk => ?_, fun x hx => ?_⟩
    · rcases List.mem_cons.mp hk with e | hk
      · cases e
        exact h2.sub _ (h1.sub _ (by simp))
      · exact ih2.1 k hk
    · rcases ih2.2 x hx with hx1 | hx1
      · rcases ih1.2 x hx1 with hx2 | hx2
        · rcases List.mem_append.mp hx2 with hx3 | hx3
          · exact .inl hx3
          · rw [List.mem_singleton] at hx3
            subst hx3
            refine .inr fun row' hr' k hk => ?_
            rw [hr] at hr'
            cases hr'
            exact h2.sub _ (ih1.1 k hk)
        · exact .inr fun row' hr' k hk => h2.sub _ (hx2 row' hr' k hk)
      · exact .inr hx1
theorem Vis.closed (h : Vis c n [] d o' m') : ∀ x ∈ o', ∀ row, c[x]? = some row → ∀ k, Im.b k ∈ row → k ∈ o' := by
  obtain ⟨row, hr, h⟩ := h
  obtain ⟨h1, h2⟩ := h.closed
  intro x hx row' hr' k hk
  rcases h2 x hx with hx2 | hx2
  · have e : x = n := by simpa using hx2
    subst e
    rw [hr] at hr'
    cases hr'
    exact h1 k hk
  · exact hx2 row' hr' k hk
theorem Vis.nodup (h : Vis c n [] d o' m') : o'.Nodup := by
  obtain ⟨row, hr, h⟩ := h
  exact h.nodup (by simp)
theorem Vis.range (h : Vis c n [] d o' m') : ∀ x ∈ o', x < c.length := by
  obtain ⟨row, hr, h⟩ := h
  refine h.range fun x hx => ?_
  have e : x = n := by simpa using hx
  rw [e]
  exact (List.getElem?_eq_some_iff.mp hr).1
theorem Vis.mem (h : Vis c n [] d o' m') : n ∈ o' := by
  obtain ⟨row, hr, h⟩ := h
  exact h.sub _ (by simp)
theorem Fold.deep (h : Fold c d r o m o' m') : m' ≤ max m (d + (o'.length - o.length)) ∧ o.length ≤ o'.length := by
  induction h with
  | nil => exact ⟨by omega, Nat.le_refl _⟩
  | skip _ _ ih => exact ih
  | go _ _ _ _ ih1 ih2 =>
    obtain ⟨a1, a2⟩ := ih1
    obtain ⟨b1, b2⟩ := ih2
    rw [List.length_append, List.length_singleton] at a1 a2
    refine ⟨?_, by omega⟩
    omega
theorem Vis.deep (h : Vis c n [] 1 o' m') : m' ≤ 1 + o'.length := by
  obtain ⟨row, hr, h⟩ := h
  have z := h.deep.1
  simp at z
  omega
/-- how many boxes are not opened yet -/
def unv (c : List (List Im)) (o : List Nat) : Nat := ((List.range c.length).filter fun x => decide (x ∉ o)).length
theorem filter_lt {p q : Nat → Bool} {n : Nat} : ∀ {l : List Nat}, (∀ x ∈ l, q x = true → p x = true) → n ∈ l → p n = true → q n = false → (l.filter q).length < (l.filter p).length := by
  intro l
  induction l with
  | nil => intro _ h; simp at h
  | cons a l ih =>
    intro h1 h2 h3 h4
    have hle : (l.filter q).length ≤ (l.filter p).length := by
      clear ih h2
      have h1' : ∀ x ∈ l, q x = true → p x = true := fun x hx => h1 x (by simp [hx])
      clear h1
      induction l with
      | nil => simp
      | cons b l ih =>
        have z := ih fun x hx => h1' x (by simp [hx])
        rw [List.filter_cons, List.filter_cons]
        cases hq : q b with
        | true =>
          rw [h1' b (by simp) hq]
          simp
          exact z
        | false =>
          cases hp : p b with
          | true => simp; omega
          | false => simp; exact z
    rw [List.filter_cons, List.filter_cons]
    rcases List.mem_cons.mp h2 with e | h2
    · subst e
      rw [h3, h4]
      simp
      omega
    · have z := ih (fun x hx => h1 x (by simp [hx])) h2 h3 h4
      cases hq : q a with
      | true =>
        rw [h1 a (by simp) hq]
        simp
        exact z
      | false =>
        cases hp : p a with
        | true => simp; omega
        | false => simp; exact z
theorem unv_add (hn : n < c.length) (h : n ∉ o) : unv c (o ++ [n]) < unv c o := by
  refine filter_lt (n := n) (fun x _ hx => ?_) (by simpa using hn) (by simpa using h) (by simp)
  simp at hx ⊢
  exact hx.1
theorem unv_sub (h : ∀ x ∈ o, x ∈ o') : unv c o' ≤ unv c o := by
  unfold unv
  generalize List.range c.length = l
  induction l with
  | nil => simp
  | cons a l ih =>
    rw [List.filter_cons, List.filter_cons]
    by_cases h1 : a ∈ o'
    · by_cases h2 : a ∈ o
      · rw [if_neg (by simp [h1]), if_neg (by simp [h2])]
        exact ih
      · rw [if_neg (by simp [h1]), if_pos (by simp [h2]), List.length_cons]
        omega
    · have h2 : a ∉ o := fun z => h1 (h a z)
      rw [if_pos (by simp [h1]), if_pos (by simp [h2]), List.length_cons, List.length_cons]
      omega
theorem unv_le : unv c o ≤ c.length := by
  unfold unv
  exact Nat.le_trans (List.length_filter_le _ _) (by simp)
end
theorem nodup_le : ∀ (n : Nat) (o : List Nat), o.Nodup → (∀ x ∈ o, x < n) → o.length ≤ n
  | 0, [], _, _ => Nat.le_refl _
  | 0, x :: _, _, h => absurd (h x (by simp)) (by omega)
  | n + 1, o, hn, h => by
    have z := nodup_le n (o.erase n) (hn.erase n) fun x hx => by
      have h1 := h x (List.mem_of_mem_erase hx)
      have h2 : x ≠ n := fun e => by
        rw [e] at hx
        exact (List.Nodup.not_mem_erase hn) hx
      omega
    by_cases hm : n ∈ o
    · rw [List.length_erase_of_mem hm] at z
      omega
    · rw [List.erase_of_not_mem hm] at z
      omega
/-! ### the stack of the law's own walk, the innermost box first -/
inductive Fin (c : List (List Im)) : List (Nat × Nat) → List Nat → Nat → List Nat → Nat → Prop
  | nil {o : List Nat} {m : Nat} : Fin c [] o m o m
  | cons {b p : Nat} {rest : List (Nat × Nat)} {row : List Im} {o o1 o2 : List Nat} {m m1 m2 : Nat} : c[b]? = some row → Fold c (rest.length + 1) (row.drop p) o m o1 m1 → Fin c rest o1 m1 o2 m2 → Fin c ((b, p) :: rest) o m o2 m2
section
variable {c : List (List Im)} {b p n m m2 : Nat} {row : List Im} {rest : List (Nat × Nat)} {o o2 : List Nat} {x : Im}
theorem fin_pop (hr : c[b]? = some row) (hp : p = row.length) (h : Fin c rest o m o2 m2) : Fin c ((b, p) :: rest) o m o2 m2 := by
  refine .cons hr ?_ h
  rw [hp, List.drop_length]
  exact .nil
theorem fin_skip (hr : c[b]? = some row) (hx : row[p]? = some x) (hs : ∀ n, x = .b n → n ∈ o) (h : Fin c ((b, p + 1) :: rest) o m o2 m2) : Fin c ((b, p) :: rest) o m o2 m2 := by
  cases h with
  | cons hr' h1 h2 =>
    rw [hr] at hr'
    cases hr'
    obtain ⟨hp, e⟩ := List.getElem?_eq_some_iff.mp hx
    refine .cons hr ?_ h2
    rw [List.drop_eq_getElem_cons hp, e]
    exact .skip hs h1
theorem fin_push (hr : c[b]? = some row) (hx : row[p]? = some (.b n)) (hn : n ∉ o) (h : Fin c ((n, 0) :: (b, p + 1) :: rest) (o ++ [n]) (max m (rest.length + 2)) o2 m2) : Fin c ((b, p) :: rest) o m o2 m2 := by
  cases h with
  | @cons _ _ _ rown _ o1 _ _ mm _ hrn h1 h2 =>
    cases h2 with
    | cons hr' h3 h4 =>
      rw [hr] at hr'
      cases hr'
      obtain ⟨hp, e⟩ := List.getElem?_eq_some_iff.mp hx
      obtain ⟨q, h5, h6⟩ := h1.unshift m (rest.length + 2) rfl
      refine .cons hr ?_ h4
      rw [List.drop_eq_getElem_cons hp, e]
      rw [h6] at h3
      exact .go hn hrn h5 h3
end
end Rg
/-! RgC: the contents behind a deep copy. -/
namespace Rg
open PySem PySem.Spec PyProof.Rows L2
theorem Keep.also {S : List Addr} {H H1 H2 : Hp} {a : Addr} (k : Keep S H H1) (k2 : Keep [a] H1 H2) (h : H a = none) : Keep S H H2 :=
  ((k.mono fun y hy => List.mem_cons_of_mem a hy).trans (k2.mono fun y hy => by rw [List.mem_singleton] at hy; rw [hy]; simp)).drop h
theorem HeapAt.notIn {C : Addr} {H : Hp} {h l : Addr} {as : List Addr} {c : Cont} (x : HeapAt C H h l as c) {a : Addr} (ha : H a = none) : a ∉ as := fun z => by
  obtain ⟨i, h1⟩ := List.getElem?_of_mem z
  obtain ⟨_, _, xs, h2, _⟩ := paired_getV x.rows h1
  rw [ha] at h2
  cases h2
theorem HeapAt.keepL {C : Addr} {H H' : Hp} {h l a : Addr} {as : List Addr} {c : Cont} (x : HeapAt C H h l as c) (k : Keep [a] H H') (hl : a ≠ l) (ha : a ∉ as) (hh : a ≠ h) : HeapAt C H' h l as c :=
  x.keep k (fun z => hh (List.mem_singleton.mp z).symm) (fun z => hl (List.mem_singleton.mp z).symm) fun b hb z => ha (by rw [← List.mem_singleton.mp z]; exact hb)
def numK : Nat → List Nat → List (Key × V)
  | _, [] => []
  | b, x :: o => (.inl (x : Int), .int (b : Nat)) :: numK (b + 1) o
def rowOf (c : Cont) (x : Nat) : List Im := c.getD x []
def rnm (b : Nat) (o : List Nat) : Im → Im
  | .b n => .b (b + o.idxOf n)
  | x => x
def copyC (c : Cont) (o : List Nat) : Cont := c ++ o.map fun x => (rowOf c x).map (rnm c.length o)
def lens (c : Cont) (o : List Nat) : Nat := (o.map fun x => (rowOf c x).length).sum
theorem numK_snoc (x : Nat) : ∀ (o : List Nat) (b : Nat), numK b (o ++ [x]) = numK b o ++ [(.inl (x : Int), .int ((b + o.length : Nat)))]
  | [], b => rfl
  | y :: o, b => by
    show (_ :: numK (b + 1) (o ++ [x])) = _ :: (numK (b + 1) o ++ _)
    rw [numK_snoc x o (b + 1)]
    have e : b + 1 + o.length = b + (y :: o).length := by simp; omega
    rw [e]
theorem numK_len : ∀ (o : List Nat) (b : Nat), (numK b o).length = o.length
  | [], _ => rfl
  | _ :: o, b => by show (numK (b + 1) o).length + 1 = _; rw [numK_len o]; rfl
theorem numK_none {x : Nat} : ∀ (o : List Nat) (b : Nat), x ∉ o → valV (numK b o) (Sum.inl (x : Int) : Key) = none
  | [], _, _ => rfl
  | y :: o, b, h => by
    have h1 : ¬ (Sum.inl (y : Int) : Key) = Sum.inl (x : Int) := fun e => by
      have e2 := Sum.inl.inj e
      exact h (by have : y = x := by omega
                  rw [this]; simp)
    show valV ((_, _) :: numK (b + 1) o) _ = _
    rw [valV_neg h1]
    exact numK_none o (b + 1) fun z => h (List.mem_cons_of_mem _ z)
theorem numK_some {x : Nat} : ∀ (o : List Nat) (b i : Nat), o.Nodup → o[i]? = some x → valV (numK b o) (Sum.inl (x : Int) : Key) = some (.int ((b + i : Nat)))
  | [], _, _, _, h => by simp at h
  | y :: o, b, 0, _, h => by
    simp at h
    subst h
    exact valV_pos rfl
  | y :: o, b, i + 1, hn, h => by
    have h2 : o[i]? = some x := by simpa using h
    have hn2 := List.nodup_cons.mp hn
    have h1 : ¬ (Sum.inl (y : Int) : Key) = Sum.inl (x : Int) := fun e => by
      have e2 := Sum.inl.inj e
      have e3 : y = x := by omega
      rw [e3] at hn2
      exact hn2.1 (List.mem_of_getElem? h2)
    show valV ((_, _) :: numK (b + 1) o) _ = _
    rw [valV_neg h1, numK_some o (b + 1) i hn2.2 h2]
    have e : b + 1 + i = b + (i + 1) := by omega
    rw [e]
theorem numK_idx {x b : Nat} {o : List Nat} (hn : o.Nodup) (hx : x ∈ o) : valV (numK b o) (Sum.inl (x : Int) : Key) = some (.int ((b + o.idxOf x : Nat))) := by
  refine numK_some o b _ hn ?_
  have h := List.idxOf_lt_length_of_mem hx
  rw [List.getElem?_eq_getElem h, List.getElem_idxOf h]
theorem rowOf_of {c : Cont} {x : Nat} {r : List Im} (h : c[x]? = some r) : rowOf c x = r := by
  unfold rowOf
  rw [List.getD_eq_getElem?_getD, h]
  rfl
theorem lens_sum (c : Cont) (o : List Nat) : (o.map fun x => (((rowOf c x).length : Nat) : Int)).sum = ((lens c o : Nat) : Int) := by
  unfold lens
  induction o with
  | nil => rfl
  | cons x o ih =>
    rw [List.map_cons, List.sum_cons, ih, List.map_cons, List.sum_cons]
    omega
theorem lens_append (c : Cont) (o1 o2 : List Nat) : lens c (o1 ++ o2) = lens c o1 + lens c o2 := by simp [lens]
theorem lens_take (c : Cont) {o : List Nat} {i x : Nat} (h : o[i]? = some x) : lens c (o.take (i + 1)) = lens c (o.take i) + (rowOf c x).length ∧ lens c (o.take (i + 1)) ≤ lens c o := by
  obtain ⟨hil, hie⟩ := List.getElem?_eq_some_iff.mp h
  refine ⟨by rw [List.take_succ_eq_append_getElem hil, hie, lens_append]; simp [lens], ?_⟩
  have z := lens_append c (o.take (i + 1)) (o.drop (i + 1))
  rw [List.take_append_drop] at z
  omega
/-- the contents part of the way: rows 0 .. i of the copies done, of row i the first j items -/
structure Part (c : Cont) (o : List Nat) (i j : Nat) (row : List Im) (cur : Cont) : Prop where
  len : cur.length = c.length + o.length
  old : ∀ x, x < c.length → cur[x]? = c[x]?
  done : ∀ t x, t < i → o[t]? = some x → cur[c.length + t]? = some ((rowOf c x).map (rnm c.length o))
  here : i < o.length → cur[c.length + i]? = some ((row.take j).map (rnm c.length o))
  todo : ∀ t, i < t → t < o.length → cur[c.length + t]? = some []
  tot : total cur = total c + lens c (o.take i) + j
theorem Part.start {c : Cont} {o : List Nat} : Part c o 0 0 [] (c ++ List.replicate o.length []) := by
  refine ⟨by simp, fun x hx => by rw [List.getElem?_append_left hx], fun t x h _ => by omega, fun h => ?_, fun t _ h => ?_, by simp [total, lens]⟩
  · rw [List.getElem?_append_right (by omega), show c.length + 0 - c.length = 0 by omega, List.getElem?_replicate, if_pos h]
    simp
  · rw [List.getElem?_append_right (by omega), show c.length + t - c.length = t by omega, List.getElem?_replicate, if_pos h]
theorem Part.row {c cur : Cont} {o : List Nat} {i : Nat} {row' row : List Im} (h : Part c o i 0 row' cur) : Part c o i 0 row cur :=
  ⟨h.len, h.old, h.done, fun z => by rw [h.here z]; simp, h.todo, h.tot⟩
theorem Part.step {c cur : Cont} {o : List Nat} {i j : Nat} {row : List Im} {z : Im} (h : Part c o i j row cur) (hi : i < o.length) (hz : row[j]? = some z) :
    Part c o i (j + 1) row (cur.set (c.length + i) ((row.take j).map (rnm c.length o) ++ [rnm c.length o z])) := by
  obtain ⟨hj, e⟩ := List.getElem?_eq_some_iff.mp hz
  have hl := h.len
  refine ⟨by rw [List.length_set]; exact h.len, fun x hx => ?_, fun t x ht hx => ?_, fun _ => ?_, fun t h1 h2 => ?_, ?_⟩
  · rw [List.getElem?_set_ne (by omega)]; exact h.old x hx
  · rw [List.getElem?_set_ne (by omega)]; exact h.done t x ht hx
  · rw [List.getElem?_set_self (by omega), List.take_succ_eq_append_getElem hj, e, List.map_append]
    rfl
  · rw [List.getElem?_set_ne (by omega)]; exact h.todo t h1 h2
  · have z := total_set cur (c.length + i) _ ((row.take j).map (rnm c.length o) ++ [rnm c.length o z]) (h.here hi)
    rw [List.length_append, List.length_singleton] at z
    have ht := h.tot
    omega
theorem Part.next {c cur : Cont} {o : List Nat} {i x : Nat} {row : List Im} (h : Part c o i row.length row cur) (hx : o[i]? = some x) (hr : rowOf c x = row) : Part c o (i + 1) 0 [] cur := by
  obtain ⟨hi, e⟩ := List.getElem?_eq_some_iff.mp hx
  refine ⟨h.len, h.old, fun t y ht hy => ?_, fun z => by simpa using h.todo (i + 1) (by omega) z, fun t h1 h2 => h.todo t (by omega) h2, ?_⟩
  · by_cases c1 : t = i
    · subst c1
      rw [hx] at hy
      cases hy
      rw [h.here hi, List.take_length, hr]
    · exact h.done t y (by omega) hy
  · rw [h.tot, (lens_take c hx).1, hr]
    omega
theorem Part.fin {c cur : Cont} {o : List Nat} {j : Nat} {row : List Im} (h : Part c o o.length j row cur) : cur = copyC c o := by
  refine List.ext_getElem? fun x => ?_
  unfold copyC
  by_cases c1 : x < c.length
  · rw [h.old x c1, List.getElem?_append_left c1]
  · rw [List.getElem?_append_right (by omega), List.getElem?_map]
    cases e : o[x - c.length]? with
    | none =>
      have h1 := List.getElem?_eq_none_iff.mp e
      rw [List.getElem?_eq_none (by rw [h.len]; omega)]
      rfl
    | some y =>
      have z := h.done (x - c.length) y (List.getElem?_eq_some_iff.mp e).1 e
      rw [show c.length + (x - c.length) = x by omega] at z
      exact z
end Rg
/-! RgR: data that repr writes: what it asks of its size. -/
namespace Rg
open PySem PySem.Spec PyProof.Rows L2
/-- data without dicts, of ints below 10 ^ 40 and plain texts, of weight at most w, at most n deep -/
structure Rp (d : PyData) (w n : Nat) : Prop where
  ls : d.leavesShort 41 = true
  sh : d.showable = true
  nd : d.hasDict = false
  dp : d.depth ≤ n
  wt : d.weight ≤ w
theorem rp_int {i : Int} (h : i.natAbs < 10 ^ 40) : Rp (.int i) 140 0 := by
  have hl : i.natAbs.log2 < 133 := by
    by_cases e : i.natAbs = 0
    · rw [e]; decide
    · refine (Nat.log2_lt e).mpr (Nat.lt_trans h (by decide))
  refine ⟨?_, ?_, rfl, Nat.le_refl _, ?_⟩
  · simp only [PyData.leavesShort]
    refine decide_eq_true ?_
    show (Str.ofString (toString i)).length ≤ 41
    rw [PyProof.Rows.ofString_length]
    exact int_text_length_le10 (by decide) h
  · simp only [PyData.showable, decide_eq_true_eq]
    omega
  · simp only [PyData.weight]
    split <;> omega
theorem rp_str {x : Str} (h : x.length ≤ 100) (hc : ∀ c ∈ x.cps.toList, c < 1000) : Rp (.str x) 140 0 := by
  refine ⟨?_, rfl, rfl, Nat.le_refl _, ?_⟩
  · simp only [PyData.leavesShort, List.all_eq_true, decide_eq_true_eq]
    exact fun c hx => Nat.lt_of_lt_of_le (hc c hx) (by decide)
  · simp only [PyData.weight]
    exact Nat.le_trans h (by decide)
theorem rp_all {w n : Nat} : ∀ {xs : List PyData}, (∀ x ∈ xs, Rp x w n) → PyData.leavesShortAll 41 xs = true ∧ PyData.showableAll xs = true ∧ PyData.hasDictAll xs = false ∧ PyData.depthAll xs ≤ n ∧ PyData.weightAll xs ≤ (w + 1) * xs.length
  | [], _ => ⟨rfl, rfl, rfl, Nat.zero_le _, Nat.zero_le _⟩
  | x :: xs, h => by
    obtain ⟨a, b, c, d, e⟩ := rp_all fun y hy => h y (List.mem_cons_of_mem _ hy)
    obtain ⟨a', b', c', d', e'⟩ := h x (by simp)
    refine ⟨?_, ?_, ?_, ?_, ?_⟩
    · simp only [PyData.leavesShortAll, a, a', Bool.and_self]
    · simp only [PyData.showableAll, b, b', Bool.and_self]
    · simp only [PyData.hasDictAll, c, c', Bool.or_self]
    · simp only [PyData.depthAll]; omega
    · simp only [PyData.weightAll, List.length_cons]
      rw [Nat.mul_add, Nat.mul_one]
      omega
theorem rp_list {w n : Nat} {xs : List PyData} (h : ∀ x ∈ xs, Rp x w n) : Rp (.list xs) ((w + 1) * xs.length) (n + 1) := by
  obtain ⟨a, b, c, d, e⟩ := rp_all h
  exact ⟨by simpa only [PyData.leavesShort] using a, by simpa only [PyData.showable] using b, by simpa only [PyData.hasDict] using c, by simp only [PyData.depth]; omega, by simpa only [PyData.weight] using e⟩
theorem rp_tup {w n : Nat} {xs : List PyData} (h : ∀ x ∈ xs, Rp x w n) : Rp (.tuple xs) ((w + 1) * xs.length) (n + 1) := by
  obtain ⟨a, b, c, d, e⟩ := rp_all h
  exact ⟨by simpa only [PyData.leavesShort] using a, by simpa only [PyData.showable] using b, by simpa only [PyData.hasDict] using c, by simp only [PyData.depth]; omega, by simpa only [PyData.weight] using e⟩
theorem Rp.mono {d : PyData} {w n w' n' : Nat} (h : Rp d w n) (hw : w ≤ w') (hn : n ≤ n') : Rp d w' n' := ⟨h.ls, h.sh, h.nd, Nat.le_trans h.dp hn, Nat.le_trans h.wt hw⟩
theorem Rp.fits {d : PyData} {w n : Nat} (h : Rp d w n) (hw : w ≤ 300000) (hn : n ≤ 30) : d.showable = true ∧ d.hasDict = false ∧ d.depth ≤ 30 ∧ d.shown.length ≤ sizeLine := by
  refine ⟨h.sh, h.nd, Nat.le_trans h.dp hn, ?_⟩
  have e := PyData.shown_le 41 (by decide) d h.ls
  have e2 := h.wt
  rw [sizeLine_eq]
  omega
/-- items that are written in few signs -/
def fineIm : Im → Prop
  | .i n => n.natAbs < 10 ^ 40
  | .s x => x.length ≤ 8 ∧ ∀ c ∈ x.cps.toList, c < 1000
  | .b n => n < 1000
theorem rp_im : ∀ {x : Im}, fineIm x → Rp x.d 300 1
  | .i n, h => (rp_int h).mono (by decide) (by decide)
  | .s x, h => (rp_str (Nat.le_trans h.1 (by decide)) h.2).mono (by decide) (by decide)
  | .b n, h => by
    have z : Rp (.tuple [.str "box", .int n]) ((140 + 1) * 2) 1 := rp_tup (xs := [.str "box", .int n]) fun x hx => by
      rcases List.mem_cons.mp hx with e | hx
      · rw [e]
        exact rp_str (by decide +kernel) (by decide +kernel)
      · rw [List.mem_singleton.mp hx]
        exact rp_int (by have h : n < 1000 := h; omega)
    exact z.mono (by decide) (by decide)
theorem rp_row {r : List Im} (h : ∀ x ∈ r, fineIm x) (hl : r.length ≤ 300) : Rp (rowD r) (301 * r.length) 2 := by
  have z : Rp (.list (r.map Im.d)) ((300 + 1) * (r.map Im.d).length) 2 := rp_list fun x hx => by
    obtain ⟨y, hy, rfl⟩ := List.mem_map.mp hx
    exact rp_im (h y hy)
  rw [List.length_map] at z
  exact z
theorem weight_rows : ∀ {c : List (List Im)}, (∀ r ∈ c, ∀ x ∈ r, fineIm x) → (∀ r ∈ c, r.length ≤ 300) → PyData.weightAll (c.map rowD) ≤ 301 * (c.map List.length).sum + c.length
  | [], _, _ => Nat.zero_le _
  | r :: c, h, hl => by
    have z := weight_rows (fun r hr => h r (List.mem_cons_of_mem _ hr)) fun r hr => hl r (List.mem_cons_of_mem _ hr)
    have z2 := (rp_row (h r (by simp)) (hl r (by simp))).wt
    simp only [List.map_cons, PyData.weightAll, List.sum_cons, List.length_cons]
    rw [Nat.mul_add]
    omega
theorem rp_cont {c : List (List Im)} (h : ∀ r ∈ c, ∀ x ∈ r, fineIm x) (hl : (c.map List.length).sum ≤ 300) (hc : c.length ≤ 100) : Rp (contD c) 100000 3 := by
  have hr : ∀ r ∈ c, r.length ≤ 300 := fun r hm => by
    refine Nat.le_trans ?_ hl
    clear h hl hc
    induction c with
    | nil => simp at hm
    | cons a c ih =>
      simp only [List.map_cons, List.sum_cons]
      rcases List.mem_cons.mp hm with e | hm
      · rw [e]; omega
      · have := ih hm; omega
  have z : Rp (.list (c.map rowD)) ((301 * 300 + 1) * (c.map rowD).length) 3 := rp_list fun x hx => by
    obtain ⟨y, hy, rfl⟩ := List.mem_map.mp hx
    exact (rp_row (h y hy) (hr y hy)).mono (Nat.mul_le_mul_left _ (hr y hy)) (Nat.le_refl _)
  refine ⟨z.ls, z.sh, z.nd, z.dp, ?_⟩
  have w := weight_rows h hr
  have e : (contD c).weight = PyData.weightAll (c.map rowD) := by simp only [contD, PyData.weight]
  rw [e]
  omega
end Rg
/-! RgE: contents while a heap is filled item by item; two swaps. -/
namespace Rg
open PySem PySem.Spec PyProof.Rows L2
/-- the first i rows, j items of the next one, the others empty -/
def cur (c : Cont) (i j : Nat) : Cont := c.take i ++ (rowOf c i).take j :: List.replicate (c.length - i - 1) []
def filled (c : Cont) (i : Nat) : Cont := c.take i ++ List.replicate (c.length - i) []
section
variable {c : Cont} {i j : Nat} {x : Im}
theorem rowOf_get (h : i < c.length) : c[i]? = some (rowOf c i) := by
  rw [List.getElem?_eq_getElem h]
  exact congrArg some (rowOf_of (List.getElem?_eq_getElem h)).symm
theorem cur_len (h : i < c.length) : (cur c i j).length = c.length := by
  simp only [cur, List.length_append, List.length_take, List.length_cons, List.length_replicate]
  omega
theorem cur_at (h : i < c.length) : (cur c i j)[i]? = some ((rowOf c i).take j) := by
  have e : (c.take i).length = i := by rw [List.length_take]; omega
  unfold cur
  rw [List.getElem?_append_right (by omega), e]
  simp
theorem cur_step (h : i < c.length) (hx : (rowOf c i)[j]? = some x) : (cur c i j).set i ((rowOf c i).take j ++ [x]) = cur c i (j + 1) := by
  have e : (c.take i).length = i := by rw [List.length_take]; omega
  obtain ⟨hj, ej⟩ := List.getElem?_eq_some_iff.mp hx
  unfold cur
  rw [List.set_append_right _ _ (by omega), e, Nat.sub_self, List.set_cons_zero, List.take_succ_eq_append_getElem hj, ej]
theorem cur_zero (h : i < c.length) : cur c i 0 = filled c i := by
  unfold cur filled
  rw [List.take_zero, show c.length - i = (c.length - i - 1) + 1 by omega, List.replicate_succ]
  rfl
theorem cur_full (h : i < c.length) : cur c i (rowOf c i).length = filled c (i + 1) := by
  unfold cur filled
  rw [List.take_length, List.take_succ_eq_append_getElem h, List.append_assoc]
  have e : c[i] = rowOf c i := (rowOf_of (List.getElem?_eq_getElem h)).symm
  rw [e]
  rfl
theorem filled_zero : filled c 0 = List.replicate c.length [] := by simp [filled]
theorem filled_full : filled c c.length = c := by simp [filled]
theorem total_cur (h : i < c.length) (hj : j < (rowOf c i).length) : total (cur c i j) < total c := by
  have e : c = c.take i ++ rowOf c i :: c.drop (i + 1) := by
    have e2 : c[i] = rowOf c i := (rowOf_of (List.getElem?_eq_getElem h)).symm
    rw [← e2, ← List.drop_eq_getElem_cons h, List.take_append_drop]
  have e3 : total c = total (c.take i) + ((rowOf c i).length + total (c.drop (i + 1))) := by
    conv => lhs; rw [e]
    simp [total]
  have e4 : total (cur c i j) = total (c.take i) + min j (rowOf c i).length := by
    simp [total, cur]
  rw [e3, e4]
  omega
end
theorem swap_swap {α : Type} {l : List α} {i j : Nat} {a b : α} (hi : l[i]? = some a) (hj : l[j]? = some b) : ((l.set i b).set j a)[j]? = some a ∧ ((l.set i b).set j a)[i]? = some b ∧ (((l.set i b).set j a).set j b).set i a = l := by
  obtain ⟨li, ei⟩ := List.getElem?_eq_some_iff.mp hi
  obtain ⟨lj, ej⟩ := List.getElem?_eq_some_iff.mp hj
  refine ⟨by simp [lj], ?_, ?_⟩
  · rw [List.getElem?_set]
    by_cases e : j = i
    · subst e
      rw [if_pos rfl, if_pos (by simpa using li), ← ei, ← ej]
    · rw [if_neg e]
      simp [li]
  · refine List.ext_getElem? fun k => ?_
    by_cases e1 : i = k
    · subst e1
      simp [li, hi, ei]
    · rw [List.getElem?_set_ne e1]
      by_cases e2 : j = k
      · subst e2
        simp [lj, hj, ej]
      · rw [List.getElem?_set_ne e2, List.getElem?_set_ne e2, List.getElem?_set_ne e1]
end Rg
/-! RgF: numbers given in the order of opening; targets of two names. -/
namespace Rg
open PySem PySem.Spec PyProof.Rows L2
theorem gTup2_mono {K : PySem.W.Frag} {i j : Nat} : ∀ (x : V) (σ : L2.St) (H : Hp) (Q Q' : L2.St → Hp → Prop), (∀ σ' H', Q σ' H' → Q' σ' H') → gTup K 2 (gCons (gName i) (gCons (gName j) gNil)) x σ H Q → gTup K 2 (gCons (gName i) (gCons (gName j) gNil)) x σ H Q' :=
  fun _ _ _ _ _ h ⟨a, xs, e, s, n, v, r, e1, w, r2, e2, e3, q⟩ => ⟨a, xs, e, s, n, v, r, e1, w, r2, e2, e3, h _ _ q⟩
theorem refs_of {γ : Type} {R : Addr → γ → Prop} : ∀ {acc : List V} {zs : List γ}, Paired (fun v r => ∃ a, v = .ref a ∧ R a r) acc zs → ∃ bs : List Addr, acc = bs.map V.ref ∧ Paired R bs zs
  | _, _, .nil => ⟨[], rfl, .nil⟩
  | _, _, .cons ⟨a, e, h⟩ t => let ⟨bs, e2, hb⟩ := refs_of t; ⟨a :: bs, by rw [e, e2]; rfl, .cons h hb⟩
theorem eq_of_get {γ : Type} {zs l : List γ} (h1 : zs.length = l.length) (h2 : ∀ (i : Nat) z, zs[i]? = some z → l[i]? = some z) : zs = l := by
  refine List.ext_getElem? fun i => ?_
  cases hb : zs[i]? with
  | none =>
    have h := List.getElem?_eq_none_iff.mp hb
    rw [List.getElem?_eq_none (by omega)]
  | some b => exact (h2 i b hb).symm
theorem numK_get : ∀ {o : List Nat} {b i x : Nat}, o[i]? = some x → (numK b o)[i]? = some (.inl (x : Int), .int ((b + i : Nat)))
  | [], _, _, _, h => by simp at h
  | y :: o, b, 0, x, h => by
    simp at h
    subst h
    rfl
  | y :: o, b, i + 1, x, h => by
    have z := numK_get (o := o) (b := b + 1) (i := i) (x := x) (by simpa using h)
    have e : b + 1 + i = b + (i + 1) := by omega
    rw [e] at z
    exact z
theorem numK_merge : ∀ (o2 o1 : List Nat) (b : Nat), (o1 ++ o2).Nodup → mergeK (numK b o1) (numK (b + o1.length) o2) = numK b (o1 ++ o2)
  | [], o1, b, _ => by rw [List.append_nil]; rfl
  | x :: o2, o1, b, h => by
    have nx : x ∉ o1 := fun z => (List.nodup_append.mp h).2.2 x z x (by simp) rfl
    have ih := numK_merge o2 (o1 ++ [x]) b (by rw [List.append_assoc]; exact h)
    rw [List.append_assoc] at ih
    rw [show numK (b + o1.length) (x :: o2) = (.inl (x : Int), .int ((b + o1.length : Nat))) :: numK (b + o1.length + 1) o2 from rfl]
    show mergeK (putK (numK b o1) _ _) _ = _
    rw [putK_new _ (numK_none _ _ nx), ← numK_snoc, show b + o1.length + 1 = b + (o1 ++ [x]).length by simp; omega]
    exact ih
theorem numK_merge0 {o : List Nat} {b : Nat} (h : o.Nodup) : mergeK [] (numK b o) = numK b o := numK_merge o [] b h
/-- contents in new lists, while they grow -/
structure DInv (H : Hp) (f : Addr) (H' : Hp) (as : List Addr) (c : Cont) : Prop where
  kp : Keep [] H H'
  lst : H' f = some (.lst (as.map V.ref))
  nf : f ∉ as
  rows : Paired (fun a r => H a = none ∧ ∃ xs, H' a = some (.lst xs) ∧ ImsV H' xs r) as c
theorem DInv.new {H H' H2 : Hp} {f : Addr} {as : List Addr} {c : Cont} (z : DInv H f H' as c) (k : Keep [] H' H2) : DInv H f H2 as c :=
  ⟨z.kp.trans k, k.same _ _ z.lst, z.nf, paired_mem z.rows fun i a r h1 _ ⟨h2, xs, h3, h4⟩ => ⟨h2, xs, k.same _ _ h3, h4.keep k⟩⟩
theorem DInv.push {H H' : Hp} {f t : Addr} {as : List Addr} {c : Cont} {xs : List V} {r : List Im} (z : DInv H f H' as c) (hf : H f = none) (ht0 : H t = none) (ht : H' t = some (.lst xs)) (ntf : t ≠ f) (hI : ImsV H' xs r) : DInv H f (upd H' f (.lst (as.map V.ref ++ [.ref t]))) (as ++ [t]) (c ++ [r]) := by
  have kp : Keep [f] H' (upd H' f (.lst (as.map V.ref ++ [.ref t]))) := .put (by simp) z.lst rfl
  refine ⟨z.kp.upd_fresh hf, by rw [upd_same, List.map_append]; rfl, fun e => ?_, paired_append (paired_mem z.rows fun i a r h1 _ ⟨h2, xs, h3, h4⟩ => ⟨h2, xs, kp.at (fun e => z.nf (by rw [← List.mem_singleton.mp e]; exact List.mem_of_getElem? h1)) h3, h4.keep kp⟩) (.cons ⟨ht0, xs, kp.at (fun e => ntf (List.mem_singleton.mp e)) ht, hI.keep kp⟩ .nil)⟩
  rcases List.mem_append.mp e with e | e
  · exact z.nf e
  · exact ntf (List.mem_singleton.mp e).symm
end Rg
/-! RgG: sizes of copies; the pairs of numbers as data. -/
namespace Rg
open PySem PySem.Spec PyProof.Rows L2
theorem sum_sub (f : Nat → Nat) : ∀ (n : Nat) (o : List Nat), o.Nodup → (∀ x ∈ o, x < n) → (o.map f).sum ≤ ((List.range n).map f).sum
  | 0, [], _, _ => Nat.le_refl _
  | 0, x :: _, _, h => absurd (h x (by simp)) (by omega)
  | n + 1, o, hn, h => by
    have z := sum_sub f n (o.erase n) (hn.erase n) fun x hx => by
      have h1 := h x (List.mem_of_mem_erase hx)
      have h2 : x ≠ n := fun e => by
        rw [e] at hx
        exact (List.Nodup.not_mem_erase hn) hx
      omega
    rw [List.range_succ, List.map_append, List.sum_append]
    by_cases hm : n ∈ o
    · have p := ((List.perm_cons_erase hm).map f).sum_nat
      rw [p, List.map_cons, List.sum_cons]
      simp
      omega
    · rw [List.erase_of_not_mem hm] at z
      omega
theorem total_range (c : Cont) : total c = ((List.range c.length).map fun x => (rowOf c x).length).sum := by
  unfold total
  congr 1
  refine List.ext_getElem? fun i => ?_
  rw [List.getElem?_map, List.getElem?_map]
  by_cases h : i < c.length
  · rw [rowOf_get h, List.getElem?_range h]
    rfl
  · rw [List.getElem?_eq_none (by omega), List.getElem?_eq_none (by simp; omega)]
    rfl
theorem lens_le {c : Cont} {o : List Nat} (h : o.Nodup) (h2 : ∀ x ∈ o, x < c.length) : lens c o ≤ total c := by
  rw [total_range]
  exact sum_sub _ _ _ h h2
theorem copyC_len (c : Cont) (o : List Nat) : (copyC c o).length = c.length + o.length := by simp [copyC]
theorem copyC_total (c : Cont) (o : List Nat) : total (copyC c o) = total c + lens c o := by
  simp only [total, copyC, lens, List.map_append, List.sum_append, List.map_map]
  congr 2
  refine List.map_congr_left fun x _ => ?_
  simp
/-- an item of a copy -/
theorem copyC_item {c : Cont} {o : List Nat} (h2 : ∀ x ∈ o, x < c.length) (hcl : ∀ x ∈ o, ∀ row, c[x]? = some row → ∀ k, Im.b k ∈ row → k ∈ o) {r : List Im} (hr : r ∈ copyC c o) {x : Im} (hx : x ∈ r) :
    (∃ r ∈ c, x ∈ r) ∨ ∃ k, k < o.length ∧ x = .b (c.length + k) := by
  rcases List.mem_append.mp hr with hr | hr
  · exact .inl ⟨r, hr, hx⟩
  · obtain ⟨y, hy, rfl⟩ := List.mem_map.mp hr
    obtain ⟨z, hz, rfl⟩ := List.mem_map.mp hx
    have hyc := rowOf_get (h2 y hy)
    cases z with
    | i n => exact .inl ⟨_, List.mem_of_getElem? hyc, hz⟩
    | s w => exact .inl ⟨_, List.mem_of_getElem? hyc, hz⟩
    | b n => exact .inr ⟨_, List.idxOf_lt_length_of_mem (hcl y hy _ hyc n hz), rfl⟩
def numD : Nat → List Nat → List PyData
  | _, [] => []
  | b, x :: o => .tuple [.int (x : Int), .int (b : Nat)] :: numD (b + 1) o
theorem numD_len : ∀ (o : List Nat) (b : Nat), (numD b o).length = o.length
  | [], _ => rfl
  | _ :: o, b => by show (numD (b + 1) o).length + 1 = _; rw [numD_len o]; rfl
theorem numD_rp : ∀ (o : List Nat) (b : Nat), (∀ x ∈ o, x < 1000) → b + o.length < 1000 → ∀ d ∈ numD b o, Rp d 282 1
  | [], _, _, _, _, h => by simp [numD] at h
  | x :: o, b, h1, h2, d, h => by
    have h2' : b + (o.length + 1) < 1000 := h2
    rcases List.mem_cons.mp h with e | h
    · rw [e]
      refine (rp_tup (w := 140) (n := 0) (xs := [.int (x : Int), .int (b : Nat)]) fun y hy => ?_).mono (show (140 + 1) * 2 ≤ 282 by decide) (by decide)
      rcases List.mem_cons.mp hy with e | hy
      · rw [e]
        have := h1 x (by simp)
        exact rp_int (by omega)
      · rw [List.mem_singleton.mp hy]
        exact rp_int (by omega)
    · exact numD_rp o (b + 1) (fun y hy => h1 y (List.mem_cons_of_mem _ hy)) (by omega) d h
theorem numD_list {o : List Nat} {b : Nat} (h1 : ∀ x ∈ o, x < 1000) (h2 : b + o.length < 1000) : Rp (.list (numD b o)) 300000 3 := by
  have z := rp_list (numD_rp o b h1 h2)
  rw [numD_len] at z
  exact z.mono (by omega) (by decide)
theorem numD_dp {K : PySem.W.Frag} {H : Hp} : ∀ {o : List Nat} {b : Nat} {ts : List Addr}, Paired (fun t (q : Key × V) => H t = some (.tup [kV q.1, q.2])) ts (numK b o) → DpAll K H (ts.map V.ref) (numD b o)
  | [], b, ts, h => by
    cases h
    exact .nil
  | x :: o, b, ts, h => by
    cases h with
    | cons a t => exact .cons (.tup (.of a) (.cons (.int _) (.cons (.int _) .nil))) (numD_dp t)
end Rg
namespace K49
open PySem PySem.Spec PyProof.Rows L2 Rg
def top (i : Nat) : Stmt := PySem.Challenge.pw_ringlists_k49_deep_copies.main.body.getD i (.Pass ⟨0, 0, 0, 0⟩)
abbrev s_is_integer : Stmt := top 11
abbrev s_is_within : Stmt := top 12
abbrev s_is_word : Stmt := top 13
abbrev s_is_leaf : Stmt := top 14
abbrev s_is_reference : Stmt := top 15
abbrev s_is_item : Stmt := top 16
abbrev s_is_box : Stmt := top 17
abbrev s_visit : Stmt := top 19
abbrev s_reachable : Stmt := top 20
abbrev s_copy_depth : Stmt := top 21
abbrev s_deep_copy : Stmt := top 22
abbrev s_l_bag : Stmt := top 26
abbrev s_l_take : Stmt := top 27
abbrev s_l_leaf : Stmt := top 28
abbrev s_l_contents : Stmt := top 29
abbrev s_l_built : Stmt := top 30
abbrev s_l_opening : Stmt := top 31
abbrev s_l_due : Stmt := top 32
abbrev s_law : Stmt := top 33
abbrev s_init : Stmt := inClass (top 24) 2
abbrev s_of : Stmt := inClass (top 24) 3
abbrev s_len : Stmt := inClass (top 24) 5
abbrev s_contains : Stmt := inClass (top 24) 7
abbrev s_need_box : Stmt := inClass (top 24) 9
abbrev s_need_place : Stmt := inClass (top 24) 10
abbrev s_need_item : Stmt := inClass (top 24) 11
abbrev s_need_room : Stmt := inClass (top 24) 12
abbrev s_new : Stmt := inClass (top 24) 13
abbrev s_put : Stmt := inClass (top 24) 14
abbrev s_add_at : Stmt := inClass (top 24) 15
abbrev s_add_last : Stmt := inClass (top 24) 16
abbrev s_swap : Stmt := inClass (top 24) 18
abbrev s_look : Stmt := inClass (top 24) 19
abbrev s_contents : Stmt := inClass (top 24) 20
/-- what the text's names stand for behind the top -/
structure Txt (K : PySem.W.Frag) (mg : Str → Option Value) where
  f_is_integer : Addr
  fd_is_integer : FuncData
  F_is_integer : Fun K "is_integer" "is_integer" s_is_integer f_is_integer fd_is_integer
  g_is_integer : mg "is_integer" = some (.ref f_is_integer)
  f_is_within : Addr
  fd_is_within : FuncData
  F_is_within : Fun K "is_within" "is_within" s_is_within f_is_within fd_is_within
  g_is_within : mg "is_within" = some (.ref f_is_within)
  f_is_word : Addr
  fd_is_word : FuncData
  F_is_word : Fun K "is_word" "is_word" s_is_word f_is_word fd_is_word
  g_is_word : mg "is_word" = some (.ref f_is_word)
  f_is_leaf : Addr
  fd_is_leaf : FuncData
  F_is_leaf : Fun K "is_leaf" "is_leaf" s_is_leaf f_is_leaf fd_is_leaf
  g_is_leaf : mg "is_leaf" = some (.ref f_is_leaf)
  f_is_reference : Addr
  fd_is_reference : FuncData
  F_is_reference : Fun K "is_reference" "is_reference" s_is_reference f_is_reference fd_is_reference
  g_is_reference : mg "is_reference" = some (.ref f_is_reference)
  f_is_item : Addr
  fd_is_item : FuncData
  F_is_item : Fun K "is_item" "is_item" s_is_item f_is_item fd_is_item
  g_is_item : mg "is_item" = some (.ref f_is_item)
  f_is_box : Addr
  fd_is_box : FuncData
  F_is_box : Fun K "is_box" "is_box" s_is_box f_is_box fd_is_box
  g_is_box : mg "is_box" = some (.ref f_is_box)
  f_visit : Addr
  fd_visit : FuncData
  F_visit : Fun K "visit" "visit" s_visit f_visit fd_visit
  g_visit : mg "visit" = some (.ref f_visit)
  f_reachable : Addr
  fd_reachable : FuncData
  F_reachable : Fun K "reachable" "reachable" s_reachable f_reachable fd_reachable
  g_reachable : mg "reachable" = some (.ref f_reachable)
  f_copy_depth : Addr
  fd_copy_depth : FuncData
  F_copy_depth : Fun K "copy_depth" "copy_depth" s_copy_depth f_copy_depth fd_copy_depth
  g_copy_depth : mg "copy_depth" = some (.ref f_copy_depth)
  f_deep_copy : Addr
  fd_deep_copy : FuncData
  F_deep_copy : Fun K "deep_copy" "deep_copy" s_deep_copy f_deep_copy fd_deep_copy
  g_deep_copy : mg "deep_copy" = some (.ref f_deep_copy)
  f_l_bag : Addr
  fd_l_bag : FuncData
  F_l_bag : Fun K "_law_bag" "_law_bag" s_l_bag f_l_bag fd_l_bag
  g_l_bag : mg "_law_bag" = some (.ref f_l_bag)
  f_l_take : Addr
  fd_l_take : FuncData
  F_l_take : Fun K "_law_take" "_law_take" s_l_take f_l_take fd_l_take
  g_l_take : mg "_law_take" = some (.ref f_l_take)
  f_l_leaf : Addr
  fd_l_leaf : FuncData
  F_l_leaf : Fun K "_law_leaf" "_law_leaf" s_l_leaf f_l_leaf fd_l_leaf
  g_l_leaf : mg "_law_leaf" = some (.ref f_l_leaf)
  f_l_contents : Addr
  fd_l_contents : FuncData
  F_l_contents : Fun K "_law_contents" "_law_contents" s_l_contents f_l_contents fd_l_contents
  g_l_contents : mg "_law_contents" = some (.ref f_l_contents)
  f_l_built : Addr
  fd_l_built : FuncData
  F_l_built : Fun K "_law_built" "_law_built" s_l_built f_l_built fd_l_built
  g_l_built : mg "_law_built" = some (.ref f_l_built)
  f_l_opening : Addr
  fd_l_opening : FuncData
  F_l_opening : Fun K "_law_opening" "_law_opening" s_l_opening f_l_opening fd_l_opening
  g_l_opening : mg "_law_opening" = some (.ref f_l_opening)
  f_l_due : Addr
  fd_l_due : FuncData
  F_l_due : Fun K "_law_due" "_law_due" s_l_due f_l_due fd_l_due
  g_l_due : mg "_law_due" = some (.ref f_l_due)
  f_law : Addr
  fd_law : FuncData
  F_law : Fun K "law" "law" s_law f_law fd_law
  g_law : mg "law" = some (.ref f_law)
  C : Addr
  g_Heap : mg "Heap" = some (.ref C)
  cl : Cls K C
  cr : ClX.CRead K C (.type "type")
  f_init : Addr
  fd_init : FuncData
  F_init : Fun K "__init__" "Heap.__init__" s_init f_init fd_init
  mkC : Mk K C f_init
  f_of : Addr
  fd_of : FuncData
  F_of : Fun K "of" "Heap.of" s_of f_of fd_of
  p_of : Addr
  cm_of : ClX.CMet K C (.type "type") "of" p_of f_of
  f_len : Addr
  fd_len : FuncData
  F_len : Fun K "__len__" "Heap.__len__" s_len f_len fd_len
  m_len : Meth K C "__len__" f_len
  f_contains : Addr
  fd_contains : FuncData
  F_contains : Fun K "__contains__" "Heap.__contains__" s_contains f_contains fd_contains
  m_contains : Meth K C "__contains__" f_contains
  f_need_box : Addr
  fd_need_box : FuncData
  F_need_box : Fun K "need_box" "Heap.need_box" s_need_box f_need_box fd_need_box
  m_need_box : Meth K C "need_box" f_need_box
  f_need_place : Addr
  fd_need_place : FuncData
  F_need_place : Fun K "need_place" "Heap.need_place" s_need_place f_need_place fd_need_place
  m_need_place : Meth K C "need_place" f_need_place
  f_need_item : Addr
  fd_need_item : FuncData
  F_need_item : Fun K "need_item" "Heap.need_item" s_need_item f_need_item fd_need_item
  m_need_item : Meth K C "need_item" f_need_item
  f_need_room : Addr
  fd_need_room : FuncData
  F_need_room : Fun K "need_room" "Heap.need_room" s_need_room f_need_room fd_need_room
  m_need_room : Meth K C "need_room" f_need_room
  f_new : Addr
  fd_new : FuncData
  F_new : Fun K "new" "Heap.new" s_new f_new fd_new
  m_new : Meth K C "new" f_new
  f_put : Addr
  fd_put : FuncData
  F_put : Fun K "put" "Heap.put" s_put f_put fd_put
  m_put : Meth K C "put" f_put
  f_add_at : Addr
  fd_add_at : FuncData
  F_add_at : Fun K "add_at" "Heap.add_at" s_add_at f_add_at fd_add_at
  m_add_at : Meth K C "add_at" f_add_at
  f_add_last : Addr
  fd_add_last : FuncData
  F_add_last : Fun K "add_last" "Heap.add_last" s_add_last f_add_last fd_add_last
  m_add_last : Meth K C "add_last" f_add_last
  f_swap : Addr
  fd_swap : FuncData
  F_swap : Fun K "swap" "Heap.swap" s_swap f_swap fd_swap
  m_swap : Meth K C "swap" f_swap
  f_look : Addr
  fd_look : FuncData
  F_look : Fun K "look" "Heap.look" s_look f_look fd_look
  m_look : Meth K C "look" f_look
  f_contents : Addr
  fd_contents : FuncData
  F_contents : Fun K "contents" "Heap.contents" s_contents f_contents fd_contents
  m_contents : Meth K C "contents" f_contents
  na_lists : NoAttr K C "lists"
  u_MOST_BOXES : Value
  cv_MOST_BOXES : ClX.CVal K C (.type "type") "MOST_BOXES" (.int 60) u_MOST_BOXES
  u_MOST_ITEMS : Value
  cv_MOST_ITEMS : ClX.CVal K C (.type "type") "MOST_ITEMS" (.int 300) u_MOST_ITEMS
  t_BOX : Tok
  g_BOX : mg "BOX" = some (.str "box" t_BOX)
  t_LETTERS : Tok
  g_LETTERS : mg "LETTERS" = some (.str "abcdefghijklmnopqrstuvwxyz" t_LETTERS)
  t_MOST_LETTERS : Tok
  g_MOST_LETTERS : mg "MOST_LETTERS" = some (.int 8 t_MOST_LETTERS)
  n_abs : mg "abs" = none
  n_all : mg "all" = none
  n_bool : mg "bool" = none
  n_dict : mg "dict" = none
  n_enumerate : mg "enumerate" = none
  n_int : mg "int" = none
  n_isinstance : mg "isinstance" = none
  n_len : mg "len" = none
  n_list : mg "list" = none
  n_max : mg "max" = none
  n_min : mg "min" = none
  n_range : mg "range" = none
  n_repr : mg "repr" = none
  n_str : mg "str" = none
  n_sum : mg "sum" = none
  n_tuple : mg "tuple" = none
end K49
namespace K49
open PySem PySem.Spec PyProof.Rows L2 Rg
/-! ### items -/
/-- a thing that is no integer, by its type -/
def NotInt (K : PySem.W.Frag) (H : Hp) (v : V) : Prop := ∃ t, TyX K H v (.type t) ∧ (kitB t "int" = some false ∨ (kitB t "int" = some true ∧ kitB t "bool" = some true))
def letters : List Nat := ("abcdefghijklmnopqrstuvwxyz" : Str).cps.toList
def wordB (x : Str) : Bool := decide ((x.length : Int) ≤ 8) && x.cps.toList.all fun c => decide (c ∈ letters)
def okIm (size : Int) : Im → Bool
  | .i _ => true
  | .s x => wordB x
  | .b n => decide ((0 : Int) ≤ n) && decide ((n : Int) ≤ size - 1)
def spIsInteger (K : PySem.W.Frag) : Sp := fun vs H Q _ => (∃ n, vs = [.int n] ∧ Q (.bl true) H) ∨ ∃ v, vs = [v] ∧ NotInt K H v ∧ Q (.bl false) H
def spIsWithin (K : PySem.W.Frag) : Sp := fun vs H Q _ => (∃ n lo hi, vs = [.int n, .int lo, .int hi] ∧ Q (.bl (decide (lo ≤ n) && decide (n ≤ hi))) H) ∨ ∃ v lo hi, vs = [v, lo, hi] ∧ NotInt K H v ∧ Q (.bl false) H
def spIsWord (K : PySem.W.Frag) : Sp := fun vs H Q _ => (∃ x : Str, vs = [.str x] ∧ x.length ≤ 1000 ∧ ∀ H', Keep [] H H' → Q (.bl (wordB x)) H') ∨ ∃ v t, vs = [v] ∧ TyX K H v (.type t) ∧ kitB t "str" = some false ∧ Q (.bl false) H
def spIsLeaf (K : PySem.W.Frag) : Sp := fun vs H Q _ => ∃ v x, vs = [v] ∧ ImV H v x ∧ (∀ y, x = .s y → y.length ≤ 1000) ∧ ∀ H', Keep [] H H' → Q (.bl (match x with | .i _ => true | .s y => wordB y | .b _ => false)) H'
def spIsRef (K : PySem.W.Frag) : Sp := fun vs H Q _ => ∃ v x size, vs = [v, .int size] ∧ ImV H v x ∧ Q (.bl (match x with | .b n => decide ((0 : Int) ≤ n) && decide ((n : Int) ≤ size - 1) | _ => false)) H
def spIsItem (K : PySem.W.Frag) : Sp := fun vs H Q _ => ∃ v x size, vs = [v, .int size] ∧ ImV H v x ∧ (∀ y, x = .s y → y.length ≤ 1000) ∧ ∀ H', Keep [] H H' → Q (.bl (okIm size x)) H'
def spIsBox (K : PySem.W.Frag) : Sp := fun vs H Q _ => ∃ v x, vs = [v] ∧ ImV H v x ∧ Q (.bl (match x with | .b _ => true | _ => false)) H
section
variable {P : Program} {w : World} {K : PySem.W.Frag} {mg : Str → Option Value} {base : Heap}
/-- the type of an item -/
theorem ImV.ty {H : Hp} {v : V} : ∀ {x : Im}, ImV H v x → TyX K H v (.type (match x with | .i _ => "int" | .s _ => "str" | .b _ => "tuple"))
  | .i n, h => by rw [show v = _ from h]; exact .base (.int n)
  | .s x, h => by rw [show v = _ from h]; exact .base (.str x)
  | .b n, ⟨a, h1, h2⟩ => by rw [h1]; exact .base (.tup h2)
def N_is_integer : List Str := ["thing"]
theorem sc_is_integer : FnScope N_is_integer ["thing"] (defScope s_is_integer) := ⟨rfl, rfl, rfl, by decide +kernel, rfl, by decide +kernel, by decide +kernel⟩
theorem ok_is_integer (T : Txt K mg) : FnR P w K mg base CX0 1 T.f_is_integer (spIsInteger K) := by
  refine okR T.F_is_integer sc_is_integer (fun vs H Q E h => ?_) (T.F_is_integer.binds fun _ _ _ _ _ _ us hl => match us, hl with | [_], _ => rfl) (fun cdv A outer s H vs Q E hr h => ?_)
  · rcases h with ⟨n, rfl, _⟩ | ⟨v, rfl, _⟩ <;> rfl
  · refine ⟨_, (pss_one (ps_ret (pe_and (pe_callB call_isi (by rfl) T.n_isinstance (by decide +kernel) (pa_cons (pv 0) (pa_cons (pe_bltn (v := .ty "int") (by rfl) T.n_int (by decide +kernel) rfl) pa_nil))) (pe_one (pe_not (pe_callB call_isi (by rfl) T.n_isinstance (by decide +kernel) (pa_cons (pv 0) (pa_cons (pe_bltn (v := .ty "bool") (by rfl) T.n_bool (by decide +kernel) rfl) pa_nil)))))))), ?_⟩
    rcases h with ⟨n, rfl, q⟩ | ⟨v, rfl, ⟨t, ht, hk⟩, q⟩
    · refine ⟨_, rfl, _, _, _, _, true, rfl, .ty _, .base (.int n), kit_ty (by decide +kernel), true, rfl, iteT ?_⟩
      exact ⟨_, rfl, _, _, _, _, false, rfl, .ty _, .base (.int n), kit_ty (by decide +kernel), false, rfl, q⟩
    · rcases hk with hk | ⟨hk, hk2⟩
      · exact ⟨_, rfl, _, _, _, _, false, rfl, .ty _, ht, kit_ty hk, false, rfl, iteF q⟩
      · refine ⟨_, rfl, _, _, _, _, true, rfl, .ty _, ht, kit_ty hk, true, rfl, iteT ?_⟩
        exact ⟨_, rfl, _, _, _, _, true, rfl, .ty _, ht, kit_ty hk2, true, rfl, q⟩
def N_is_within : List Str := ["thing", "low", "high"]
theorem sc_is_within : FnScope N_is_within ["thing", "low", "high"] (defScope s_is_within) := ⟨rfl, rfl, rfl, by decide +kernel, rfl, by decide +kernel, by decide +kernel⟩
theorem ok_is_within (T : Txt K mg) : FnR P w K mg base CX0 2 T.f_is_within (spIsWithin K) := by
  refine okR T.F_is_within sc_is_within (fun vs H Q E h => ?_) (T.F_is_within.binds fun _ _ _ _ _ _ us hl => match us, hl with | [_, _, _], _ => rfl) (fun cdv A outer s H vs Q E hr h => ?_)
  · rcases h with ⟨n, lo, hi, rfl, _⟩ | ⟨v, lo, hi, rfl, _⟩ <;> rfl
  · refine ⟨_, (pss_one (ps_ret (pe_and (pe_callR (ok_is_integer T) (hr.mono (by decide)) rfl T.g_is_integer T.F_is_integer.kp pass0 (pa_cons (pv 0) pa_nil)) (pe_one (pe_chain op_le op_le (pv 1) (pv 0) (pv 2)))))), ?_⟩
    rcases h with ⟨n, lo, hi, rfl, q⟩ | ⟨v, lo, hi, rfl, hn, q⟩
    · refine ⟨_, rfl, .inl ⟨n, rfl, true, rfl, iteT ⟨_, rfl, _, rfl, _, _, rfl, rfl, _, rfl, ?_⟩⟩⟩
      by_cases c : lo ≤ n
      · rw [decide_eq_true c] at q ⊢
        refine iteT ⟨_, rfl, _, _, rfl, rfl, ?_⟩
        rw [Bool.true_and] at q
        exact q
      · rw [decide_eq_false c] at q ⊢
        rw [Bool.false_and] at q
        exact iteF q
    · exact ⟨_, rfl, .inr ⟨v, rfl, hn, false, rfl, iteF q⟩⟩
def N_is_word : List Str := ["thing", "sign"]
theorem sc_is_word : FnScope N_is_word ["thing"] (defScope s_is_word) := ⟨rfl, rfl, rfl, by decide +kernel, rfl, by decide +kernel, by decide +kernel⟩
theorem ok_is_word (T : Txt K mg) : FnR P w K mg base CX0 1 T.f_is_word (spIsWord K) := by
  refine okR T.F_is_word sc_is_word (fun vs H Q E h => ?_) (T.F_is_word.binds fun _ _ _ _ _ _ us hl => match us, hl with | [_], _ => rfl) (fun cdv A outer s H vs Q E hr h => ?_)
  · rcases h with ⟨x, rfl, _⟩ | ⟨v, t, rfl, _⟩ <;> rfl
  · refine ⟨_, (pss_one (ps_ret (pe_and (pe_callB call_isi (by rfl) T.n_isinstance (by decide +kernel) (pa_cons (pv 0) (pa_cons (pe_bltn (v := .ty "str") (by rfl) T.n_str (by decide +kernel) rfl) pa_nil))) (pe_and (pe_cmpR op_le (pe_callB call_len (by rfl) T.n_len (by decide +kernel) (pa_cons (pv 0) pa_nil)) (pe_glob (v := .int 8) rfl T.g_MOST_LETTERS ⟨_, rfl⟩) (nomark _)) (pe_one (pe_callB (cr_all rfl) (by rfl) T.n_all (by decide +kernel) (pa_cons (pe_lc (own := [("sign", 1)]) (g := (gName 1)) (tt := tYes) rfl sc_is_word.nd (pi_str (pv 0)) (blkOk_by (N := N_is_word) (sc := defScope s_is_word) (by decide +kernel)) (fun _ _ _ _ _ => (pg_name (i := 1) sc_is_word.nd rfl (Or.inl rfl))) (fun _ _ _ _ _ => pts_nil) (fun _ _ _ _ _ => (pe_cmpR op_in_sign (pv 1) (pe_glob (v := .str "abcdefghijklmnopqrstuvwxyz") rfl T.g_LETTERS ⟨_, rfl⟩) (by rfl)))) pa_nil))))))), ?_⟩
    rcases h with ⟨x, rfl, hx, q⟩ | ⟨v, t, rfl, ht, hk, q⟩
    · refine ⟨_, rfl, _, _, _, _, true, rfl, .ty _, .base (.str x), kit_ty (by decide +kernel), true, rfl, iteT ?_⟩
      refine ⟨_, rfl, _, x.length, rfl, ⟨Nat.le_trans hx (by decide), rfl⟩, _, _, rfl, rfl, _, rfl, ?_⟩
      have key : ∀ H', Keep [] H H' → Q (.bl (decide ((x.length : Int) ≤ 8) && x.cps.toList.all fun c => decide (c ∈ letters))) H' := q
      by_cases c : (x.length : Int) ≤ 8
      · rw [decide_eq_true c] at key ⊢
        refine iteT ⟨_, rfl, _, rfl, fun D hD => lc_it (M := []) (Jv := fun _ => True) (Rel := fun _ v b => v = V.bl b) (Ok := fun i b => ∃ c, x.cps[i]? = some c ∧ b = decide (c ∈ letters)) (n := x.cps.size) (Yx := fun i y H' => (∃ c, x.cps[i]? = some c ∧ y = .str ⟨#[c]⟩)) hD (by simp) (fun _ _ _ _ => trivial) trivial (Nat.le_trans (show x.cps.size ≤ 1000 from hx) (by decide)) it_str.1 it_str.2.1 (fun i H1 y H2 h1 h2 h3 => let z := it_str.2.2 i H1 y H2 h1 h2 h3; ⟨z.1, z.2.1, z.2.2.1⟩) (fun _ _ _ _ _ z => z) ?_ gName_mono ?_⟩
        · rintro i y H1 hi k _ hDn ⟨c, hc, rfl⟩ Qe hQ
          exact ⟨rfl, _, rfl, c, _, rfl, rfl, hQ _ _ _ .refl trivial ⟨c, hc, rfl⟩ rfl⟩
        · intro acc bs H1 k _ hA hP hL hO
          have e1 : acc = bs.map V.bl := by
            clear hO hL hA
            induction hP with
            | nil => rfl
            | cons a t ih => rw [ih, a]; rfl
          rw [e1] at hA
          refine ⟨_, bs, rfl, .of hA, ?_⟩
          have e2 : bs.all id = x.cps.toList.all fun c => decide (c ∈ letters) := by
            have e3 : bs = x.cps.toList.map fun c => decide (c ∈ letters) := by
              refine List.ext_getElem? fun i => ?_
              rw [List.getElem?_map]
              cases hb : bs[i]? with
              | none =>
                have h1 := List.getElem?_eq_none_iff.mp hb
                rw [hL] at h1
                rw [List.getElem?_eq_none (by simpa using h1)]
                rfl
              | some b =>
                obtain ⟨c, hc, rfl⟩ := hO i b hb
                rw [Array.getElem?_toList, hc]
                rfl
            rw [e3, List.all_map]
            rfl
          rw [e2]
          have z := key H1 k
          rw [Bool.true_and] at z
          exact z
      · rw [decide_eq_false c] at key ⊢
        have z := key H .refl
        rw [Bool.false_and] at z
        exact iteF z
    · exact ⟨_, rfl, _, _, _, _, false, rfl, .ty _, ht, kit_ty hk, false, rfl, iteF q⟩
def N_is_leaf : List Str := ["thing"]
theorem sc_is_leaf : FnScope N_is_leaf ["thing"] (defScope s_is_leaf) := ⟨rfl, rfl, rfl, by decide +kernel, rfl, by decide +kernel, by decide +kernel⟩
theorem ok_is_leaf (T : Txt K mg) : FnR P w K mg base CX0 2 T.f_is_leaf (spIsLeaf K) := by
  refine okR T.F_is_leaf sc_is_leaf (fun vs H Q E h => ?_) (T.F_is_leaf.binds fun _ _ _ _ _ _ us hl => match us, hl with | [_], _ => rfl) (fun cdv A outer s H vs Q E hr h => ?_)
  · obtain ⟨v, x, rfl, _⟩ := h
    rfl
  · refine ⟨_, (pss_one (ps_ret (pe_or (pe_callR (ok_is_integer T) (hr.mono (by decide)) rfl T.g_is_integer T.F_is_integer.kp pass0 (pa_cons (pv 0) pa_nil)) (pe_one (pe_callR (ok_is_word T) (hr.mono (by decide)) rfl T.g_is_word T.F_is_word.kp pass0 (pa_cons (pv 0) pa_nil)))))), ?_⟩
    obtain ⟨v, x, rfl, hv, hz, q⟩ := h
    cases x with
    | i n =>
      cases (show v = _ from hv)
      exact ⟨_, rfl, .inl ⟨n, rfl, true, rfl, iteT (q H .refl)⟩⟩
    | s y =>
      cases (show v = _ from hv)
      refine ⟨_, rfl, .inr ⟨_, rfl, ⟨"str", .base (.str y), .inl (by decide +kernel)⟩, false, rfl, iteF ?_⟩⟩
      exact ⟨_, rfl, .inl ⟨y, rfl, hz y rfl, q⟩⟩
    | b n =>
      have ht := ImV.ty (K := K) hv
      refine ⟨_, rfl, .inr ⟨_, rfl, ⟨"tuple", ht, .inl (by decide +kernel)⟩, false, rfl, iteF ?_⟩⟩
      exact ⟨_, rfl, .inr ⟨_, "tuple", rfl, ht, by decide +kernel, q H .refl⟩⟩
def N_is_reference : List Str := ["thing", "size"]
theorem sc_is_reference : FnScope N_is_reference ["thing", "size"] (defScope s_is_reference) := ⟨rfl, rfl, rfl, by decide +kernel, rfl, by decide +kernel, by decide +kernel⟩
theorem ok_is_reference (T : Txt K mg) : FnR P w K mg base CX0 3 T.f_is_reference (spIsRef K) := by
  refine okR T.F_is_reference sc_is_reference (fun vs H Q E h => ?_) (T.F_is_reference.binds fun _ _ _ _ _ _ us hl => match us, hl with | [_, _], _ => rfl) (fun cdv A outer s H vs Q E hr h => ?_)
  · obtain ⟨v, x, z, rfl, _⟩ := h
    rfl
  · refine ⟨_, (pss_cons (ps_if (PW.pt (pw_or (pt_not (pt_val (pe_callB call_isi (by rfl) T.n_isinstance (by decide +kernel) (pa_cons (pv 0) (pa_cons (pe_bltn (v := .ty "tuple") (by rfl) T.n_tuple (by decide +kernel) rfl) pa_nil))))) (pw_or (pt_cmpR op_ne (pe_callB call_len (by rfl) T.n_len (by decide +kernel) (pa_cons (pv 0) pa_nil)) pe_int (nomark _)) (pw_or (pt_not (pt_val (pe_callB call_isi (by rfl) T.n_isinstance (by decide +kernel) (pa_cons (pe_ix ix_tup (pv 0) pe_int (fun _ _ => rfl)) (pa_cons (pe_bltn (v := .ty "str") (by rfl) T.n_str (by decide +kernel) rfl) pa_nil))))) (pw_or1 (pt_cmpR op_ne (pe_ix ix_tup (pv 0) pe_int (fun _ _ => rfl)) (pe_glob (v := .str "box") rfl T.g_BOX ⟨_, rfl⟩) (nomark _))))))) (pss_one (ps_ret pe_bl)) pss_nil)
      (pss_one (ps_ret (pe_callR (ok_is_within T) (hr.mono (by decide)) rfl T.g_is_within T.F_is_within.kp pass0 (pa_cons (pe_ix ix_tup (pv 0) pe_int (fun _ _ => rfl)) (pa_cons pe_int (pa_cons (pe_op op_sub (pv 1) pe_int) pa_nil))))))), ?_⟩
    obtain ⟨v, x, z, rfl, hv, q⟩ := h
    cases x with
    | i n => exact ⟨_, rfl, _, _, _, _, false, rfl, .ty _, ImV.ty (K := K) hv, kit_ty (a := "int") (by decide +kernel), false, rfl, iteT q⟩
    | s y => exact ⟨_, rfl, _, _, _, _, false, rfl, .ty _, ImV.ty (K := K) hv, kit_ty (a := "str") (by decide +kernel), false, rfl, iteT q⟩
    | b n =>
      obtain ⟨a, rfl, ha⟩ := hv
      refine ⟨_, rfl, _, _, _, _, true, rfl, .ty _, .base (.tup ha), kit_ty (by decide +kernel), true, rfl, iteF ?_⟩
      refine ⟨_, rfl, _, 2, rfl, .inr ⟨_, .of ha, rfl⟩, rfl, _, rfl, iteF ?_⟩
      refine ⟨_, rfl, _, _, _, _, rfl, rfl, .of ha, rfl, _, _, _, _, true, rfl, .ty _, .base (.str _), kit_ty (by decide +kernel), true, rfl, iteF ?_⟩
      refine ⟨_, rfl, _, _, _, _, rfl, rfl, .of ha, rfl, rfl, _, rfl, iteF ?_⟩
      exact ⟨_, rfl, _, _, _, _, rfl, rfl, .of ha, rfl, _, rfl, _, _, rfl, rfl, .inl ⟨_, _, _, rfl, q⟩⟩
def N_is_item : List Str := ["thing", "size"]
theorem sc_is_item : FnScope N_is_item ["thing", "size"] (defScope s_is_item) := ⟨rfl, rfl, rfl, by decide +kernel, rfl, by decide +kernel, by decide +kernel⟩
theorem ok_is_item (T : Txt K mg) : FnR P w K mg base CX0 4 T.f_is_item (spIsItem K) := by
  refine okR T.F_is_item sc_is_item (fun vs H Q E h => ?_) (T.F_is_item.binds fun _ _ _ _ _ _ us hl => match us, hl with | [_, _], _ => rfl) (fun cdv A outer s H vs Q E hr h => ?_)
  · obtain ⟨v, x, z, rfl, _⟩ := h
    rfl
  · refine ⟨_, (pss_one (ps_ret (pe_or (pe_callR (ok_is_leaf T) (hr.mono (by decide)) rfl T.g_is_leaf T.F_is_leaf.kp pass0 (pa_cons (pv 0) pa_nil)) (pe_one (pe_callR (ok_is_reference T) (hr.mono (by decide)) rfl T.g_is_reference T.F_is_reference.kp pass0 (pa_cons (pv 0) (pa_cons (pv 1) pa_nil))))))), ?_⟩
    obtain ⟨v, x, z, rfl, hv, hz, q⟩ := h
    refine ⟨_, rfl, _, x, rfl, hv, hz, fun H1 k => ⟨_, rfl, ?_⟩⟩
    cases x with
    | i n => exact iteT (q H1 k)
    | s y =>
      show if wordB y = true then _ else _
      have q1 : Q (.bl (wordB y)) H1 := q H1 k
      cases e : wordB y with
      | true => rw [e] at q1; exact iteT q1
      | false => rw [e] at q1; exact iteF ⟨_, rfl, _, rfl, _, _, _, rfl, hv.keep k, q1⟩
    | b n => exact iteF ⟨_, rfl, _, rfl, _, _, _, rfl, hv.keep k, q H1 k⟩
def N_is_box : List Str := ["item"]
theorem sc_is_box : FnScope N_is_box ["item"] (defScope s_is_box) := ⟨rfl, rfl, rfl, by decide +kernel, rfl, by decide +kernel, by decide +kernel⟩
theorem ok_is_box (T : Txt K mg) : FnR P w K mg base CX0 1 T.f_is_box (spIsBox K) := by
  refine okR T.F_is_box sc_is_box (fun vs H Q E h => ?_) (T.F_is_box.binds fun _ _ _ _ _ _ us hl => match us, hl with | [_], _ => rfl) (fun cdv A outer s H vs Q E hr h => ?_)
  · obtain ⟨v, x, rfl, _⟩ := h
    rfl
  · refine ⟨_, (pss_one (ps_ret (pe_callB call_isi (by rfl) T.n_isinstance (by decide +kernel) (pa_cons (pv 0) (pa_cons (pe_bltn (v := .ty "tuple") (by rfl) T.n_tuple (by decide +kernel) rfl) pa_nil))))), ?_⟩
    obtain ⟨v, x, rfl, hv, q⟩ := h
    cases x with
    | i n => exact ⟨_, rfl, _, _, _, _, false, rfl, .ty _, ImV.ty (K := K) hv, kit_ty (a := "int") (by decide +kernel), q⟩
    | s y => exact ⟨_, rfl, _, _, _, _, false, rfl, .ty _, ImV.ty (K := K) hv, kit_ty (a := "str") (by decide +kernel), q⟩
    | b n => exact ⟨_, rfl, _, _, _, _, true, rfl, .ty _, ImV.ty (K := K) hv, kit_ty (a := "tuple") (by decide +kernel), q⟩
end
end K49
namespace K49
open PySem PySem.Spec PyProof.Rows L2 Rg
/-! ### the heap's methods that change nothing -/
theorem lk {v : V} : ([("lists", v)] : List (Str × V)).lookup ("lists" : Str) = some v := by rfl
def spLenH (C : Addr) : Sp := fun vs H Q _ => ∃ h l as c, vs = [.ref h] ∧ HeapAt C H h l as c ∧ total c ≤ 1000 ∧ ∀ H', Keep [] H H' → Q (.int (total c : Nat)) H'
def spContains (K : PySem.W.Frag) (C : Addr) : Sp := fun vs H Q _ => ∃ h l as c, HeapAt C H h l as c ∧ ((∃ n : Int, vs = [.ref h, .int n] ∧ Q (.bl (decide (0 ≤ n) && decide (n ≤ (c.length : Int) - 1))) H) ∨ ∃ v, vs = [.ref h, v] ∧ NotInt K H v ∧ Q (.bl false) H)
def spNeedBox (C : Addr) : Sp := fun vs H Q _ => ∃ h l as c, ∃ n : Nat, vs = [.ref h, .int n] ∧ HeapAt C H h l as c ∧ n < c.length ∧ Q .non H
def spNeedPlace (C : Addr) : Sp := fun vs H Q _ => ∃ h l as c r, ∃ (n p : Nat) (m : Int), vs = [.ref h, .int n, .int p, .int m] ∧ HeapAt C H h l as c ∧ c[n]? = some r ∧ (p : Int) ≤ (r.length : Int) - 1 + m ∧ Q .non H
def spNeedItem (C : Addr) : Sp := fun vs H Q _ => ∃ h l as c v x, ∃ m : Int, vs = [.ref h, v, .int m] ∧ HeapAt C H h l as c ∧ ImV H v x ∧ okIm ((c.length : Int) + m) x = true ∧ ∀ H', Keep [] H H' → Q .non H'
def spNeedRoom (C : Addr) : Sp := fun vs H Q _ => ∃ h l as c, ∃ b i : Nat, vs = [.ref h, .int b, .int i] ∧ HeapAt C H h l as c ∧ c.length + b ≤ 60 ∧ total c + i ≤ 300 ∧ ∀ H', Keep [] H H' → Q .non H'
def spLook (C : Addr) : Sp := fun vs H Q _ => ∃ h l as c r, ∃ n : Nat, vs = [.ref h, .int n] ∧ HeapAt C H h l as c ∧ c[n]? = some r ∧ ∀ H' p xs, Keep [] H H' → H p = none → H' p = some (.lst xs) → ImsV H' xs r → Q (.ref p) H'
def spContentsH (C : Addr) : Sp := fun vs H Q _ => ∃ h l as c, vs = [.ref h] ∧ HeapAt C H h l as c ∧ c.length ≤ 1000 ∧ ∀ H' v, Keep [] H H' → ContF H H' v c → Q v H'
section
variable {P : Program} {w : World} {K : PySem.W.Frag} {mg : Str → Option Value} {base : Heap}
theorem okIm_word {size : Int} {x : Im} (h : okIm size x = true) : ∀ y, x = .s y → y.length ≤ 1000 := fun y e => by
  subst e
  have h : wordB y = true := h
  unfold wordB at h
  simp only [Bool.and_eq_true, decide_eq_true_eq] at h
  omega
def N_len : List Str := ["self", "one", "item"]
theorem sc_len : FnScope N_len ["self"] (defScope s_len) := ⟨rfl, rfl, rfl, by decide +kernel, rfl, by decide +kernel, by decide +kernel⟩
theorem ok_len (T : Txt K mg) : FnR P w K mg base CX0 1 T.f_len (spLenH T.C) := by
  refine okR T.F_len sc_len (fun vs H Q E h => ?_) (T.F_len.binds fun _ _ _ _ _ _ us hl => match us, hl with | [_], _ => rfl) (fun cdv A outer s H vs Q E hr h => ?_)
  · obtain ⟨h, l, as, c, rfl, _⟩ := h
    rfl
  · refine ⟨_, (pss_one (ps_ret (pe_callB call_len (by rfl) T.n_len (by decide +kernel) (pa_cons (pe_lc2 (own := [("one", 1), ("item", 2)]) (vs1 := [2]) (g := gName 1) (tt := tYes) (g1 := gName 2) (tt1 := tYes) rfl sc_len.nd (pi_list (pe_fld (pv 0) rfl)) (blkOk_by (N := N_len) (sc := defScope s_len) (by decide +kernel)) (by decide) (fun _ _ _ _ _ => (pg_name (i := 1) sc_len.nd rfl (Or.inl rfl))) (fun _ _ _ _ _ => pts_nil) (fun _ _ _ _ _ => (pil (K := K) (pv 1))) (fun _ _ _ _ _ => (pg_name (i := 2) sc_len.nd rfl (Or.inl rfl))) (fun _ _ _ _ _ => pts_nil) (fun _ _ _ _ _ => (pv 2))) pa_nil)))), ?_⟩
    obtain ⟨h, l, as, c, rfl, hp, hz, q⟩ := h
    obtain ⟨dx, hi⟩ := hp.ins
    obtain ⟨xss, hx, hf⟩ : ∃ xss : List (List V), Paired (fun a xs => H a = some (.lst xs)) as xss ∧ xss.flatten.length = total c := by
      have z := hp.rows
      clear q hz hp hi
      induction z with
      | nil => exact ⟨[], .nil, rfl⟩
      | cons a t ih =>
        obtain ⟨xs, e, r⟩ := a
        obtain ⟨xss, h1, h2⟩ := ih
        refine ⟨xs :: xss, .cons e h1, ?_⟩
        rw [List.flatten_cons, List.length_append, h2, r.length]
        simp [total]
    refine ⟨_, rfl, h, T.C, dx, _, _, rfl, hi, T.cl, T.na_lists, lk, l, rfl, ⟨_, .of hp.lst⟩, fun D hD => ?_⟩
    refine lc2_flat (K := K) hD hp.lst hx (by omega) (fun _ => rfl) (fun _ _ => rfl) (fun _ => rfl) (fun _ _ => rfl) fun H1 k hA => ?_
    refine ⟨_, _, rfl, .inl ⟨_, .of hA, rfl⟩, ?_⟩
    rw [hf]
    exact q H1 k
def N_contains : List Str := ["self", "number"]
theorem sc_contains : FnScope N_contains ["self", "number"] (defScope s_contains) := ⟨rfl, rfl, rfl, by decide +kernel, rfl, by decide +kernel, by decide +kernel⟩
theorem ok_contains (T : Txt K mg) : FnR P w K mg base CX0 3 T.f_contains (spContains K T.C) := by
  refine okR T.F_contains sc_contains (fun vs H Q E h => ?_) (T.F_contains.binds fun _ _ _ _ _ _ us hl => match us, hl with | [_, _], _ => rfl) (fun cdv A outer s H vs Q E hr h => ?_)
  · obtain ⟨h, l, as, c, _, ⟨n, rfl, _⟩ | ⟨v, rfl, _⟩⟩ := h <;> rfl
  · refine ⟨_, (pss_one (ps_ret (pe_callR (ok_is_within T) (hr.mono (by decide)) rfl T.g_is_within T.F_is_within.kp pass0 (pa_cons (pv 1) (pa_cons pe_int (pa_cons (pe_op op_sub (pe_callB call_len (by rfl) T.n_len (by decide +kernel) (pa_cons (pe_fld (pv 0) rfl) pa_nil)) pe_int) pa_nil)))))), ?_⟩
    obtain ⟨h, l, as, c, hp, hh⟩ := h
    obtain ⟨dx, hi⟩ := hp.ins
    have el : ((as.map V.ref).length : Int) = (c.length : Int) := by rw [List.length_map, hp.len]
    rcases hh with ⟨n, rfl, q⟩ | ⟨v, rfl, hn, q⟩
    · refine ⟨_, rfl, _, rfl, h, T.C, dx, _, _, rfl, hi, T.cl, T.na_lists, lk, _, _, rfl, .inl ⟨_, .of hp.lst, rfl⟩, _, _, rfl, rfl, .inl ⟨_, _, _, rfl, ?_⟩⟩
      rw [el]
      exact q
    · exact ⟨_, rfl, _, rfl, h, T.C, dx, _, _, rfl, hi, T.cl, T.na_lists, lk, _, _, rfl, .inl ⟨_, .of hp.lst, rfl⟩, _, _, rfl, rfl, .inr ⟨_, _, _, rfl, hn, q⟩⟩
def N_need_box : List Str := ["self", "number"]
theorem sc_need_box : FnScope N_need_box ["self", "number"] (defScope s_need_box) := ⟨rfl, rfl, rfl, by decide +kernel, rfl, by decide +kernel, by decide +kernel⟩
theorem ok_need_box (T : Txt K mg) : FnR P w K mg base CX0 4 T.f_need_box (spNeedBox T.C) := by
  refine okR T.F_need_box sc_need_box (fun vs H Q E h => ?_) (T.F_need_box.binds fun _ _ _ _ _ _ us hl => match us, hl with | [_, _], _ => rfl) (fun cdv A outer s H vs Q E hr h => ?_)
  · obtain ⟨h, l, as, c, n, rfl, _⟩ := h
    rfl
  · refine ⟨_, (pss_one (ps_if (pt_cmpR (op_notInOwn T.m_contains.at_ T.m_contains.fn (ok_contains T) (hr.mono (by decide)) pass0) (pv 1) (pv 0) (by rfl)) (pss_one ps_never) pss_nil)), ?_⟩
    obtain ⟨h, l, as, c, n, rfl, hp, hn, q⟩ := h
    obtain ⟨dx, hi⟩ := hp.ins
    refine ⟨_, rfl, _, rfl, h, dx, _, rfl, hi, h, l, as, c, hp, .inl ⟨n, rfl, _, rfl, _, rfl, ?_⟩⟩
    rw [decide_eq_true (show (0 : Int) ≤ (n : Int) by omega), decide_eq_true (show (n : Int) ≤ (c.length : Int) - 1 by omega)]
    exact iteF q
def N_need_place : List Str := ["self", "box", "place", "more"]
theorem sc_need_place : FnScope N_need_place ["self", "box", "place", "more"] (defScope s_need_place) := ⟨rfl, rfl, rfl, by decide +kernel, rfl, by decide +kernel, by decide +kernel⟩
theorem ok_need_place (T : Txt K mg) : FnR P w K mg base CX0 3 T.f_need_place (spNeedPlace T.C) := by
  refine okR T.F_need_place sc_need_place (fun vs H Q E h => ?_) (T.F_need_place.binds fun _ _ _ _ _ _ us hl => match us, hl with | [_, _, _, _], _ => rfl) (fun cdv A outer s H vs Q E hr h => ?_)
  · obtain ⟨h, l, as, c, r, n, p, m, rfl, _⟩ := h
    rfl
  · refine ⟨_, (pss_one (ps_if (pt_not (pt_val (pe_callR (ok_is_within T) (hr.mono (by decide)) rfl T.g_is_within T.F_is_within.kp pass0 (pa_cons (pv 2) (pa_cons pe_int (pa_cons (pe_op op_add (pe_op op_sub (pe_callB call_len (by rfl) T.n_len (by decide +kernel) (pa_cons (pe_ix ix_list (pe_fld (pv 0) rfl) (pv 1) (fun _ _ => rfl)) pa_nil)) pe_int) (pv 3)) pa_nil)))))) (pss_one ps_never) pss_nil)), ?_⟩
    obtain ⟨h, l, as, c, r, n, p, m, rfl, hp, hn, hle, q⟩ := h
    obtain ⟨dx, hi⟩ := hp.ins
    obtain ⟨a, xs, h1, h2, h3, h4⟩ := hp.row hn
    refine ⟨_, rfl, _, rfl, h, T.C, dx, _, _, rfl, hi, T.cl, T.na_lists, lk, _, rfl, _, _, _, _, rfl, rfl, .of hp.lst, atI_nat h2, _, _, rfl, .inl ⟨_, .of h3, rfl⟩, _, _, rfl, rfl, _, rfl, _, _, rfl, rfl, .inl ⟨_, _, _, rfl, _, rfl, ?_⟩⟩
    rw [decide_eq_true (show (0 : Int) ≤ (p : Int) by omega), decide_eq_true (show (p : Int) ≤ ((xs.length : Nat) : Int) - 1 + m by rw [h4.length]; exact hle)]
    exact iteF q
def N_need_item : List Str := ["self", "item", "more"]
theorem sc_need_item : FnScope N_need_item ["self", "item", "more"] (defScope s_need_item) := ⟨rfl, rfl, rfl, by decide +kernel, rfl, by decide +kernel, by decide +kernel⟩
theorem ok_need_item (T : Txt K mg) : FnR P w K mg base CX0 5 T.f_need_item (spNeedItem T.C) := by
  refine okR T.F_need_item sc_need_item (fun vs H Q E h => ?_) (T.F_need_item.binds fun _ _ _ _ _ _ us hl => match us, hl with | [_, _, _], _ => rfl) (fun cdv A outer s H vs Q E hr h => ?_)
  · obtain ⟨h, l, as, c, v, x, m, rfl, _⟩ := h
    rfl
  · refine ⟨_, (pss_one (ps_if (pt_not (pt_val (pe_callR (ok_is_item T) (hr.mono (by decide)) rfl T.g_is_item T.F_is_item.kp pass0 (pa_cons (pv 1) (pa_cons (pe_op op_add (pe_callB call_len (by rfl) T.n_len (by decide +kernel) (pa_cons (pe_fld (pv 0) rfl) pa_nil)) (pv 2)) pa_nil))))) (pss_one ps_never) pss_nil)), ?_⟩
    obtain ⟨h, l, as, c, v, x, m, rfl, hp, hv, ho, q⟩ := h
    obtain ⟨dx, hi⟩ := hp.ins
    have el : ((as.map V.ref).length : Int) = (c.length : Int) := by rw [List.length_map, hp.len]
    refine ⟨_, rfl, _, rfl, h, T.C, dx, _, _, rfl, hi, T.cl, T.na_lists, lk, _, _, rfl, .inl ⟨_, .of hp.lst, rfl⟩, _, rfl, _, _, rfl, rfl, _, _, _, rfl, hv, okIm_word ho, fun H1 k => ⟨_, rfl, ?_⟩⟩
    rw [el, ho]
    exact iteF (q H1 k)
def N_need_room : List Str := ["self", "boxes", "items"]
theorem sc_need_room : FnScope N_need_room ["self", "boxes", "items"] (defScope s_need_room) := ⟨rfl, rfl, rfl, by decide +kernel, rfl, by decide +kernel, by decide +kernel⟩
theorem ok_need_room (T : Txt K mg) : FnR P w K mg base CX0 3 T.f_need_room (spNeedRoom T.C) := by
  refine okR T.F_need_room sc_need_room (fun vs H Q E h => ?_) (T.F_need_room.binds fun _ _ _ _ _ _ us hl => match us, hl with | [_, _, _], _ => rfl) (fun cdv A outer s H vs Q E hr h => ?_)
  · obtain ⟨h, l, as, c, b, i, rfl, _⟩ := h
    rfl
  · refine ⟨_, (pss_cons (ps_if (pt_cmpR op_gt (pe_op op_add (pe_callB call_len (by rfl) T.n_len (by decide +kernel) (pa_cons (pe_fld (pv 0) rfl) pa_nil)) (pv 1)) (ClX.pe_cval (pe_glob (v := .ref T.C) rfl T.g_Heap rfl)) (nomark _)) (pss_one ps_never) pss_nil)
      (pss_one (ps_if (pt_cmpR op_gt (pe_op op_add (pe_callB (call_lenOwn T.m_len.at_ T.m_len.fn (ok_len T) (hr.mono (by decide)) pass0) (by rfl) T.n_len (by decide +kernel) (pa_cons (pv 0) pa_nil)) (pv 2)) (ClX.pe_cval (pe_glob (v := .ref T.C) rfl T.g_Heap rfl)) (nomark _)) (pss_one ps_never) pss_nil))), ?_⟩
    obtain ⟨h, l, as, c, b, i, rfl, hp, hb, hi0, q⟩ := h
    obtain ⟨dx, hi⟩ := hp.ins
    have el : ((as.map V.ref).length : Int) = (c.length : Int) := by rw [List.length_map, hp.len]
    refine ⟨_, rfl, h, T.C, dx, _, _, rfl, hi, T.cl, T.na_lists, lk, _, _, rfl, .inl ⟨_, .of hp.lst, rfl⟩, _, rfl, _, _, rfl, rfl, T.C, _, .int 60, T.u_MOST_BOXES, rfl, T.cr, T.cv_MOST_BOXES, _, _, rfl, rfl, _, rfl, ?_⟩
    rw [decide_eq_false (show ¬ (60 : Int) < ((as.map V.ref).length : Int) + (b : Int) by rw [el]; omega)]
    refine iteF ⟨_, rfl, h, dx, _, rfl, hi, h, l, as, c, rfl, hp, by omega, fun H1 k => ⟨_, rfl, ⟨by omega, by omega⟩, _, rfl, _, _, rfl, rfl, T.C, _, .int 300, T.u_MOST_ITEMS, rfl, T.cr, T.cv_MOST_ITEMS, _, _, rfl, rfl, _, rfl, ?_⟩⟩
    rw [decide_eq_false (show ¬ (300 : Int) < ((total c : Nat) : Int) + (i : Int) by omega)]
    exact iteF (q H1 k)
def N_look : List Str := ["self", "box"]
theorem sc_look : FnScope N_look ["self", "box"] (defScope s_look) := ⟨rfl, rfl, rfl, by decide +kernel, rfl, by decide +kernel, by decide +kernel⟩
theorem ok_look (T : Txt K mg) : FnR P w K mg base CX0 5 T.f_look (spLook T.C) := by
  refine okR T.F_look sc_look (fun vs H Q E h => ?_) (T.F_look.binds fun _ _ _ _ _ _ us hl => match us, hl with | [_, _], _ => rfl) (fun cdv A outer s H vs Q E hr h => ?_)
  · obtain ⟨h, l, as, c, r, n, rfl, _⟩ := h
    rfl
  · refine ⟨_, (pss_cons (ps_expr (pe_methR (pv 0) T.cl T.m_need_box (ok_need_box T) (hr.mono (by decide)) pass0 (pa_cons (pv 1) pa_nil)))
      (pss_one (ps_ret (pe_callTy call_list_of (by rfl) T.n_list (by decide +kernel) (pa_cons (pe_ix ix_list (pe_fld (pv 0) rfl) (pv 1) (fun _ _ => rfl)) pa_nil))))), ?_⟩
    obtain ⟨h, l, as, c, r, n, rfl, hp, hn, q⟩ := h
    obtain ⟨dx, hi⟩ := hp.ins
    obtain ⟨a, xs, h1, h2, h3, h4⟩ := hp.row hn
    refine ⟨_, rfl, h, dx, _, rfl, hi, rfl, _, rfl, h, l, as, c, n, rfl, hp, (List.getElem?_eq_some_iff.mp hn).1, ?_⟩
    refine ⟨_, rfl, h, T.C, dx, _, _, rfl, hi, T.cl, T.na_lists, lk, _, rfl, _, _, _, _, rfl, rfl, .of hp.lst, atI_nat h2, _, _, rfl, .inl (.of h3), fun p np => ?_⟩
    exact q _ p xs (.new np) np upd_same (h4.keep (.new (S := []) np))
def N_contents : List Str := ["self", "one"]
theorem sc_contents : FnScope N_contents ["self"] (defScope s_contents) := ⟨rfl, rfl, rfl, by decide +kernel, rfl, by decide +kernel, by decide +kernel⟩
theorem ok_contents (T : Txt K mg) : FnR P w K mg base CX0 1 T.f_contents (spContentsH T.C) := by
  refine okR T.F_contents sc_contents (fun vs H Q E h => ?_) (T.F_contents.binds fun _ _ _ _ _ _ us hl => match us, hl with | [_], _ => rfl) (fun cdv A outer s H vs Q E hr h => ?_)
  · obtain ⟨h, l, as, c, rfl, _⟩ := h
    rfl
  · refine ⟨_, (pss_one (ps_ret (pe_lc (own := [("one", 1)]) (g := (gName 1)) (tt := tYes) rfl sc_contents.nd (pi_list (pe_fld (pv 0) rfl)) (blkOk_by (N := N_contents) (sc := defScope s_contents) (by decide +kernel)) (fun _ _ _ _ _ => (pg_name (i := 1) sc_contents.nd rfl (Or.inl rfl))) (fun _ _ _ _ _ => pts_nil) (fun _ _ _ _ _ => (pe_callTy (listK (K := K)) (by rfl) T.n_list (by decide +kernel) (pa_cons (pv 1) pa_nil)))))), ?_⟩
    obtain ⟨h, l, as, c, rfl, hp, hz, q⟩ := h
    obtain ⟨dx, hi⟩ := hp.ins
    have hs : SqL K (hd [] H) l (as.map V.ref) := .of (by rw [hd_out (by simp)]; exact hp.lst)
    have hlen : (as.map V.ref).length = c.length := by rw [List.length_map, hp.len]
    refine ⟨_, rfl, h, T.C, dx, _, _, rfl, hi, T.cl, T.na_lists, lk, l, rfl, ⟨_, .of hp.lst⟩, fun D hD => lc_it (M := []) (Jv := fun _ => True)
      (Rel := fun H' v (r : List Im) => ∃ a xs, v = .ref a ∧ H a = none ∧ a ≠ D ∧ H' a = some (.lst xs) ∧ ImsV H' xs r) (Ok := fun i r => c[i]? = some r) (n := (as.map V.ref).length)
      (Yx := fun i x _ => (as.map V.ref)[i]? = some x) hD (by simp) (fun _ _ _ _ => trivial) trivial (by rw [hlen]; omega) (it_list hs).1 (it_list hs).2.1 (fun i H1 y H2 h1 h2 h3 => let z := (it_list hs).2.2 i H1 y H2 h1 h2 h3; ⟨z.1, z.2.1, z.2.2.1⟩)
      (fun H1 H2 y z k ⟨a, xs, e, n1, n2, h3, h4⟩ => ⟨a, xs, e, n1, n2, k.at (by simpa using n2) h3, h4.keep k⟩) ?_ gName_mono ?_⟩
    · rintro i x H1 hi1 k _ hDn hx Qe hQ
      rw [List.getElem?_map] at hx
      cases ha : as[i]? with
      | none => rw [ha] at hx; cases hx
      | some a =>
        rw [ha] at hx
        cases hx
        obtain ⟨r, hr2, xs, h3, h4⟩ := paired_getV hp.rows ha
        refine ⟨rfl, _, rfl, _, _, rfl, .inl (.of (k.same _ _ h3)), fun p np => ?_⟩
        exact hQ _ r _ (.new np) trivial hr2 ⟨p, xs, rfl, k.free np (by simp), fun z => hDn (by rw [← z]; exact np), upd_same, (h4.keep k).keep (.new (S := []) np)⟩
    · intro acc zs H1 k _ hA hP hL hO
      have ez : zs = c := by
        refine List.ext_getElem? fun i => ?_
        cases hb : zs[i]? with
        | none =>
          have h1 := List.getElem?_eq_none_iff.mp hb
          rw [List.getElem?_eq_none (by omega)]
        | some b => exact (hO i b hb).symm
      rw [ez] at hP
      obtain ⟨bs, eb, hb⟩ : ∃ bs : List Addr, acc = bs.map V.ref ∧ Paired (fun a r => H a = none ∧ ∃ xs, H1 a = some (.lst xs) ∧ ImsV H1 xs r) bs c := by
        clear hA hO hL ez q hz hp hs hlen
        induction hP with
        | nil => exact ⟨[], rfl, .nil⟩
        | cons a t ih =>
          obtain ⟨b, xs, rfl, n1, n2, h3, h4⟩ := a
          obtain ⟨bs, rfl, hb⟩ := ih
          exact ⟨b :: bs, rfl, .cons ⟨n1, xs, h3, h4⟩ hb⟩
      exact q H1 _ k ⟨D, bs, rfl, hD, by rw [hA, eb], hb⟩
end
end K49
namespace K49
open PySem PySem.Spec PyProof.Rows L2 Rg
/-! ### the heap's making and its methods that change it -/
def okCont (c : Cont) : Prop := c.length ≤ 60 ∧ total c ≤ 300 ∧ ∀ r ∈ c, ∀ x ∈ r, okIm (c.length : Int) x = true
def spInit (C : Addr) : Sp := fun vs H Q _ => ∃ h dx rest c, vs = .ref h :: rest ∧ H h = some (.ins C dx []) ∧ RowsV [] H rest c ∧ okCont c ∧
  ∀ H' l as, H l = none → (∀ a ∈ as, H a = none) → Keep [h] H H' → HeapAt C H' h l as c → Q .non H'
def spOf (C : Addr) : Sp := fun vs H Q _ => ∃ v c, vs = [.ref C, v] ∧ ContV [] H v c ∧ okCont c ∧
  ∀ H' h l as, H h = none → H l = none → (∀ a ∈ as, H a = none) → Keep [] H H' → HeapAt C H' h l as c → Q (.ref h) H'
def spNew (C : Addr) : Sp := fun vs H Q _ => ∃ h l as c rest r, vs = .ref h :: rest ∧ HeapAt C H h l as c ∧ ImsV H rest r ∧ c.length < 60 ∧ total c + r.length ≤ 300 ∧ (∀ x ∈ r, okIm ((c.length : Int) + 1) x = true) ∧
  ∀ H' a, H a = none → Keep [l] H H' → HeapAt C H' h l (as ++ [a]) (c ++ [r]) → Q (.int (c.length : Nat)) H'
def spPut (C : Addr) : Sp := fun vs H Q _ => ∃ h l as c r v x a y, ∃ n p : Nat, vs = [.ref h, .int n, .int p, v] ∧ HeapAt C H h l as c ∧ c[n]? = some r ∧ as[n]? = some a ∧ r[p]? = some y ∧ ImV H v x ∧ okIm (c.length : Int) x = true ∧
  ∀ H' u, Keep [a] H H' → HeapAt C H' h l as (c.set n (r.set p x)) → ImV H' u y → Q u H'
def spAddAt (C : Addr) : Sp := fun vs H Q _ => ∃ h l as c r v x a, ∃ n p : Nat, vs = [.ref h, .int n, .int p, v] ∧ HeapAt C H h l as c ∧ c[n]? = some r ∧ as[n]? = some a ∧ p ≤ r.length ∧ ImV H v x ∧ okIm (c.length : Int) x = true ∧ c.length ≤ 60 ∧ total c < 300 ∧
  ∀ H', Keep [a] H H' → HeapAt C H' h l as (c.set n (r.take p ++ [x] ++ r.drop p)) → Q .non H'
def spAddLast (C : Addr) : Sp := fun vs H Q _ => ∃ h l as c r v x a, ∃ n : Nat, vs = [.ref h, .int n, v] ∧ HeapAt C H h l as c ∧ c[n]? = some r ∧ as[n]? = some a ∧ ImV H v x ∧ okIm (c.length : Int) x = true ∧ c.length ≤ 60 ∧ total c < 300 ∧
  ∀ H', Keep [a] H H' → HeapAt C H' h l as (c.set n (r ++ [x])) → Q .non H'
def spSwap (C : Addr) : Sp := fun vs H Q _ => ∃ h l as c r s a b, ∃ i j : Nat, vs = [.ref h, .int i, .int j] ∧ HeapAt C H h l as c ∧ c[i]? = some r ∧ c[j]? = some s ∧ as[i]? = some a ∧ as[j]? = some b ∧
  ∀ H', Keep [l] H H' → HeapAt C H' h l ((as.set i b).set j a) ((c.set i s).set j r) → Q .non H'
section
variable {P : Program} {w : World} {K : PySem.W.Frag} {mg : Str → Option Value} {base : Heap}
theorem small_of {n : Nat} (h : n ≤ 100000) : n < sizeLine := Nat.lt_of_le_of_lt h (by decide)
def N_init : List Str := ["self", "contents", "one", "item"]
theorem sc_init : FnScope N_init ["self", "contents"] (defScope s_init) := ⟨rfl, rfl, rfl, by decide +kernel, rfl, by decide +kernel, by decide +kernel⟩
theorem ok_init (T : Txt K mg) : FnR P w K mg base CX0 5 T.f_init (spInit T.C) := by
  refine (okStar (sp := fun vs H Q _ => ∃ h p dx rest c, vs = [.ref h, .ref p] ∧ H p = some (.tup rest) ∧ H h = some (.ins T.C dx []) ∧ RowsV [] H rest c ∧ okCont c ∧
    ∀ H' l as, H l = none → (∀ a ∈ as, H a = none) → Keep [h] H H' → HeapAt T.C H' h l as c → Q .non H') T.F_init sc_init (fun _ _ _ _ _ _ _ => rfl) (fun _ _ _ _ _ _ _ _ _ => rfl) (fun cdv A outer s H vs Q E hr h => ?_)).imp fun vs H Q E h => ?_
  · refine ⟨_, (pss_cons (ps_for PassesOwn.never rfl (pi_tup (pv 1)) (pg_name (i := 2) sc_init.nd rfl (Or.inl rfl))
      (pss_cons (ps_if (pt_not (pt_val (pe_callB call_isi (by rfl) T.n_isinstance (by decide +kernel) (pa_cons (pv 2) (pa_cons (pe_bltn (v := .ty "list") (by rfl) T.n_list (by decide +kernel) rfl) pa_nil))))) (pss_one ps_never) pss_nil)
      (pss_one (ps_for PassesOwn.never rfl (pi_list (pv 2)) (pg_name (i := 3) sc_init.nd rfl (Or.inl rfl))
      (pss_one (ps_if (pt_not (pt_val (pe_callR (ok_is_item T) (hr.mono (by decide)) rfl T.g_is_item T.F_is_item.kp pass0 (pa_cons (pv 3) (pa_cons (pe_callB call_len (by rfl) T.n_len (by decide +kernel) (pa_cons (pv 1) pa_nil)) pa_nil))))) (pss_one ps_never) pss_nil))))))
      (pss_cons (ps_fld (pv 0) (pe_lc (own := [("one", 2)]) (g := (gName 2)) (tt := tYes) rfl sc_init.nd (pi_tup (pv 1)) (blkOk_by (N := N_init) (sc := defScope s_init) (by decide +kernel)) (fun _ _ _ _ _ => (pg_name (i := 2) sc_init.nd rfl (Or.inl rfl))) (fun _ _ _ _ _ => pts_nil) (fun _ _ _ _ _ => (pe_callTy (listK (K := K)) (by rfl) T.n_list (by decide +kernel) (pa_cons (pv 2) pa_nil)))) rfl)
      (pss_one (ps_expr (pe_methR (pv 0) T.cl T.m_need_room (ok_need_room T) (hr.mono (by decide)) pass0 (pa_cons pe_int (pa_cons pe_int pa_nil))))))), ?_⟩
    obtain ⟨h, p, dx, rest, c, rfl, hp, hi, hR, ⟨hc1, hc2, hc3⟩, q⟩ := h
    have hlen : rest.length = c.length := hR.length
    refine ⟨_, rfl, p, rfl, ⟨rest, .of hp⟩, for_tup (K := K) (a := p) (xs := rest) (fun i σ H' => ∃ v2 v3, σ = [some (.ref h), some (.ref p), v2, v3] ∧ Keep [] H H') ⟨none, none, rfl, .refl⟩ (fun i σ H' _ ⟨_, _, _, k⟩ => .of (k.tup hp)) ?_ ?_⟩
    · rintro i x σ H1 hx ⟨v2, v3, rfl, k⟩
      obtain ⟨r, hr1, a, xs, rfl, _, ha, hxs⟩ := paired_getV hR hx
      have ha1 := k.same _ _ ha
      refine ⟨_, rfl, _, _, _, _, true, rfl, .ty _, .base (.lst ha1), kit_ty (by decide +kernel), true, rfl, iteF ?_⟩
      refine ⟨_, rfl, a, rfl, ⟨xs, .of ha1⟩, for_list (K := K) (a := a) (xs := xs) (fun j σ H' => ∃ v3, σ = [some (.ref h), some (.ref p), some (.ref a), v3] ∧ Keep [] H H') ⟨v3, rfl, k⟩ (fun j σ H' _ ⟨_, _, k'⟩ => .of (k'.same _ _ ha)) ?_ ?_⟩
      · rintro j y σ H2 hy ⟨v3, rfl, k2⟩
        obtain ⟨z, hz1, hz2⟩ := paired_getV hxs hy
        have ho := hc3 r (List.mem_of_getElem? hr1) z (List.mem_of_getElem? hz1)
        refine ⟨_, rfl, _, rfl, _, _, rfl, .inr ⟨_, .of (k2.tup hp), rfl⟩, y, z, _, rfl, hz2.keep k2, okIm_word ho, fun H3 k3 => ⟨_, rfl, ?_⟩⟩
        rw [hlen, ho]
        exact iteF ⟨_, rfl, k2.trans k3⟩
      · rintro σ H2 ⟨v3, rfl, k2⟩
        exact ⟨_, _, rfl, k2⟩
    · rintro σ H1 ⟨v2, v3, rfl, k⟩
      have hs : SqT K (hd [] H1) p rest := .of (by rw [hd_out (by simp)]; exact k.tup hp)
      refine ⟨_, rfl, p, rfl, ⟨rest, .of (k.tup hp)⟩, fun D hD => lc_itP (M := []) (Jv := fun _ => True) (Pw := fun v v' => v ≠ v')
        (Rel := fun H' v (r : List Im) => ∃ a xs, v = .ref a ∧ H1 a = none ∧ a ≠ D ∧ H' a = some (.lst xs) ∧ ImsV H' xs r) (Ok := fun i r => c[i]? = some r) (n := rest.length)
        (Yx := fun i x _ => rest[i]? = some x) hD (by simp) (fun _ _ _ _ => trivial) trivial (by omega) (it_tup hs).1 (it_tup hs).2.1 (fun i H1 y H2 h1 h2 h3 => let z := (it_tup hs).2.2 i H1 y H2 h1 h2 h3; ⟨z.1, z.2.1, z.2.2.1⟩)
        (fun H1 H2 y z k ⟨a, xs, e, n1, n2, h3, h4⟩ => ⟨a, xs, e, n1, n2, k.at (by simpa using n2) h3, h4.keep k⟩) ?_ gName_mono ?_⟩
      · rintro i x H2 acc hi1 k2 _ hDn hacc hx Qe hQ
        obtain ⟨r, hr2, a, xs, rfl, _, h3, h4⟩ := paired_getV hR hx
        refine ⟨rfl, _, rfl, _, _, rfl, .inl (.of ((k.trans k2).same _ _ h3)), fun b nb => ?_⟩
        refine hQ _ r _ (.new nb) trivial hr2 ⟨b, xs, rfl, k2.free nb (by simp), (fun z => by rw [z, hDn] at nb; cases nb), upd_same, (h4.keep (k.trans k2)).keep (.new (S := []) nb)⟩ fun y' hy' e => ?_
        obtain ⟨_, a', _, rfl, _, _, h5, _⟩ := hacc y' hy'
        cases e
        rw [nb] at h5
        cases h5
      · intro acc zs H2 k2 _ hA hW hP hL hO
        have ez : zs = c := by
          refine List.ext_getElem? fun i => ?_
          cases hb : zs[i]? with
          | none =>
            have h1 := List.getElem?_eq_none_iff.mp hb
            rw [List.getElem?_eq_none (by omega)]
          | some b => exact (hO i b hb).symm
        rw [ez] at hP
        obtain ⟨bs, eb, hb⟩ : ∃ bs : List Addr, acc = bs.map V.ref ∧ Paired (fun a r => (H1 a = none ∧ a ≠ D) ∧ ∃ xs, H2 a = some (.lst xs) ∧ ImsV H2 xs r) bs c := by
          clear hA hO hL ez q hc1 hc2 hc3 hR hlen hW
          induction hP with
          | nil => exact ⟨[], rfl, .nil⟩
          | cons a t ih =>
            obtain ⟨b, xs, rfl, n1, n2, h3, h4⟩ := a
            obtain ⟨bs, rfl, hb⟩ := ih
            exact ⟨b :: bs, rfl, .cons ⟨⟨n1, n2⟩, xs, h3, h4⟩ hb⟩
        have k12 := k.trans k2
        have hi2 := k12.same _ _ hi
        have fr : ∀ a ∈ bs, H1 a = none ∧ a ≠ D := fun a ha => let ⟨i, h1⟩ := List.getElem?_of_mem ha; (paired_getV hb h1).choose_spec.2.1
        have hDh : h ≠ D := fun z => by rw [← z, k.same _ _ hi] at hD; cases hD
        refine ⟨_, rfl, h, T.C, dx, [], rfl, hi2, T.cl, T.na_lists, (by decide), ?_⟩
        have kp : Keep [h] H2 (upd H2 h (.ins T.C dx [("lists", .ref D)])) := .put (by simp) hi2 rfl
        have hat : HeapAt T.C (upd H2 h (.ins T.C dx [("lists", .ref D)])) h D bs c := by
          refine ⟨⟨dx, upd_same⟩, by rw [upd_ne hDh.symm, hA, eb], ?_, fun z => (fr D z).2 rfl, paired_mem hb fun i a r h1 h2 ⟨⟨n1, n2⟩, xs, h3, h4⟩ => ⟨xs, kp.at (fun z => ?_) h3, h4.keep kp⟩⟩
          · rw [eb] at hW
            exact (List.pairwise_map.mp hW).imp fun {a b} n e => n (by rw [e])
          · rw [List.mem_singleton.mp z, k.same _ _ hi] at n1
            cases n1
        refine ⟨_, rfl, h, dx, _, rfl, upd_same, rfl, h, D, bs, c, 0, 0, rfl, hat, by omega, by omega, fun H3 k3 => ?_⟩
        exact q H3 D bs (k.free hD (by simp)) (fun a ha => k.free (fr a ha).1 (by simp)) ((k12.all.trans kp).trans k3.all) (hat.same k3)
  · obtain ⟨h, dx, rest, c, rfl, hi, hR, hc, q⟩ := h
    refine ⟨_, rest, rfl, Nat.le_trans (by rw [hR.length]; exact hc.1) (by decide), fun p np => ⟨h, p, dx, rest, c, rfl, upd_same, ?_, RowsV.keep (.new (S := []) np) (by simp) hR, hc, fun H' l as h1 h2 k x => ?_⟩⟩
    · rw [upd_ne (ne_of_none hi np)]
      exact hi
    · have fr : ∀ {a : Addr}, upd H p (.tup rest) a = none → H a = none := fun {a} z => by
        by_cases e : a = p
        · rw [e]; exact np
        · rw [upd_ne e] at z; exact z
      exact q H' l as (fr h1) (fun a ha => fr (h2 a ha)) ((Keep.new (S := [h]) np).trans k) x
def N_of : List Str := ["cls", "contents"]
theorem sc_of : FnScope N_of ["cls", "contents"] (defScope s_of) := ⟨rfl, rfl, rfl, by decide +kernel, rfl, by decide +kernel, by decide +kernel⟩
theorem ok_of (T : Txt K mg) : FnR P w K mg base CX0 7 T.f_of (spOf T.C) := by
  refine okR T.F_of sc_of (fun vs H Q E h => ?_) (T.F_of.binds fun _ _ _ _ _ _ us hl => match us, hl with | [_, _], _ => rfl) (fun cdv A outer s H vs Q E hr h => ?_)
  · obtain ⟨v, c, rfl, _⟩ := h
    rfl
  · refine ⟨_, (pss_one (ps_ret (pe_makeSV (C := T.C) (i := 0) T.mkC (ok_init T) hr pass0 rfl (.inl rfl) (pv 1)))), ?_⟩
    obtain ⟨v, c, rfl, ⟨a, vs, rfl, _, ha, hR⟩, hc, q⟩ := h
    refine ⟨rfl, _, rfl, a, vs, rfl, .inr (.of ha), fun o dx no nd ne => ?_⟩
    have k1 : Keep [] H (upd (upd H dx (.own o)) o (.ins T.C dx [])) := (Keep.new nd).trans (.new (by rw [upd_ne ne.symm]; exact no))
    refine ⟨o, dx, vs, c, rfl, upd_same, RowsV.keep k1 (by simp) hR, hc, fun H' l as h1 h2 k x => ⟨rfl, ?_⟩⟩
    have fr : ∀ {a : Addr}, upd (upd H dx (.own o)) o (.ins T.C dx []) a = none → H a = none := fun z => k1.free z (by simp)
    exact q H' o l as no (fr h1) (fun a ha => fr (h2 a ha)) (((k1.all (S := [o])).trans k).drop no) x
def N_new : List Str := ["self", "items", "item"]
theorem sc_new : FnScope N_new ["self", "items"] (defScope s_new) := ⟨rfl, rfl, rfl, by decide +kernel, rfl, by decide +kernel, by decide +kernel⟩
theorem ok_new (T : Txt K mg) : FnR P w K mg base CX0 6 T.f_new (spNew T.C) := by
  refine (okStar (sp := fun vs H Q _ => ∃ h p l as c rest r, vs = [.ref h, .ref p] ∧ H p = some (.tup rest) ∧ HeapAt T.C H h l as c ∧ ImsV H rest r ∧ c.length < 60 ∧ total c + r.length ≤ 300 ∧ (∀ x ∈ r, okIm ((c.length : Int) + 1) x = true) ∧
    ∀ H' a, H a = none → Keep [l] H H' → HeapAt T.C H' h l (as ++ [a]) (c ++ [r]) → Q (.int (c.length : Nat)) H') T.F_new sc_new (fun _ _ _ _ _ _ _ => rfl) (fun _ _ _ _ _ _ _ _ _ => rfl) (fun cdv A outer s H vs Q E hr h => ?_)).imp fun vs H Q E h => ?_
  · refine ⟨_, (pss_cons (ps_for PassesOwn.never rfl (pi_tup (pv 1)) (pg_name (i := 2) sc_new.nd rfl (Or.inl rfl))
      (pss_one (ps_expr (pe_methR (pv 0) T.cl T.m_need_item (ok_need_item T) (hr.mono (by decide)) pass0 (pa_cons (pv 2) (pa_cons pe_int pa_nil))))))
      (pss_cons (ps_expr (pe_methR (pv 0) T.cl T.m_need_room (ok_need_room T) (hr.mono (by decide)) pass0 (pa_cons pe_int (pa_cons (pe_callB call_len (by rfl) T.n_len (by decide +kernel) (pa_cons (pv 1) pa_nil)) pa_nil))))
      (pss_cons (ps_expr (pe_bm PySem.F.plainAttrs_list PySem.F.slot_list_append PySem.F.type_list_append mt_append (pe_fld (pv 0) rfl) (pa_cons (pe_callTy call_list_of (by rfl) T.n_list (by decide +kernel) (pa_cons (pv 1) pa_nil)) pa_nil)))
      (pss_one (ps_ret (pe_op op_sub (pe_callB call_len (by rfl) T.n_len (by decide +kernel) (pa_cons (pe_fld (pv 0) rfl) pa_nil)) pe_int)))))), ?_⟩
    obtain ⟨h, p, l, as, c, rest, r, rfl, hp, hat, hI, hc1, hc2, hc3, q⟩ := h
    refine ⟨_, rfl, p, rfl, ⟨rest, .of hp⟩, for_tup (K := K) (a := p) (xs := rest) (fun i σ H' => ∃ v2, σ = [some (.ref h), some (.ref p), v2] ∧ Keep [] H H') ⟨none, rfl, .refl⟩ (fun i σ H' _ ⟨_, _, k⟩ => .of (k.tup hp)) ?_ ?_⟩
    · rintro i x σ H1 hx ⟨v2, rfl, k⟩
      obtain ⟨z, hz, hv⟩ := paired_getV hI hx
      have hat1 := hat.same k
      obtain ⟨dx, hi⟩ := hat1.ins
      exact ⟨_, rfl, h, dx, _, rfl, hi, rfl, _, rfl, h, l, as, c, _, z, 1, rfl, hat1, hv.keep k, hc3 z (List.mem_of_getElem? hz), fun H2 k2 => ⟨_, rfl, k.trans k2⟩⟩
    · rintro σ H1 ⟨v2, rfl, k⟩
      have hat1 := hat.same k
      obtain ⟨dx, hi⟩ := hat1.ins
      refine ⟨_, rfl, h, dx, _, rfl, hi, rfl, _, rfl, _, rest.length, rfl, .inr ⟨_, .of (k.tup hp), rfl⟩, h, l, as, c, 1, rest.length, rfl, hat1, by omega, by rw [hI.length]; exact hc2, fun H2 k2 => ?_⟩
      have hat2 := hat1.same k2
      obtain ⟨dx, hi2⟩ := hat2.ins
      have k12 := k.trans k2
      refine ⟨_, rfl, h, T.C, dx, _, _, rfl, hi2, T.cl, T.na_lists, lk, .inl ⟨rfl, _, .of hat2.lst⟩, _, rfl, p, rest, rfl, .inr (.of (k12.tup hp)), fun a na => ?_⟩
      have nla : l ≠ a := ne_of_none hat2.lst na
      refine ⟨l, _, _, rfl, rfl, (by rw [upd_ne nla]; exact hat2.lst), small_of (by rw [List.length_map, hat2.len]; omega), ?_⟩
      have k3 : Keep [l] H2 (upd (upd H2 a (.lst rest)) l (.lst (as.map V.ref ++ [.ref a]))) := (Keep.new na).trans (.put (by simp) (by rw [upd_ne nla]; exact hat2.lst) rfl)
      have hat3 := hat2.more (r := r) (fun z => by
        obtain ⟨i, h1⟩ := List.getElem?_of_mem z
        obtain ⟨_, _, xs, h2, _⟩ := paired_getV hat2.rows h1
        rw [na] at h2
        cases h2) nla k3 upd_same (by rw [upd_ne nla.symm, upd_same]) ((hI.keep k12).keep k3)
      obtain ⟨dx, hi3⟩ := hat3.ins
      refine ⟨_, rfl, h, T.C, dx, _, _, rfl, hi3, T.cl, T.na_lists, lk, _, _, rfl, .inl ⟨_, .of hat3.lst, rfl⟩, _, _, rfl, rfl, ?_⟩
      have el : (((as ++ [a]).map V.ref).length : Int) - 1 = (c.length : Nat) := by
        rw [List.length_map, List.length_append, hat2.len, List.length_singleton]
        omega
      show Q (.int (((((as ++ [a]).map V.ref).length : Nat) : Int) - 1)) _
      rw [el]
      exact q _ a (k12.free na (by simp)) (k12.all.trans k3) hat3
  · obtain ⟨h, l, as, c, rest, r, rfl, hat, hI, hc1, hc2, hc3, q⟩ := h
    refine ⟨_, rest, rfl, Nat.le_trans (by rw [hI.length]; omega) (show 300 ≤ sizeLine by decide), fun p np => ?_⟩
    have k0 : Keep [] H (upd H p (.tup rest)) := .new np
    exact ⟨h, p, l, as, c, rest, r, rfl, upd_same, hat.same k0, hI.keep k0, hc1, hc2, hc3, fun H' a h1 k x => q H' a (k0.free h1 (by simp)) (k0.all.trans k) x⟩
def N_put : List Str := ["self", "box", "place", "item", "row", "elder"]
theorem sc_put : FnScope N_put ["self", "box", "place", "item"] (defScope s_put) := ⟨rfl, rfl, rfl, by decide +kernel, rfl, by decide +kernel, by decide +kernel⟩
theorem ixN_of {n p : Nat} (h : p < n) : ixN n (p : Int) = some p := by
  unfold ixN
  rw [if_pos (by omega)]
  simp
  omega
theorem ok_put (T : Txt K mg) : FnR P w K mg base CX0 6 T.f_put (spPut T.C) := by
  refine okR T.F_put sc_put (fun vs H Q E h => ?_) (T.F_put.binds fun _ _ _ _ _ _ us hl => match us, hl with | [_, _, _, _], _ => rfl) (fun cdv A outer s H vs Q E hr h => ?_)
  · obtain ⟨h, l, as, c, r, v, x, a, y, n, p, rfl, _⟩ := h
    rfl
  · refine ⟨_, (pss_cons (ps_expr (pe_methR (pv 0) T.cl T.m_need_box (ok_need_box T) (hr.mono (by decide)) pass0 (pa_cons (pv 1) pa_nil)))
      (pss_cons (ps_expr (pe_methR (pv 0) T.cl T.m_need_place (ok_need_place T) (hr.mono (by decide)) pass0 (pa_cons (pv 1) (pa_cons (pv 2) (pa_cons pe_int pa_nil)))))
      (pss_cons (ps_expr (pe_methR (pv 0) T.cl T.m_need_item (ok_need_item T) (hr.mono (by decide)) pass0 (pa_cons (pv 3) (pa_cons pe_int pa_nil))))
      (pss_cons (ps_set (i := 4) sc_put.nd rfl (Or.inl rfl) (pe_ix ix_list (pe_fld (pv 0) rfl) (pv 1) (fun _ _ => rfl)))
      (pss_cons (ps_set (i := 5) sc_put.nd rfl (Or.inl rfl) (pe_ix ix_list (pv 4) (pv 2) (fun _ _ => rfl)))
      (pss_cons (ps_asg (pv 3) (pg_sub (pv 4) (pv 2) set_list))
      (pss_one (ps_ret (pv 5))))))))), ?_⟩
    obtain ⟨h, l, as, c, r, v, x, a, y, n, p, rfl, hat, hn, ha, hy, hv, ho, q⟩ := h
    obtain ⟨dx, hi⟩ := hat.ins
    have hpl : p < r.length := (List.getElem?_eq_some_iff.mp hy).1
    refine ⟨_, rfl, h, dx, _, rfl, hi, rfl, _, rfl, h, l, as, c, n, rfl, hat, (List.getElem?_eq_some_iff.mp hn).1, ?_⟩
    refine ⟨_, rfl, h, dx, _, rfl, hi, rfl, _, rfl, _, rfl, h, l, as, c, r, n, p, 0, rfl, hat, hn, by omega, ?_⟩
    refine ⟨_, rfl, h, dx, _, rfl, hi, rfl, _, rfl, h, l, as, c, v, x, 0, rfl, hat, hv, by simpa using ho, fun H1 k => ?_⟩
    have hat1 := hat.same k
    obtain ⟨dx, hi1⟩ := hat1.ins
    obtain ⟨a', xs, h1, h2, h3, h4⟩ := hat1.row hn
    rw [ha] at h1
    cases h1
    obtain ⟨u, hu, hu2⟩ := paired_get h4 hy
    refine ⟨_, rfl, h, T.C, dx, _, _, rfl, hi1, T.cl, T.na_lists, lk, _, rfl, _, _, _, _, rfl, rfl, .of hat1.lst, atI_nat h2, ?_⟩
    refine ⟨_, rfl, _, rfl, _, _, _, _, rfl, rfl, .of h3, atI_nat hu, ?_⟩
    refine ⟨_, rfl, _, rfl, _, rfl, a, xs, p, p, rfl, rfl, h3, ixN_of (by rw [h4.length]; exact hpl), _, rfl, ?_⟩
    have k2 : Keep [a] H1 (upd H1 a (.lst (xs.set p v))) := .put (by simp) h3 rfl
    exact q _ u (k.all.trans k2) (hat1.setRow ha h3 k2 upd_same (paired_set ((hv.keep k).keep k2) p (h4.keep k2))) (hu2.keep k2)
def N_add_at : List Str := ["self", "box", "place", "item"]
theorem sc_add_at : FnScope N_add_at ["self", "box", "place", "item"] (defScope s_add_at) := ⟨rfl, rfl, rfl, by decide +kernel, rfl, by decide +kernel, by decide +kernel⟩
theorem ok_add_at (T : Txt K mg) : FnR P w K mg base CX0 6 T.f_add_at (spAddAt T.C) := by
  refine okR T.F_add_at sc_add_at (fun vs H Q E h => ?_) (T.F_add_at.binds fun _ _ _ _ _ _ us hl => match us, hl with | [_, _, _, _], _ => rfl) (fun cdv A outer s H vs Q E hr h => ?_)
  · obtain ⟨h, l, as, c, r, v, x, a, n, p, rfl, _⟩ := h
    rfl
  · refine ⟨_, (pss_cons (ps_expr (pe_methR (pv 0) T.cl T.m_need_box (ok_need_box T) (hr.mono (by decide)) pass0 (pa_cons (pv 1) pa_nil)))
      (pss_cons (ps_expr (pe_methR (pv 0) T.cl T.m_need_place (ok_need_place T) (hr.mono (by decide)) pass0 (pa_cons (pv 1) (pa_cons (pv 2) (pa_cons pe_int pa_nil)))))
      (pss_cons (ps_expr (pe_methR (pv 0) T.cl T.m_need_item (ok_need_item T) (hr.mono (by decide)) pass0 (pa_cons (pv 3) (pa_cons pe_int pa_nil))))
      (pss_cons (ps_expr (pe_methR (pv 0) T.cl T.m_need_room (ok_need_room T) (hr.mono (by decide)) pass0 (pa_cons pe_int (pa_cons pe_int pa_nil))))
      (pss_one (ps_expr (pe_bm PySem.F.plainAttrs_list PySem.F.slot_list_insert PySem.F.type_list_insert mt_insert (pe_ix ix_list (pe_fld (pv 0) rfl) (pv 1) (fun _ _ => rfl)) (pa_cons (pv 2) (pa_cons (pv 3) pa_nil))))))))), ?_⟩
    obtain ⟨h, l, as, c, r, v, x, a, n, p, rfl, hat, hn, ha, hpl, hv, ho, hc1, hc2, q⟩ := h
    obtain ⟨dx, hi⟩ := hat.ins
    refine ⟨_, rfl, h, dx, _, rfl, hi, rfl, _, rfl, h, l, as, c, n, rfl, hat, (List.getElem?_eq_some_iff.mp hn).1, ?_⟩
    refine ⟨_, rfl, h, dx, _, rfl, hi, rfl, _, rfl, _, rfl, h, l, as, c, r, n, p, 1, rfl, hat, hn, by omega, ?_⟩
    refine ⟨_, rfl, h, dx, _, rfl, hi, rfl, _, rfl, h, l, as, c, v, x, 0, rfl, hat, hv, by simpa using ho, fun H1 k => ?_⟩
    have hat1 := hat.same k
    obtain ⟨dx, hi1⟩ := hat1.ins
    refine ⟨_, rfl, h, dx, _, rfl, hi1, rfl, h, l, as, c, 0, 1, rfl, hat1, by omega, by omega, fun H2 k2 => ?_⟩
    have hat2 := hat1.same k2
    obtain ⟨dx, hi2⟩ := hat2.ins
    obtain ⟨a', xs, h1, h2, h3, h4⟩ := hat2.row hn
    rw [ha] at h1
    cases h1
    have hz : total c < 300 := hc2
    have hrl : r.length ≤ total c := by
      have z := total_set c n r [] hn
      simp at z
      omega
    refine ⟨_, rfl, h, T.C, dx, _, _, rfl, hi2, T.cl, T.na_lists, lk, _, rfl, _, _, _, _, rfl, rfl, .of hat2.lst, atI_nat h2, .inl ⟨rfl, _, .of h3⟩, _, rfl, _, rfl, a, xs, p, v, rfl, rfl, h3, small_of (by rw [h4.length]; omega), by omega, by omega, ?_⟩
    have k3 : Keep [a] H2 (upd H2 a (.lst (xs.take p ++ [v] ++ xs.drop p))) := .put (by simp) h3 rfl
    have tk : ∀ {vs : List V} {zs : List Im} (H' : Hp) (i : Nat), ImsV H' vs zs → ImsV H' (vs.take i) (zs.take i) ∧ ImsV H' (vs.drop i) (zs.drop i) := fun {vs zs} H' i z => by
      induction z generalizing i with
      | nil => cases i <;> exact ⟨.nil, .nil⟩
      | cons a t ih =>
        cases i with
        | zero => exact ⟨.nil, .cons a t⟩
        | succ i => exact ⟨.cons a (ih i).1, (ih i).2⟩
    have h5 := tk _ p (h4.keep k3)
    refine q _ ((k.trans k2).all.trans k3) (hat2.setRow ha h3 k3 ?_ (paired_append (paired_append h5.1 (.cons (((hv.keep k).keep k2).keep k3) .nil)) h5.2))
    rw [upd_same]
    rfl
def N_add_last : List Str := ["self", "box", "item"]
theorem sc_add_last : FnScope N_add_last ["self", "box", "item"] (defScope s_add_last) := ⟨rfl, rfl, rfl, by decide +kernel, rfl, by decide +kernel, by decide +kernel⟩
theorem ok_add_last (T : Txt K mg) : FnR P w K mg base CX0 7 T.f_add_last (spAddLast T.C) := by
  refine okR T.F_add_last sc_add_last (fun vs H Q E h => ?_) (T.F_add_last.binds fun _ _ _ _ _ _ us hl => match us, hl with | [_, _, _], _ => rfl) (fun cdv A outer s H vs Q E hr h => ?_)
  · obtain ⟨h, l, as, c, r, v, x, a, n, rfl, _⟩ := h
    rfl
  · refine ⟨_, (pss_cons (ps_expr (pe_methR (pv 0) T.cl T.m_need_box (ok_need_box T) (hr.mono (by decide)) pass0 (pa_cons (pv 1) pa_nil)))
      (pss_one (ps_expr (pe_methR (pv 0) T.cl T.m_add_at (ok_add_at T) (hr.mono (by decide)) pass0 (pa_cons (pv 1) (pa_cons (pe_callB call_len (by rfl) T.n_len (by decide +kernel) (pa_cons (pe_ix ix_list (pe_fld (pv 0) rfl) (pv 1) (fun _ _ => rfl)) pa_nil)) (pa_cons (pv 2) pa_nil))))))), ?_⟩
    obtain ⟨h, l, as, c, r, v, x, a, n, rfl, hat, hn, ha, hv, ho, hc1, hc2, q⟩ := h
    obtain ⟨dx, hi⟩ := hat.ins
    obtain ⟨a', xs, h1, h2, h3, h4⟩ := hat.row hn
    rw [ha] at h1
    cases h1
    refine ⟨_, rfl, h, dx, _, rfl, hi, rfl, _, rfl, h, l, as, c, n, rfl, hat, (List.getElem?_eq_some_iff.mp hn).1, ?_⟩
    refine ⟨_, rfl, h, dx, _, rfl, hi, rfl, _, rfl, _, rfl, h, T.C, dx, _, _, rfl, hi, T.cl, T.na_lists, lk, _, rfl, _, _, _, _, rfl, rfl, .of hat.lst, atI_nat h2, _, _, rfl, .inl ⟨_, .of h3, rfl⟩, _, rfl, ?_⟩
    refine ⟨h, l, as, c, r, v, x, a, n, xs.length, rfl, hat, hn, ha, by rw [h4.length]; exact Nat.le_refl _, hv, ho, hc1, hc2, fun H' k z => q H' k ?_⟩
    rw [h4.length] at z
    simpa using z
def N_swap : List Str := ["self", "one", "other", "lists"]
theorem sc_swap : FnScope N_swap ["self", "one", "other"] (defScope s_swap) := ⟨rfl, rfl, rfl, by decide +kernel, rfl, by decide +kernel, by decide +kernel⟩
theorem ok_swap (T : Txt K mg) : FnR P w K mg base CX0 5 T.f_swap (spSwap T.C) := by
  refine okR T.F_swap sc_swap (fun vs H Q E h => ?_) (T.F_swap.binds fun _ _ _ _ _ _ us hl => match us, hl with | [_, _, _], _ => rfl) (fun cdv A outer s H vs Q E hr h => ?_)
  · obtain ⟨h, l, as, c, r, s, a, b, i, j, rfl, _⟩ := h
    rfl
  · refine ⟨_, (pss_cons (ps_expr (pe_methR (pv 0) T.cl T.m_need_box (ok_need_box T) (hr.mono (by decide)) pass0 (pa_cons (pv 1) pa_nil)))
      (pss_cons (ps_expr (pe_methR (pv 0) T.cl T.m_need_box (ok_need_box T) (hr.mono (by decide)) pass0 (pa_cons (pv 2) pa_nil)))
      (pss_cons (ps_set (i := 3) sc_swap.nd rfl (Or.inl rfl) (pe_fld (pv 0) rfl))
      (pss_one (ps_asg (pe_tup (pa_cons (pe_ix ix_list (pv 3) (pv 2) (fun _ _ => rfl)) (pa_cons (pe_ix ix_list (pv 3) (pv 1) (fun _ _ => rfl)) pa_nil))) (pg_tup rfl (pgs_cons (pg_sub (pv 3) (pv 1) set_list) (pgs_cons (pg_sub (pv 3) (pv 2) set_list) pgs_nil)))))))), ?_⟩
    obtain ⟨h, l, as, c, r, s, a, b, i, j, rfl, hat, hi1, hj1, ha, hb, q⟩ := h
    obtain ⟨dx, hi⟩ := hat.ins
    have ea : (as.map V.ref)[i]? = some (.ref a) := by rw [List.getElem?_map, ha]; rfl
    have eb : (as.map V.ref)[j]? = some (.ref b) := by rw [List.getElem?_map, hb]; rfl
    have li := (List.getElem?_eq_some_iff.mp ea).1
    have lj := (List.getElem?_eq_some_iff.mp eb).1
    refine ⟨_, rfl, h, dx, _, rfl, hi, rfl, _, rfl, h, l, as, c, i, rfl, hat, (List.getElem?_eq_some_iff.mp hi1).1, ?_⟩
    refine ⟨_, rfl, h, dx, _, rfl, hi, rfl, _, rfl, h, l, as, c, j, rfl, hat, (List.getElem?_eq_some_iff.mp hj1).1, ?_⟩
    refine ⟨_, rfl, h, T.C, dx, _, _, rfl, hi, T.cl, T.na_lists, lk, ?_⟩
    refine ⟨_, rfl, _, rfl, _, _, _, _, rfl, rfl, .of hat.lst, atI_nat eb, _, rfl, _, rfl, _, _, _, _, rfl, rfl, .of hat.lst, atI_nat ea, (show 2 ≤ sizeLine by decide), fun t nt => ?_⟩
    have nl : l ≠ t := ne_of_none hat.lst nt
    have h1 : upd H t (.tup [.ref b, .ref a]) l = some (.lst (as.map V.ref)) := by rw [upd_ne nl]; exact hat.lst
    refine ⟨t, _, rfl, .of upd_same, rfl, _, _, rfl, _, rfl, _, rfl, l, _, i, i, rfl, rfl, h1, ixN_of li, _, _, rfl, _, rfl, _, rfl, l, _, j, j, rfl, rfl, upd_same, ixN_of (by rw [List.length_set]; exact lj), rfl, ?_⟩
    have k : Keep [l] H (upd (upd (upd H t (.tup [.ref b, .ref a])) l (.lst ((as.map V.ref).set i (.ref b)))) l (.lst (((as.map V.ref).set i (.ref b)).set j (.ref a)))) :=
      ((Keep.new nt).trans (.put (by simp) h1 rfl)).trans (.put (by simp) upd_same rfl)
    exact q _ k (hat.swap ha hb hi1 hj1 k upd_same)
end
end K49
namespace K49
open PySem PySem.Spec PyProof.Rows L2 Rg
/-! ### the order of opening -/
abbrev iv (x : Nat) : V := .int x
/-- all references lead to boxes -/
def refs (c : Cont) : Prop := ∀ r ∈ c, ∀ n, Im.b n ∈ r → n < c.length
def spVisit (C : Addr) (m : Nat) : Sp := fun vs H Q _ => ∃ h l as c a o, ∃ n d : Nat, vs = [.ref h, .int n, .ref a, .int d] ∧ HeapAt C H h l as c ∧ H a = some (.lst (o.map iv)) ∧ a ≠ l ∧ a ∉ as ∧ n < c.length ∧ n ∉ o ∧ unv c o ≤ m ∧ refs c ∧
  c.length ≤ 60 ∧ o.Nodup ∧ (∀ x ∈ o, x < c.length) ∧ ∀ H' o' dd, Keep [a] H H' → H' a = some (.lst (o'.map iv)) → Vis c n o d o' dd → Q (.int (dd : Nat)) H'
def spReach (C : Addr) : Sp := fun vs H Q _ => ∃ h l as c, ∃ n : Nat, vs = [.ref h, .int n] ∧ HeapAt C H h l as c ∧ n < c.length ∧ refs c ∧ c.length ≤ 60 ∧
  ∀ H' p o dd, H p = none → Keep [] H H' → H' p = some (.lst (o.map iv)) → Vis c n [] 1 o dd → Q (.ref p) H'
def spDepth (C : Addr) : Sp := fun vs H Q _ => ∃ h l as c, ∃ n : Nat, vs = [.ref h, .int n] ∧ HeapAt C H h l as c ∧ n < c.length ∧ refs c ∧ c.length ≤ 60 ∧
  ∀ H' o dd, Keep [] H H' → Vis c n [] 1 o dd → Q (.int (dd : Nat)) H'
theorem inV_iv (n : Nat) (o : List Nat) : inV (.int n) (o.map iv) = decide (n ∈ o) := by
  unfold inV
  rw [List.any_map]
  induction o with
  | nil => rfl
  | cons x o ih =>
    rw [List.any_cons, ih]
    show (((x : Int) == (n : Int)) || decide (n ∈ o)) = decide (n ∈ x :: o)
    by_cases e : n = x
    · subst e; simp
    · have e2 : ((x : Int) == (n : Int)) = false := by simp; omega
      rw [e2]
      simp [e]
theorem flat_iv (o : List Nat) : (o.map iv).all flatV = true := by
  rw [List.all_map]
  exact List.all_eq_true.mpr fun _ _ => rfl
theorem max_iv (a b : Nat) : (if (b : Int) > (a : Int) then (b : Int) else (a : Int)) = ((max a b : Nat) : Int) := by
  split <;> omega
section
variable {P : Program} {w : World} {K : PySem.W.Frag} {mg : Str → Option Value} {base : Heap}
def N_visit : List Str := ["heap", "box", "order", "depth", "deepest", "item"]
theorem sc_visit : FnScope N_visit ["heap", "box", "order", "depth"] (defScope s_visit) := ⟨rfl, rfl, rfl, by decide +kernel, rfl, by decide +kernel, by decide +kernel⟩
theorem ok_visit (T : Txt K mg) : ∀ m, FnR P w K mg base CX0 (7 + m) T.f_visit (spVisit T.C m)
  | 0 => by
    intro A outer s H us vs Q E hr e0 rv h
    obtain ⟨h, l, as, c, a, o, n, d, rfl, _, _, _, _, hn, hno, hu, _⟩ := h
    have z := unv_add hn hno
    omega
  | m + 1 => by
    refine okR T.F_visit sc_visit (fun vs H Q E h => ?_) (T.F_visit.binds fun _ _ _ _ _ _ us hl => match us, hl with | [_, _, _, _], _ => rfl) (fun cdv A outer s H vs Q E hr h => ?_)
    · obtain ⟨h, l, as, c, a, o, n, d, rfl, _⟩ := h
      rfl
    · refine ⟨_, (pss_cons (ps_expr (pe_bm PySem.F.plainAttrs_list PySem.F.slot_list_append PySem.F.type_list_append mt_append (pv 2) (pa_cons (pv 1) pa_nil)))
        (pss_cons (ps_set (i := 4) sc_visit.nd rfl (Or.inl rfl) (pv 3))
        (pss_cons (ps_for PassesOwn.never rfl (pi_list (pe_methR (pv 0) T.cl T.m_look (ok_look T) (hr.mono (show 5 ≤ 7 + m by omega)) pass0 (pa_cons (pv 1) pa_nil))) (pg_name (i := 5) sc_visit.nd rfl (Or.inl rfl))
        (pss_one (ps_if (PW.pt (pw_and (pt_val (pe_callR (ok_is_box T) (hr.mono (show 1 ≤ 7 + m by omega)) rfl T.g_is_box T.F_is_box.kp pass0 (pa_cons (pv 5) pa_nil))) (pw_and1 (pt_cmpR op_notIn_seq (pe_ix ix_tup (pv 5) pe_int (fun _ _ => rfl)) (pv 2) (by rfl))))) (pss_one (ps_set (i := 4) sc_visit.nd rfl (Or.inl rfl) (pe_callB (call_max2 rfl) (by rfl) T.n_max (by decide +kernel) (pa_cons (pv 4) (pa_cons (pe_callR (ok_visit T m) hr rfl T.g_visit T.F_visit.kp pass0 (pa_cons (pv 0) (pa_cons (pe_ix ix_tup (pv 5) pe_int (fun _ _ => rfl)) (pa_cons (pv 2) (pa_cons (pe_op op_add (pv 3) pe_int) pa_nil))))) pa_nil))))) pss_nil)))
        (pss_one (ps_ret (pv 4)))))), ?_⟩
      obtain ⟨h, l, as, c, a, o, n, d, rfl, hat, ha, nal, naa, hn, hno, hu, hrf, hc, hnd, hrg, q⟩ := h
      have hol : o.length ≤ 60 := Nat.le_trans (nodup_le _ o hnd hrg) hc
      refine ⟨_, rfl, .inl ⟨rfl, _, .of ha⟩, _, rfl, a, _, _, rfl, rfl, ha, small_of (by rw [List.length_map]; omega), ?_⟩
      have k0 : Keep [a] H (upd H a (.lst (o.map iv ++ [.int n]))) := .put (by simp) ha rfl
      have sepOf : ∀ H1, Keep [a] H H1 → HeapAt T.C H1 h l as c := fun H1 k => hat.keep k (fun z => by
          rw [List.mem_singleton] at z
          obtain ⟨dx, hi⟩ := hat.ins
          rw [z, ha] at hi
          cases hi) (fun z => nal (List.mem_singleton.mp z).symm) fun b hb z => naa (by rw [← List.mem_singleton.mp z]; exact hb)
      have hat0 := sepOf _ k0
      have e0 : (o.map iv ++ [.int n]) = (o ++ [n]).map iv := by rw [List.map_append]; rfl
      obtain ⟨row, hrow⟩ : ∃ row, c[n]? = some row := ⟨_, List.getElem?_eq_getElem hn⟩
      obtain ⟨dx, hi0⟩ := hat0.ins
      refine ⟨_, rfl, ?_⟩
      refine ⟨_, rfl, h, dx, _, rfl, hi0, rfl, _, rfl, h, l, as, c, row, n, rfl, hat0, hrow, fun H1 p xs k1 np hp hxs => ?_⟩
      have npa : p ≠ a := fun z => by rw [z, upd_same] at np; cases np
      have hu1 : unv c (o ++ [n]) ≤ m := by have z := unv_add hn hno; omega
      have hnd1 : (o ++ [n]).Nodup := List.nodup_append.mpr ⟨hnd, by simp, fun x hx y hy e => by rw [List.mem_singleton] at hy; rw [e, hy] at hx; exact hno hx⟩
      have hrg1 : ∀ x ∈ o ++ [n], x < c.length := fun x hx => by
        rcases List.mem_append.mp hx with hx | hx
        · exact hrg x hx
        · rw [List.mem_singleton.mp hx]; exact hn
      refine ⟨p, rfl, ⟨xs, .of hp⟩, for_list (K := K) (a := p) (xs := xs) (fun i σ H' => ∃ (o1 : List Nat) (dd : Nat) (v5 : Option V), σ = [some (.ref h), some (.int n), some (.ref a), some (.int d), some (.int dd), v5] ∧ Keep [a] H1 H' ∧ H' a = some (.lst (o1.map iv)) ∧ Fold c d (row.take i) (o ++ [n]) d o1 dd)
        ⟨o ++ [n], d, none, rfl, .refl, by rw [k1.same _ _ upd_same, e0], .nil⟩ (fun i σ H' _ ⟨_, _, _, _, k, _⟩ => .of (k.at (fun z => npa (List.mem_singleton.mp z)) hp)) ?_ ?_⟩
      · rintro i x σ H2 hx ⟨o1, dd, v5, rfl, k, hA, hF⟩
        obtain ⟨z, hz, hv⟩ := paired_getV hxs hx
        obtain ⟨hil, hie⟩ := List.getElem?_eq_some_iff.mp hz
        have hv2 := hv.keep k
        have etk : row.take (i + 1) = row.take i ++ [z] := by rw [List.take_succ_eq_append_getElem hil, hie]
        refine ⟨_, rfl, x, z, rfl, hv2, ?_⟩
        cases z with
        | i n1 => exact ⟨_, rfl, iteF (iteF ⟨o1, dd, some x, rfl, k, hA, by rw [etk]; exact hF.append (.skip (fun _ e => nomatch e) .nil)⟩)⟩
        | s y => exact ⟨_, rfl, iteF (iteF ⟨o1, dd, some x, rfl, k, hA, by rw [etk]; exact hF.append (.skip (fun _ e => nomatch e) .nil)⟩)⟩
        | b n1 =>
          obtain ⟨t, rfl, ht⟩ := hv2
          refine ⟨_, rfl, iteT ?_⟩
          refine ⟨_, rfl, _, _, _, _, rfl, rfl, .of ht, rfl, _, rfl, a, _, rfl, .inl (.of hA), rfl, flat_iv o1, _, rfl, ?_⟩
          show if (!inV (.int n1) (o1.map iv)) = true then _ else _
          rw [inV_iv]
          by_cases hm : n1 ∈ o1
          · rw [decide_eq_true hm]
            exact iteF ⟨o1, dd, _, rfl, k, hA, by rw [etk]; exact hF.append (.skip (fun n e => by cases e; exact hm) .nil)⟩
          · rw [decide_eq_false hm]
            have hn1 : n1 < c.length := hrf row (List.mem_of_getElem? hrow) n1 (List.mem_of_getElem? hz)
            refine iteT ⟨_, rfl, _, rfl, _, rfl, _, _, _, _, rfl, rfl, .of ht, rfl, _, rfl, _, rfl, _, _, rfl, rfl, ?_⟩
            refine ⟨h, l, as, c, a, o1, n1, d + 1, rfl, sepOf _ ((k0.trans k1.all).trans k), hA, nal, naa, hn1, hm, Nat.le_trans (unv_sub hF.sub) hu1, hrf, hc, hF.nodup hnd1, hF.range hrg1, fun H3 o2 d2 k3 hA3 ⟨row1, hr1, hF1⟩ => ?_⟩
            refine ⟨dd, d2, rfl, o2, max dd d2, some (.ref t), ?_, k.trans k3, hA3, by rw [etk]; exact hF.append (.go hm hr1 hF1 .nil)⟩
            rw [max_iv]
            rfl
      · rintro σ H2 ⟨o1, dd, v5, rfl, k, hA, hF⟩
        rw [hxs.length, List.take_length] at hF
        exact ⟨_, rfl, q H2 o1 dd ((k0.trans k1.all).trans k) hA ⟨row, hrow, hF⟩⟩
def N_reachable : List Str := ["heap", "box", "order"]
theorem sc_reachable : FnScope N_reachable ["heap", "box"] (defScope s_reachable) := ⟨rfl, rfl, rfl, by decide +kernel, rfl, by decide +kernel, by decide +kernel⟩
theorem ok_reachable (T : Txt K mg) : FnR P w K mg base CX0 68 T.f_reachable (spReach T.C) := by
  refine okR T.F_reachable sc_reachable (fun vs H Q E h => ?_) (T.F_reachable.binds fun _ _ _ _ _ _ us hl => match us, hl with | [_, _], _ => rfl) (fun cdv A outer s H vs Q E hr h => ?_)
  · obtain ⟨h, l, as, c, n, rfl, _⟩ := h
    rfl
  · refine ⟨_, (pss_cons (ps_set (i := 2) sc_reachable.nd rfl (Or.inl rfl) (pe_lst pa_nil))
      (pss_cons (ps_expr (pe_callR (ok_visit T 60) (hr.mono (by decide)) rfl T.g_visit T.F_visit.kp pass0 (pa_cons (pv 0) (pa_cons (pv 1) (pa_cons (pv 2) (pa_cons pe_int pa_nil))))))
      (pss_one (ps_ret (pv 2))))), ?_⟩
    obtain ⟨h, l, as, c, n, rfl, hat, hn, hrf, hc, q⟩ := h
    refine ⟨Nat.zero_le _, fun p np => ?_⟩
    have nl : p ≠ l := (ne_of_none hat.lst np).symm
    have na : p ∉ as := fun z => by
      obtain ⟨i, h1⟩ := List.getElem?_of_mem z
      obtain ⟨_, _, xs, h2, _⟩ := paired_getV hat.rows h1
      rw [np] at h2
      cases h2
    refine ⟨_, rfl, _, rfl, _, rfl, h, l, as, c, p, [], n, 1, rfl, hat.same (.new np), upd_same, nl, na, hn, by simp, Nat.le_trans unv_le hc, hrf, hc, by simp, by simp, fun H1 o dd k hA hV => ?_⟩
    exact ⟨_, rfl, q H1 p o dd np (((Keep.new np).trans k).drop np) hA hV⟩
def N_copy_depth : List Str := ["heap", "box"]
theorem sc_copy_depth : FnScope N_copy_depth ["heap", "box"] (defScope s_copy_depth) := ⟨rfl, rfl, rfl, by decide +kernel, rfl, by decide +kernel, by decide +kernel⟩
theorem ok_copy_depth (T : Txt K mg) : FnR P w K mg base CX0 68 T.f_copy_depth (spDepth T.C) := by
  refine okR T.F_copy_depth sc_copy_depth (fun vs H Q E h => ?_) (T.F_copy_depth.binds fun _ _ _ _ _ _ us hl => match us, hl with | [_, _], _ => rfl) (fun cdv A outer s H vs Q E hr h => ?_)
  · obtain ⟨h, l, as, c, n, rfl, _⟩ := h
    rfl
  · refine ⟨_, (pss_cons (ps_expr (pe_methR (pv 0) T.cl T.m_need_box (ok_need_box T) (hr.mono (by decide)) pass0 (pa_cons (pv 1) pa_nil)))
      (pss_one (ps_ret (pe_callR (ok_visit T 60) (hr.mono (by decide)) rfl T.g_visit T.F_visit.kp pass0 (pa_cons (pv 0) (pa_cons (pv 1) (pa_cons (pe_lst pa_nil) (pa_cons pe_int pa_nil)))))))), ?_⟩
    obtain ⟨h, l, as, c, n, rfl, hat, hn, hrf, hc, q⟩ := h
    obtain ⟨dx, hi⟩ := hat.ins
    refine ⟨_, rfl, h, dx, _, rfl, hi, rfl, _, rfl, h, l, as, c, n, rfl, hat, hn, ?_⟩
    refine ⟨_, rfl, _, rfl, Nat.zero_le _, fun p np => ?_⟩
    have nl : p ≠ l := (ne_of_none hat.lst np).symm
    have na : p ∉ as := fun z => by
      obtain ⟨i, h1⟩ := List.getElem?_of_mem z
      obtain ⟨_, _, xs, h2, _⟩ := paired_getV hat.rows h1
      rw [np] at h2
      cases h2
    exact ⟨h, l, as, c, p, [], n, 1, rfl, hat.same (.new np), upd_same, nl, na, hn, by simp, Nat.le_trans unv_le hc, hrf, hc, by simp, by simp, fun H1 o dd k hA hV => q H1 o dd (((Keep.new np).trans k).drop np) hV⟩
end
end K49
namespace K49
open PySem PySem.Spec PyProof.Rows L2 Rg
/-! ### deep copies -/
def spDeep (C : Addr) : Sp := fun vs H Q _ => ∃ h l as c, ∃ n : Nat, vs = [.ref h, .int n] ∧ HeapAt C H h l as c ∧ n < c.length ∧ refs c ∧ okCont c ∧ (∀ o dd, Vis c n [] 1 o dd → c.length + o.length ≤ 60 ∧ total c + lens c o ≤ 300) ∧
  ∀ H' p ts as' o dd, Keep [l] H H' → Vis c n [] 1 o dd → HeapAt C H' h l as' (copyC c o) → (∀ a ∈ as', a ∈ as ∨ H a = none) → H p = none → p ≠ l → p ∉ as' → H' p = some (.lst (ts.map V.ref)) →
    Paired (fun t (q : Key × V) => H' t = some (.tup [kV q.1, q.2])) ts (numK c.length o) → Q (.ref p) H'
section
variable {P : Program} {w : World} {K : PySem.W.Frag} {mg : Str → Option Value} {base : Heap}
def N_deep_copy : List Str := ["heap", "box", "order", "one", "numbers", "item"]
theorem sc_deep_copy : FnScope N_deep_copy ["heap", "box"] (defScope s_deep_copy) := ⟨rfl, rfl, rfl, by decide +kernel, rfl, by decide +kernel, by decide +kernel⟩
theorem ok_deep_copy (T : Txt K mg) : FnR P w K mg base CX0 69 T.f_deep_copy (spDeep T.C) := by
  refine okR T.F_deep_copy sc_deep_copy (fun vs H Q E h => ?_) (T.F_deep_copy.binds fun _ _ _ _ _ _ us hl => match us, hl with | [_, _], _ => rfl) (fun cdv A outer s H vs Q E hr h => ?_)
  · obtain ⟨h, l, as, c, n, rfl, _⟩ := h
    rfl
  · refine ⟨_, (pss_cons (ps_expr (pe_methR (pv 0) T.cl T.m_need_box (ok_need_box T) (hr.mono (by decide)) pass0 (pa_cons (pv 1) pa_nil)))
      (pss_cons (ps_set (i := 2) sc_deep_copy.nd rfl (Or.inl rfl) (pe_callR (ok_reachable T) (hr.mono (by decide)) rfl T.g_reachable T.F_reachable.kp pass0 (pa_cons (pv 0) (pa_cons (pv 1) pa_nil))))
      (pss_cons (ps_expr (pe_methR (pv 0) T.cl T.m_need_room (ok_need_room T) (hr.mono (by decide)) pass0 (pa_cons (pe_callB call_len (by rfl) T.n_len (by decide +kernel) (pa_cons (pv 2) pa_nil)) (pa_cons (pe_callB (cr_sum rfl) (by rfl) T.n_sum (by decide +kernel) (pa_cons (pe_lc (own := [("one", 3)]) (g := (gName 3)) (tt := tYes) rfl sc_deep_copy.nd (pi_list (pv 2)) (blkOk_by (N := N_deep_copy) (sc := defScope s_deep_copy) (by decide +kernel)) (fun _ _ _ _ _ => (pg_name (i := 3) sc_deep_copy.nd rfl (Or.inl rfl))) (fun _ _ _ _ _ => pts_nil) (fun _ _ _ _ _ => (pe_callB (lenK (K := K)) (by rfl) T.n_len (by decide +kernel) (pa_cons (pe_methR (pv 0) T.cl T.m_look (ok_look T) (hr.mono (by decide)) pass0 (pa_cons (pv 3) pa_nil)) pa_nil)))) pa_nil)) pa_nil))))
      (pss_cons (ps_set (i := 4) sc_deep_copy.nd rfl (Or.inl rfl) pe_dnewK)
      (pss_cons (ps_for PassesOwn.never rfl (pi_list (pv 2)) (pg_name (i := 3) sc_deep_copy.nd rfl (Or.inl rfl))
      (pss_one (ps_dput (hu_of hr) (pv 4) (pv 3) (pe_methR0 (pv 0) T.cl T.m_new (ok_new T) (hr.mono (by decide)) pass0) rfl)))
      (pss_cons (ps_for PassesOwn.never rfl (pi_list (pv 2)) (pg_name (i := 3) sc_deep_copy.nd rfl (Or.inl rfl))
      (pss_one (ps_for PassesOwn.never rfl (pi_list (pe_methR (pv 0) T.cl T.m_look (ok_look T) (hr.mono (by decide)) pass0 (pa_cons (pv 3) pa_nil))) (pg_name (i := 5) sc_deep_copy.nd rfl (Or.inl rfl))
      (pss_one (ps_expr (pe_methR (pv 0) T.cl T.m_add_last (ok_add_last T) (hr.mono (by decide)) pass0 (pa_cons (pe_dget (hu_of hr) (pv 4) (pv 3) (fun _ _ => rfl)) (pa_cons (pe_ifExp (pt_val (pe_callR (ok_is_box T) (hr.mono (by decide)) rfl T.g_is_box T.F_is_box.kp pass0 (pa_cons (pv 5) pa_nil))) (pe_tup (pa_cons (pe_glob (v := .str "box") rfl T.g_BOX ⟨_, rfl⟩) (pa_cons (pe_dget (hu_of hr) (pv 4) (pe_ix ix_tup (pv 5) pe_int (fun _ _ => rfl)) (fun _ _ => rfl)) pa_nil))) (pv 5)) pa_nil))))))))
      (pss_one (ps_ret (LiI.pe_listItems rfl (pv 4) (by rfl) T.n_list (by decide +kernel)))))))))), ?_⟩
    obtain ⟨h, l, as, c, n, rfl, hat, hn, hrf, ⟨hc1, hc2, hc3⟩, hroom, q⟩ := h
    obtain ⟨dx, hi⟩ := hat.ins
    refine ⟨_, rfl, h, dx, _, rfl, hi, rfl, _, rfl, h, l, as, c, n, rfl, hat, hn, ?_⟩
    refine ⟨_, rfl, _, rfl, h, l, as, c, n, rfl, hat, hn, hrf, hc1, fun H1 p o dd np k1 hp hV => ?_⟩
    obtain ⟨hr1, hr2⟩ := hroom o dd hV
    have hnd := hV.nodup
    have hrg := hV.range
    have hcl := hV.closed
    have hat1 := hat.same k1
    have npl : p ≠ l := (ne_of_none hat.lst np).symm
    have npa : p ∉ as := hat.notIn np
    have nph : p ≠ h := (ne_of_none hi np).symm
    obtain ⟨dx, hi1⟩ := hat1.ins
    have hs : SqL K (hd [] H1) p (o.map iv) := .of (by rw [hd_out (by simp)]; exact hp)
    have rowAt : ∀ {i x : Nat}, o[i]? = some x → ∃ r, c[x]? = some r ∧ rowOf c x = r := fun {i x} e => by
      have hx := hrg x (List.mem_of_getElem? e)
      exact ⟨_, List.getElem?_eq_getElem hx, rowOf_of (List.getElem?_eq_getElem hx)⟩
    refine ⟨_, rfl, h, dx, _, rfl, hi1, rfl, _, rfl, _, o.length, rfl, .inl ⟨_, .of hp, by rw [List.length_map]⟩, _, rfl, p, rfl, ⟨_, .of hp⟩, fun D hD =>
      lc_it (M := []) (Jv := fun _ => True) (Rel := fun _ v (z : Int) => v = .int z) (Ok := fun i z => ∃ x, o[i]? = some x ∧ z = ((rowOf c x).length : Nat)) (n := (o.map iv).length) (Yx := fun i y H' => (o.map iv)[i]? = some y) hD (by simp) (fun _ _ _ _ => trivial) trivial
        (by rw [List.length_map]; omega) (it_list hs).1 (it_list hs).2.1 (fun i H1 y H2 h1 h2 h3 => let z := (it_list hs).2.2 i H1 y H2 h1 h2 h3; ⟨z.1, z.2.1, z.2.2.1⟩) (fun _ _ _ _ _ z => z) ?_ gName_mono ?_⟩
    · rintro i y H2 hi2 k2 _ hDn hy Qe hQ
      rw [List.getElem?_map] at hy
      cases ho : o[i]? with
      | none => rw [ho] at hy; cases hy
      | some x =>
        rw [ho] at hy
        cases hy
        obtain ⟨r, hr3, hr4⟩ := rowAt ho
        have hat2 := hat1.same k2
        obtain ⟨dx, hi2⟩ := hat2.ins
        refine ⟨rfl, _, rfl, h, dx, _, rfl, hi2, rfl, _, rfl, h, l, as, c, r, x, rfl, hat2, hr3, fun H3 t xs k3 nt ht hxs => ?_⟩
        refine ⟨_, _, rfl, .inl ⟨_, .of ht, rfl⟩, hQ _ _ _ k3.all trivial ⟨x, ho, rfl⟩ ?_⟩
        rw [hxs.length, hr4]
    · intro acc zs H2 k2 _ hA hP hL hO
      have ea := paired_eq hP
      have ez : zs = o.map fun x => (((rowOf c x).length : Nat) : Int) := by
        refine List.ext_getElem? fun i => ?_
        rw [List.getElem?_map]
        cases hb : zs[i]? with
        | none =>
          have h1 := List.getElem?_eq_none_iff.mp hb
          rw [hL, List.length_map] at h1
          rw [List.getElem?_eq_none h1]
          rfl
        | some b =>
          obtain ⟨x, hx, rfl⟩ := hO i b hb
          rw [hx]
          rfl
      refine ⟨D, zs, rfl, .of (by rw [hA, ea]), ?_⟩
      rw [ez, lens_sum]
      have hat2 := hat1.same k2
      have k12 := k1.trans k2
      refine ⟨h, l, as, c, o.length, lens c o, rfl, hat2, hr1, hr2, fun H3 k3 => ?_⟩
      have hat3 := hat2.same k3
      have k13 := k12.trans k3
      have hp3 := k3.same _ _ (k2.same _ _ hp)
      obtain ⟨dx, hi3⟩ := hat3.ins
      -- numbers = {}
      intro d nd
      have ndp : p ≠ d := ne_of_none hp3 nd
      have nd0 : H d = none := k13.free nd (by simp)
      refine ⟨_, rfl, p, rfl, ⟨o.map iv, .of (by rw [upd_ne ndp]; exact hp3)⟩, for_list (K := K) (a := p) (xs := o.map iv) (fun i σ H' => ∃ (v3 v5 : Option V) (as' : List Addr), σ = [some (.ref h), some (.int n), some (.ref p), v3, some (.ref d), v5] ∧ Keep [l] H H' ∧ H' p = some (.lst (o.map iv)) ∧
          H' d = some (.dK (numK c.length (o.take i))) ∧ HeapAt T.C H' h l as' (c ++ List.replicate i []) ∧ p ∉ as' ∧ (∀ i a, as.length ≤ i → as'[i]? = some a → H a = none) ∧ ∀ a ∈ as', a ∈ as ∨ H a = none)
        ⟨none, none, as, rfl, (k13.trans (.new nd)).all, by rw [upd_ne ndp]; exact hp3, upd_same, by simpa using hat3.same (.new nd), npa, fun i a hi2 e => absurd (List.getElem?_eq_some_iff.mp e).1 (by omega), fun a ha => .inl ha⟩ (fun i σ H' _ ⟨_, _, _, _, _, z, _⟩ => .of z) ?_ ?_⟩
      · rintro i y σ H4 hy ⟨v3, v5, as4, rfl, k4, hp4, hd4, hat4, npa4, hfr4, hsub4⟩
        rw [List.getElem?_map] at hy
        cases ho : o[i]? with
        | none => rw [ho] at hy; cases hy
        | some x =>
          rw [ho] at hy
          cases hy
          obtain ⟨hil, hie⟩ := List.getElem?_eq_some_iff.mp ho
          obtain ⟨dx, hi4⟩ := hat4.ins
          have hl4 : as4.length = c.length + i := by rw [hat4.len, List.length_append, List.length_replicate]
          have tot4 : total (c ++ List.replicate i []) = total c := by simp [total]
          have npl4 : d ≠ l := (ne_of hd4 hat4.lst (by intro q; cases q))
          have etk : o.take (i + 1) = o.take i ++ [x] := by rw [List.take_succ_eq_append_getElem hil, hie]
          refine ⟨_, rfl, h, dx, _, rfl, hi4, rfl, h, l, as4, _, [], [], rfl, hat4, .nil, by rw [List.length_append, List.length_replicate]; omega, by rw [tot4]; simp; exact hc2, by simp, fun H5 a na k5 hat5 => ?_⟩
          have hd5 : H5 d = some (.dK (numK c.length (o.take i))) := k5.at (fun z => npl4 (List.mem_singleton.mp z)) hd4
          have hp5 : H5 p = some (.lst (o.map iv)) := k5.at (fun z => npl (List.mem_singleton.mp z)) hp4
          refine ⟨_, rfl, _, rfl, d, _, rfl, DPut.k (k := Sum.inl (x : Int)) hd5 (small_of (by rw [numK_len, List.length_take]; omega)), ?_⟩
          have k6 : Keep [d] H5 (upd H5 d (.dK (putK (numK c.length (o.take i)) (Sum.inl (x : Int)) (.int ((c ++ List.replicate i ([] : List Im)).length : Nat))))) := .put (by simp) hd5 rfl
          have nx : x ∉ o.take i := fun z => by
            rw [← List.take_append_drop i o] at hnd
            have h2 : x ∈ o.drop i := by rw [← hie]; exact List.mem_of_getElem? (i := 0) (by simp [hil])
            exact (List.nodup_append.mp hnd).2.2 x z x h2 rfl
          have ek : putK (numK c.length (o.take i)) (Sum.inl (x : Int) : Key) (.int ((c ++ List.replicate i ([] : List Im)).length : Nat)) = numK c.length (o.take (i + 1)) := by
            rw [putK_new _ (numK_none _ _ nx), etk, numK_snoc, List.length_append, List.length_replicate, List.length_take, Nat.min_eq_left (by omega)]
          have naH : H a = none := k4.free na (fun z => by rw [List.mem_singleton.mp z] at na; rw [hat4.lst] at na; cases na)
          refine ⟨some (.int x), v5, as4 ++ [a], rfl, ?_, ?_, ?_, ?_, ?_, ?_⟩
          · exact Keep.also (k4.trans k5) k6 nd0
          · rw [upd_ne ndp]; exact hp5
          · rw [upd_same, ek]
          · have z := hat5.keepL k6 npl4 (fun z => by
              obtain ⟨j, h1⟩ := List.getElem?_of_mem z
              obtain ⟨_, _, xs, h2, _⟩ := paired_getV hat5.rows h1
              rw [hd5] at h2
              cases h2) (fun z => by
              obtain ⟨dx, hi5⟩ := hat5.ins
              rw [← z, hd5] at hi5
              cases hi5)
            rw [List.replicate_succ', ← List.append_assoc]
            exact z
          · intro z
            rcases List.mem_append.mp z with z | z
            · exact npa4 z
            · rw [List.mem_singleton.mp z, na] at hp4
              cases hp4
          · refine ⟨fun j b hj hb => ?_, fun b hb => ?_⟩
            · rw [List.getElem?_append] at hb
              split at hb
              · exact hfr4 j b hj hb
              · have e := List.mem_of_getElem? hb
                rw [List.mem_singleton.mp e]
                exact naH
            · rcases List.mem_append.mp hb with hb | hb
              · exact hsub4 b hb
              · rw [List.mem_singleton.mp hb]
                exact .inr naH
      · rintro σ H4 ⟨v3, v5, as4, rfl, k4, hp4, hd4, hat4, npa4, hfr4, hsub4⟩
        rw [List.length_map, List.take_length] at hd4
        have nda4 : d ∉ as4 := fun z => by
          obtain ⟨j, h1⟩ := List.getElem?_of_mem z
          obtain ⟨_, _, xs, h2, _⟩ := paired_getV hat4.rows h1
          rw [hd4] at h2
          cases h2
        rw [List.length_map] at hat4
        refine ⟨_, rfl, p, rfl, ⟨o.map iv, .of hp4⟩, for_list (K := K) (a := p) (xs := o.map iv) (fun i σ H' => ∃ (v3 v5 : Option V) (cur : Cont), σ = [some (.ref h), some (.int n), some (.ref p), v3, some (.ref d), v5] ∧ Keep [l] H H' ∧ H' p = some (.lst (o.map iv)) ∧
            H' d = some (.dK (numK c.length o)) ∧ HeapAt T.C H' h l as4 cur ∧ Part c o i 0 [] cur)
          ⟨v3, v5, _, rfl, k4, hp4, hd4, hat4, Part.start⟩ (fun i σ H' _ ⟨_, _, _, _, _, z, _⟩ => .of z) ?_ ?_⟩
        · rintro i y σ H5 hy ⟨v3, v5, cur, rfl, k5, hp5, hd5, hat5, hpt⟩
          rw [List.getElem?_map] at hy
          cases ho : o[i]? with
          | none => rw [ho] at hy; cases hy
          | some x =>
            rw [ho] at hy
            cases hy
            obtain ⟨hil, hie⟩ := List.getElem?_eq_some_iff.mp ho
            obtain ⟨row, hrow, hro⟩ := rowAt ho
            have hx := hrg x (List.mem_of_getElem? ho)
            have hcx : cur[x]? = some row := by rw [hpt.old x hx]; exact hrow
            obtain ⟨dx, hi5⟩ := hat5.ins
            refine ⟨_, rfl, h, dx, _, rfl, hi5, rfl, _, rfl, h, l, as4, cur, row, x, rfl, hat5, hcx, fun H6 t xs k6 nt ht hxs => ?_⟩
            have ntp : t ≠ p := fun z => by rw [z, hp5] at nt; cases nt
            have ntd : t ≠ d := fun z => by rw [z, hd5] at nt; cases nt
            have nta : t ∉ as4 := hat5.notIn nt
            refine ⟨t, rfl, ⟨xs, .of ht⟩, for_list (K := K) (a := t) (xs := xs) (fun j σ H' => ∃ (v5 : Option V) (cur : Cont), σ = [some (.ref h), some (.int n), some (.ref p), some (.int x), some (.ref d), v5] ∧ Keep [l] H H' ∧ H' p = some (.lst (o.map iv)) ∧
                H' d = some (.dK (numK c.length o)) ∧ HeapAt T.C H' h l as4 cur ∧ Part c o i j row cur ∧ H' t = some (.lst xs) ∧ ImsV H' xs row)
              ⟨v5, cur, rfl, k5.trans k6.all, k6.same _ _ hp5, k6.same _ _ hd5, hat5.same k6, hpt.row, ht, hxs⟩ (fun j σ H' _ ⟨_, _, _, _, _, _, _, _, z, _⟩ => .of z) ?_ ?_⟩
            · rintro j y σ H7 hy ⟨v5, cur, rfl, k7, hp7, hd7, hat7, hpt7, ht7, hxs7⟩
              obtain ⟨z, hz, hv⟩ := paired_getV hxs7 hy
              obtain ⟨dx, hi7⟩ := hat7.ins
              have hg : DGet H7 d (V.int x) (some (.int ((c.length + i : Nat)))) := by
                have z := DGet.k (k := Sum.inl (x : Int)) hd7
                rw [numK_some o c.length i hnd ho] at z
                exact z
              have hli : c.length + i < as4.length := by rw [hat7.len, hpt7.len]; omega
              obtain ⟨a, ha⟩ : ∃ a, as4[c.length + i]? = some a := ⟨_, List.getElem?_eq_getElem hli⟩
              have naH := hfr4 (c.length + i) a (by rw [hat.len]; omega) ha
              have nap : a ≠ p := fun z => npa4 (by rw [← z]; exact List.mem_of_getElem? ha)
              have nad : a ≠ d := fun z => nda4 (by rw [← z]; exact List.mem_of_getElem? ha)
              have nat : a ≠ t := fun z => nta (by rw [← z]; exact List.mem_of_getElem? ha)
              have hoz := hc3 row (List.mem_of_getElem? hrow) z (List.mem_of_getElem? hz)
              have hj := (List.getElem?_eq_some_iff.mp hz).1
              have hlt := lens_take c ho
              rw [hro] at hlt
              -- what adding the new item brings
              have fin : ∀ (H8 : Hp) (v : V), Keep [] H7 H8 → ImV H8 v (rnm c.length o z) → okIm (cur.length : Int) (rnm c.length o z) = true → spAddLast T.C [.ref h, .int ((c.length + i : Nat)), v] H8 (fun _ H' => ∃ (v5 : Option V) (cur : Cont), [some (V.ref h), some (.int n), some (.ref p), some (.int x), some (.ref d), some y] = [some (V.ref h), some (.int n), some (.ref p), some (.int x), some (.ref d), v5] ∧ Keep [l] H H' ∧ H' p = some (.lst (o.map iv)) ∧
                  H' d = some (.dK (numK c.length o)) ∧ HeapAt T.C H' h l as4 cur ∧ Part c o i (j + 1) row cur ∧ H' t = some (.lst xs) ∧ ImsV H' xs row) E0 := fun H8 v k8 hv8 ho8 => by
                refine ⟨h, l, as4, cur, _, v, _, a, c.length + i, rfl, hat7.same k8, hpt7.here hil, ha, hv8, ho8, by rw [hpt7.len]; omega, by rw [hpt7.tot]; omega, fun H9 k9 hat9 => ?_⟩
                have nn : ∀ {b : Addr}, a ≠ b → b ∉ [a] := fun hb z => hb (List.mem_singleton.mp z).symm
                exact ⟨some y, _, rfl, Keep.also (k7.trans k8.all) k9 naH, k9.at (nn nap) (k8.same _ _ hp7), k9.at (nn nad) (k8.same _ _ hd7), hat9, hpt7.step hil hz, k9.at (nn nat) (k8.same _ _ ht7), (hxs7.keep k8).keep k9⟩
              refine ⟨_, rfl, h, dx, _, rfl, hi7, rfl, _, rfl, _, rfl, d, _, rfl, hg, _, rfl, y, z, rfl, hv, ?_⟩
              cases z with
              | i n1 => exact ⟨_, rfl, iteF ⟨_, rfl, fin H7 y .refl hv rfl⟩⟩
              | s w1 => exact ⟨_, rfl, iteF ⟨_, rfl, fin H7 y .refl hv hoz⟩⟩
              | b n1 =>
                have hn1 : n1 ∈ o := hcl x (List.mem_of_getElem? ho) row hrow n1 (List.mem_of_getElem? hz)
                obtain ⟨b, rfl, hb⟩ := hv
                have hg1 : DGet H7 d (V.int n1) (some (.int ((c.length + o.idxOf n1 : Nat)))) := by
                  have z := DGet.k (k := Sum.inl (n1 : Int)) hd7
                  rw [numK_idx hnd hn1] at z
                  exact z
                refine ⟨_, rfl, iteT ⟨_, rfl, _, rfl, _, _, _, _, rfl, rfl, .of hb, rfl, d, _, rfl, hg1, (show 2 ≤ sizeLine by decide), fun u nu => ?_⟩⟩
                refine fin _ (.ref u) (.new nu) ⟨u, rfl, upd_same⟩ ?_
                have hidx := List.idxOf_lt_length_of_mem hn1
                show (decide ((0 : Int) ≤ ((c.length + o.idxOf n1 : Nat) : Int)) && decide (((c.length + o.idxOf n1 : Nat) : Int) ≤ (cur.length : Int) - 1)) = true
                rw [hpt7.len]
                simp only [Bool.and_eq_true, decide_eq_true_eq]
                omega
            · rintro σ H7 ⟨v5, cur, rfl, k7, hp7, hd7, hat7, hpt7, ht7, hxs7⟩
              rw [hxs7.length] at hpt7
              exact ⟨_, _, cur, rfl, k7, hp7, hd7, hat7, hpt7.next ho hro⟩
        · rintro σ H5 ⟨v3, v5, cur, rfl, k5, hp5, hd5, hat5, hpt⟩
          rw [List.length_map] at hpt
          have ecur := hpt.fin
          rw [ecur] at hat5
          refine ⟨_, rfl, d, _, rfl, hd5, fun H6 u ts k6 nu nts nuts hu hts => ?_⟩
          have k6' : Keep [] H5 H6 := .of k6
          exact q H6 u ts as4 o dd (k5.trans k6'.all) hV (hat5.same k6') hsub4 (k5.free nu (fun z => by rw [List.mem_singleton.mp z, hat5.lst] at nu; cases nu)) (fun z => by rw [z, hat5.lst] at nu; cases nu) (hat5.notIn nu) hu hts
end
end K49
namespace K49
open PySem PySem.Spec PyProof.Rows L2 Rg
/-! ### the law's draws -/
def BagAt (H : Hp) (b : Addr) : Prop := ∃ x y : Int, H b = some (.lst [.int x, .int y])
theorem BagAt.same {H H' : Hp} {b : Addr} (k : Keep [] H H') : BagAt H b → BagAt H' b := fun ⟨x, y, h⟩ => ⟨x, y, k.same _ _ h⟩
theorem BagAt.keep {H H' : Hp} {b : Addr} {S : List Addr} (k : Keep S H H') (n : b ∉ S) : BagAt H b → BagAt H' b := fun ⟨x, y, h⟩ => ⟨x, y, k.at n h⟩
def spBag (K : PySem.W.Frag) : Sp := fun vs H Q _ => ∃ (a : Addr) (ns : List Int) (k : Nat), vs = [.ref a, .int k] ∧ SqL K H a (ns.map V.int) ∧ k ≤ 100 ∧ ∀ H' b, H b = none → Keep [] H H' → BagAt H' b → Q (.ref b) H'
def spTake : Sp := fun vs H Q _ => ∃ b, ∃ n : Nat, vs = [.ref b, .int n] ∧ 0 < n ∧ n < 1000000 ∧ BagAt H b ∧ ∀ (r : Nat) H', r < n → Keep [b] H H' → BagAt H' b → Q (.int r) H'
def prs : List Int := [2147483647, 2147483629, 2147483587, 2147483579, 2147483563, 2147483549, 2147483543]
theorem prs_at {j : Nat} (h : j < 7) : ∃ p : Int, atI (prs.map V.int) (j : Int) = some (.int p) ∧ 0 < p ∧ p < 4294967296 := by
  have z : ∀ j, j < 7 → ∃ p : Int, (prs.map V.int)[j]? = some (.int p) ∧ 0 < p ∧ p < 4294967296 := by
    intro j hj
    have hl : j < prs.length := hj
    refine ⟨prs[j], by rw [List.getElem?_map, List.getElem?_eq_getElem hl]; rfl, ?_⟩
    have a : ∀ p ∈ prs, 0 < p ∧ p < 4294967296 := by decide
    exact a _ (List.getElem_mem hl)
  obtain ⟨p, h1, h2⟩ := z j h
  exact ⟨p, atI_nat h1, h2⟩
theorem fmod_in (z : Int) {p : Int} (h : 0 < p) : ∃ r : Nat, z.fmod p = (r : Int) ∧ (r : Int) < p :=
  ⟨(z.fmod p).toNat, (Int.toNat_of_nonneg (Int.fmod_nonneg_of_pos z h)).symm, by rw [Int.toNat_of_nonneg (Int.fmod_nonneg_of_pos z h)]; exact Int.fmod_lt_of_pos z h⟩
section
variable {P : Program} {w : World} {K : PySem.W.Frag} {mg : Str → Option Value} {base : Heap}
theorem cell_if {σ : L2.St} {H : Hp} {Q : VK} {a : Addr} {k : Nat} {ns : List Int} {b : Bool} (h0 : σ[0]? = some (some (.ref a))) (h1 : σ[1]? = some (some (.int k))) (hs : SqL K H a (ns.map V.int)) (hb : b = true → k < ns.length) (hq : ∀ x : Int, Q (.int x) H) :
    if b = true then tOp (rIxL K) (tVar 0) (tVar 1) σ H Q else tC (.int 0) σ H Q := by
  cases b with
  | false => exact iteF (hq 0)
  | true =>
    refine iteT ⟨_, h0, _, h1, _, _, _, .int (ns[k]'(hb rfl)), rfl, rfl, hs, atI_nat ?_, hq _⟩
    rw [List.getElem?_map, List.getElem?_eq_getElem (hb rfl)]
    rfl
theorem pow162 : CPow 16 2 := ⟨by decide, by decide, by decide⟩
def N_l_take : List Str := ["_law_bag_here", "_law_size", "_law_digit"]
theorem sc_l_take : FnScope N_l_take ["_law_bag_here", "_law_size"] (defScope s_l_take) := ⟨rfl, rfl, rfl, by decide +kernel, rfl, by decide +kernel, by decide +kernel⟩
theorem ok_l_take (T : Txt K mg) : FnR P w K mg base CX0 1 T.f_l_take spTake := by
  refine okR T.F_l_take sc_l_take (fun vs H Q E h => ?_) (T.F_l_take.binds fun _ _ _ _ _ _ us hl => match us, hl with | [_, _], _ => rfl) (fun cdv A outer s H vs Q E hr h => ?_)
  · obtain ⟨b, n, rfl, _⟩ := h
    rfl
  · refine ⟨_, (pss_cons (ps_if (pt_cmpR op_gt (pe_ix ix_list (pv 0) pe_int (fun _ _ => rfl)) pe_int (nomark _)) (pss_cons (ps_set (i := 2) sc_l_take.nd rfl (Or.inl rfl) (pe_op op_modN (pe_ix ix_list (pv 0) pe_int (fun _ _ => rfl)) (pv 1)))
      (pss_cons (ps_asg (pe_op op_fdivN (pe_ix ix_list (pv 0) pe_int (fun _ _ => rfl)) (pv 1)) (pg_sub (pv 0) pe_int set_list))
      (pss_one (ps_ret (pv 2))))) pss_nil)
      (pss_cons (ps_asg (pe_op op_modN (pe_op op_mul (pe_ix ix_list (pv 0) pe_int (fun _ _ => rfl)) pe_int) pe_int) (pg_sub (pv 0) pe_int set_list))
      (pss_one (ps_ret (pe_op op_modN (pe_op op_fdivN (pe_op op_modN (pe_op op_mul (pe_ix ix_list (pv 0) pe_int (fun _ _ => rfl)) pe_int) pe_int) (pe_op op_pow pe_int pe_int)) (pv 1)))))), ?_⟩
    obtain ⟨b, n, rfl, hn, hn2, ⟨x, y, hb⟩, q⟩ := h
    have hnz : (n : Int) ≠ 0 := by omega
    have e0 : ∀ x y : Int, atI [V.int x, V.int y] 0 = some (.int x) := fun _ _ => rfl
    have e1 : ∀ x y : Int, atI [V.int x, V.int y] 1 = some (.int y) := fun _ _ => rfl
    refine ⟨_, rfl, _, _, _, _, rfl, rfl, .of hb, e0 _ _, _, _, rfl, rfl, _, rfl, ?_⟩
    cases hx : decide (x > 0) with
    | true =>
      refine iteT ⟨_, rfl, _, _, _, _, rfl, rfl, .of hb, e0 _ _, _, rfl, _, _, rfl, rfl, hnz, ?_⟩
      refine ⟨_, rfl, _, _, _, _, rfl, rfl, .of hb, e0 _ _, _, rfl, _, _, rfl, rfl, ⟨hnz, by omega⟩, _, rfl, b, _, 0, 0, rfl, rfl, hb, rfl, _, rfl, ?_⟩
      obtain ⟨r, er, hr2⟩ := fmod_in x (p := n) (by omega)
      show Q (V.int (x.fmod n)) _
      rw [er]
      exact q r _ (by omega) (.put (by simp) hb rfl) ⟨_, _, upd_same⟩
    | false =>
      refine iteF ?_
      refine ⟨_, rfl, _, _, _, _, rfl, rfl, .of hb, e1 _ _, _, _, rfl, rfl, .inr (by decide), _, _, rfl, rfl, (show (2147483647 : Int) ≠ 0 by decide), _, rfl, b, _, 1, 1, rfl, rfl, hb, rfl, ?_⟩
      refine ⟨_, rfl, _, _, _, _, rfl, rfl, .of upd_same, e1 _ _, _, _, rfl, rfl, .inr (by decide), _, _, rfl, rfl, (show (2147483629 : Int) ≠ 0 by decide), _, _, rfl, rfl, pow162, _, _, rfl, rfl, (show CDivN _ (16 ^ (2 : Int).toNat) from ⟨by decide, by decide⟩), _, rfl, _, _, rfl, rfl, hnz, ?_⟩
      obtain ⟨r, er, hr2⟩ := fmod_in (((y * 48271).fmod 2147483647 * 69621).fmod 2147483629 |>.fdiv (16 ^ (2 : Int).toNat)) (p := n) (by omega)
      show Q (V.int ((((y * 48271).fmod 2147483647 * 69621).fmod 2147483629 |>.fdiv (16 ^ (2 : Int).toNat)).fmod n)) _
      rw [er]
      exact q r _ (by omega) (.put (by simp) hb rfl) ⟨_, _, upd_same⟩
theorem abs_if {σ : L2.St} {H : Hp} {Q : VK} {x : Int} {b : Bool} (h1 : σ[3]? = some (some (.int x))) (hq : ∀ x : Int, Q (.int x) H) :
    if b = true then tCB (fun xs H Q => ∃ i, xs = [.int i] ∧ Q (.int (if i < 0 then -i else i)) H) (tCons (tVar 3) tNil) σ H Q else tC (.int 0) σ H Q := by
  cases b with
  | false => exact iteF (hq 0)
  | true => exact iteT ⟨_, h1, _, rfl, hq _⟩
theorem mod7 {k : Nat} : (k : Int).fmod 7 = ((k % 7 : Nat) : Int) := by
  rw [Int.fmod_eq_emod_of_nonneg _ (by omega)]
  omega
def N_l_bag : List Str := ["_law_script", "_law_at", "_law_primes", "_law_cell", "_law_large", "_law_mixed"]
theorem sc_l_bag : FnScope N_l_bag ["_law_script", "_law_at"] (defScope s_l_bag) := ⟨rfl, rfl, rfl, by decide +kernel, rfl, by decide +kernel, by decide +kernel⟩
theorem ok_l_bag (T : Txt K mg) : FnR P w K mg base CX0 1 T.f_l_bag (spBag K) := by
  refine okR T.F_l_bag sc_l_bag (fun vs H Q E h => ?_) (T.F_l_bag.binds fun _ _ _ _ _ _ us hl => match us, hl with | [_, _], _ => rfl) (fun cdv A outer s H vs Q E hr h => ?_)
  · obtain ⟨a, ns, k, rfl, _⟩ := h
    rfl
  · refine ⟨_, (pss_cons (ps_set (i := 2) sc_l_bag.nd rfl (Or.inl rfl) (pe_tup (pa_cons pe_int (pa_cons pe_int (pa_cons pe_int (pa_cons pe_int (pa_cons pe_int (pa_cons pe_int (pa_cons pe_int pa_nil)))))))))
      (pss_cons (ps_set (i := 3) sc_l_bag.nd rfl (Or.inl rfl) (pe_ifExp (pt_cmpR op_lt (pv 1) (pe_callB call_len (by rfl) T.n_len (by decide +kernel) (pa_cons (pv 0) pa_nil)) (nomark _)) (pe_ix ix_list (pv 0) (pv 1) (fun _ _ => rfl)) pe_int))
      (pss_cons (ps_set (i := 4) sc_l_bag.nd rfl (Or.inl rfl) (pe_ifExp (pt_cmpR op_ge (pe_callB call_abs (by rfl) T.n_abs (by decide +kernel) (pa_cons (pv 3) pa_nil)) (pe_op op_pow pe_int pe_int) (nomark _)) (pe_callB call_abs (by rfl) T.n_abs (by decide +kernel) (pa_cons (pv 3) pa_nil)) pe_int))
      (pss_cons (ps_set (i := 5) sc_l_bag.nd rfl (Or.inl rfl) (pe_op op_modN (pe_op op_pow (pe_op op_add (pe_op op_add (pe_op op_modN (pv 3) pe_int) (pe_op op_mul pe_int (pv 1))) pe_int) pe_int) (pe_ix ix_tup (pv 2) (pe_op op_modN (pv 1) pe_int) (fun _ _ => rfl))))
      (pss_one (ps_ret (pe_lst (pa_cons (pv 4) (pa_cons (pe_op op_add (pe_op op_modN (pe_op op_mul (pv 5) (pe_op op_add (pe_op op_add (pe_op op_fdivN (pv 5) pe_int) (pe_op op_mul pe_int (pv 1))) pe_int)) (pe_ix ix_tup (pv 2) (pe_op op_modN (pe_op op_add (pv 1) pe_int) pe_int) (fun _ _ => rfl))) pe_int) pa_nil))))))))), ?_⟩
    obtain ⟨a, ns, k, rfl, hs, hk, q⟩ := h
    refine ⟨(show 7 ≤ sizeLine by decide), fun t nt => ?_⟩
    have k1 : Keep [] H (upd H t (.tup (prs.map V.int))) := .new nt
    have hs1 : SqL K (upd H t (.tup (prs.map V.int))) a (ns.map V.int) := sqL_same k1.same hs
    have ht : SqT K (upd H t (.tup (prs.map V.int))) t (prs.map V.int) := .of upd_same
    refine ⟨_, rfl, _, rfl, _, _, rfl, .inl ⟨_, hs1, rfl⟩, _, _, rfl, rfl, _, rfl, cell_if (k := k) rfl rfl hs1 (fun e => ?_) fun x => ?_⟩
    · have e := of_decide_eq_true e
      rw [List.length_map] at e
      omega
    · refine ⟨_, rfl, x, rfl, _, _, rfl, rfl, (show CPow 10 18 from ⟨by decide, by decide, by decide⟩), _, _, rfl, rfl, _, rfl, abs_if (x := x) rfl fun g => ?_⟩
      obtain ⟨r, er, hr1⟩ := fmod_in x (p := 2305843009213693951) (by decide)
      obtain ⟨p, hp1, hp2, hp3⟩ := prs_at (j := k % 7) (Nat.mod_lt _ (by decide))
      obtain ⟨p2, hp4, hp5, hp6⟩ := prs_at (j := (k + 2) % 7) (Nat.mod_lt _ (by decide))
      have n7 : (7 : Int) ≠ 0 := by decide
      have hpw : CPow (x.fmod 2305843009213693951 + 40961 * (k : Int) + 19) 3 := ⟨by decide, by decide, by rw [er]; omega⟩
      refine ⟨_, rfl, _, _, rfl, rfl, (show (2305843009213693951 : Int) ≠ 0 by decide), _, rfl, _, _, rfl, rfl, .inl (by decide), _, _, rfl, rfl, _, _, rfl, rfl, _, _, rfl, rfl, hpw, _, rfl, _, rfl, _, _, rfl, rfl, n7,
        t, _, _, _, rfl, rfl, ht, by rw [mod7]; exact hp1, _, _, rfl, rfl, (show p ≠ 0 by omega), ?_⟩
      obtain ⟨m, em, hm1⟩ := fmod_in ((x.fmod 2305843009213693951 + 40961 * (k : Int) + 19) ^ (3 : Int).toNat) (p := p) hp2
      have hml : CMul (((x.fmod 2305843009213693951 + 40961 * (k : Int) + 19) ^ (3 : Int).toNat).fmod p) ((((x.fmod 2305843009213693951 + 40961 * (k : Int) + 19) ^ (3 : Int).toNat).fmod p).fdiv 5 + 3 * (k : Int) + 11) := .inl (by rw [em]; omega)
      refine ⟨_, rfl, _, rfl, _, rfl, _, _, rfl, rfl, (show CDivN _ 5 from ⟨by decide, by decide⟩), _, rfl, _, _, rfl, rfl, .inl (by decide), _, _, rfl, rfl, _, _, rfl, rfl, _, _, rfl, rfl, hml, _, rfl, _, rfl, _, _, rfl, rfl, _, _, rfl, rfl, n7,
        t, _, _, _, rfl, rfl, ht, by rw [show (k : Int) + 2 = ((k + 2 : Nat) : Int) from rfl, mod7]; exact hp4, _, _, rfl, rfl, (show p2 ≠ 0 by omega), _, _, rfl, rfl, (show 2 ≤ sizeLine by decide), fun b nb => ?_⟩
      exact q _ b (k1.free nb (by simp)) (k1.trans (.new nb)) ⟨_, _, upd_same⟩
end
end K49
namespace K49
open PySem PySem.Spec PyProof.Rows L2 Rg
/-! ### the law's contents -/
def LeafOk (x : Im) : Prop := (∀ n, okIm n x = true) ∧ fineIm x
def spLeafL : Sp := fun vs H Q _ => ∃ b, vs = [.ref b] ∧ BagAt H b ∧ ∀ v x H', Keep [b] H H' → BagAt H' b → ImV H' v x → LeafOk x → Q v H'
def RowOk (n m : Nat) (r : List Im) : Prop := r.length ≤ m ∧ ∀ x ∈ r, okIm (n : Int) x = true ∧ fineIm x
def spContents : Sp := fun vs H Q _ => ∃ b, ∃ n m : Nat, vs = [.ref b, .int n, .int m] ∧ 0 < n ∧ n ≤ 100 ∧ m ≤ 100 ∧ BagAt H b ∧ ∀ v c H', Keep [b] H H' → BagAt H' b → ContF H H' v c → c.length = n → (∀ r ∈ c, RowOk n m r) → Q v H'
def leaves (i : Int) : List Im := [.i 0, .i 1, .i (-1), .i 7, .i i, .i (10 ^ (39 : Int).toNat), .i (-(10 ^ (39 : Int).toNat)), .s "", .s "a", .s "b", .s "abcdefgh", .s "box"]
theorem leaf_s {x : Str} (h : wordB x = true) (h2 : x.length ≤ 8 ∧ ∀ c ∈ x.cps.toList, c < 1000) : LeafOk (.s x) := ⟨fun _ => h, h2⟩
theorem leaf_i {x : Int} (h : x.natAbs < 10 ^ 40) : LeafOk (.i x) := ⟨fun _ => rfl, h⟩
theorem leaves_ok {i : Int} (h : i.natAbs < 1000) : ∀ x ∈ leaves i, LeafOk x := by
  intro x hx
  simp only [leaves, List.mem_cons, List.not_mem_nil, or_false] at hx
  rcases hx with rfl | rfl | rfl | rfl | rfl | rfl | rfl | rfl | rfl | rfl | rfl | rfl
  · exact leaf_i (by decide)
  · exact leaf_i (by decide)
  · exact leaf_i (by decide)
  · exact leaf_i (by decide)
  · exact leaf_i (by omega)
  · exact leaf_i (by decide)
  · exact leaf_i (by decide)
  · exact leaf_s (by decide +kernel) (by decide +kernel)
  · exact leaf_s (by decide +kernel) (by decide +kernel)
  · exact leaf_s (by decide +kernel) (by decide +kernel)
  · exact leaf_s (by decide +kernel) (by decide +kernel)
  · exact leaf_s (by decide +kernel) (by decide +kernel)
def Im.v : Im → V
  | .i n => .int n
  | .s x => .str x
  | .b _ => .non
theorem imV_leaf {H : Hp} {x : Im} (h : ∀ n, x ≠ .b n) : ImV H (Im.v x) x := by
  cases x with
  | i n => rfl
  | s x => rfl
  | b n => exact absurd rfl (h n)
theorem ite2 {b : Bool} {A B : Prop} (h1 : b = true → A) (h2 : b = false → B) : if b = true then A else B := by
  cases b with
  | true => exact iteT (h1 rfl)
  | false => exact iteF (h2 rfl)
/-- what the contents are while they are made -/
structure CInv (H : Hp) (b p : Addr) (n m : Nat) (H' : Hp) (as : List Addr) (c : Cont) : Prop where
  kp : Keep [b] H H'
  bag : BagAt H' b
  lst : H' p = some (.lst (as.map V.ref))
  np : p ∉ as
  rows : Paired (fun a r => H a = none ∧ ∃ xs, H' a = some (.lst xs) ∧ ImsV H' xs r) as c
  ok : ∀ r ∈ c, RowOk n m r
theorem CInv.notB {H H' : Hp} {b p : Addr} {n m : Nat} {as : List Addr} {c : Cont} (z : CInv H b p n m H' as c) (hb : H b ≠ none) : b ∉ as := fun h => by
  obtain ⟨i, h1⟩ := List.getElem?_of_mem h
  obtain ⟨_, _, h2, _⟩ := paired_getV z.rows h1
  exact hb h2
theorem CInv.step {H H' H2 : Hp} {b p : Addr} {n m : Nat} {as : List Addr} {c : Cont} (z : CInv H b p n m H' as c) (hb : H b ≠ none) (hp : H p = none) (k : Keep [b] H' H2) (g : BagAt H2 b) : CInv H b p n m H2 as c :=
  ⟨z.kp.trans k, g, k.at (fun e => hb (by rw [← List.mem_singleton.mp e]; exact hp)) z.lst, z.np, paired_mem z.rows fun i a r h1 _ ⟨h2, xs, h3, h4⟩ => ⟨h2, xs, k.at (fun e => hb (by rw [← List.mem_singleton.mp e]; exact h2)) h3, h4.keep k⟩, z.ok⟩
theorem CInv.put {H H' H2 : Hp} {b p t : Addr} {n m : Nat} {as : List Addr} {c : Cont} (z : CInv H b p n m H' as c) (ht : H t = none) (hb : H b ≠ none) (htp : t ≠ p) (hta : t ∉ as) (k : Keep [t] H' H2) : CInv H b p n m H2 as c :=
  ⟨z.kp.also k ht, z.bag.keep k (fun e => hb (by rw [List.mem_singleton.mp e]; exact ht)), k.at (fun e => htp (List.mem_singleton.mp e).symm) z.lst, z.np, paired_mem z.rows fun i a r h1 _ ⟨h2, xs, h3, h4⟩ => ⟨h2, xs, k.at (fun e => hta (by rw [← List.mem_singleton.mp e]; exact List.mem_of_getElem? h1)) h3, h4.keep k⟩, z.ok⟩
theorem CInv.new {H H' H2 : Hp} {b p : Addr} {n m : Nat} {as : List Addr} {c : Cont} (z : CInv H b p n m H' as c) (k : Keep [] H' H2) : CInv H b p n m H2 as c :=
  ⟨z.kp.trans k.all, z.bag.same k, k.same _ _ z.lst, z.np, paired_mem z.rows fun i a r h1 _ ⟨h2, xs, h3, h4⟩ => ⟨h2, xs, k.same _ _ h3, h4.keep k⟩, z.ok⟩
section
variable {P : Program} {w : World} {K : PySem.W.Frag} {mg : Str → Option Value} {base : Heap}
def N_l_leaf : List Str := ["_law_bag_here", "_law_some"]
theorem sc_l_leaf : FnScope N_l_leaf ["_law_bag_here"] (defScope s_l_leaf) := ⟨rfl, rfl, rfl, by decide +kernel, rfl, by decide +kernel, by decide +kernel⟩
theorem ok_l_leaf (T : Txt K mg) : FnR P w K mg base CX0 2 T.f_l_leaf spLeafL := by
  refine okR T.F_l_leaf sc_l_leaf (fun vs H Q E h => ?_) (T.F_l_leaf.binds fun _ _ _ _ _ _ us hl => match us, hl with | [_], _ => rfl) (fun cdv A outer s H vs Q E hr h => ?_)
  · obtain ⟨b, rfl, _⟩ := h
    rfl
  · refine ⟨_, (pss_cons (ps_set (i := 1) sc_l_leaf.nd rfl (Or.inl rfl) (pe_lst (pa_cons pe_int (pa_cons pe_int (pa_cons (pe_un un_neg pe_int) (pa_cons pe_int (pa_cons (pe_op op_sub (pe_callR (ok_l_take T) (hr.mono (by decide)) rfl T.g_l_take T.F_l_take.kp pass0 (pa_cons (pv 0) (pa_cons pe_int pa_nil))) pe_int) (pa_cons (pe_op op_pow pe_int pe_int) (pa_cons (pe_un un_neg (pe_op op_pow pe_int pe_int)) (pa_cons pe_str (pa_cons pe_str (pa_cons pe_str (pa_cons pe_str (pa_cons pe_str pa_nil))))))))))))))
      (pss_one (ps_ret (pe_ix ix_list (pv 1) (pe_callR (ok_l_take T) (hr.mono (by decide)) rfl T.g_l_take T.F_l_take.kp pass0 (pa_cons (pv 0) (pa_cons pe_int pa_nil))) (fun _ _ => rfl))))), ?_⟩
    obtain ⟨b, rfl, hb, q⟩ := h
    refine ⟨1, rfl, _, rfl, b, 100, rfl, by decide, by decide, hb, fun r H1 hr1 k1 hb1 => ?_⟩
    refine ⟨_, _, rfl, rfl, _, _, rfl, rfl, (show CPow 10 39 from ⟨by decide, by decide, by decide⟩), _, _, rfl, rfl, (show CPow 10 39 from ⟨by decide, by decide, by decide⟩), _, rfl, (show 12 ≤ sizeLine by decide), fun t nt => ?_⟩
    have htb : b ≠ t := by
      obtain ⟨x, y, h⟩ := hb1
      exact ne_of_none h nt
    have k2 : Keep [] H1 (upd H1 t (.lst ((leaves ((r : Int) - 50)).map Im.v))) := .new nt
    refine ⟨_, rfl, _, rfl, b, 12, rfl, by decide, by decide, hb1.same k2, fun j H3 hj k3 hb3 => ?_⟩
    have hl : j < (leaves ((r : Int) - 50)).length := hj
    have ht3 : H3 t = some (.lst ((leaves ((r : Int) - 50)).map Im.v)) := k3.at (fun e => htb (List.mem_singleton.mp e).symm) upd_same
    have hx := leaves_ok (i := (r : Int) - 50) (by omega) _ (List.getElem_mem hl)
    refine ⟨t, _, _, Im.v ((leaves ((r : Int) - 50))[j]), rfl, rfl, .of ht3, atI_nat (by rw [List.getElem?_map, List.getElem?_eq_getElem hl]; rfl), ?_⟩
    refine q _ _ _ ((k1.trans k2.all).trans k3) hb3 (imV_leaf fun n e => ?_) hx
    rw [e] at hx
    have := hx.1 0
    simp [okIm] at this
    omega
def N_l_contents : List Str := ["_law_bag_here", "_law_size", "_law_most", "_law_found", "_law_turn", "_law_items", "_law_place"]
theorem sc_l_contents : FnScope N_l_contents ["_law_bag_here", "_law_size", "_law_most"] (defScope s_l_contents) := ⟨rfl, rfl, rfl, by decide +kernel, rfl, by decide +kernel, by decide +kernel⟩
theorem ok_l_contents (T : Txt K mg) : FnR P w K mg base CX0 3 T.f_l_contents spContents := by
  refine okR T.F_l_contents sc_l_contents (fun vs H Q E h => ?_) (T.F_l_contents.binds fun _ _ _ _ _ _ us hl => match us, hl with | [_, _, _], _ => rfl) (fun cdv A outer s H vs Q E hr h => ?_)
  · obtain ⟨b, n, m, rfl, _⟩ := h
    rfl
  · refine ⟨_, (pss_cons (ps_set (i := 3) sc_l_contents.nd rfl (Or.inl rfl) (pe_lst pa_nil))
      (pss_cons (ps_for PassesOwn.never rfl (pi_range1 (by rfl) T.n_range (pa_cons (pv 1) pa_nil)) (pg_name (i := 4) sc_l_contents.nd rfl (Or.inl rfl))
      (pss_cons (ps_set (i := 5) sc_l_contents.nd rfl (Or.inl rfl) (pe_lst pa_nil))
      (pss_cons (ps_for PassesOwn.never rfl (pi_range1 (by rfl) T.n_range (pa_cons (pe_callR (ok_l_take T) (hr.mono (by decide)) rfl T.g_l_take T.F_l_take.kp pass0 (pa_cons (pv 0) (pa_cons (pe_op op_add (pv 2) pe_int) pa_nil))) pa_nil)) (pg_name (i := 6) sc_l_contents.nd rfl (Or.inl rfl))
      (pss_one (ps_expr (pe_bm PySem.F.plainAttrs_list PySem.F.slot_list_append PySem.F.type_list_append mt_append (pv 5) (pa_cons (pe_ifExp (pt_cmpR op_eq (pe_callR (ok_l_take T) (hr.mono (by decide)) rfl T.g_l_take T.F_l_take.kp pass0 (pa_cons (pv 0) (pa_cons pe_int pa_nil))) pe_int (nomark _)) (pe_tup (pa_cons pe_str (pa_cons (pe_callR (ok_l_take T) (hr.mono (by decide)) rfl T.g_l_take T.F_l_take.kp pass0 (pa_cons (pv 0) (pa_cons (pv 1) pa_nil))) pa_nil))) (pe_callR (ok_l_leaf T) (hr.mono (by decide)) rfl T.g_l_leaf T.F_l_leaf.kp pass0 (pa_cons (pv 0) pa_nil))) pa_nil)))))
      (pss_one (ps_expr (pe_bm PySem.F.plainAttrs_list PySem.F.slot_list_append PySem.F.type_list_append mt_append (pv 3) (pa_cons (pv 5) pa_nil)))))))
      (pss_one (ps_ret (pv 3))))), ?_⟩
    obtain ⟨b, n, m, rfl, hn0, hn, hm, hb, q⟩ := h
    have hbn : H b ≠ none := by
      obtain ⟨x, y, h⟩ := hb
      rw [h]; intro z; cases z
    refine ⟨(show 0 ≤ sizeLine by decide), fun p np => ?_⟩
    have hpb : p ≠ b := fun e => hbn (e ▸ np)
    refine ⟨_, rfl, n, rfl, by omega, by omega, for_range (lo := 0) (n := (n : Int).toNat) (fun i σ H' => ∃ v4 v5 v6 as c, σ = [some (.ref b), some (.int n), some (.int m), some (.ref p), v4, v5, v6] ∧ CInv H b p n m H' as c ∧ c.length = i)
      ⟨none, none, none, [], [], rfl, ⟨.new np, hb.same (.new np), upd_same, by simp, .nil, by simp⟩, rfl⟩ ?_ ?_⟩
    · rintro i σ H1 hi ⟨v4, v5, v6, as, c, rfl, z, hc⟩
      refine ⟨(show 0 ≤ sizeLine by decide), fun t nt => ?_⟩
      have ht0 : H t = none := z.kp.free nt (fun e => by
        obtain ⟨x, y, h⟩ := z.bag
        rw [List.mem_singleton.mp e, h] at nt
        cases nt)
      have htp : t ≠ p := fun e => by rw [e, z.lst] at nt; cases nt
      have htb : t ≠ b := fun e => hbn (e ▸ ht0)
      have hta : t ∉ as := fun e => by
        obtain ⟨i, h1⟩ := List.getElem?_of_mem e
        obtain ⟨_, _, _, xs, h2, _⟩ := paired_getV z.rows h1
        rw [nt] at h2
        cases h2
      have z1 := z.new (.new (o := .lst []) nt)
      refine ⟨_, rfl, _, rfl, _, _, rfl, rfl, b, m + 1, rfl, by omega, by omega, z1.bag, fun r0 H2 hr0 k2 hb2 => ⟨r0, rfl, by omega, by omega, for_range (lo := 0) (n := (r0 : Int).toNat) (fun j σ H' => ∃ v6 xs r, σ = [some (.ref b), some (.int n), some (.int m), some (.ref p), some (.int (0 + (i : Nat))), some (.ref t), v6] ∧ CInv H b p n m H' as c ∧ H' t = some (.lst xs) ∧ ImsV H' xs r ∧ r.length = j ∧ ∀ x ∈ r, okIm (n : Int) x = true ∧ fineIm x)
        ⟨v6, [], [], rfl, z1.step hbn np k2 hb2, k2.at (fun e => htb (List.mem_singleton.mp e)) upd_same, .nil, rfl, by simp⟩ ?_ ?_⟩⟩
      · rintro j σ H3 hj ⟨v6, xs, r, rfl, z3, ht3, hI, hrl, hro⟩
        have fin : ∀ (H4 : Hp) (v : V) (x : Im), Keep [b] H3 H4 → BagAt H4 b → ImV H4 v x → okIm (n : Int) x = true → fineIm x → H4 t = some (.lst xs) ∧ ∃ v6 ys s, [some (V.ref b), some (.int n), some (.int m), some (.ref p), some (.int (0 + (i : Nat))), some (.ref t), some (.int (0 + (j : Nat)))] = [some (V.ref b), some (.int n), some (.int m), some (.ref p), some (.int (0 + (i : Nat))), some (.ref t), v6] ∧
            CInv H b p n m (upd H4 t (.lst (xs ++ [v]))) as c ∧ upd H4 t (.lst (xs ++ [v])) t = some (.lst ys) ∧ ImsV (upd H4 t (.lst (xs ++ [v]))) ys s ∧ s.length = j + 1 ∧ ∀ x ∈ s, okIm (n : Int) x = true ∧ fineIm x := fun H4 v x k4 hb4 hv ho hf => by
          have ht4 := k4.at (fun e => htb (List.mem_singleton.mp e)) ht3
          have k5 : Keep [t] H4 (upd H4 t (.lst (xs ++ [v]))) := .put (by simp) ht4 rfl
          refine ⟨ht4, _, xs ++ [v], r ++ [x], rfl, (z3.step hbn np k4 hb4).put ht0 hbn htp hta k5, upd_same, paired_append ((hI.keep k4).keep k5) (.cons (hv.keep k5) .nil), by simp [hrl], fun y hy => ?_⟩
          rcases List.mem_append.mp hy with hy | hy
          · exact hro y hy
          · rw [List.mem_singleton.mp hy]
            exact ⟨ho, hf⟩
        have hsm : xs.length < sizeLine := small_of (by rw [hI.length]; omega)
        refine ⟨_, rfl, .inl ⟨rfl, _, .of ht3⟩, _, rfl, b, 2, rfl, by decide, by decide, z3.bag, fun r1 H4 hr1 k4 hb4 => ⟨rfl, _, rfl, ite2 (fun _ => ?_) fun _ => ?_⟩⟩
        · refine ⟨_, rfl, _, rfl, b, n, rfl, hn0, by omega, hb4, fun r2 H5 hr2 k5 hb5 => ⟨(show 2 ≤ sizeLine by decide), fun u nu => ?_⟩⟩
          have k6 : Keep [] H5 (upd H5 u (.tup [.str "box", .int r2])) := .new nu
          have f := fin _ (.ref u) (.b r2) ((k4.trans k5).trans k6.all) (hb5.same k6) ⟨u, rfl, upd_same⟩ (by simp only [okIm, Bool.and_eq_true, decide_eq_true_eq]; omega) (show r2 < 1000 by omega)
          exact ⟨t, _, _, rfl, rfl, f.1, hsm, f.2⟩
        · refine ⟨_, rfl, b, rfl, hb4, fun v x H5 k5 hb5 hv hx => ?_⟩
          have f := fin _ v x (k4.trans k5) hb5 hv (hx.1 _) hx.2
          exact ⟨t, _, _, rfl, rfl, f.1, hsm, f.2⟩
      · rintro σ H3 ⟨v6, xs, r, rfl, z3, ht3, hI, hrl, hro⟩
        have hl : as.length = c.length := z3.rows.length
        have kp : Keep [p] H3 (upd H3 p (.lst (as.map V.ref ++ [.ref t]))) := .put (by simp) z3.lst rfl
        refine ⟨_, rfl, .inl ⟨rfl, _, .of z3.lst⟩, _, rfl, p, _, _, rfl, rfl, z3.lst, small_of (by rw [List.length_map]; omega), some (.int (0 + (i : Nat))), some (.ref t), v6, as ++ [t], c ++ [r], rfl, ?_, by simp [hc]⟩
        have tp : t ∉ [p] := fun e => htp (List.mem_singleton.mp e)
        refine ⟨z3.kp.also kp np, z3.bag.keep kp (fun e => hpb (List.mem_singleton.mp e).symm), by rw [upd_same, List.map_append]; rfl, fun e => ?_, paired_append (paired_mem z3.rows fun i a r h1 _ ⟨h2, xs, h3, h4⟩ => ⟨h2, xs, kp.at (fun e => z3.np (by rw [← List.mem_singleton.mp e]; exact List.mem_of_getElem? h1)) h3, h4.keep kp⟩) (.cons ⟨ht0, xs, kp.at tp ht3, hI.keep kp⟩ .nil), fun s hs => ?_⟩
        · rcases List.mem_append.mp e with e | e
          · exact z3.np e
          · exact htp (List.mem_singleton.mp e).symm
        · rcases List.mem_append.mp hs with hs | hs
          · exact z3.ok s hs
          · rw [List.mem_singleton.mp hs]
            exact ⟨by omega, hro⟩
    · rintro σ H1 ⟨v4, v5, v6, as, c, rfl, z, hc⟩
      refine ⟨_, rfl, q _ c _ z.kp z.bag ⟨p, as, rfl, np, z.lst, z.rows⟩ (by omega) z.ok⟩
end
end K49
namespace K49
open PySem PySem.Spec PyProof.Rows L2 Rg
/-! ### the law's heap -/
def spBuilt (C : Addr) : Sp := fun vs H Q _ => ∃ b v c, vs = [.ref b, v] ∧ BagAt H b ∧ ContV [b] H v c ∧ okCont c ∧ 0 < c.length ∧
  ∀ H' h l as, H h = none → H l = none → (∀ a ∈ as, H a = none) → Keep [b] H H' → BagAt H' b → HeapAt C H' h l as c → Q (.ref h) H'
/-- the heap while it is filled -/
structure BInv (C : Addr) (H : Hp) (b h l : Addr) (as : List Addr) (H' : Hp) (c : Cont) : Prop where
  kp : Keep [b] H H'
  bag : BagAt H' b
  hat : HeapAt C H' h l as c
theorem BInv.step {C : Addr} {H H' H2 : Hp} {b h l : Addr} {as : List Addr} {c : Cont} (z : BInv C H b h l as H' c) (hh : b ≠ h) (hl : b ≠ l) (ha : b ∉ as) (k : Keep [b] H' H2) (g : BagAt H2 b) : BInv C H b h l as H2 c :=
  ⟨z.kp.trans k, g, z.hat.keepL k hl ha hh⟩
theorem BInv.new {C : Addr} {H H' H2 : Hp} {b h l : Addr} {as : List Addr} {c : Cont} (z : BInv C H b h l as H' c) (k : Keep [] H' H2) : BInv C H b h l as H2 c := ⟨z.kp.trans k.all, z.bag.same k, z.hat.same k⟩
theorem BInv.put {C : Addr} {H H' H2 : Hp} {b h l a : Addr} {as : List Addr} {c c' : Cont} (z : BInv C H b h l as H' c) (hb : H b ≠ none) (h0 : H a = none) (k : Keep [a] H' H2) (g : HeapAt C H2 h l as c') : BInv C H b h l as H2 c' :=
  ⟨z.kp.also k h0, z.bag.keep k (fun e => hb (by rw [List.mem_singleton.mp e]; exact h0)), g⟩
section
variable {P : Program} {w : World} {K : PySem.W.Frag} {mg : Str → Option Value} {base : Heap}
def N_l_built : List Str := ["_law_bag_here", "_law_contents_here", "_law_heap", "_law_items", "_law_box", "_law_item", "_law_one", "_law_other"]
theorem sc_l_built : FnScope N_l_built ["_law_bag_here", "_law_contents_here"] (defScope s_l_built) := ⟨rfl, rfl, rfl, by decide +kernel, rfl, by decide +kernel, by decide +kernel⟩
theorem ok_l_built (T : Txt K mg) : FnR P w K mg base CX0 9 T.f_l_built (spBuilt T.C) := by
  refine okR T.F_l_built sc_l_built (fun vs H Q E h => ?_) (T.F_l_built.binds fun _ _ _ _ _ _ us hl => match us, hl with | [_, _], _ => rfl) (fun cdv A outer s H vs Q E hr h => ?_)
  · obtain ⟨b, v, c, rfl, _⟩ := h
    rfl
  · refine ⟨_, (pss_cons (ps_set (i := 2) sc_l_built.nd rfl (Or.inl rfl) (ClX.pe_cmeth (pe_glob (v := .ref T.C) rfl T.g_Heap rfl) T.cr T.cm_of (ok_of T) (hr.mono (by decide)) pass0 (pa_cons (pe_lc (own := [("_law_items", 3)]) (g := (gName 3)) (tt := tYes) rfl sc_l_built.nd (pi_list (pv 1)) (blkOk_by (N := N_l_built) (sc := defScope s_l_built) (by decide +kernel)) (fun _ _ _ _ _ => (pg_name (i := 3) sc_l_built.nd rfl (Or.inl rfl))) (fun _ _ _ _ _ => pts_nil) (fun _ _ _ _ _ => (pe_lst pa_nil))) pa_nil)))
      (pss_cons (ps_for PassesOwn.never rfl (pi_range1 (by rfl) T.n_range (pa_cons (pe_callB call_len (by rfl) T.n_len (by decide +kernel) (pa_cons (pv 1) pa_nil)) pa_nil)) (pg_name (i := 4) sc_l_built.nd rfl (Or.inl rfl))
      (pss_one (ps_for PassesOwn.never rfl (pi_list (pe_ix ix_list (pv 1) (pv 4) (fun _ _ => rfl))) (pg_name (i := 5) sc_l_built.nd rfl (Or.inl rfl))
      (pss_one (ps_if (pt_cmpR op_eq (pe_callR (ok_l_take T) (hr.mono (by decide)) rfl T.g_l_take T.F_l_take.kp pass0 (pa_cons (pv 0) (pa_cons pe_int pa_nil))) pe_int (nomark _)) (pss_cons (ps_expr (pe_methR (pv 2) T.cl T.m_add_last (ok_add_last T) (hr.mono (by decide)) pass0 (pa_cons (pv 4) (pa_cons pe_int pa_nil))))
      (pss_one (ps_expr (pe_methR (pv 2) T.cl T.m_put (ok_put T) (hr.mono (by decide)) pass0 (pa_cons (pv 4) (pa_cons (pe_op op_sub (pe_callB call_len (by rfl) T.n_len (by decide +kernel) (pa_cons (pe_methR (pv 2) T.cl T.m_look (ok_look T) (hr.mono (by decide)) pass0 (pa_cons (pv 4) pa_nil)) pa_nil)) pe_int) (pa_cons (pv 5) pa_nil))))))) (pss_one (ps_expr (pe_methR (pv 2) T.cl T.m_add_at (ok_add_at T) (hr.mono (by decide)) pass0 (pa_cons (pv 4) (pa_cons (pe_callB call_len (by rfl) T.n_len (by decide +kernel) (pa_cons (pe_methR (pv 2) T.cl T.m_look (ok_look T) (hr.mono (by decide)) pass0 (pa_cons (pv 4) pa_nil)) pa_nil)) (pa_cons (pv 5) pa_nil)))))))))))
      (pss_cons (ps_par (i := 6) (j := 7) (by rfl) sc_l_built.nd rfl rfl (by decide) rfl rfl (pa_cons (pe_callR (ok_l_take T) (hr.mono (by decide)) rfl T.g_l_take T.F_l_take.kp pass0 (pa_cons (pv 0) (pa_cons (pe_callB call_len (by rfl) T.n_len (by decide +kernel) (pa_cons (pv 1) pa_nil)) pa_nil))) (pa_cons (pe_callR (ok_l_take T) (hr.mono (by decide)) rfl T.g_l_take T.F_l_take.kp pass0 (pa_cons (pv 0) (pa_cons (pe_callB call_len (by rfl) T.n_len (by decide +kernel) (pa_cons (pv 1) pa_nil)) pa_nil))) pa_nil)) (by rfl))
      (pss_cons (ps_expr (pe_methR (pv 2) T.cl T.m_swap (ok_swap T) (hr.mono (by decide)) pass0 (pa_cons (pv 6) (pa_cons (pv 7) pa_nil))))
      (pss_cons (ps_expr (pe_methR (pv 2) T.cl T.m_swap (ok_swap T) (hr.mono (by decide)) pass0 (pa_cons (pv 7) (pa_cons (pv 6) pa_nil))))
      (pss_one (ps_ret (pv 2)))))))), ?_⟩
    obtain ⟨b, v, c, rfl, hb, ⟨a, rs, rfl, nab, ha, hR⟩, ⟨hc1, hc2, hc3⟩, hc0, q⟩ := h
    have hlen : rs.length = c.length := hR.length
    have hbn : H b ≠ none := by
      obtain ⟨x, y, h⟩ := hb
      rw [h]; intro z; cases z
    have hs : SqL K (hd [] H) a rs := .of (by rw [hd_out (by simp)]; exact ha)
    -- Heap.of
    refine ⟨rfl, _, rfl, a, rfl, ⟨rs, .of ha⟩, fun D hD => lc_it (M := []) (Jv := fun _ => True)
      (Rel := fun H' v (r : List Im) => ∃ a, v = .ref a ∧ a ≠ D ∧ H' a = some (.lst []) ∧ r = []) (Ok := fun _ _ => True) (n := rs.length)
      (Yx := fun i x _ => rs[i]? = some x) hD (by simp) (fun _ _ _ _ => trivial) trivial (by omega) (it_list hs).1 (it_list hs).2.1 (fun i H1 y H2 h1 h2 h3 => let z := (it_list hs).2.2 i H1 y H2 h1 h2 h3; ⟨z.1, z.2.1, z.2.2.1⟩)
      (fun H1 H2 y z k ⟨a, e, n2, h3, h4⟩ => ⟨a, e, n2, k.at (by simpa using n2) h3, h4⟩) ?_ gName_mono ?_⟩
    · rintro i x H1 hi1 k _ hDn hx Qe hQ
      exact ⟨rfl, (show 0 ≤ sizeLine by decide), fun p np => hQ _ [] _ (.new np) trivial trivial ⟨p, rfl, fun z => hDn (by rw [← z]; exact np), upd_same, rfl⟩⟩
    · intro acc zs H1 k _ hA hP hL hO
      have ez : zs = List.replicate c.length [] := by
        refine List.eq_replicate_iff.mpr ⟨by omega, fun r hr => ?_⟩
        obtain ⟨i, h1⟩ := List.getElem?_of_mem hr
        obtain ⟨_, _, _, _, _, _, h2⟩ := paired_get hP h1
        exact h2
      have hcv : ContV [] H1 (.ref D) (filled c 0) := by
        rw [filled_zero, ← ez]
        exact ⟨D, acc, rfl, by simp, hA, paired_mono (fun v z ⟨a, e1, _, e3, e4⟩ => ⟨a, [], e1, by simp, e3, by rw [e4]; exact .nil⟩) hP⟩
      have lf : (filled c 0).length = c.length := by simp [filled_zero]
      refine ⟨_, filled c 0, rfl, hcv, ⟨by omega, by simp [filled_zero, total], fun r hr x hx => ?_⟩, fun H2 h l as nh nl nas k2 hat => ?_⟩
      · rw [filled_zero] at hr
        rw [(List.mem_replicate.mp hr).2] at hx
        simp at hx
      have k02 := k.trans k2
      have fr : ∀ {a : Addr}, H1 a = none → H a = none := fun z => k.free z (by simp)
      have nbh : b ≠ h := fun e => hbn (e ▸ fr nh)
      have nbl : b ≠ l := fun e => hbn (e ▸ fr nl)
      have nba : b ∉ as := fun e => hbn (fr (nas b e))
      have nad : ∀ {x : Addr}, x ≠ b → x ∉ [b] := fun n e => n (List.mem_singleton.mp e)
      refine ⟨_, rfl, _, c.length, rfl, .inl ⟨_, .of (k02.same _ _ ha), by rw [hlen]⟩, c.length, rfl, by omega, by omega, for_range (lo := 0) (n := ((c.length : Nat) : Int).toNat) (fun i σ H' => ∃ v3 v4 v5, σ = [some (.ref b), some (.ref a), some (.ref h), v3, v4, v5, none, none] ∧ BInv T.C H b h l as H' (filled c i))
        ⟨none, none, none, rfl, k02.all, hb.same k02, hat⟩ ?_ ?_⟩
      · rintro i σ H3 hi ⟨v3, v4, v5, rfl, z⟩
        have hi2 : i < c.length := by omega
        have e0 : (0 : Int) + (i : Nat) = (i : Nat) := by omega
        rw [e0]
        have hal : a ∉ [b] := nab
        have ha3 := z.kp.at hal ha
        obtain ⟨u, hu, ar, xs, rfl, nar, har, hxs⟩ := paired_get hR (rowOf_get hi2)
        have har3 := z.kp.at nar har
        refine ⟨_, rfl, _, rfl, _, _, _, _, rfl, rfl, .of ha3, atI_nat hu, ar, rfl, ⟨xs, .of har3⟩, for_list (K := K) (a := ar) (xs := xs) (fun j σ H' => ∃ v5, σ = [some (.ref b), some (.ref a), some (.ref h), v3, some (.int (i : Nat)), v5, none, none] ∧ BInv T.C H b h l as H' (cur c i j))
          ⟨v5, rfl, by rw [cur_zero hi2]; exact z⟩ (fun j σ H' _ ⟨_, _, z⟩ => .of (z.kp.at nar har)) ?_ ?_⟩
        · rintro j y σ H4 hy ⟨v5, rfl, z4⟩
          obtain ⟨x, hx, hv⟩ := paired_getV hxs hy
          have hv4 := hv.keep z4.kp
          have hj := (List.getElem?_eq_some_iff.mp hx).1
          have hox := hc3 _ (List.mem_of_getElem? (rowOf_get hi2)) x (List.mem_of_getElem? hx)
          have hlc : (cur c i j).length = c.length := cur_len hi2
          have htl : ((rowOf c i).take j).length = j := by rw [List.length_take]; omega
          refine ⟨_, rfl, b, 4, rfl, by decide, by decide, z4.bag, fun r1 H5 hr1 k5 hb5 => ⟨rfl, _, rfl, ite2 (fun _ => ?_) fun _ => ?_⟩⟩
          · have z5 := z4.step nbh nbl nba k5 hb5
            obtain ⟨dx5, hi5⟩ := z5.hat.ins
            have hca := cur_at (j := j) hi2
            obtain ⟨ai, hai⟩ : ∃ ai, as[i]? = some ai := ⟨_, List.getElem?_eq_getElem (by rw [z5.hat.len, hlc]; exact hi2)⟩
            have hai0 := fr (nas ai (List.mem_of_getElem? hai))
            have htc := total_cur hi2 hj
            refine ⟨_, rfl, h, dx5, _, rfl, hi5, rfl, _, rfl, h, l, as, _, _, .int 7, .i 7, ai, i, rfl, z5.hat, hca, hai, rfl, rfl, by omega, by omega, fun H6 k6 hat6 => ?_⟩
            have z6 := z5.put hbn hai0 k6 hat6
            obtain ⟨dx6, hi6⟩ := z6.hat.ins
            have hc6 : ((cur c i j).set i ((rowOf c i).take j ++ [Im.i 7]))[i]? = some ((rowOf c i).take j ++ [Im.i 7]) := by simp [hlc, hi2]
            refine ⟨_, rfl, h, dx6, _, rfl, hi6, rfl, _, rfl, _, rfl, h, dx6, _, rfl, hi6, rfl, _, rfl, h, l, as, _, _, i, rfl, z6.hat, hc6, fun H7 p xs7 k7 np hp7 hx7 => ?_⟩
            have z7 := z6.new k7
            have hj7 : ((xs7.length : Nat) : Int) - 1 = (j : Nat) := by
              rw [hx7.length, List.length_append, htl]
              simp
            have e7 : (((cur c i j).set i ((rowOf c i).take j ++ [Im.i 7])).set i (((rowOf c i).take j ++ [Im.i 7]).set j x)) = cur c i (j + 1) := by
              rw [List.set_set, ← cur_step hi2 hx, List.set_append_right _ _ (by omega), htl, Nat.sub_self]
              rfl
            refine ⟨_, _, rfl, .inl ⟨_, .of hp7, rfl⟩, _, _, rfl, rfl, _, rfl, h, l, as, _, _, y, x, ai, .i 7, i, j, congrArg (fun z : Int => [V.ref h, .int i, .int z, y]) hj7, z7.hat, hc6, hai, ?_, ((hv4.keep k5).keep k6).keep k7, by rw [List.length_set, hlc]; exact hox, fun H8 u k8 hat8 _ => ?_⟩
            · rw [List.getElem?_append_right (by omega), htl, Nat.sub_self]
              rfl
            · rw [e7] at hat8
              exact ⟨some y, rfl, z7.put hbn hai0 k8 hat8⟩
          · have z5 := z4.step nbh nbl nba k5 hb5
            obtain ⟨dx5, hi5⟩ := z5.hat.ins
            have hca := cur_at (j := j) hi2
            obtain ⟨ai, hai⟩ : ∃ ai, as[i]? = some ai := ⟨_, List.getElem?_eq_getElem (by rw [z5.hat.len, hlc]; exact hi2)⟩
            have hai0 := fr (nas ai (List.mem_of_getElem? hai))
            have htc := total_cur hi2 hj
            refine ⟨_, rfl, h, dx5, _, rfl, hi5, rfl, _, rfl, _, rfl, h, dx5, _, rfl, hi5, rfl, _, rfl, h, l, as, _, _, i, rfl, z5.hat, hca, fun H7 p xs7 k7 np hp7 hx7 => ?_⟩
            have z7 := z5.new k7
            refine ⟨_, _, rfl, .inl ⟨_, .of hp7, rfl⟩, _, rfl, h, l, as, _, _, y, x, ai, i, xs7.length, rfl, z7.hat, hca, hai, by rw [hx7.length]; exact Nat.le_refl _, (hv4.keep k5).keep k7, by rw [hlc]; exact hox, by omega, by omega, fun H8 k8 hat8 => ?_⟩
            have e7 : (cur c i j).set i (((rowOf c i).take j).take xs7.length ++ [x] ++ ((rowOf c i).take j).drop xs7.length) = cur c i (j + 1) := by
              rw [hx7.length, List.take_length, List.drop_length, List.append_nil, cur_step hi2 hx]
            rw [e7] at hat8
            exact ⟨some y, rfl, z7.put hbn hai0 k8 hat8⟩
        · rintro σ H4 ⟨v5, rfl, z4⟩
          rw [hxs.length, cur_full hi2] at z4
          exact ⟨_, _, _, rfl, z4⟩
      · rintro σ H3 ⟨v3, v4, v5, rfl, z⟩
        rw [Int.toNat_natCast, filled_full] at z
        have lb := fun (H' : Hp) (k : Keep [b] H H') => (show LenV K (.ref a) H' c.length from .inl ⟨_, .of (k.at nab ha), by rw [hlen]⟩)
        refine ⟨_, rfl, _, rfl, _, c.length, rfl, lb _ z.kp, b, c.length, rfl, hc0, by omega, z.bag, fun r1 H4 hr1 k4 hb4 => ?_⟩
        have z4 := z.step nbh nbl nba k4 hb4
        refine ⟨_, rfl, _, rfl, _, c.length, rfl, lb _ z4.kp, b, c.length, rfl, hc0, by omega, z4.bag, fun r2 H5 hr2 k5 hb5 => ?_⟩
        have z5 := z4.step nbh nbl nba k5 hb5
        obtain ⟨dx5, hi5⟩ := z5.hat.ins
        have la : as.length = c.length := z5.hat.len
        obtain ⟨a1, ea1⟩ : ∃ x, as[r1]? = some x := ⟨_, List.getElem?_eq_getElem (by omega)⟩
        obtain ⟨a2, ea2⟩ : ∃ x, as[r2]? = some x := ⟨_, List.getElem?_eq_getElem (by omega)⟩
        have hnl : H l = none := fr nl
        obtain ⟨s1, s2, s3⟩ := swap_swap ea1 ea2
        obtain ⟨t1, t2, t3⟩ := swap_swap (rowOf_get hr1) (rowOf_get hr2)
        refine ⟨_, _, rfl, _, rfl, h, dx5, _, rfl, hi5, rfl, _, rfl, _, rfl, h, l, as, c, _, _, a1, a2, r1, r2, rfl, z5.hat, rowOf_get hr1, rowOf_get hr2, ea1, ea2, fun H6 k6 hat6 => ?_⟩
        obtain ⟨dx6, hi6⟩ := hat6.ins
        refine ⟨_, rfl, h, dx6, _, rfl, hi6, rfl, _, rfl, _, rfl, h, l, _, _, _, _, a1, a2, r2, r1, rfl, hat6, t1, t2, s1, s2, fun H7 k7 hat7 => ?_⟩
        rw [s3, t3] at hat7
        have k57 : Keep [b] H H7 := (z5.kp.also k6 hnl).also k7 hnl
        exact ⟨_, rfl, q H7 h l as (fr nh) hnl (fun a ha => fr (nas a ha)) k57 ((z5.bag.keep k6 (fun e => nbl (List.mem_singleton.mp e))).keep k7 (fun e => nbl (List.mem_singleton.mp e))) hat7⟩
end
end K49
namespace K49
open PySem PySem.Spec PyProof.Rows L2 Rg
/-! ### the law's own walk -/
abbrev Stk := List (Addr × Nat × Nat)
def stkL (l : Stk) : List V := (l.map fun x => V.ref x.1).reverse
theorem stkL_cons (x : Addr × Nat × Nat) (l : Stk) : stkL (x :: l) = stkL l ++ [.ref x.1] := by simp [stkL]
theorem stkL_len (l : Stk) : (stkL l).length = l.length := by simp [stkL]
def pairD (x : Addr × Nat × Nat) : PyData := .list [.int x.2.1, .int x.2.2]
theorem pair_lay : ∀ l : Stk, PyData.canLayAll0 (l.map pairD) = true
  | [] => rfl
  | x :: l => by
    rw [List.map_cons, PyData.canLayAll0, pair_lay l]
    rfl
theorem pair_depth : ∀ l : Stk, PyData.depthAll (l.map pairD) ≤ 1
  | [] => Nat.zero_le _
  | x :: l => by
    have := pair_depth l
    rw [List.map_cons, PyData.depthAll]
    have e : (pairD x).depth = 1 := rfl
    omega
theorem pair_shaped (l : Stk) : SeqAt.shaped (.list (l.map pairD)) = true := by
  have h1 := pair_lay l
  have h2 := pair_depth l
  refine Bool.and_eq_true_iff.mpr ⟨by rw [PyData.canLay0]; exact h1, decide_eq_true ?_⟩
  rw [PyData.depth]
  omega
theorem pair_eqv (l : Stk) : PyData.eqv (.list (l.map pairD)) (.list []) = l.isEmpty := by
  cases l <;> rfl
def meas (c : Cont) (o : List Nat) (l : Stk) : Nat := (c.length - o.length) * (total c + 2) + (l.map fun x => (rowOf c x.2.1).length - x.2.2 + 1).sum
structure OInv (c : Cont) (n : Nat) (H : Hp) (po s : Addr) (H' : Hp) (o : List Nat) (m : Nat) (l : Stk) : Prop where
  kp : Keep [] H H'
  ord : H' po = some (.lst (o.map iv))
  stk : H' s = some (.lst (stkL l))
  at_ : ∀ x ∈ l, x.1 ≠ po ∧ x.1 ≠ s ∧ H x.1 = none ∧ H' x.1 = some (.lst [.int x.2.1, .int x.2.2])
  nd : (l.map (·.1)).Nodup
  low : ∀ x ∈ l, x.2.1 < c.length ∧ x.2.2 ≤ (rowOf c x.2.1).length
  ond : o.Nodup
  org : ∀ x ∈ o, x < c.length
  len : l.length ≤ o.length
  fin : ∀ o2 m2, Fin c (l.map (·.2)) o m o2 m2 → Rg.Vis c n [] 1 o2 m2
theorem OInv.new {c : Cont} {n : Nat} {H H' H2 : Hp} {po s : Addr} {o : List Nat} {m : Nat} {l : Stk} (z : OInv c n H po s H' o m l) (k : Keep [] H' H2) : OInv c n H po s H2 o m l :=
  { z with kp := z.kp.trans k, ord := k.same _ _ z.ord, stk := k.same _ _ z.stk, at_ := fun x hx => let ⟨a, b, d, e⟩ := z.at_ x hx; ⟨a, b, d, k.same _ _ e⟩ }
theorem OInv.dp {K : PySem.W.Frag} {c : Cont} {n : Nat} {H H' : Hp} {po s : Addr} {o : List Nat} {m : Nat} {l : Stk} (z : OInv c n H po s H' o m l) : Dp K H' (.ref s) (.list (l.reverse.map pairD)) := by
  refine .lst (.of z.stk) ?_
  have e : stkL l = l.reverse.map fun x => V.ref x.1 := by simp [stkL]
  rw [e]
  have h := fun x (hx : x ∈ l.reverse) => (z.at_ x (List.mem_reverse.mp hx)).2.2.2
  revert h
  generalize l.reverse = r
  intro h
  induction r with
  | nil => exact .nil
  | cons x r ih => exact .cons (.lst (.of (h x (by simp))) (.cons (.int _) (.cons (.int _) .nil))) (ih fun y hy => h y (List.mem_cons_of_mem _ hy))
def spOpening : Sp := fun vs H Q _ => ∃ v c, ∃ n : Nat, vs = [v, .int n] ∧ ContV [] H v c ∧ n < c.length ∧ refs c ∧ c.length ≤ 60 ∧ total c ≤ 300 ∧
  ∀ H' t p o m, Keep [] H H' → H' t = some (.tup [.ref p, .int (m : Nat)]) → H p = none → H' p = some (.lst (o.map iv)) → Rg.Vis c n [] 1 o m → Q (.ref t) H'
theorem row_le {c : Cont} {i : Nat} (h : i < c.length) : (rowOf c i).length ≤ total c := by
  have z := total_set c i (rowOf c i) [] (rowOf_get h)
  simp at z
  omega
section
variable {P : Program} {w : World} {K : PySem.W.Frag} {mg : Str → Option Value} {base : Heap}
def N_l_opening : List Str := ["_law_contents_here", "_law_start", "_law_order", "_law_stack", "_law_most", "_law_row", "_law_item"]
theorem sc_l_opening : FnScope N_l_opening ["_law_contents_here", "_law_start"] (defScope s_l_opening) := ⟨rfl, rfl, rfl, by decide +kernel, rfl, by decide +kernel, by decide +kernel⟩
theorem ok_l_opening (T : Txt K mg) : FnR P w K mg base CX0 1 T.f_l_opening spOpening := by
  refine okR T.F_l_opening sc_l_opening (fun vs H Q E h => ?_) (T.F_l_opening.binds fun _ _ _ _ _ _ us hl => match us, hl with | [_, _], _ => rfl) (fun cdv A outer s H vs Q E hr h => ?_)
  · obtain ⟨v, c, n, rfl, _⟩ := h
    rfl
  · refine ⟨_, (pss_cons (ps_par3 (i := 2) (j := 3) (l := 4) (by rfl) sc_l_opening.nd rfl rfl rfl (by decide) (by decide) (by decide) rfl rfl rfl (pa_cons (pe_lst (pa_cons (pv 1) pa_nil)) (pa_cons (pe_lst (pa_cons (pe_lst (pa_cons (pv 1) (pa_cons pe_int pa_nil))) pa_nil)) (pa_cons pe_int pa_nil))) (by rfl))
      (pss_cons (ps_while PassesOwn.never (pt_cmpR (op_neD hr.units) (pv 3) (pe_lst pa_nil) (nomark _)) (pss_cons (ps_set (i := 5) sc_l_opening.nd rfl (Or.inl rfl) (pe_ix ix_list (pv 3) (pe_un un_neg pe_int) (fun _ _ => rfl)))
      (pss_cons (ps_if (pt_cmpR op_eq (pe_ix ix_list (pv 5) pe_int (fun _ _ => rfl)) (pe_callB call_len (by rfl) T.n_len (by decide +kernel) (pa_cons (pe_ix ix_list (pv 0) (pe_ix ix_list (pv 5) pe_int (fun _ _ => rfl)) (fun _ _ => rfl)) pa_nil)) (nomark _)) (pss_cons (ps_expr (pe_bm0 PySem.F.plainAttrs_list PySem.F.slot_list_pop PySem.F.type_list_pop mt_pop (pv 3)))
      (pss_one ps_continue)) pss_nil)
      (pss_cons (ps_set (i := 6) sc_l_opening.nd rfl (Or.inl rfl) (pe_ix ix_list (pe_ix ix_list (pv 0) (pe_ix ix_list (pv 5) pe_int (fun _ _ => rfl)) (fun _ _ => rfl)) (pe_ix ix_list (pv 5) pe_int (fun _ _ => rfl)) (fun _ _ => rfl)))
      (pss_cons (ps_asg (pe_op op_add (pe_ix ix_list (pv 5) pe_int (fun _ _ => rfl)) pe_int) (pg_sub (pv 5) pe_int set_list))
      (pss_one (ps_if (PW.pt (pw_and (pt_val (pe_callB call_isi (by rfl) T.n_isinstance (by decide +kernel) (pa_cons (pv 6) (pa_cons (pe_bltn (v := .ty "tuple") (by rfl) T.n_tuple (by decide +kernel) rfl) pa_nil)))) (pw_and1 (pt_cmpR op_notIn_seq (pe_ix ix_tup (pv 6) pe_int (fun _ _ => rfl)) (pv 2) (by rfl))))) (pss_cons (ps_expr (pe_bm PySem.F.plainAttrs_list PySem.F.slot_list_append PySem.F.type_list_append mt_append (pv 2) (pa_cons (pe_ix ix_tup (pv 6) pe_int (fun _ _ => rfl)) pa_nil)))
      (pss_cons (ps_expr (pe_bm PySem.F.plainAttrs_list PySem.F.slot_list_append PySem.F.type_list_append mt_append (pv 3) (pa_cons (pe_lst (pa_cons (pe_ix ix_tup (pv 6) pe_int (fun _ _ => rfl)) (pa_cons pe_int pa_nil))) pa_nil)))
      (pss_one (ps_set (i := 4) sc_l_opening.nd rfl (Or.inl rfl) (pe_callB (call_max2 rfl) (by rfl) T.n_max (by decide +kernel) (pa_cons (pv 4) (pa_cons (pe_callB call_len (by rfl) T.n_len (by decide +kernel) (pa_cons (pv 3) pa_nil)) pa_nil))))))) pss_nil)))))))
      (pss_one (ps_ret (pe_tup (pa_cons (pv 2) (pa_cons (pv 4) pa_nil))))))), ?_⟩
    obtain ⟨v, c, n, rfl, ⟨a, rs, rfl, _, ha, hR⟩, hn, hrf, hc, htot, q⟩ := h
    have sm : ∀ {i : Nat}, i ≤ 100 → i < sizeLine := fun h => small_of (by omega)
    refine ⟨_, rfl, (show 1 ≤ sizeLine by decide), fun po npo => ⟨_, rfl, (show 2 ≤ sizeLine by decide), fun r nr => ⟨(show 1 ≤ sizeLine by decide), fun s ns => ⟨_, _, _, rfl, ?_⟩⟩⟩⟩
    have nrp : r ≠ po := fun e => by rw [e, upd_same] at nr; cases nr
    have nsr : s ≠ r := fun e => by rw [e, upd_same] at ns; cases ns
    have nsp : s ≠ po := fun e => by rw [e, upd_ne (Ne.symm nrp), upd_same] at ns; cases ns
    have k1 : Keep [] H (upd H po (.lst [.int n])) := .new npo
    have k2 : Keep [] H (upd (upd H po (.lst [.int n])) r (.lst [.int n, .int 0])) := k1.trans (.new nr)
    have hr0 : H r = none := k1.free nr (by simp)
    have hs0 : H s = none := k2.free ns (by simp)
    refine ⟨fun m σ H' => ∃ o l most v5 v6, σ = [some (.ref a), some (.int n), some (.ref po), some (.ref s), some (.int (most : Nat)), v5, v6] ∧ OInv c n H po s H' o most l ∧ m = meas c o l,
      ⟨_, [n], [(r, n, 0)], 1, none, none, rfl, ⟨k2.trans (.new ns), by rw [upd_ne (Ne.symm nsp), upd_ne (Ne.symm nrp), upd_same]; rfl, upd_same, fun x hx => ?_, by simp, fun x hx => ?_, by simp, by simpa using hn, Nat.le_refl _, fun o2 m2 h => ?_⟩, rfl⟩, ?_⟩
    · rw [List.mem_singleton.mp hx]
      exact ⟨nrp, Ne.symm nsr, hr0, by rw [upd_ne (Ne.symm nsr), upd_same]; rfl⟩
    · rw [List.mem_singleton.mp hx]
      exact ⟨hn, Nat.zero_le _⟩
    · cases h with
      | cons hr1 h1 h2 =>
        cases h2
        exact ⟨_, hr1, h1⟩
    · rintro m σ H1 ⟨o, l, most, v5, v6, rfl, z0, rfl⟩
      refine ⟨_, rfl, (show 0 ≤ sizeLine by decide), fun e ne => ?_⟩
      have z := z0.new (.new (o := .lst []) ne)
      clear z0
      revert z
      generalize eH2 : upd H1 e (HO.lst []) = H2
      intro z
      have he : H2 e = some (.lst []) := by rw [← eH2]; exact upd_same
      refine ⟨_, _, z.dp, .lst (.of he) .nil, pair_shaped _, rfl, _, rfl, ite2 (fun t => ?_) fun t => ?_⟩
      · rw [pair_eqv] at t
        match l, z, t with
        | [], _, t => cases t
        | (r, b, p) :: l, z, t =>
          obtain ⟨nrp, nrs, hr0, hr2⟩ := z.at_ _ List.mem_cons_self
          obtain ⟨hb, hp⟩ := z.low _ List.mem_cons_self
          dsimp only at nrp nrs hr0 hr2 hb hp
          have hlo : l.length + 1 ≤ o.length := z.len
          have hoc : o.length ≤ c.length := nodup_le _ o z.ond z.org
          have ha2 := z.kp.same _ _ ha
          obtain ⟨u, hu, ar, xs, rfl, _, har, hxs⟩ := paired_get hR (rowOf_get hb)
          have har2 := z.kp.same _ _ har
          have hst := z.stk
          rw [stkL_cons] at hst
          have nd2 := List.nodup_cons.mp (show (r :: l.map (·.1)).Nodup from z.nd)
          have rl : ∀ x ∈ l, x.1 ≠ r := fun x hx e => nd2.1 (List.mem_map.mpr ⟨x, hx, e⟩)
          have hps : po ≠ s := fun e => by
            have h1 := z.ord
            rw [e, hst] at h1
            have h2 := HO.lst.inj (Option.some.inj h1)
            have h3 : V.ref r ∈ o.map iv := by rw [← h2]; simp
            obtain ⟨_, _, h4⟩ := List.mem_map.mp h3
            cases h4
          have at1 : ∀ x y : Int, atI [V.int x, V.int y] 1 = some (.int y) := fun _ _ => rfl
          have at0 : ∀ x y : Int, atI [V.int x, V.int y] 0 = some (.int x) := fun _ _ => rfl
          refine ⟨fun σ' H' => ∃ o' l' most' v5 v6, σ' = [some (.ref a), some (.int n), some (.ref po), some (.ref s), some (.int (most' : Nat)), v5, v6] ∧ OInv c n H po s H' o' most' l' ∧ meas c o' l' < meas c o ((r, b, p) :: l), fun σ' H' ⟨o', l', most', v5', v6', e1, e2, e3⟩ => ⟨_, e3, o', l', most', v5', v6', e1, e2, rfl⟩, ?_⟩
          refine ⟨_, rfl, _, rfl, s, _, _, _, rfl, rfl, .of hst, atI_last _ _, ?_⟩
          refine ⟨_, rfl, _, _, _, _, rfl, rfl, .of hr2, at1 _ _, _, rfl, _, rfl, _, _, _, _, rfl, rfl, .of hr2, at0 _ _, a, _, _, _, rfl, rfl, .of ha2, atI_nat hu, _, _, rfl, .inl ⟨xs, .of har2, rfl⟩, rfl, _, rfl, ite2 (fun t => ?_) fun t => ?_⟩
          · -- the row is at its end
            have ep : p = (rowOf c b).length := by
              have t2 := V.int.inj (of_decide_eq_true t)
              rw [hxs.length] at t2
              omega
            refine ⟨_, rfl, .inl ⟨rfl, _, .of hst⟩, s, _, V.ref r, rfl, rfl, hst, by simp, ?_⟩
            rw [List.dropLast_concat]
            have hst0 : H s = none := hs0
            refine ⟨o, l, most, _, _, rfl, ⟨z.kp.upd_fresh hs0, by rw [upd_ne hps]; exact z.ord, upd_same, fun x hx => ?_, nd2.2, fun x hx => z.low x (List.mem_cons_of_mem _ hx), z.ond, z.org, by omega, fun o2 m2 h => z.fin o2 m2 (fin_pop (rowOf_get hb) ep h)⟩, ?_⟩
            · obtain ⟨h1, h2, h3, h4⟩ := z.at_ x (List.mem_cons_of_mem _ hx)
              exact ⟨h1, h2, h3, by rw [upd_ne h2]; exact h4⟩
            · simp only [meas, List.map_cons, List.sum_cons]
              omega
          · have np : p ≠ (rowOf c b).length := fun e => by
              have t2 := of_decide_eq_false t
              apply t2
              rw [hxs.length, e]
            have hpl : p < (rowOf c b).length := by omega
            obtain ⟨w, hw, hv⟩ := paired_get hxs (List.getElem?_eq_getElem hpl)
            have hv2 := hv.keep z.kp
            revert hv2
            generalize hx : (rowOf c b)[p] = x
            have hx' : (rowOf c b)[p]? = some x := by rw [List.getElem?_eq_getElem hpl, hx]
            intro hv2
            refine ⟨_, rfl, _, rfl, _, _, _, _, rfl, rfl, .of hr2, at0 _ _, a, _, _, _, rfl, rfl, .of ha2, atI_nat hu, _, rfl, _, _, _, _, rfl, rfl, .of hr2, at1 _ _, ar, _, _, _, rfl, rfl, .of har2, atI_nat hw, ?_⟩
            refine ⟨_, rfl, _, _, _, _, rfl, rfl, .of hr2, at1 _ _, _, _, rfl, rfl, _, rfl, r, _, 1, 1, rfl, rfl, hr2, rfl, ?_⟩
            have hr3 : upd H2 r (.lst (List.set [V.int b, V.int p] 1 (.int ((p : Int) + 1)))) r = some (.lst [.int b, .int ((p + 1 : Nat) : Int)]) := upd_same
            revert hr3
            generalize eH3 : upd H2 r (.lst (List.set [V.int b, V.int p] 1 (.int ((p : Int) + 1)))) = H3
            intro hr3
            have o3 : ∀ {q : Addr}, q ≠ r → H3 q = H2 q := fun h => by rw [← eH3, upd_ne h]
            have k3 : Keep [] H H3 := by rw [← eH3]; exact z.kp.upd_fresh hr0
            have hv3 : ImV H3 w x := by rw [← hx]; exact hv.keep k3
            have inv : (∀ o2 m2, Fin c ((b, p + 1) :: l.map (·.2)) o most o2 m2 → Rg.Vis c n [] 1 o2 m2) → OInv c n H po s H3 o most ((r, b, p + 1) :: l) := fun hf =>
              ⟨k3, by rw [o3 (Ne.symm nrp)]; exact z.ord, by rw [o3 (Ne.symm nrs), stkL_cons]; exact hst, fun x hx => by
                rcases List.mem_cons.mp hx with e | hx
                · rw [e]; exact ⟨nrp, nrs, hr0, hr3⟩
                · obtain ⟨h1, h2, h3, h4⟩ := z.at_ x (List.mem_cons_of_mem _ hx)
                  exact ⟨h1, h2, h3, by rw [o3 (rl x hx)]; exact h4⟩, z.nd, fun x hx => by
                rcases List.mem_cons.mp hx with e | hx
                · rw [e]; exact ⟨hb, hpl⟩
                · exact z.low x (List.mem_cons_of_mem _ hx), z.ond, z.org, z.len, hf⟩
            have lt : meas c o ((r, b, p + 1) :: l) < meas c o ((r, b, p) :: l) := by
              simp only [meas, List.map_cons, List.sum_cons]
              omega
            cases x with
            | i n1 =>
              refine ⟨_, rfl, _, _, _, _, false, rfl, .ty _, (ImV.ty hv3), kit_ty (show kitB "int" "tuple" = some false by decide +kernel), _, rfl, iteF (iteF ?_)⟩
              exact ⟨o, _, most, _, _, rfl, inv fun o2 m2 h => z.fin o2 m2 (fin_skip (rowOf_get hb) hx' (fun _ e => nomatch e) h), lt⟩
            | s y =>
              refine ⟨_, rfl, _, _, _, _, false, rfl, .ty _, (ImV.ty hv3), kit_ty (show kitB "str" "tuple" = some false by decide +kernel), _, rfl, iteF (iteF ?_)⟩
              exact ⟨o, _, most, _, _, rfl, inv fun o2 m2 h => z.fin o2 m2 (fin_skip (rowOf_get hb) hx' (fun _ e => nomatch e) h), lt⟩
            | b n1 =>
              have hty := ImV.ty (K := K) hv3
              obtain ⟨t, rfl, ht⟩ := hv3
              have ho3 : H3 po = some (.lst (o.map iv)) := by rw [o3 (Ne.symm nrp)]; exact z.ord
              refine ⟨_, rfl, _, _, _, _, true, rfl, .ty _, hty, kit_ty (show kitB "tuple" "tuple" = some true by decide +kernel), _, rfl, iteT ?_⟩
              refine ⟨_, rfl, _, _, _, _, rfl, rfl, .of ht, rfl, _, rfl, po, _, rfl, .inl (.of ho3), rfl, flat_iv o, _, rfl, ?_⟩
              show if (!inV (.int n1) (o.map iv)) = true then _ else _
              rw [inV_iv]
              by_cases hm : n1 ∈ o
              · rw [decide_eq_true hm]
                exact iteF ⟨o, _, most, _, _, rfl, inv fun o2 m2 h => z.fin o2 m2 (fin_skip (rowOf_get hb) hx' (fun n e => by cases e; exact hm) h), lt⟩
              · rw [decide_eq_false hm]
                have hn1 : n1 < c.length := hrf _ (List.mem_of_getElem? (rowOf_get hb)) n1 (List.mem_of_getElem? hx')
                have hond : (o ++ [n1]).Nodup := List.nodup_append.mpr ⟨z.ond, by simp, fun x hx y hy e => by rw [List.mem_singleton] at hy; rw [e, hy] at hx; exact hm hx⟩
                have horg : ∀ x ∈ o ++ [n1], x < c.length := fun x hx => by
                  rcases List.mem_append.mp hx with hx | hx
                  · exact z.org x hx
                  · rw [List.mem_singleton.mp hx]; exact hn1
                have hol : o.length + 1 ≤ c.length := by
                  have := nodup_le _ _ hond horg
                  simpa using this
                have ntp : t ≠ po := ne_of ht ho3 (by intro q; cases q)
                refine iteT ⟨_, rfl, .inl ⟨rfl, _, .of ho3⟩, _, rfl, _, _, _, _, rfl, rfl, .of ht, rfl, po, _, _, rfl, rfl, ho3, sm (by rw [List.length_map]; omega), ?_⟩
                have hs3 : H3 s = some (.lst (stkL l ++ [.ref r])) := by rw [o3 (Ne.symm nrs)]; exact hst
                generalize eH4 : upd H3 po (.lst (o.map iv ++ [.int n1])) = H4
                have ho4 : H4 po = some (.lst (o.map iv ++ [.int n1])) := by rw [← eH4]; exact upd_same
                have o4 : ∀ {q : Addr}, q ≠ po → H4 q = H3 q := fun h => by rw [← eH4, upd_ne h]
                have k4 : Keep [] H H4 := by rw [← eH4]; exact k3.upd_fresh npo
                have hs4 : H4 s = some (.lst (stkL l ++ [.ref r])) := by rw [o4 (Ne.symm hps)]; exact hs3
                have ht4 : H4 t = some (.tup [.str "box", .int n1]) := by rw [o4 ntp]; exact ht
                refine ⟨_, rfl, .inl ⟨rfl, _, .of hs4⟩, _, rfl, _, _, _, _, rfl, rfl, .of ht4, rfl, (show 2 ≤ sizeLine by decide), fun r2 nr2 => ?_⟩
                have nsr2 : s ≠ r2 := ne_of_none hs4 nr2
                have npr2 : po ≠ r2 := ne_of_none ho4 nr2
                have hr20 : H r2 = none := k4.free nr2 (by simp)
                have hs5 : upd H4 r2 (.lst [.int n1, .int 0]) s = some (.lst (stkL l ++ [.ref r])) := by rw [upd_ne nsr2]; exact hs4
                refine ⟨s, _, _, rfl, rfl, hs5, sm (by rw [List.length_append, stkL_len, List.length_singleton]; omega), ?_⟩
                generalize eH6 : upd (upd H4 r2 (.lst [.int n1, .int 0])) s (.lst (stkL l ++ [.ref r] ++ [.ref r2])) = H6
                have hs6 : H6 s = some (.lst (stkL l ++ [.ref r] ++ [.ref r2])) := by rw [← eH6]; exact upd_same
                have o6 : ∀ {q : Addr}, q ≠ s → q ≠ r2 → H6 q = H4 q := fun h1 h2 => by rw [← eH6, upd_ne h1, upd_ne h2]
                have el : (stkL l ++ [V.ref r] ++ [V.ref r2]).length = l.length + 2 := by simp [stkL_len]
                have k6 : Keep [] H H6 := by rw [← eH6]; exact (k4.upd_fresh hr20).upd_fresh hs0
                have nr4 : H4 r ≠ none := by rw [o4 nrp, hr3]; simp
                have nrr2 : r ≠ r2 := fun e => nr4 (e ▸ nr2)
                have nl2 : ∀ x ∈ l, x.1 ≠ r2 := fun x hx e => by
                  obtain ⟨h1, h2, h3, h4⟩ := z.at_ x (List.mem_cons_of_mem _ hx)
                  rw [← e, o4 h1, o3 (rl x hx), h4] at nr2
                  cases nr2
                refine ⟨_, rfl, _, rfl, _, _, rfl, .inl ⟨_, .of hs6, rfl⟩, _, _, rfl, o ++ [n1], (r2, n1, 0) :: (r, b, p + 1) :: l, max most (l.length + 2), _, _, by rw [el, max_iv]; rfl, ⟨k6, by rw [o6 hps npr2, ho4, List.map_append]; rfl, by rw [stkL_cons, stkL_cons]; exact hs6, fun x hx => ?_, ?_, fun x hx => ?_, hond, horg, ?_, fun o2 m2 h => ?_⟩, ?_⟩
                · rcases List.mem_cons.mp hx with e | hx
                  · rw [e]
                    exact ⟨Ne.symm npr2, Ne.symm nsr2, hr20, by rw [← eH6, upd_ne (Ne.symm nsr2), upd_same]; rfl⟩
                  · rcases List.mem_cons.mp hx with e | hx
                    · rw [e]
                      exact ⟨nrp, nrs, hr0, by rw [o6 nrs nrr2, o4 nrp]; exact hr3⟩
                    · obtain ⟨h1, h2, h3, h4⟩ := z.at_ x (List.mem_cons_of_mem _ hx)
                      exact ⟨h1, h2, h3, by rw [o6 h2 (nl2 x hx), o4 h1, o3 (rl x hx)]; exact h4⟩
                · refine List.nodup_cons.mpr ⟨fun hx => ?_, z.nd⟩
                  rcases List.mem_cons.mp hx with e | hx
                  · exact nrr2 e.symm
                  · obtain ⟨x, h1, h2⟩ := List.mem_map.mp hx
                    exact nl2 x h1 h2
                · rcases List.mem_cons.mp hx with e | hx
                  · rw [e]
                    exact ⟨hn1, Nat.zero_le _⟩
                  · rcases List.mem_cons.mp hx with e | hx
                    · rw [e]
                      exact ⟨hb, hpl⟩
                    · exact z.low x (List.mem_cons_of_mem _ hx)
                · simp only [List.length_cons, List.length_append, List.length_nil]
                  omega
                · exact z.fin o2 m2 (fin_push (rowOf_get hb) hx' hm (by rw [List.length_map]; exact h))
                · have hrl := row_le hn1
                  have ed : c.length - o.length = (c.length - (o.length + 1)) + 1 := by omega
                  simp only [meas, List.map_cons, List.sum_cons, List.length_append, List.length_cons, List.length_nil, Nat.zero_add]
                  rw [ed, Nat.succ_mul]
                  omega
      · rw [pair_eqv] at t
        match l, z, t with
        | x :: l, _, t => simp at t
        | [], z, t =>
          refine ⟨_, rfl, _, rfl, (show 2 ≤ sizeLine by decide), fun t nt => ?_⟩
          have k3 := z.kp.trans (Keep.new (o := .tup [.ref po, .int (most : Nat)]) nt)
          have npt : po ≠ t := fun e => by rw [← e, z.ord] at nt; cases nt
          exact q _ t po o most k3 upd_same npo (by rw [upd_ne npt]; exact z.ord) (z.fin _ _ .nil)
end
end K49
namespace K49
open PySem PySem.Spec PyProof.Rows L2 Rg
/-! ### the contents that are due -/
def spDue : Sp := fun vs H Q _ => ∃ v c p o, vs = [v, .ref p] ∧ ContV [] H v c ∧ H p = some (.lst (o.map iv)) ∧ o.Nodup ∧ (∀ x ∈ o, x < c.length) ∧ (∀ x ∈ o, ∀ row, c[x]? = some row → ∀ k, Im.b k ∈ row → k ∈ o) ∧ c.length ≤ 60 ∧ total c ≤ 300 ∧
  ∀ H' u, Keep [] H H' → ContF H H' u (copyC c o) → Q u H'
section
variable {P : Program} {w : World} {K : PySem.W.Frag} {mg : Str → Option Value} {base : Heap}
def N_l_due : List Str := ["_law_contents_here", "_law_order", "_law_numbers", "_law_at", "_law_box", "_law_found", "_law_row", "_law_item"]
theorem sc_l_due : FnScope N_l_due ["_law_contents_here", "_law_order"] (defScope s_l_due) := ⟨rfl, rfl, rfl, by decide +kernel, rfl, by decide +kernel, by decide +kernel⟩
theorem ok_l_due (T : Txt K mg) : FnR P w K mg base CX0 1 T.f_l_due spDue := by
  refine okR T.F_l_due sc_l_due (fun vs H Q E h => ?_) (T.F_l_due.binds fun _ _ _ _ _ _ us hl => match us, hl with | [_, _], _ => rfl) (fun cdv A outer s H vs Q E hr h => ?_)
  · obtain ⟨v, c, p, o, rfl, _⟩ := h
    rfl
  · refine ⟨_, (pss_cons (ps_set (i := 2) sc_l_due.nd rfl (Or.inr rfl) (pe_callTy (call_dictP rfl) (by rfl) T.n_dict (by decide +kernel) (pa_cons (pe_lc (own := [("_law_at", 3), ("_law_box", 4)]) (g := gTup K 2 (gCons (gName 3) (gCons (gName 4) gNil))) (tt := tYes) rfl sc_l_due.nd (pi_enum (by rfl) T.n_enumerate (pa_cons (pv 1) pa_nil)) (blkOk_by (N := N_l_due) (sc := defScope s_l_due) (by decide +kernel)) (fun _ _ _ _ _ => (pg_tup rfl (pgs_cons (pg_name (i := 3) sc_l_due.nd rfl (Or.inl rfl)) (pgs_cons (pg_name (i := 4) sc_l_due.nd rfl (Or.inl rfl)) pgs_nil)))) (fun _ _ _ _ _ => pts_nil) (fun _ _ _ _ _ => (pe_tup (pa_cons (pv 4) (pa_cons (pe_op op_add (pe_callB (lenK (K := K)) (by rfl) T.n_len (by decide +kernel) (pa_cons (pv 0) pa_nil)) (pv 3)) pa_nil))))) pa_nil)))
      (pss_cons (ps_setLc (i := 5) (own := [("_law_row", 6)]) (g := (gName 6)) (tt := tYes) rfl sc_l_due.nd rfl rfl (sw_true rfl rfl rfl (by decide +kernel)) (pi_list (pv 0)) (blkOk_by (N := N_l_due) (sc := defScope s_l_due) (by decide +kernel)) (fun _ _ _ _ _ => (pg_name (i := 6) sc_l_due.nd rfl (Or.inl rfl))) (fun _ _ _ _ _ => pts_nil) (fun _ _ _ _ _ => (pe_callTy (listK (K := K)) (by rfl) T.n_list (by decide +kernel) (pa_cons (pv 6) pa_nil))))
      (pss_cons (ps_for PassesOwn.never rfl (pi_list (pv 1)) (pg_name (i := 4) sc_l_due.nd rfl (Or.inl rfl))
      (pss_one (ps_expr (pe_bm PySem.F.plainAttrs_list PySem.F.slot_list_append PySem.F.type_list_append mt_append (pv 5) (pa_cons (pe_lc (own := [("_law_item", 7)]) (g := (gName 7)) (tt := tYes) rfl sc_l_due.nd (pi_list (pe_ix ix_list (pv 0) (pv 4) (fun _ _ => rfl))) (blkOk_by (N := N_l_due) (sc := defScope s_l_due) (by decide +kernel)) (fun _ _ _ _ _ => (pg_name (i := 7) sc_l_due.nd rfl (Or.inl rfl))) (fun _ _ _ _ _ => pts_nil) (fun _ _ _ _ _ => (pe_ifExp (pt_val (pe_callB (isiK (K := K)) (by rfl) T.n_isinstance (by decide +kernel) (pa_cons (pv 7) (pa_cons (pe_bltn (v := .ty "tuple") (by rfl) T.n_tuple (by decide +kernel) rfl) pa_nil)))) (pe_tup (pa_cons pe_str (pa_cons (pe_dget (hu_of hr) (pv 2) (pe_ix (ixtK (K := K)) (pv 7) pe_int (fun _ _ => rfl)) (fun _ _ => rfl)) pa_nil))) (pv 7)))) pa_nil)))))
      (pss_one (ps_ret (pv 5)))))), ?_⟩
    obtain ⟨v, c, p, o, rfl, ⟨a, rs, rfl, _, ha, hR⟩, hp, hnd, hrg, hcl, hc, htot, q⟩ := h
    have hlen : rs.length = c.length := hR.length
    have hol : o.length ≤ 60 := Nat.le_trans (nodup_le _ o hnd hrg) hc
    have hs : SqL K (hd [] H) p (o.map iv) := .of (by rw [hd_out (by simp)]; exact hp)
    have ite := it_enum (M := []) hs (by simp)
    -- the pairs
    refine ⟨_, rfl, p, _, rfl, .of hp, fun D hD => lc_it (M := []) (Jv := fun _ => True)
      (Rel := fun H' v (kv : Key × V) => ∃ t, v = .ref t ∧ t ≠ D ∧ H' t = some (.tup [kV kv.1, kv.2])) (Ok := fun i kv => ∃ x, o[i]? = some x ∧ kv = (.inl (x : Int), .int ((c.length + i : Nat)))) (n := (o.map iv).length)
      (Yx := fun i x H' => ∃ t y, x = .ref t ∧ (o.map iv)[i]? = some y ∧ H' t = some (.tup [.int (i : Nat), y])) hD (by simp) (fun _ _ _ _ => trivial) trivial (by rw [List.length_map]; omega) ite.1 ite.2.1
      (fun i H1 y H2 h1 h2 h3 => by obtain ⟨z1, z2, t, y', e1, e2, e3, e4⟩ := ite.2.2 i H1 y H2 h1 h2 (by simp) h3; exact ⟨z1, z2, t, y', e1, e2, by rw [e4]; exact upd_same⟩)
      (fun H1 H2 y z k ⟨t, e, n2, h3⟩ => ⟨t, e, n2, k.at (by simpa using n2) h3⟩) ?_ gTup2_mono ?_⟩
    · rintro i x H1 hi1 k _ hDn ⟨t, y, rfl, hy, ht⟩ Qe hQ
      rw [List.getElem?_map] at hy
      cases ho : o[i]? with
      | none => rw [ho] at hy; cases hy
      | some x =>
        rw [ho] at hy
        cases hy
        have ha1 := k.same _ _ ha
        refine ⟨t, _, rfl, .of ht, rfl, _, _, rfl, _, _, rfl, rfl, rfl, _, rfl, _, rfl, _, c.length, rfl, .inl ⟨_, .of ha1, by rw [hlen]⟩, _, rfl, _, _, rfl, rfl, (show 2 ≤ sizeLine by decide), fun u nu => ?_⟩
        exact hQ _ (.inl (x : Int), .int ((c.length + i : Nat))) _ (.new nu) trivial ⟨x, ho, rfl⟩ ⟨u, rfl, fun z => hDn (by rw [← z]; exact nu), upd_same⟩
    · intro acc zs H1 k1 _ hA hP hL hO
      have ez : zs = numK c.length o := by
        refine eq_of_get (by rw [hL, List.length_map, numK_len]) fun i z hz => ?_
        obtain ⟨x, h1, rfl⟩ := hO i z hz
        exact numK_get h1
      rw [ez] at hP
      obtain ⟨ps, eps, hps⟩ := refs_of (R := fun t (kv : Key × V) => t ≠ D ∧ H1 t = some (.tup [kV kv.1, kv.2])) hP
      rw [eps] at hA
      refine ⟨D, ps, numK c.length o, rfl, .of hA, paired_mono (fun _ _ z => .of z.2) hps, fun d nd => ?_⟩
      rw [numK_merge0 hnd]
      have k2 : Keep [] H (upd H1 d (.dK (numK c.length o))) := k1.trans (.new nd)
      have hd0 : H d = none := k1.free nd (by simp)
      generalize eH2 : upd H1 d (.dK (numK c.length o)) = H2 at k2
      have hd2 : H2 d = some (.dK (numK c.length o)) := by rw [← eH2]; exact upd_same
      have ha2 := k2.same _ _ ha
      have hs2 : SqL K (hd [] H2) a rs := .of (by rw [hd_out (by simp)]; exact ha2)
      -- the rows
      refine ⟨_, rfl, a, rfl, ⟨_, .of ha2⟩, fun f nf => lc_it (M := []) (Jv := fun _ => True)
        (Rel := fun H' v (r : List Im) => ∃ a xs, v = .ref a ∧ H2 a = none ∧ a ≠ f ∧ H' a = some (.lst xs) ∧ ImsV H' xs r) (Ok := fun i r => c[i]? = some r) (n := rs.length)
        (Yx := fun i x _ => rs[i]? = some x) nf (by simp) (fun _ _ _ _ => trivial) trivial (by omega) (it_list hs2).1 (it_list hs2).2.1 (fun i H1 y H2 h1 h2 h3 => let z := (it_list hs2).2.2 i H1 y H2 h1 h2 h3; ⟨z.1, z.2.1, z.2.2.1⟩)
        (fun H1 H2 y z k ⟨a, xs, e, n1, n2, h3, h4⟩ => ⟨a, xs, e, n1, n2, k.at (by simpa using n2) h3, h4.keep k⟩) ?_ gName_mono ?_⟩
      · rintro i x H3 hi1 k3 _ hDn hx Qe hQ
        obtain ⟨r, hr2, ar, xs, rfl, _, h3, h4⟩ := paired_getV hR hx
        have k23 := k2.trans k3
        refine ⟨rfl, _, rfl, _, _, rfl, .inl (.of (k23.same _ _ h3)), fun t nt => ?_⟩
        exact hQ _ r _ (.new nt) trivial hr2 ⟨t, xs, rfl, k3.free nt (by simp), fun z => hDn (by rw [← z]; exact nt), upd_same, (h4.keep k23).keep (.new (S := []) nt)⟩
      · intro acc zs H3 k3 _ hA3 hP3 hL3 hO3
        have ez3 : zs = c := eq_of_get (by rw [hL3, hlen]) fun i z hz => hO3 i z hz
        rw [ez3] at hP3
        obtain ⟨bs, eb, hb⟩ := refs_of (R := fun a (r : List Im) => (H2 a = none ∧ a ≠ f) ∧ ∃ xs, H3 a = some (.lst xs) ∧ ImsV H3 xs r) (paired_mono (fun v r ⟨a, xs, e, n1, n2, h3, h4⟩ => ⟨a, e, ⟨n1, n2⟩, xs, h3, h4⟩) hP3)
        have hf0 : H f = none := k2.free nf (by simp)
        have z0 : DInv H f H3 bs (c ++ (o.take 0).map fun x => (rowOf c x).map (rnm c.length o)) := by
          refine ⟨k2.trans k3, by rw [hA3, eb], fun e => ?_, by simpa using paired_mono (fun a r ⟨⟨n1, _⟩, h⟩ => ⟨k2.free n1 (by simp), h⟩) hb⟩
          obtain ⟨i, h1⟩ := List.getElem?_of_mem e
          exact (paired_getV hb h1).choose_spec.2.1.2 rfl
        have hd3 := k3.same _ _ hd2
        have ndf : d ≠ f := fun e => by rw [← e, hd2] at nf; cases nf
        refine ⟨_, rfl, p, rfl, ⟨_, .of (z0.kp.same _ _ hp)⟩, for_list (K := K) (a := p) (xs := o.map iv) (fun i σ H' => ∃ as v4 v6 v7, σ = [some (.ref a), some (.ref p), some (.ref d), none, v4, some (.ref f), v6, v7] ∧ DInv H f H' as (c ++ (o.take i).map fun x => (rowOf c x).map (rnm c.length o)) ∧ H' d = some (.dK (numK c.length o)))
          ⟨bs, _, _, _, rfl, z0, hd3⟩ (fun i σ H' _ ⟨_, _, _, _, _, z, _⟩ => .of (z.kp.same _ _ hp)) ?_ ?_⟩
        · rintro i y σ H4 hy ⟨as, v4, v6, v7, rfl, z, hd4⟩
          rw [List.getElem?_map] at hy
          cases ho : o[i]? with
          | none => rw [ho] at hy; cases hy
          | some x =>
            rw [ho] at hy
            cases hy
            have hxo := List.mem_of_getElem? ho
            have hx := hrg x hxo
            obtain ⟨u, hu, ar, xs, rfl, _, har, hxs⟩ := paired_get hR (rowOf_get hx)
            have ha4 := z.kp.same _ _ ha
            have har4 := z.kp.same _ _ har
            have hs4 : SqL K (hd [] H4) ar xs := .of (by rw [hd_out (by simp)]; exact har4)
            have hrow := row_le hx
            refine ⟨_, rfl, .inl ⟨rfl, _, .of z.lst⟩, _, rfl, _, rfl, _, _, _, _, rfl, rfl, .of ha4, atI_nat hu, ar, rfl, ⟨_, .of har4⟩, fun t nt => lc_it (M := []) (Jv := fun _ => True)
              (Rel := fun H' v (y : Im) => ImV H' v y) (Ok := fun j y => ∃ y0, (rowOf c x)[j]? = some y0 ∧ y = rnm c.length o y0) (n := xs.length)
              (Yx := fun j v H' => xs[j]? = some v) nt (by simp) (fun _ _ _ _ => trivial) trivial (by rw [hxs.length]; omega) (it_list hs4).1 (it_list hs4).2.1 (fun i H1 y H2 h1 h2 h3 => let z := (it_list hs4).2.2 i H1 y H2 h1 h2 h3; ⟨z.1, z.2.1, z.2.2.1⟩)
              (fun H1 H2 y z k h => h.keep k) ?_ gName_mono ?_⟩
            · rintro j v H5 hj k5 _ hDn hv Qe hQ
              obtain ⟨y0, hy0, hv0⟩ := paired_getV hxs hv
              have k45 := z.kp.trans k5
              have hv5 := hv0.keep k45
              refine ⟨rfl, ?_⟩
              cases y0 with
              | i n1 =>
                refine ⟨_, rfl, _, _, _, _, false, rfl, .ty _, (ImV.ty hv5), kit_ty (show kitB "int" "tuple" = some false by decide +kernel), _, rfl, iteF ⟨_, rfl, ?_⟩⟩
                exact hQ _ _ _ .refl trivial ⟨_, hy0, rfl⟩ hv5
              | s w1 =>
                refine ⟨_, rfl, _, _, _, _, false, rfl, .ty _, (ImV.ty hv5), kit_ty (show kitB "str" "tuple" = some false by decide +kernel), _, rfl, iteF ⟨_, rfl, ?_⟩⟩
                exact hQ _ _ _ .refl trivial ⟨_, hy0, rfl⟩ hv5
              | b n1 =>
                have hty := ImV.ty (K := K) hv5
                obtain ⟨t1, rfl, ht1⟩ := hv5
                have hn1 : n1 ∈ o := hcl x hxo _ (rowOf_get hx) n1 (List.mem_of_getElem? hy0)
                have hg1 : DGet H5 d (V.int n1) (some (.int ((c.length + o.idxOf n1 : Nat)))) := by
                  have z := DGet.k (k := Sum.inl (n1 : Int)) (k5.same _ _ hd4)
                  rw [numK_idx hnd hn1] at z
                  exact z
                refine ⟨_, rfl, _, _, _, _, true, rfl, .ty _, hty, kit_ty (show kitB "tuple" "tuple" = some true by decide +kernel), _, rfl, iteT ⟨_, rfl, _, rfl, _, _, _, _, rfl, rfl, .of ht1, rfl, d, _, rfl, hg1, (show 2 ≤ sizeLine by decide), fun u nu => ?_⟩⟩
                exact hQ _ (.b (c.length + o.idxOf n1)) _ (.new nu) trivial ⟨_, hy0, rfl⟩ ⟨u, rfl, upd_same⟩
            · intro acc5 zs5 H5 k5 _ hA5 hP5 hL5 hO5
              have ez5 : zs5 = (rowOf c x).map (rnm c.length o) := eq_of_get (by rw [hL5, List.length_map, hxs.length]) fun i z hz => by
                obtain ⟨y0, h1, rfl⟩ := hO5 i z hz
                rw [List.getElem?_map, h1]
                rfl
              rw [ez5] at hP5
              have z5 := z.new k5
              have ht0 : H t = none := z.kp.free nt (by simp)
              have ntf : t ≠ f := fun e => by rw [e, z.lst] at nt; cases nt
              have hla : as.length = c.length + (o.take i).length := by
                have := z.rows.length
                simpa using this
              refine ⟨f, _, _, rfl, rfl, z5.lst, small_of (by rw [List.length_map, hla, List.length_take]; omega), as ++ [t], some (.int x), v6, v7, rfl, ?_, by rw [upd_ne ndf]; exact k5.same _ _ hd4⟩
              obtain ⟨hil, hie⟩ := List.getElem?_eq_some_iff.mp ho
              have etk : o.take (i + 1) = o.take i ++ [x] := by rw [List.take_succ_eq_append_getElem hil, hie]
              have zz := z5.push hf0 ht0 hA5 ntf hP5
              rw [etk, List.map_append, ← List.append_assoc]
              exact zz
        · rintro σ H4 ⟨as, v4, v6, v7, rfl, z, hd4⟩
          rw [List.length_map, List.take_length] at z
          exact ⟨_, rfl, q _ _ z.kp ⟨f, as, rfl, hf0, z.lst, z.rows⟩⟩
end
end K49
namespace K49
open PySem PySem.Spec PyProof.Rows L2 Rg
/-! ### the law -/
/-- contents of some size, of items that are written in few signs -/
structure CtOk (n t : Nat) (c : Cont) : Prop where
  len : c.length ≤ n
  tot : total c ≤ t
  pos : 0 < c.length
  ok : ∀ r ∈ c, ∀ x ∈ r, okIm (c.length : Int) x = true ∧ fineIm x
theorem okIm_mono {m n : Int} (h : m ≤ n) : ∀ {x : Im}, okIm m x = true → okIm n x = true
  | .i _, _ => rfl
  | .s _, e => e
  | .b k, e => by
    simp only [okIm, Bool.and_eq_true, decide_eq_true_eq] at e ⊢
    omega
theorem CtOk.refs {n t : Nat} {c : Cont} (z : CtOk n t c) : refs c := fun r hr k hk => by
  have e := (z.ok r hr _ hk).1
  simp only [okIm, Bool.and_eq_true, decide_eq_true_eq] at e
  omega
theorem CtOk.cont {n t : Nat} {c : Cont} (z : CtOk n t c) (h1 : n ≤ 60) (h2 : t ≤ 300) : okCont c := ⟨Nat.le_trans z.len h1, Nat.le_trans z.tot h2, fun r hr x hx => (z.ok r hr x hx).1⟩
theorem CtOk.copy {n t : Nat} {c : Cont} (z : CtOk n t c) (hn : n ≤ 400) {o : List Nat} (h0 : o.Nodup) (h2 : ∀ x ∈ o, x < c.length) (hcl : ∀ x ∈ o, ∀ row, c[x]? = some row → ∀ k, Im.b k ∈ row → k ∈ o) : CtOk (2 * n) (2 * t) (copyC c o) := by
  have hl := nodup_le _ o h0 h2
  have hz := lens_le h0 h2
  have a1 := z.len
  have a2 := z.tot
  have a3 := z.pos
  refine ⟨by rw [copyC_len]; omega, by rw [copyC_total]; omega, by rw [copyC_len]; omega, fun r hr x hx => ?_⟩
  rcases copyC_item h2 hcl hr hx with ⟨r', hr', hx'⟩ | ⟨k, hk, rfl⟩
  · exact ⟨okIm_mono (by rw [copyC_len]; omega) (z.ok r' hr' x hx').1, (z.ok r' hr' x hx').2⟩
  · refine ⟨?_, show _ < 1000 by omega⟩
    simp only [okIm, Bool.and_eq_true, decide_eq_true_eq, copyC_len]
    omega
theorem CtOk.rp {n t : Nat} {c : Cont} (z : CtOk n t c) (h1 : n ≤ 100) (h2 : t ≤ 300) : Rp (contD c) 100000 3 :=
  rp_cont (fun r hr x hx => (z.ok r hr x hx).2) (Nat.le_trans z.tot h2) (Nat.le_trans z.len h1)
structure AInv (C : Addr) (H : Hp) (b h l : Addr) (H' : Hp) (v : V) (as : List Addr) (c : Cont) (i : Nat) : Prop where
  kp : Keep [b] H H'
  bag : BagAt H' b
  hat : HeapAt C H' h l as c
  cv : ContV [b, l] H' v c
  ct : CtOk (7 * 2 ^ i) (21 * 2 ^ i) c
  nb : b ∉ as
theorem AInv.take {C : Addr} {H H' H2 : Hp} {b h l : Addr} {v : V} {as : List Addr} {c : Cont} {i : Nat} (z : AInv C H b h l H' v as c i) (hh : b ≠ h) (hl : b ≠ l) (k : Keep [b] H' H2) (g : BagAt H2 b) : AInv C H b h l H2 v as c i :=
  ⟨z.kp.trans k, g, z.hat.keepL k hl z.nb hh, z.cv.keep k (fun m hm => by rw [List.mem_singleton.mp hm]; simp), z.ct, z.nb⟩
theorem AInv.new {C : Addr} {H H' H2 : Hp} {b h l : Addr} {v : V} {as : List Addr} {c : Cont} {i : Nat} (z : AInv C H b h l H' v as c i) (k : Keep [] H' H2) : AInv C H b h l H2 v as c i :=
  ⟨z.kp.trans k.all, z.bag.same k, z.hat.same k, z.cv.keep k (by simp), z.ct, z.nb⟩
theorem ContV.lenV {K : PySem.W.Frag} {S : List Addr} {H : Hp} {v : V} {c : Cont} (h : ContV S H v c) : LenV K v H c.length := by
  obtain ⟨a, vs, rfl, _, h2, h3⟩ := h
  exact .inl ⟨vs, .of h2, h3.length.symm⟩
theorem ne_same (x : V) : (!decide (x = x)) = true → False := fun h => by simp at h
def spLaw (K : PySem.W.Frag) : Sp := fun vs H Q _ => ∃ (a : Addr) (ns : List Int), vs = [.ref a] ∧ SqL K H a (ns.map V.int) ∧ ns.length ≤ 63 ∧ ∀ H', Q (.bl true) H'
section
variable {P : Program} {w : World} {K : PySem.W.Frag} {mg : Str → Option Value} {base : Heap}
def N_law : List Str := ["_law_script", "_law_k", "_law_bag_here", "_law_turn", "_law_size", "_law_contents_here", "_law_heap", "_law_again", "_law_box", "_law_order", "_law_deep", "_law_once", "_law_due_here", "_law_at", "_law_one", "_law_found"]
theorem sc_law : FnScope N_law ["_law_script"] (defScope s_law) := ⟨rfl, rfl, rfl, by decide +kernel, rfl, by decide +kernel, by decide +kernel⟩
theorem ok_law (T : Txt K mg) : FnGd P w K mg base CX0 120 T.f_law (spLaw K) := by
  refine okGd T.F_law sc_law (fun vs H Q E h => ?_) (T.F_law.binds fun _ _ _ _ _ _ us hl => match us, hl with | [_], _ => rfl) (fun cdv A outer s H vs Q E hg hr h => ?_)
  · obtain ⟨a, ns, rfl, _⟩ := h
    rfl
  · refine ⟨_, (pss_cons (ps_for PassesOwn.never rfl (pi_range1 (by rfl) T.n_range (pa_cons (pe_callB (call_max2 rfl) (by rfl) T.n_max (by decide +kernel) (pa_cons pe_int (pa_cons (pe_callB (call_min2 rfl) (by rfl) T.n_min (by decide +kernel) (pa_cons pe_int (pa_cons (pe_callB call_len (by rfl) T.n_len (by decide +kernel) (pa_cons (pv 0) pa_nil)) pa_nil))) pa_nil))) pa_nil)) (pg_name (i := 1) sc_law.nd rfl (Or.inl rfl))
      (pss_cons (ps_set (i := 2) sc_law.nd rfl (Or.inl rfl) (pe_callR (ok_l_bag T) (hr.mono (by decide)) rfl T.g_l_bag T.F_l_bag.kp pass0 (pa_cons (pv 0) (pa_cons (pv 1) pa_nil))))
      (pss_one (ps_for PassesOwn.never rfl (pi_range1 (by rfl) T.n_range (pa_cons pe_int pa_nil)) (pg_name (i := 3) sc_law.nd rfl (Or.inl rfl))
      (pss_cons (ps_set (i := 4) sc_law.nd rfl (Or.inl rfl) (pe_op op_add pe_int (pe_callR (ok_l_take T) (hr.mono (by decide)) rfl T.g_l_take T.F_l_take.kp pass0 (pa_cons (pv 2) (pa_cons pe_int pa_nil)))))
      (pss_cons (ps_set (i := 5) sc_law.nd rfl (Or.inr rfl) (pe_callR (ok_l_contents T) (hr.mono (by decide)) rfl T.g_l_contents T.F_l_contents.kp pass0 (pa_cons (pv 2) (pa_cons (pv 4) (pa_cons pe_int pa_nil)))))
      (pss_cons (ps_set (i := 6) sc_law.nd rfl (Or.inr rfl) (pe_callR (ok_l_built T) (hr.mono (by decide)) rfl T.g_l_built T.F_l_built.kp pass0 (pa_cons (pv 2) (pa_cons (pv 5) pa_nil))))
      (pss_one (ps_for PassesOwn.never rfl (pi_range1 (by rfl) T.n_range (pa_cons pe_int pa_nil)) (pg_name (i := 7) sc_law.nd rfl (Or.inl rfl))
      (pss_cons (ps_set (i := 8) sc_law.nd rfl (Or.inr rfl) (pe_callR (ok_l_take T) (hr.mono (by decide)) rfl T.g_l_take T.F_l_take.kp pass0 (pa_cons (pv 2) (pa_cons (pe_callB call_len (by rfl) T.n_len (by decide +kernel) (pa_cons (pv 5) pa_nil)) pa_nil))))
      (pss_cons (ps_asg (pe_callR (ok_l_opening T) (hr.mono (by decide)) rfl T.g_l_opening T.F_l_opening.kp pass0 (pa_cons (pv 5) (pa_cons (pv 8) pa_nil))) (pg_tup rfl (pgs_cons (pg_name (i := 9) sc_law.nd rfl (Or.inl rfl)) (pgs_cons (pg_name (i := 10) sc_law.nd rfl (Or.inl rfl)) pgs_nil))))
      (pss_cons (ps_if (pt_cmpR op_ne (pe_callB (call_reprD hg hr) (by rfl) T.n_repr (by decide +kernel) (pa_cons (pe_lc (own := [("_law_once", 11)]) (g := (gName 11)) (tt := tYes) rfl sc_law.nd (pi_range1 (by rfl) T.n_range (pa_cons pe_int pa_nil)) (blkOk_by (N := N_law) (sc := defScope s_law) (by decide +kernel)) (fun _ _ _ _ _ => (pg_name (i := 11) sc_law.nd rfl (Or.inl rfl))) (fun _ _ _ _ _ => pts_nil) (fun _ _ _ _ _ => (pe_callR (ok_copy_depth T) (hr.mono (by decide)) rfl T.g_copy_depth T.F_copy_depth.kp pass0 (pa_cons (pv 6) (pa_cons (pv 8) pa_nil))))) pa_nil)) (pe_callB (call_reprD hg hr) (by rfl) T.n_repr (by decide +kernel) (pa_cons (pe_op op_rep (pe_lst (pa_cons (pv 10) pa_nil)) pe_int) pa_nil)) (nomark _)) (pss_one (ps_ret pe_bl)) pss_nil)
      (pss_cons (ps_setLc (i := 12) (own := [("_law_at", 13), ("_law_one", 14)]) (g := gTup K 2 (gCons (gName 13) (gCons (gName 14) gNil))) (tt := tYes) rfl sc_law.nd rfl rfl (sw_true rfl rfl rfl (by decide +kernel)) (pi_enum (by rfl) T.n_enumerate (pa_cons (pv 9) pa_nil)) (blkOk_by (N := N_law) (sc := defScope s_law) (by decide +kernel)) (fun _ _ _ _ _ => (pg_tup rfl (pgs_cons (pg_name (i := 13) sc_law.nd rfl (Or.inl rfl)) (pgs_cons (pg_name (i := 14) sc_law.nd rfl (Or.inl rfl)) pgs_nil)))) (fun _ _ _ _ _ => pts_nil) (fun _ _ _ _ _ => (pe_tup (pa_cons (pv 14) (pa_cons (pe_op op_add (pe_callB (lenK (K := K)) (by rfl) T.n_len (by decide +kernel) (pa_cons (pv 5) pa_nil)) (pv 13)) pa_nil)))))
      (pss_cons (ps_set (i := 15) sc_law.nd rfl (Or.inl rfl) (pe_callR (ok_deep_copy T) (hr.mono (by decide)) rfl T.g_deep_copy T.F_deep_copy.kp pass0 (pa_cons (pv 6) (pa_cons (pv 8) pa_nil))))
      (pss_cons (ps_if (pt_cmpR op_ne (pe_callB (call_reprD hg hr) (by rfl) T.n_repr (by decide +kernel) (pa_cons (pv 15) pa_nil)) (pe_callB (call_reprD hg hr) (by rfl) T.n_repr (by decide +kernel) (pa_cons (pv 12) pa_nil)) (nomark _)) (pss_one (ps_ret pe_bl)) pss_nil)
      (pss_cons (ps_expr (pe_bm PySem.F.plainAttrs_list PySem.F.slot_list_append PySem.F.type_list_append mt_append (pv 15) (pa_cons pe_non pa_nil)))
      (pss_cons (ps_set (i := 5) sc_law.nd rfl (Or.inr rfl) (pe_callR (ok_l_due T) (hr.mono (by decide)) rfl T.g_l_due T.F_l_due.kp pass0 (pa_cons (pv 5) (pa_cons (pv 9) pa_nil))))
      (pss_one (ps_if (pt_cmpR op_ne (pe_callB (call_reprD hg hr) (by rfl) T.n_repr (by decide +kernel) (pa_cons (pe_methR0 (pv 6) T.cl T.m_contents (ok_contents T) (hr.mono (by decide)) pass0) pa_nil)) (pe_callB (call_reprD hg hr) (by rfl) T.n_repr (by decide +kernel) (pa_cons (pv 5) pa_nil)) (nomark _)) (pss_one (ps_ret pe_bl)) pss_nil)))))))))))))))))))
      (pss_one (ps_ret pe_bl))), ?_⟩
    obtain ⟨a, ns, rfl, hs, hns, q⟩ := h
    have hM : ∀ x : Int, 0 ≤ x → x ≤ 63 → ∃ j : Nat, (if (if x < 6 then x else 6) > 2 then (if x < 6 then x else 6) else 2) = (j : Int) ∧ j ≤ 6 := fun x h1 h2 => by
      refine ⟨((if (if x < 6 then x else 6) > 2 then (if x < 6 then x else 6) else 2) : Int).toNat, ?_, ?_⟩ <;> split <;> split <;> omega
    obtain ⟨j, ej, hj⟩ := hM ((ns.map V.int).length : Nat) (by omega) (by rw [List.length_map]; omega)
    refine ⟨_, rfl, _, _, rfl, .inl ⟨_, hs, rfl⟩, _, _, rfl, _, _, rfl, j, congrArg (fun z : Int => [V.int z]) ej, by omega, by omega, for_range (lo := 0) (n := (j : Int).toNat) (fun i σ H' => ∃ v1 v2 v3 v4 v5 v6 v7 v8 v9 v10 v12 v15, σ = [some (.ref a), v1, v2, v3, v4, v5, v6, v7, v8, v9, v10, none, v12, none, none, v15] ∧ Keep [] H H')
      ⟨none, none, none, none, none, none, none, none, none, none, none, none, rfl, .refl⟩ ?_ ?_⟩
    · rintro i σ H1 hi ⟨v1, v2, v3, v4, v5, v6, v7, v8, v9, v10, v12, v15, rfl, k1⟩
      have e0 : (0 : Int) + (i : Nat) = (i : Nat) := by omega
      rw [e0]
      refine ⟨_, rfl, _, rfl, a, ns, i, rfl, sqL_same k1.same hs, by omega, fun H2 b nb k2 hb2 => ?_⟩
      have k12 := k1.trans k2
      have hb0 : H b = none := k1.free nb (by simp)
      refine ⟨4, rfl, by decide, by decide, for_range (lo := 0) (n := (4 : Int).toNat) (fun t σ H' => ∃ v3 v4 v5 v6 v7 v8 v9 v10 v12 v15, σ = [some (.ref a), some (.int (i : Nat)), some (.ref b), v3, v4, v5, v6, v7, v8, v9, v10, none, v12, none, none, v15] ∧ Keep [] H H' ∧ BagAt H' b)
        ⟨v3, v4, v5, v6, v7, v8, v9, v10, v12, v15, rfl, k12, hb2⟩ ?_ ?_⟩
      · rintro t σ H3 ht ⟨v3, v4, v5, v6, v7, v8, v9, v10, v12, v15, rfl, k3, hb3⟩
        have hbn3 : H3 b ≠ none := by
          obtain ⟨x, y, h⟩ := hb3
          rw [h]; intro z; cases z
        refine ⟨_, rfl, b, 7, rfl, by decide, by decide, hb3, fun r0 H4 hr0 k4 hb4 => ⟨_, _, rfl, rfl, ?_⟩⟩
        refine ⟨_, rfl, _, rfl, b, 1 + r0, 3, rfl, by omega, by omega, by decide, hb4, fun v c H5 k5 hb5 hcf hcl hro => ?_⟩
        have hbn4 : H4 b ≠ none := by
          obtain ⟨x, y, h⟩ := hb4
          rw [h]; intro z; cases z
        have hcv : ContV [b] H5 v c := hcf.cont fun x hx => by rw [List.mem_singleton.mp hx]; exact hbn4
        have htot : ∀ {c : Cont}, (∀ r ∈ c, RowOk (1 + r0) 3 r) → total c ≤ 3 * c.length := fun {c} h => by
          induction c with
          | nil => exact Nat.le_refl _
          | cons r c ih =>
            have h1 := (h r (by simp)).1
            have h2 := ih fun s hs => h s (List.mem_cons_of_mem _ hs)
            simp only [total, List.map_cons, List.sum_cons, List.length_cons] at h2 ⊢
            omega
        have ht := htot hro
        have ct : CtOk (7 * 2 ^ 0) (21 * 2 ^ 0) c := ⟨by rw [hcl]; simp; omega, by rw [hcl] at ht; simp; omega, by omega, fun r hr x hx => by rw [hcl]; exact (hro r hr).2 x hx⟩
        refine ⟨_, rfl, _, rfl, b, v, c, rfl, hb5, hcv, ct.cont (by decide) (by decide), ct.pos, fun H6 h l as nh nl nas k6 hb6 hat6 => ?_⟩
        have hbn5 := hb5
        have bn5 : H5 b ≠ none := by
          obtain ⟨x, y, h⟩ := hb5
          rw [h]; intro z; cases z
        have nbh : b ≠ h := fun e => bn5 (e ▸ nh)
        have nbl : b ≠ l := fun e => bn5 (e ▸ nl)
        have nba : b ∉ as := fun e => bn5 (nas b e)
        have cv6 : ContV [b, l] H6 v c := by
          have z1 := (hcv.more nl).keep k6 (fun m hm => by rw [List.mem_singleton.mp hm]; simp)
          exact z1.sub fun x hx => by simp at hx ⊢; rcases hx with e | e <;> simp [e]
        have k46 : Keep [b] H3 H6 := (k4.trans k5).trans k6
        have hl3 : H3 l = none := (k4.trans k5).free nl (fun e => nbl (List.mem_singleton.mp e).symm)
        have z6 : AInv T.C H3 b h l H6 v as c 0 := ⟨k46, hb6, hat6, cv6, ct, nba⟩
        refine ⟨2, rfl, by decide, by decide, for_range (lo := 0) (n := (2 : Int).toNat) (fun u σ H' => ∃ v as c v7 v8 v9 v10 v12 v15, σ = [some (.ref a), some (.int (i : Nat)), some (.ref b), some (.int (0 + (t : Nat))), some (.int ((1 + r0 : Nat) : Int)), some v, some (.ref h), v7, v8, v9, v10, none, v12, none, none, v15] ∧ AInv T.C H3 b h l H' v as c u)
          ⟨v, as, c, v7, v8, v9, v10, v12, v15, rfl, z6⟩ ?_ ?_⟩
        · rintro u σ H7 hu ⟨v, as, c, v7, v8, v9, v10, v12, v15, rfl, z7⟩
          have hu2 : u < 2 := hu
          have hp2 : 2 ^ u ≤ 2 := by
            have : u = 0 ∨ u = 1 := by omega
            rcases this with e | e <;> rw [e] <;> decide
          have hcl := z7.ct.len
          have hct := z7.ct.tot
          have hc14 : c.length ≤ 14 := by omega
          have ht42 : total c ≤ 42 := by omega
          refine ⟨_, rfl, _, rfl, _, c.length, rfl, ContV.lenV z7.cv, b, c.length, rfl, z7.ct.pos, by omega, z7.bag, fun r H8 hr8 k8 hb8 => ?_⟩
          have z8 := z7.take nbh nbl k8 hb8
          refine ⟨_, rfl, _, rfl, v, c, r, rfl, z8.cv.sub (by simp), hr8, z8.ct.refs, by omega, by omega, fun H9 t9 p o m k9 ht9 np hp hV => ⟨t9, _, rfl, .of ht9, rfl, _, _, rfl, _, _, rfl, rfl, ?_⟩⟩
          have z9 := z8.new k9
          have hnd := hV.nodup
          have hrg := hV.range
          have hcs := hV.closed
          have hol := nodup_le _ o hnd hrg
          have hmm := hV.deep
          have fm : Rp (.list [.int (m : Nat), .int (m : Nat)]) 300000 3 := (rp_list (w := 140) (n := 0) (xs := [.int (m : Nat), .int (m : Nat)]) fun y hy => by
            have e : y = .int (m : Nat) := by simpa using hy
            rw [e]
            exact rp_int (by omega)).mono (show (140 + 1) * 2 ≤ 300000 by decide) (by decide)
          obtain ⟨f1, f2, f3, f4⟩ := fm.fits (by decide) (by decide)
          -- the depths
          refine ⟨2, rfl, by decide, by decide, fun D hD => lc_it (M := []) (Jv := fun _ => True) (Rel := fun _ v (z : Nat) => v = .int z) (Ok := fun _ z => z = m) (n := (2 : Int).toNat)
            (Yx := fun i x _ => x = .int (0 + (i : Nat))) hD (by simp) (fun _ _ _ _ => trivial) trivial (by decide) it_range.1 it_range.2.1 (fun i H1 y H2 h1 h2 h3 => let z := it_range.2.2 i H1 y H2 h1 h2 h3; ⟨z.1, z.2.1, z.2.2.1⟩)
            (fun _ _ _ _ _ z => z) ?_ gName_mono ?_⟩
          · rintro i x H10 hi k10 _ hDn hx Qe hQ
            have z10 := z9.new k10
            exact ⟨rfl, _, rfl, _, rfl, h, l, as, c, r, rfl, z10.hat, hr8, z10.ct.refs, by omega, fun H11 o' dd k11 hV' => hQ _ dd _ k11 trivial (hV'.det hV).2 rfl⟩
          · intro acc zs H10 k10 _ hA hP hL hO
            have ez : acc = [.int (m : Nat), .int (m : Nat)] := by
              rw [paired_eq hP, List.eq_replicate_iff.mpr ⟨hL, fun y hy => let ⟨i, h1⟩ := List.getElem?_of_mem hy; hO i y h1⟩]
              rfl
            have z10 := z9.new k10
            rw [ez] at hA
            refine ⟨D, _, rfl, .lst (.of hA) (.cons (.int _) (.cons (.int _) .nil)), f1, f2, f3, f4, ?_⟩
            refine ⟨_, rfl, (show 1 ≤ sizeLine by decide), fun q1 nq1 => ⟨q1, 2, _, rfl, rfl, upd_same, by decide, by decide, (show 1 * 2 ≤ sizeLine by decide), fun q2 nq2 => ?_⟩⟩
            refine ⟨q2, _, rfl, .lst (.of upd_same) (show DpAll K _ [V.int (m : Nat), V.int (m : Nat)] _ from .cons (.int _) (.cons (.int _) .nil)), f1, f2, f3, f4, rfl, _, rfl, ite2 (fun t => (ne_same _ t).elim) fun _ => ?_⟩
            have k11 : Keep [] H10 (upd (upd H10 q1 (.lst [.int (m : Nat)])) q2 (.lst (List.replicate (2 : Int).toNat [V.int (m : Nat)]).flatten)) := (Keep.new nq1).trans (.new nq2)
            revert k11
            generalize upd (upd H10 q1 (.lst [.int (m : Nat)])) q2 (.lst (List.replicate (2 : Int).toNat [V.int (m : Nat)]).flatten) = H11
            intro k11
            have z11 := z10.new k11
            have hp11 := (k10.trans k11).same _ _ hp
            have hs11 : SqL K (hd [] H11) p (o.map iv) := .of (by rw [hd_out (by simp)]; exact hp11)
            have ite := it_enum (M := []) hs11 (by simp)
            have nlp : l ≠ p := ne_of_none z8.hat.lst np
            -- the pairs that are due
            refine ⟨_, rfl, p, _, rfl, .of hp11, fun D2 hD2 => lc_it (M := []) (Jv := fun _ => True)
              (Rel := fun H' v (kv : Key × V) => ∃ t, v = .ref t ∧ t ≠ D2 ∧ H' t = some (.tup [kV kv.1, kv.2])) (Ok := fun i kv => ∃ x, o[i]? = some x ∧ kv = (.inl (x : Int), .int ((c.length + i : Nat)))) (n := (o.map iv).length)
              (Yx := fun i x H' => ∃ t y, x = .ref t ∧ (o.map iv)[i]? = some y ∧ H' t = some (.tup [.int (i : Nat), y])) hD2 (by simp) (fun _ _ _ _ => trivial) trivial (by rw [List.length_map]; omega) ite.1 ite.2.1
              (fun i H1 y H2 h1 h2 h3 => by obtain ⟨z1, z2, t, y', e1, e2, e3, e4⟩ := ite.2.2 i H1 y H2 h1 h2 (by simp) h3; exact ⟨z1, z2, t, y', e1, e2, by rw [e4]; exact upd_same⟩)
              (fun H1 H2 y z k ⟨t, e, n2, h3⟩ => ⟨t, e, n2, k.at (by simpa using n2) h3⟩) ?_ gTup2_mono ?_⟩
            · rintro i x H12 hi1 k12 _ hDn ⟨t, y, rfl, hy, ht⟩ Qe hQ
              rw [List.getElem?_map] at hy
              cases ho : o[i]? with
              | none => rw [ho] at hy; cases hy
              | some x =>
                rw [ho] at hy
                cases hy
                have z12 := z11.new k12
                refine ⟨t, _, rfl, .of ht, rfl, _, _, rfl, _, _, rfl, rfl, rfl, _, rfl, _, rfl, _, c.length, rfl, ContV.lenV z12.cv, _, rfl, _, _, rfl, rfl, (show 2 ≤ sizeLine by decide), fun u nu => ?_⟩
                exact hQ _ (.inl (x : Int), .int ((c.length + i : Nat))) _ (.new nu) trivial ⟨x, ho, rfl⟩ ⟨u, rfl, fun z => hDn (by rw [← z]; exact nu), upd_same⟩
            · intro acc2 zs2 H12 k12 _ hA2 hP2 hL2 hO2
              have ez2 : zs2 = numK c.length o := by
                refine eq_of_get (by rw [hL2, List.length_map, numK_len]) fun i z hz => ?_
                obtain ⟨x, h1, rfl⟩ := hO2 i z hz
                exact numK_get h1
              rw [ez2] at hP2
              obtain ⟨ps, eps, hps⟩ := refs_of (R := fun t (kv : Key × V) => t ≠ D2 ∧ H12 t = some (.tup [kV kv.1, kv.2])) hP2
              rw [eps] at hA2
              have z12 := z11.new k12
              have hp12 := k12.same _ _ hp11
              have nlD : l ≠ D2 := ne_of_none z11.hat.lst hD2
              refine ⟨_, rfl, _, rfl, h, l, as, c, r, rfl, z12.hat, hr8, z12.ct.refs, z12.ct.cont (by omega) (by omega), fun o' dd hV' => ?_, fun H13 p' ts as' o' dd' k13 hV' hat13 hsub np' npl' npa' hp' hts => ?_⟩
              · have eo := (hV'.det hV).1
                have := lens_le hnd hrg
                rw [eo]
                exact ⟨by omega, by omega⟩
              · have eo := (hV'.det hV).1
                rw [eo] at hat13 hts
                have hD13 : H13 D2 = some (.lst (ps.map V.ref)) := k13.at (fun e => nlD (List.mem_singleton.mp e).symm) hA2
                have hps13 : Paired (fun t (q : Key × V) => H13 t = some (.tup [kV q.1, q.2])) ps (numK c.length o) := paired_mono (fun _ _ z => k13.tup z.2) hps
                have fn := numD_list (b := c.length) (o := o) (fun x hx => by have := hrg x hx; omega) (by omega)
                obtain ⟨g1, g2, g3, g4⟩ := fn.fits (by decide) (by decide)
                refine ⟨_, rfl, p', _, rfl, .lst (.of hp') (numD_dp hts), g1, g2, g3, g4, _, rfl, D2, _, rfl, .lst (.of hD13) (numD_dp hps13), g1, g2, g3, g4, rfl, _, rfl, ite2 (fun t => (ne_same _ t).elim) fun _ => ?_⟩
                refine ⟨_, rfl, .inl ⟨rfl, _, .of hp'⟩, p', _, _, rfl, rfl, hp', small_of (by rw [List.length_map, hts.length, numK_len]; omega), ?_⟩
                have k14 : Keep [p'] H13 (upd H13 p' (.lst (ts.map V.ref ++ [.non]))) := .put (by simp) hp' rfl
                revert k14
                generalize upd H13 p' (.lst (ts.map V.ref ++ [.non])) = H14
                intro k14
                obtain ⟨dx12, hi12⟩ := z12.hat.ins
                have nhp : h ≠ p' := ne_of_none hi12 np'
                have hb12 : ∃ u, H12 b = some u := by
                  obtain ⟨x, y, h⟩ := z12.bag
                  exact ⟨_, h⟩
                obtain ⟨ub, hub⟩ := hb12
                have nbp : b ≠ p' := ne_of_none hub np'
                have npp : p ≠ p' := ne_of_none hp12 np'
                have hp0 : H3 p' = none := z12.kp.free np' (fun e => nbp (List.mem_singleton.mp e).symm)
                have hat14 := hat13.keepL k14 npl' npa' (Ne.symm nhp)
                have cv14 : ContV [p', b, l] H14 v c := ((z12.cv.more np').keep k13 (fun m hm => by rw [List.mem_singleton.mp hm]; simp)).keep k14 (fun m hm => by rw [List.mem_singleton.mp hm]; simp)
                have bag14 : BagAt H14 b := (z12.bag.keep k13 (fun e => nbl (List.mem_singleton.mp e))).keep k14 (fun e => nbp (List.mem_singleton.mp e))
                have hp14 : H14 p = some (.lst (o.map iv)) := k14.at (fun e => npp (List.mem_singleton.mp e)) (k13.at (fun e => nlp (List.mem_singleton.mp e).symm) hp12)
                refine ⟨_, rfl, _, rfl, v, c, p, o, rfl, cv14.sub (by simp), hp14, hnd, hrg, hcs, by omega, by omega, fun H15 w k15 hcf => ?_⟩
                have hat15 := hat14.same k15
                obtain ⟨dx15, hi15⟩ := hat15.ins
                have ct15 := z7.ct.copy (by omega) hnd hrg hcs
                have cvw : ContV [b, l] H15 w (copyC c o) := hcf.cont (S := [b, l]) fun x hx => by
                  rcases List.mem_cons.mp hx with e | hx
                  · rw [e]
                    obtain ⟨x, y, h⟩ := bag14
                    rw [h]
                    simp
                  · rw [List.mem_singleton.mp hx, hat14.lst]
                    simp
                have hcl2 := copyC_len c o
                refine ⟨_, rfl, h, dx15, _, rfl, hi15, rfl, h, l, as', _, rfl, hat15, by omega, fun H16 v9 k16 hcf9 => ?_⟩
                have cv9 : ContV [] H16 v9 (copyC c o) := hcf9.cont (S := []) (by simp)
                have cvw16 := cvw.keep k16 (by simp)
                have c1 := cv9
                have c2 := cvw
                obtain ⟨a9, _, rfl, _⟩ := c1
                obtain ⟨aw, _, rfl, _⟩ := c2
                obtain ⟨i1, i2, i3, i4⟩ := (ct15.rp (by omega) (by omega)).fits (by decide) (by decide)
                refine ⟨a9, _, rfl, cv9.dp, i1, i2, i3, i4, _, rfl, aw, _, rfl, cvw16.dp, i1, i2, i3, i4, rfl, _, rfl, ite2 (fun t => (ne_same _ t).elim) fun _ => ?_⟩
                have e7 : 7 * 2 ^ (u + 1) = 2 * (7 * 2 ^ u) := by rw [Nat.pow_succ]; omega
                have e21 : 21 * 2 ^ (u + 1) = 2 * (21 * 2 ^ u) := by rw [Nat.pow_succ]; omega
                refine ⟨.ref aw, as', copyC c o, _, _, _, _, _, _, rfl, ⟨((((z12.kp.also k13 hl3).also k14 hp0).trans k15.all).trans k16.all), (bag14.same k15).same k16, hat15.same k16, cvw16, by rw [e7, e21]; exact ct15, fun e => ?_⟩⟩
                rcases hsub b e with e | e
                · exact z12.nb e
                · rw [hub] at e
                  cases e
        · rintro σ H7 ⟨v, as, c, v7, v8, v9, v10, v12, v15, rfl, z7⟩
          exact ⟨_, _, _, _, _, _, _, _, _, _, rfl, ((k3.all (S := [b])).trans z7.kp).drop hb0, z7.bag⟩
      · rintro σ H3 ⟨v3, v4, v5, v6, v7, v8, v9, v10, v12, v15, rfl, k3, hb3⟩
        exact ⟨_, _, _, _, _, _, _, _, _, _, _, _, rfl, k3⟩
    · rintro σ H1 ⟨v1, v2, v3, v4, v5, v6, v7, v8, v9, v10, v12, v15, rfl, k1⟩
      exact q _
end
end K49
namespace K49
open PySem PySem.Spec PyProof.Rows L2 Rg
theorem law_start (K : PySem.W.Frag) (H : Hp) (a : Addr) (ns : List Int) (hl : ns.length ≤ 63) (_ : Only H) (hS : SqL K H a (ns.map V.int)) : spLaw K [.ref a] H (fun v _ => v = .bl true) fun _ _ _ => False := ⟨a, ns, rfl, hS, hl, fun _ => rfl⟩
theorem end_mk {P : Program} {w : World} {K : PySem.W.Frag} {h : Heap} {mg : Str → Option Value} {fa : Addr} (X : K.In h) (G : h.Ns mainGlobals mg) (hfa : mg "law" = some (.ref fa))
    {f_is_integer : Addr} {od_is_integer an_is_integer : Option Addr} {sl_is_integer : Array (Option Value)} {oc_is_integer kV_is_integer dc_is_integer pm_is_integer cd_is_integer ct_is_integer : Value}
    {f_is_within : Addr} {od_is_within an_is_within : Option Addr} {sl_is_within : Array (Option Value)} {oc_is_within kV_is_within dc_is_within pm_is_within cd_is_within ct_is_within : Value}
    {f_is_word : Addr} {od_is_word an_is_word : Option Addr} {sl_is_word : Array (Option Value)} {oc_is_word kV_is_word dc_is_word pm_is_word cd_is_word ct_is_word : Value}
    {f_is_leaf : Addr} {od_is_leaf an_is_leaf : Option Addr} {sl_is_leaf : Array (Option Value)} {oc_is_leaf kV_is_leaf dc_is_leaf pm_is_leaf cd_is_leaf ct_is_leaf : Value}
    {f_is_reference : Addr} {od_is_reference an_is_reference : Option Addr} {sl_is_reference : Array (Option Value)} {oc_is_reference kV_is_reference dc_is_reference pm_is_reference cd_is_reference ct_is_reference : Value}
    {f_is_item : Addr} {od_is_item an_is_item : Option Addr} {sl_is_item : Array (Option Value)} {oc_is_item kV_is_item dc_is_item pm_is_item cd_is_item ct_is_item : Value}
    {f_is_box : Addr} {od_is_box an_is_box : Option Addr} {sl_is_box : Array (Option Value)} {oc_is_box kV_is_box dc_is_box pm_is_box cd_is_box ct_is_box : Value}
    {f_visit : Addr} {od_visit an_visit : Option Addr} {sl_visit : Array (Option Value)} {oc_visit kV_visit dc_visit pm_visit cd_visit ct_visit : Value}
    {f_reachable : Addr} {od_reachable an_reachable : Option Addr} {sl_reachable : Array (Option Value)} {oc_reachable kV_reachable dc_reachable pm_reachable cd_reachable ct_reachable : Value}
    {f_copy_depth : Addr} {od_copy_depth an_copy_depth : Option Addr} {sl_copy_depth : Array (Option Value)} {oc_copy_depth kV_copy_depth dc_copy_depth pm_copy_depth cd_copy_depth ct_copy_depth : Value}
    {f_deep_copy : Addr} {od_deep_copy an_deep_copy : Option Addr} {sl_deep_copy : Array (Option Value)} {oc_deep_copy kV_deep_copy dc_deep_copy pm_deep_copy cd_deep_copy ct_deep_copy : Value}
    {f_l_bag : Addr} {od_l_bag an_l_bag : Option Addr} {sl_l_bag : Array (Option Value)} {oc_l_bag kV_l_bag dc_l_bag pm_l_bag cd_l_bag ct_l_bag : Value}
    {f_l_take : Addr} {od_l_take an_l_take : Option Addr} {sl_l_take : Array (Option Value)} {oc_l_take kV_l_take dc_l_take pm_l_take cd_l_take ct_l_take : Value}
    {f_l_leaf : Addr} {od_l_leaf an_l_leaf : Option Addr} {sl_l_leaf : Array (Option Value)} {oc_l_leaf kV_l_leaf dc_l_leaf pm_l_leaf cd_l_leaf ct_l_leaf : Value}
    {f_l_contents : Addr} {od_l_contents an_l_contents : Option Addr} {sl_l_contents : Array (Option Value)} {oc_l_contents kV_l_contents dc_l_contents pm_l_contents cd_l_contents ct_l_contents : Value}
    {f_l_built : Addr} {od_l_built an_l_built : Option Addr} {sl_l_built : Array (Option Value)} {oc_l_built kV_l_built dc_l_built pm_l_built cd_l_built ct_l_built : Value}
    {f_l_opening : Addr} {od_l_opening an_l_opening : Option Addr} {sl_l_opening : Array (Option Value)} {oc_l_opening kV_l_opening dc_l_opening pm_l_opening cd_l_opening ct_l_opening : Value}
    {f_l_due : Addr} {od_l_due an_l_due : Option Addr} {sl_l_due : Array (Option Value)} {oc_l_due kV_l_due dc_l_due pm_l_due cd_l_due ct_l_due : Value}
    {f_law : Addr} {od_law an_law : Option Addr} {sl_law : Array (Option Value)} {oc_law kV_law dc_law pm_law cd_law ct_law : Value}
    {C : Addr}
    {f_init : Addr} {od_init an_init : Option Addr} {sl_init : Array (Option Value)} {oc_init kV_init dc_init pm_init cd_init ct_init : Value}
    {f_of : Addr} {od_of an_of : Option Addr} {sl_of : Array (Option Value)} {oc_of kV_of dc_of pm_of cd_of ct_of : Value}
    {p_of : Addr} {rest_of : List Value}
    {f_len : Addr} {od_len an_len : Option Addr} {sl_len : Array (Option Value)} {oc_len kV_len dc_len pm_len cd_len ct_len : Value}
    {f_contains : Addr} {od_contains an_contains : Option Addr} {sl_contains : Array (Option Value)} {oc_contains kV_contains dc_contains pm_contains cd_contains ct_contains : Value}
    {f_need_box : Addr} {od_need_box an_need_box : Option Addr} {sl_need_box : Array (Option Value)} {oc_need_box kV_need_box dc_need_box pm_need_box cd_need_box ct_need_box : Value}
    {f_need_place : Addr} {od_need_place an_need_place : Option Addr} {sl_need_place : Array (Option Value)} {oc_need_place kV_need_place dc_need_place pm_need_place cd_need_place ct_need_place : Value}
    {f_need_item : Addr} {od_need_item an_need_item : Option Addr} {sl_need_item : Array (Option Value)} {oc_need_item kV_need_item dc_need_item pm_need_item cd_need_item ct_need_item : Value}
    {f_need_room : Addr} {od_need_room an_need_room : Option Addr} {sl_need_room : Array (Option Value)} {oc_need_room kV_need_room dc_need_room pm_need_room cd_need_room ct_need_room : Value}
    {f_new : Addr} {od_new an_new : Option Addr} {sl_new : Array (Option Value)} {oc_new kV_new dc_new pm_new cd_new ct_new : Value}
    {f_put : Addr} {od_put an_put : Option Addr} {sl_put : Array (Option Value)} {oc_put kV_put dc_put pm_put cd_put ct_put : Value}
    {f_add_at : Addr} {od_add_at an_add_at : Option Addr} {sl_add_at : Array (Option Value)} {oc_add_at kV_add_at dc_add_at pm_add_at cd_add_at ct_add_at : Value}
    {f_add_last : Addr} {od_add_last an_add_last : Option Addr} {sl_add_last : Array (Option Value)} {oc_add_last kV_add_last dc_add_last pm_add_last cd_add_last ct_add_last : Value}
    {f_swap : Addr} {od_swap an_swap : Option Addr} {sl_swap : Array (Option Value)} {oc_swap kV_swap dc_swap pm_swap cd_swap ct_swap : Value}
    {f_look : Addr} {od_look an_look : Option Addr} {sl_look : Array (Option Value)} {oc_look kV_look dc_look pm_look cd_look ct_look : Value}
    {f_contents : Addr} {od_contents an_contents : Option Addr} {sl_contents : Array (Option Value)} {oc_contents kV_contents dc_contents pm_contents cd_contents ct_contents : Value}
    {t_MOST_BOXES : Tok}
    {t_MOST_ITEMS : Tok}
    {t_BOX : Tok}
    {t_LETTERS : Tok}
    {t_MOST_LETTERS : Tok}
    (a_is_integer : PySem.W.nsIn K mainGlobals "is_integer" = some (some (.ref f_is_integer)))
    (l_is_integer : K.lookup f_is_integer = some ⟨oc_is_integer, od_is_integer, .func (PySem.W.fnOf "is_integer" "is_integer" (defArgs s_is_integer) (defBody s_is_integer) (defScope s_is_integer) .none kV_is_integer dc_is_integer pm_is_integer an_is_integer cd_is_integer ct_is_integer), sl_is_integer⟩)
    (c_is_integer : PySem.W.codeIn K cd_is_integer "is_integer" = true)
    (k_is_integer : PySem.W.keepIn K (.ref f_is_integer) = true)
    (a_is_within : PySem.W.nsIn K mainGlobals "is_within" = some (some (.ref f_is_within)))
    (l_is_within : K.lookup f_is_within = some ⟨oc_is_within, od_is_within, .func (PySem.W.fnOf "is_within" "is_within" (defArgs s_is_within) (defBody s_is_within) (defScope s_is_within) .none kV_is_within dc_is_within pm_is_within an_is_within cd_is_within ct_is_within), sl_is_within⟩)
    (c_is_within : PySem.W.codeIn K cd_is_within "is_within" = true)
    (k_is_within : PySem.W.keepIn K (.ref f_is_within) = true)
    (a_is_word : PySem.W.nsIn K mainGlobals "is_word" = some (some (.ref f_is_word)))
    (l_is_word : K.lookup f_is_word = some ⟨oc_is_word, od_is_word, .func (PySem.W.fnOf "is_word" "is_word" (defArgs s_is_word) (defBody s_is_word) (defScope s_is_word) .none kV_is_word dc_is_word pm_is_word an_is_word cd_is_word ct_is_word), sl_is_word⟩)
    (c_is_word : PySem.W.codeIn K cd_is_word "is_word" = true)
    (k_is_word : PySem.W.keepIn K (.ref f_is_word) = true)
    (a_is_leaf : PySem.W.nsIn K mainGlobals "is_leaf" = some (some (.ref f_is_leaf)))
    (l_is_leaf : K.lookup f_is_leaf = some ⟨oc_is_leaf, od_is_leaf, .func (PySem.W.fnOf "is_leaf" "is_leaf" (defArgs s_is_leaf) (defBody s_is_leaf) (defScope s_is_leaf) .none kV_is_leaf dc_is_leaf pm_is_leaf an_is_leaf cd_is_leaf ct_is_leaf), sl_is_leaf⟩)
    (c_is_leaf : PySem.W.codeIn K cd_is_leaf "is_leaf" = true)
    (k_is_leaf : PySem.W.keepIn K (.ref f_is_leaf) = true)
    (a_is_reference : PySem.W.nsIn K mainGlobals "is_reference" = some (some (.ref f_is_reference)))
    (l_is_reference : K.lookup f_is_reference = some ⟨oc_is_reference, od_is_reference, .func (PySem.W.fnOf "is_reference" "is_reference" (defArgs s_is_reference) (defBody s_is_reference) (defScope s_is_reference) .none kV_is_reference dc_is_reference pm_is_reference an_is_reference cd_is_reference ct_is_reference), sl_is_reference⟩)
    (c_is_reference : PySem.W.codeIn K cd_is_reference "is_reference" = true)
    (k_is_reference : PySem.W.keepIn K (.ref f_is_reference) = true)
    (a_is_item : PySem.W.nsIn K mainGlobals "is_item" = some (some (.ref f_is_item)))
    (l_is_item : K.lookup f_is_item = some ⟨oc_is_item, od_is_item, .func (PySem.W.fnOf "is_item" "is_item" (defArgs s_is_item) (defBody s_is_item) (defScope s_is_item) .none kV_is_item dc_is_item pm_is_item an_is_item cd_is_item ct_is_item), sl_is_item⟩)
    (c_is_item : PySem.W.codeIn K cd_is_item "is_item" = true)
    (k_is_item : PySem.W.keepIn K (.ref f_is_item) = true)
    (a_is_box : PySem.W.nsIn K mainGlobals "is_box" = some (some (.ref f_is_box)))
    (l_is_box : K.lookup f_is_box = some ⟨oc_is_box, od_is_box, .func (PySem.W.fnOf "is_box" "is_box" (defArgs s_is_box) (defBody s_is_box) (defScope s_is_box) .none kV_is_box dc_is_box pm_is_box an_is_box cd_is_box ct_is_box), sl_is_box⟩)
    (c_is_box : PySem.W.codeIn K cd_is_box "is_box" = true)
    (k_is_box : PySem.W.keepIn K (.ref f_is_box) = true)
    (a_visit : PySem.W.nsIn K mainGlobals "visit" = some (some (.ref f_visit)))
    (l_visit : K.lookup f_visit = some ⟨oc_visit, od_visit, .func (PySem.W.fnOf "visit" "visit" (defArgs s_visit) (defBody s_visit) (defScope s_visit) .none kV_visit dc_visit pm_visit an_visit cd_visit ct_visit), sl_visit⟩)
    (c_visit : PySem.W.codeIn K cd_visit "visit" = true)
    (k_visit : PySem.W.keepIn K (.ref f_visit) = true)
    (a_reachable : PySem.W.nsIn K mainGlobals "reachable" = some (some (.ref f_reachable)))
    (l_reachable : K.lookup f_reachable = some ⟨oc_reachable, od_reachable, .func (PySem.W.fnOf "reachable" "reachable" (defArgs s_reachable) (defBody s_reachable) (defScope s_reachable) .none kV_reachable dc_reachable pm_reachable an_reachable cd_reachable ct_reachable), sl_reachable⟩)
    (c_reachable : PySem.W.codeIn K cd_reachable "reachable" = true)
    (k_reachable : PySem.W.keepIn K (.ref f_reachable) = true)
    (a_copy_depth : PySem.W.nsIn K mainGlobals "copy_depth" = some (some (.ref f_copy_depth)))
    (l_copy_depth : K.lookup f_copy_depth = some ⟨oc_copy_depth, od_copy_depth, .func (PySem.W.fnOf "copy_depth" "copy_depth" (defArgs s_copy_depth) (defBody s_copy_depth) (defScope s_copy_depth) .none kV_copy_depth dc_copy_depth pm_copy_depth an_copy_depth cd_copy_depth ct_copy_depth), sl_copy_depth⟩)
    (c_copy_depth : PySem.W.codeIn K cd_copy_depth "copy_depth" = true)
    (k_copy_depth : PySem.W.keepIn K (.ref f_copy_depth) = true)
    (a_deep_copy : PySem.W.nsIn K mainGlobals "deep_copy" = some (some (.ref f_deep_copy)))
    (l_deep_copy : K.lookup f_deep_copy = some ⟨oc_deep_copy, od_deep_copy, .func (PySem.W.fnOf "deep_copy" "deep_copy" (defArgs s_deep_copy) (defBody s_deep_copy) (defScope s_deep_copy) .none kV_deep_copy dc_deep_copy pm_deep_copy an_deep_copy cd_deep_copy ct_deep_copy), sl_deep_copy⟩)
    (c_deep_copy : PySem.W.codeIn K cd_deep_copy "deep_copy" = true)
    (k_deep_copy : PySem.W.keepIn K (.ref f_deep_copy) = true)
    (a_l_bag : PySem.W.nsIn K mainGlobals "_law_bag" = some (some (.ref f_l_bag)))
    (l_l_bag : K.lookup f_l_bag = some ⟨oc_l_bag, od_l_bag, .func (PySem.W.fnOf "_law_bag" "_law_bag" (defArgs s_l_bag) (defBody s_l_bag) (defScope s_l_bag) .none kV_l_bag dc_l_bag pm_l_bag an_l_bag cd_l_bag ct_l_bag), sl_l_bag⟩)
    (c_l_bag : PySem.W.codeIn K cd_l_bag "_law_bag" = true)
    (k_l_bag : PySem.W.keepIn K (.ref f_l_bag) = true)
    (a_l_take : PySem.W.nsIn K mainGlobals "_law_take" = some (some (.ref f_l_take)))
    (l_l_take : K.lookup f_l_take = some ⟨oc_l_take, od_l_take, .func (PySem.W.fnOf "_law_take" "_law_take" (defArgs s_l_take) (defBody s_l_take) (defScope s_l_take) .none kV_l_take dc_l_take pm_l_take an_l_take cd_l_take ct_l_take), sl_l_take⟩)
    (c_l_take : PySem.W.codeIn K cd_l_take "_law_take" = true)
    (k_l_take : PySem.W.keepIn K (.ref f_l_take) = true)
    (a_l_leaf : PySem.W.nsIn K mainGlobals "_law_leaf" = some (some (.ref f_l_leaf)))
    (l_l_leaf : K.lookup f_l_leaf = some ⟨oc_l_leaf, od_l_leaf, .func (PySem.W.fnOf "_law_leaf" "_law_leaf" (defArgs s_l_leaf) (defBody s_l_leaf) (defScope s_l_leaf) .none kV_l_leaf dc_l_leaf pm_l_leaf an_l_leaf cd_l_leaf ct_l_leaf), sl_l_leaf⟩)
    (c_l_leaf : PySem.W.codeIn K cd_l_leaf "_law_leaf" = true)
    (k_l_leaf : PySem.W.keepIn K (.ref f_l_leaf) = true)
    (a_l_contents : PySem.W.nsIn K mainGlobals "_law_contents" = some (some (.ref f_l_contents)))
    (l_l_contents : K.lookup f_l_contents = some ⟨oc_l_contents, od_l_contents, .func (PySem.W.fnOf "_law_contents" "_law_contents" (defArgs s_l_contents) (defBody s_l_contents) (defScope s_l_contents) .none kV_l_contents dc_l_contents pm_l_contents an_l_contents cd_l_contents ct_l_contents), sl_l_contents⟩)
    (c_l_contents : PySem.W.codeIn K cd_l_contents "_law_contents" = true)
    (k_l_contents : PySem.W.keepIn K (.ref f_l_contents) = true)
    (a_l_built : PySem.W.nsIn K mainGlobals "_law_built" = some (some (.ref f_l_built)))
    (l_l_built : K.lookup f_l_built = some ⟨oc_l_built, od_l_built, .func (PySem.W.fnOf "_law_built" "_law_built" (defArgs s_l_built) (defBody s_l_built) (defScope s_l_built) .none kV_l_built dc_l_built pm_l_built an_l_built cd_l_built ct_l_built), sl_l_built⟩)
    (c_l_built : PySem.W.codeIn K cd_l_built "_law_built" = true)
    (k_l_built : PySem.W.keepIn K (.ref f_l_built) = true)
    (a_l_opening : PySem.W.nsIn K mainGlobals "_law_opening" = some (some (.ref f_l_opening)))
    (l_l_opening : K.lookup f_l_opening = some ⟨oc_l_opening, od_l_opening, .func (PySem.W.fnOf "_law_opening" "_law_opening" (defArgs s_l_opening) (defBody s_l_opening) (defScope s_l_opening) .none kV_l_opening dc_l_opening pm_l_opening an_l_opening cd_l_opening ct_l_opening), sl_l_opening⟩)
    (c_l_opening : PySem.W.codeIn K cd_l_opening "_law_opening" = true)
    (k_l_opening : PySem.W.keepIn K (.ref f_l_opening) = true)
    (a_l_due : PySem.W.nsIn K mainGlobals "_law_due" = some (some (.ref f_l_due)))
    (l_l_due : K.lookup f_l_due = some ⟨oc_l_due, od_l_due, .func (PySem.W.fnOf "_law_due" "_law_due" (defArgs s_l_due) (defBody s_l_due) (defScope s_l_due) .none kV_l_due dc_l_due pm_l_due an_l_due cd_l_due ct_l_due), sl_l_due⟩)
    (c_l_due : PySem.W.codeIn K cd_l_due "_law_due" = true)
    (k_l_due : PySem.W.keepIn K (.ref f_l_due) = true)
    (a_law : PySem.W.nsIn K mainGlobals "law" = some (some (.ref f_law)))
    (l_law : K.lookup f_law = some ⟨oc_law, od_law, .func (PySem.W.fnOf "law" "law" (defArgs s_law) (defBody s_law) (defScope s_law) .none kV_law dc_law pm_law an_law cd_law ct_law), sl_law⟩)
    (c_law : PySem.W.codeIn K cd_law "law" = true)
    (k_law : PySem.W.keepIn K (.ref f_law) = true)
    (a_Heap : PySem.W.nsIn K mainGlobals "Heap" = some (some (.ref C)))
    (pg_ : PySem.W.plainGet K C Str.empty = true)
    (hd_ : PySem.W.hasDictIn K C = true)
    (po_ : PySem.W.plainOver K C = true)
    (sa_ : PySem.W.findIn K (.ref C) "__setattr__" = some (some (.builtin "object.__setattr__")))
    (rd_ : PySem.W.readsIn K C (.type "type") = true)
    (ga_ : PySem.W.specialIn K (.ref C) "__getattribute__" = some (some (.builtin "type.__getattribute__")))
    (a_init : PySem.W.findIn K (.ref C) "__init__" = some (some (.ref f_init)))
    (i_init : PySem.W.isFn K (.ref f_init) = true)
    (l_init : K.lookup f_init = some ⟨oc_init, od_init, .func (PySem.W.fnOf "__init__" "Heap.__init__" (defArgs s_init) (defBody s_init) (defScope s_init) .none kV_init dc_init pm_init an_init cd_init ct_init), sl_init⟩)
    (c_init : PySem.W.codeIn K cd_init "Heap.__init__" = true)
    (k_init : PySem.W.keepIn K (.ref f_init) = true)
    (mk_ : PySem.W.makesIn K C = true)
    (kc_ : PySem.W.keepIn K (.ref C) = true)
    (cf_of : PySem.W.findCls K (.ref C) (.type "type") "of" = some (.get (.builtin "classmethod.__get__") (.ref p_of) .none (.ref C)))
    (rc_of : PySem.W.recIn K p_of "classmethod" = some (.ref f_of :: rest_of))
    (fi_of : PySem.W.fnIn K f_of = true)
    (l_of : K.lookup f_of = some ⟨oc_of, od_of, .func (PySem.W.fnOf "of" "Heap.of" (defArgs s_of) (defBody s_of) (defScope s_of) .none kV_of dc_of pm_of an_of cd_of ct_of), sl_of⟩)
    (c_of : PySem.W.codeIn K cd_of "Heap.of" = true)
    (k_of : PySem.W.keepIn K (.ref f_of) = true)
    (a_len : PySem.W.findIn K (.ref C) "__len__" = some (some (.ref f_len)))
    (i_len : PySem.W.isFn K (.ref f_len) = true)
    (l_len : K.lookup f_len = some ⟨oc_len, od_len, .func (PySem.W.fnOf "__len__" "Heap.__len__" (defArgs s_len) (defBody s_len) (defScope s_len) .none kV_len dc_len pm_len an_len cd_len ct_len), sl_len⟩)
    (c_len : PySem.W.codeIn K cd_len "Heap.__len__" = true)
    (k_len : PySem.W.keepIn K (.ref f_len) = true)
    (a_contains : PySem.W.findIn K (.ref C) "__contains__" = some (some (.ref f_contains)))
    (i_contains : PySem.W.isFn K (.ref f_contains) = true)
    (l_contains : K.lookup f_contains = some ⟨oc_contains, od_contains, .func (PySem.W.fnOf "__contains__" "Heap.__contains__" (defArgs s_contains) (defBody s_contains) (defScope s_contains) .none kV_contains dc_contains pm_contains an_contains cd_contains ct_contains), sl_contains⟩)
    (c_contains : PySem.W.codeIn K cd_contains "Heap.__contains__" = true)
    (k_contains : PySem.W.keepIn K (.ref f_contains) = true)
    (a_need_box : PySem.W.findIn K (.ref C) "need_box" = some (some (.ref f_need_box)))
    (i_need_box : PySem.W.isFn K (.ref f_need_box) = true)
    (l_need_box : K.lookup f_need_box = some ⟨oc_need_box, od_need_box, .func (PySem.W.fnOf "need_box" "Heap.need_box" (defArgs s_need_box) (defBody s_need_box) (defScope s_need_box) .none kV_need_box dc_need_box pm_need_box an_need_box cd_need_box ct_need_box), sl_need_box⟩)
    (c_need_box : PySem.W.codeIn K cd_need_box "Heap.need_box" = true)
    (k_need_box : PySem.W.keepIn K (.ref f_need_box) = true)
    (a_need_place : PySem.W.findIn K (.ref C) "need_place" = some (some (.ref f_need_place)))
    (i_need_place : PySem.W.isFn K (.ref f_need_place) = true)
    (l_need_place : K.lookup f_need_place = some ⟨oc_need_place, od_need_place, .func (PySem.W.fnOf "need_place" "Heap.need_place" (defArgs s_need_place) (defBody s_need_place) (defScope s_need_place) .none kV_need_place dc_need_place pm_need_place an_need_place cd_need_place ct_need_place), sl_need_place⟩)
    (c_need_place : PySem.W.codeIn K cd_need_place "Heap.need_place" = true)
    (k_need_place : PySem.W.keepIn K (.ref f_need_place) = true)
    (a_need_item : PySem.W.findIn K (.ref C) "need_item" = some (some (.ref f_need_item)))
    (i_need_item : PySem.W.isFn K (.ref f_need_item) = true)
    (l_need_item : K.lookup f_need_item = some ⟨oc_need_item, od_need_item, .func (PySem.W.fnOf "need_item" "Heap.need_item" (defArgs s_need_item) (defBody s_need_item) (defScope s_need_item) .none kV_need_item dc_need_item pm_need_item an_need_item cd_need_item ct_need_item), sl_need_item⟩)
    (c_need_item : PySem.W.codeIn K cd_need_item "Heap.need_item" = true)
    (k_need_item : PySem.W.keepIn K (.ref f_need_item) = true)
    (a_need_room : PySem.W.findIn K (.ref C) "need_room" = some (some (.ref f_need_room)))
    (i_need_room : PySem.W.isFn K (.ref f_need_room) = true)
    (l_need_room : K.lookup f_need_room = some ⟨oc_need_room, od_need_room, .func (PySem.W.fnOf "need_room" "Heap.need_room" (defArgs s_need_room) (defBody s_need_room) (defScope s_need_room) .none kV_need_room dc_need_room pm_need_room an_need_room cd_need_room ct_need_room), sl_need_room⟩)
    (c_need_room : PySem.W.codeIn K cd_need_room "Heap.need_room" = true)
    (k_need_room : PySem.W.keepIn K (.ref f_need_room) = true)
    (a_new : PySem.W.findIn K (.ref C) "new" = some (some (.ref f_new)))
    (i_new : PySem.W.isFn K (.ref f_new) = true)
    (l_new : K.lookup f_new = some ⟨oc_new, od_new, .func (PySem.W.fnOf "new" "Heap.new" (defArgs s_new) (defBody s_new) (defScope s_new) .none kV_new dc_new pm_new an_new cd_new ct_new), sl_new⟩)
    (c_new : PySem.W.codeIn K cd_new "Heap.new" = true)
    (k_new : PySem.W.keepIn K (.ref f_new) = true)
    (a_put : PySem.W.findIn K (.ref C) "put" = some (some (.ref f_put)))
    (i_put : PySem.W.isFn K (.ref f_put) = true)
    (l_put : K.lookup f_put = some ⟨oc_put, od_put, .func (PySem.W.fnOf "put" "Heap.put" (defArgs s_put) (defBody s_put) (defScope s_put) .none kV_put dc_put pm_put an_put cd_put ct_put), sl_put⟩)
    (c_put : PySem.W.codeIn K cd_put "Heap.put" = true)
    (k_put : PySem.W.keepIn K (.ref f_put) = true)
    (a_add_at : PySem.W.findIn K (.ref C) "add_at" = some (some (.ref f_add_at)))
    (i_add_at : PySem.W.isFn K (.ref f_add_at) = true)
    (l_add_at : K.lookup f_add_at = some ⟨oc_add_at, od_add_at, .func (PySem.W.fnOf "add_at" "Heap.add_at" (defArgs s_add_at) (defBody s_add_at) (defScope s_add_at) .none kV_add_at dc_add_at pm_add_at an_add_at cd_add_at ct_add_at), sl_add_at⟩)
    (c_add_at : PySem.W.codeIn K cd_add_at "Heap.add_at" = true)
    (k_add_at : PySem.W.keepIn K (.ref f_add_at) = true)
    (a_add_last : PySem.W.findIn K (.ref C) "add_last" = some (some (.ref f_add_last)))
    (i_add_last : PySem.W.isFn K (.ref f_add_last) = true)
    (l_add_last : K.lookup f_add_last = some ⟨oc_add_last, od_add_last, .func (PySem.W.fnOf "add_last" "Heap.add_last" (defArgs s_add_last) (defBody s_add_last) (defScope s_add_last) .none kV_add_last dc_add_last pm_add_last an_add_last cd_add_last ct_add_last), sl_add_last⟩)
    (c_add_last : PySem.W.codeIn K cd_add_last "Heap.add_last" = true)
    (k_add_last : PySem.W.keepIn K (.ref f_add_last) = true)
    (a_swap : PySem.W.findIn K (.ref C) "swap" = some (some (.ref f_swap)))
    (i_swap : PySem.W.isFn K (.ref f_swap) = true)
    (l_swap : K.lookup f_swap = some ⟨oc_swap, od_swap, .func (PySem.W.fnOf "swap" "Heap.swap" (defArgs s_swap) (defBody s_swap) (defScope s_swap) .none kV_swap dc_swap pm_swap an_swap cd_swap ct_swap), sl_swap⟩)
    (c_swap : PySem.W.codeIn K cd_swap "Heap.swap" = true)
    (k_swap : PySem.W.keepIn K (.ref f_swap) = true)
    (a_look : PySem.W.findIn K (.ref C) "look" = some (some (.ref f_look)))
    (i_look : PySem.W.isFn K (.ref f_look) = true)
    (l_look : K.lookup f_look = some ⟨oc_look, od_look, .func (PySem.W.fnOf "look" "Heap.look" (defArgs s_look) (defBody s_look) (defScope s_look) .none kV_look dc_look pm_look an_look cd_look ct_look), sl_look⟩)
    (c_look : PySem.W.codeIn K cd_look "Heap.look" = true)
    (k_look : PySem.W.keepIn K (.ref f_look) = true)
    (a_contents : PySem.W.findIn K (.ref C) "contents" = some (some (.ref f_contents)))
    (i_contents : PySem.W.isFn K (.ref f_contents) = true)
    (l_contents : K.lookup f_contents = some ⟨oc_contents, od_contents, .func (PySem.W.fnOf "contents" "Heap.contents" (defArgs s_contents) (defBody s_contents) (defScope s_contents) .none kV_contents dc_contents pm_contents an_contents cd_contents ct_contents), sl_contents⟩)
    (c_contents : PySem.W.codeIn K cd_contents "Heap.contents" = true)
    (k_contents : PySem.W.keepIn K (.ref f_contents) = true)
    (na_lists : PySem.W.findIn K (.ref C) "lists" = some none)
    (cv_MOST_BOXES : PySem.W.findCls K (.ref C) (.type "type") "MOST_BOXES" = some (.val (.int 60 t_MOST_BOXES)))
    (cv_MOST_ITEMS : PySem.W.findCls K (.ref C) (.type "type") "MOST_ITEMS" = some (.val (.int 300 t_MOST_ITEMS)))
    (b_BOX : PySem.W.nsIn K mainGlobals "BOX" = some (some (.str "box" t_BOX)))
    (b_LETTERS : PySem.W.nsIn K mainGlobals "LETTERS" = some (some (.str "abcdefghijklmnopqrstuvwxyz" t_LETTERS)))
    (b_MOST_LETTERS : PySem.W.nsIn K mainGlobals "MOST_LETTERS" = some (some (.int 8 t_MOST_LETTERS)))
    (z_abs : PySem.W.nsIn K mainGlobals "abs" = some none)
    (z_all : PySem.W.nsIn K mainGlobals "all" = some none)
    (z_bool : PySem.W.nsIn K mainGlobals "bool" = some none)
    (z_dict : PySem.W.nsIn K mainGlobals "dict" = some none)
    (z_enumerate : PySem.W.nsIn K mainGlobals "enumerate" = some none)
    (z_int : PySem.W.nsIn K mainGlobals "int" = some none)
    (z_isinstance : PySem.W.nsIn K mainGlobals "isinstance" = some none)
    (z_len : PySem.W.nsIn K mainGlobals "len" = some none)
    (z_list : PySem.W.nsIn K mainGlobals "list" = some none)
    (z_max : PySem.W.nsIn K mainGlobals "max" = some none)
    (z_min : PySem.W.nsIn K mainGlobals "min" = some none)
    (z_range : PySem.W.nsIn K mainGlobals "range" = some none)
    (z_repr : PySem.W.nsIn K mainGlobals "repr" = some none)
    (z_str : PySem.W.nsIn K mainGlobals "str" = some none)
    (z_sum : PySem.W.nsIn K mainGlobals "sum" = some none)
    (z_tuple : PySem.W.nsIn K mainGlobals "tuple" = some none)
    : ∀ base : Heap, K.In base → base.Ns mainGlobals mg → FnGd P w K mg base CX0 120 fa (spLaw K) := by
  have e : fa = f_law := Value.ref.inj (Option.some.inj (hfa.symm.trans (PySem.W.mg_of X G a_law)))
  rw [e]
  exact fun base _ _ => ok_law (⟨f_is_integer, _, fun_mk (st := s_is_integer) l_is_integer c_is_integer k_is_integer, PySem.W.mg_of X G a_is_integer, f_is_within, _, fun_mk (st := s_is_within) l_is_within c_is_within k_is_within, PySem.W.mg_of X G a_is_within, f_is_word, _, fun_mk (st := s_is_word) l_is_word c_is_word k_is_word, PySem.W.mg_of X G a_is_word, f_is_leaf, _, fun_mk (st := s_is_leaf) l_is_leaf c_is_leaf k_is_leaf, PySem.W.mg_of X G a_is_leaf, f_is_reference, _, fun_mk (st := s_is_reference) l_is_reference c_is_reference k_is_reference, PySem.W.mg_of X G a_is_reference, f_is_item, _, fun_mk (st := s_is_item) l_is_item c_is_item k_is_item, PySem.W.mg_of X G a_is_item, f_is_box, _, fun_mk (st := s_is_box) l_is_box c_is_box k_is_box, PySem.W.mg_of X G a_is_box, f_visit, _, fun_mk (st := s_visit) l_visit c_visit k_visit, PySem.W.mg_of X G a_visit, f_reachable, _, fun_mk (st := s_reachable) l_reachable c_reachable k_reachable, PySem.W.mg_of X G a_reachable, f_copy_depth, _, fun_mk (st := s_copy_depth) l_copy_depth c_copy_depth k_copy_depth, PySem.W.mg_of X G a_copy_depth, f_deep_copy, _, fun_mk (st := s_deep_copy) l_deep_copy c_deep_copy k_deep_copy, PySem.W.mg_of X G a_deep_copy, f_l_bag, _, fun_mk (st := s_l_bag) l_l_bag c_l_bag k_l_bag, PySem.W.mg_of X G a_l_bag, f_l_take, _, fun_mk (st := s_l_take) l_l_take c_l_take k_l_take, PySem.W.mg_of X G a_l_take, f_l_leaf, _, fun_mk (st := s_l_leaf) l_l_leaf c_l_leaf k_l_leaf, PySem.W.mg_of X G a_l_leaf, f_l_contents, _, fun_mk (st := s_l_contents) l_l_contents c_l_contents k_l_contents, PySem.W.mg_of X G a_l_contents, f_l_built, _, fun_mk (st := s_l_built) l_l_built c_l_built k_l_built, PySem.W.mg_of X G a_l_built, f_l_opening, _, fun_mk (st := s_l_opening) l_l_opening c_l_opening k_l_opening, PySem.W.mg_of X G a_l_opening, f_l_due, _, fun_mk (st := s_l_due) l_l_due c_l_due k_l_due, PySem.W.mg_of X G a_l_due, f_law, _, fun_mk (st := s_law) l_law c_law k_law, PySem.W.mg_of X G a_law, C, PySem.W.mg_of X G a_Heap, ⟨pg_, hd_, po_, sa_⟩, ⟨rd_, ga_⟩, f_init, _, fun_mk (st := s_init) l_init c_init k_init, ⟨mk_, a_init, i_init, kc_⟩, f_of, _, fun_mk (st := s_of) l_of c_of k_of, p_of, ⟨cf_of, ⟨_, rc_of⟩, fi_of⟩, f_len, _, fun_mk (st := s_len) l_len c_len k_len, ⟨a_len, i_len, k_len⟩, f_contains, _, fun_mk (st := s_contains) l_contains c_contains k_contains, ⟨a_contains, i_contains, k_contains⟩, f_need_box, _, fun_mk (st := s_need_box) l_need_box c_need_box k_need_box, ⟨a_need_box, i_need_box, k_need_box⟩, f_need_place, _, fun_mk (st := s_need_place) l_need_place c_need_place k_need_place, ⟨a_need_place, i_need_place, k_need_place⟩, f_need_item, _, fun_mk (st := s_need_item) l_need_item c_need_item k_need_item, ⟨a_need_item, i_need_item, k_need_item⟩, f_need_room, _, fun_mk (st := s_need_room) l_need_room c_need_room k_need_room, ⟨a_need_room, i_need_room, k_need_room⟩, f_new, _, fun_mk (st := s_new) l_new c_new k_new, ⟨a_new, i_new, k_new⟩, f_put, _, fun_mk (st := s_put) l_put c_put k_put, ⟨a_put, i_put, k_put⟩, f_add_at, _, fun_mk (st := s_add_at) l_add_at c_add_at k_add_at, ⟨a_add_at, i_add_at, k_add_at⟩, f_add_last, _, fun_mk (st := s_add_last) l_add_last c_add_last k_add_last, ⟨a_add_last, i_add_last, k_add_last⟩, f_swap, _, fun_mk (st := s_swap) l_swap c_swap k_swap, ⟨a_swap, i_swap, k_swap⟩, f_look, _, fun_mk (st := s_look) l_look c_look k_look, ⟨a_look, i_look, k_look⟩, f_contents, _, fun_mk (st := s_contents) l_contents c_contents k_contents, ⟨a_contents, i_contents, k_contents⟩, na_lists, _, ⟨cv_MOST_BOXES, ⟨_, rfl⟩⟩, _, ⟨cv_MOST_ITEMS, ⟨_, rfl⟩⟩, t_BOX, PySem.W.mg_of X G b_BOX, t_LETTERS, PySem.W.mg_of X G b_LETTERS, t_MOST_LETTERS, PySem.W.mg_of X G b_MOST_LETTERS, PySem.W.mg_none_of X G z_abs, PySem.W.mg_none_of X G z_all, PySem.W.mg_none_of X G z_bool, PySem.W.mg_none_of X G z_dict, PySem.W.mg_none_of X G z_enumerate, PySem.W.mg_none_of X G z_int, PySem.W.mg_none_of X G z_isinstance, PySem.W.mg_none_of X G z_len, PySem.W.mg_none_of X G z_list, PySem.W.mg_none_of X G z_max, PySem.W.mg_none_of X G z_min, PySem.W.mg_none_of X G z_range, PySem.W.mg_none_of X G z_repr, PySem.W.mg_none_of X G z_str, PySem.W.mg_none_of X G z_sum, PySem.W.mg_none_of X G z_tuple⟩ : Txt K mg)
end K49
open PySem PySem.W PyProof.Rows in
set_option maxRecDepth 100000 in
set_option maxHeartbeats 0 in
theorem PySem.Challenge.cw_ringlists_k49_deep_copies_holds : PySem.Challenge.rw_ringlists_k49_deep_copies.Holds := by
  w_on; o_law; k_head; (case hw => w_witness2)
  k_fill
  refine Rg.walk_ofG (l := PySem.Challenge.rw_ringlists_k49_deep_copies) (n := 63) (k := 120) (sp := K49.spLaw) rfl (by decide) rfl ⟨rfl, by decide, by decide⟩ (fun w h Y => PySem.W.kIn_of Y) ?F K49.law_start
  case F =>
    intro w mg fa h KX G hmg
    have hmg : mg "law" = some (.ref fa) := hmg
    refine' K49.end_mk KX G hmg ?a_is_integer ?l_is_integer ?c_is_integer ?k_is_integer ?a_is_within ?l_is_within ?c_is_within ?k_is_within ?a_is_word ?l_is_word ?c_is_word ?k_is_word ?a_is_leaf ?l_is_leaf ?c_is_leaf ?k_is_leaf ?a_is_reference ?l_is_reference ?c_is_reference ?k_is_reference ?a_is_item ?l_is_item ?c_is_item ?k_is_item ?a_is_box ?l_is_box ?c_is_box ?k_is_box ?a_visit ?l_visit ?c_visit ?k_visit ?a_reachable ?l_reachable ?c_reachable ?k_reachable ?a_copy_depth ?l_copy_depth ?c_copy_depth ?k_copy_depth ?a_deep_copy ?l_deep_copy ?c_deep_copy ?k_deep_copy ?a_l_bag ?l_l_bag ?c_l_bag ?k_l_bag ?a_l_take ?l_l_take ?c_l_take ?k_l_take ?a_l_leaf ?l_l_leaf ?c_l_leaf ?k_l_leaf ?a_l_contents ?l_l_contents ?c_l_contents ?k_l_contents ?a_l_built ?l_l_built ?c_l_built ?k_l_built ?a_l_opening ?l_l_opening ?c_l_opening ?k_l_opening ?a_l_due ?l_l_due ?c_l_due ?k_l_due ?a_law ?l_law ?c_law ?k_law ?a_Heap ?pg_ ?hd_ ?po_ ?sa_ ?rd_ ?ga_ ?a_init ?i_init ?l_init ?c_init ?k_init ?mk_ ?kc_ ?cf_of ?rc_of ?fi_of ?l_of ?c_of ?k_of ?a_len ?i_len ?l_len ?c_len ?k_len ?a_contains ?i_contains ?l_contains ?c_contains ?k_contains ?a_need_box ?i_need_box ?l_need_box ?c_need_box ?k_need_box ?a_need_place ?i_need_place ?l_need_place ?c_need_place ?k_need_place ?a_need_item ?i_need_item ?l_need_item ?c_need_item ?k_need_item ?a_need_room ?i_need_room ?l_need_room ?c_need_room ?k_need_room ?a_new ?i_new ?l_new ?c_new ?k_new ?a_put ?i_put ?l_put ?c_put ?k_put ?a_add_at ?i_add_at ?l_add_at ?c_add_at ?k_add_at ?a_add_last ?i_add_last ?l_add_last ?c_add_last ?k_add_last ?a_swap ?i_swap ?l_swap ?c_swap ?k_swap ?a_look ?i_look ?l_look ?c_look ?k_look ?a_contents ?i_contents ?l_contents ?c_contents ?k_contents ?na_lists ?cv_MOST_BOXES ?cv_MOST_ITEMS ?b_BOX ?b_LETTERS ?b_MOST_LETTERS ?z_abs ?z_all ?z_bool ?z_dict ?z_enumerate ?z_int ?z_isinstance ?z_len ?z_list ?z_max ?z_min ?z_range ?z_repr ?z_str ?z_sum ?z_tuple
    (case a_is_integer => k_is)
    (case l_is_integer => k_is)
    (case c_is_integer => k_is)
    (case k_is_integer => k_is)
    (case a_is_within => k_is)
    (case l_is_within => k_is)
    (case c_is_within => k_is)
    (case k_is_within => k_is)
    (case a_is_word => k_is)
    (case l_is_word => k_is)
    (case c_is_word => k_is)
    (case k_is_word => k_is)
    (case a_is_leaf => k_is)
    (case l_is_leaf => k_is)
    (case c_is_leaf => k_is)
    (case k_is_leaf => k_is)
    (case a_is_reference => k_is)
    (case l_is_reference => k_is)
    (case c_is_reference => k_is)
    (case k_is_reference => k_is)
    (case a_is_item => k_is)
    (case l_is_item => k_is)
    (case c_is_item => k_is)
    (case k_is_item => k_is)
    (case a_is_box => k_is)
    (case l_is_box => k_is)
    (case c_is_box => k_is)
    (case k_is_box => k_is)
    (case a_visit => k_is)
    (case l_visit => k_is)
    (case c_visit => k_is)
    (case k_visit => k_is)
    (case a_reachable => k_is)
    (case l_reachable => k_is)
    (case c_reachable => k_is)
    (case k_reachable => k_is)
    (case a_copy_depth => k_is)
    (case l_copy_depth => k_is)
    (case c_copy_depth => k_is)
    (case k_copy_depth => k_is)
    (case a_deep_copy => k_is)
    (case l_deep_copy => k_is)
    (case c_deep_copy => k_is)
    (case k_deep_copy => k_is)
    (case a_l_bag => k_is)
    (case l_l_bag => k_is)
    (case c_l_bag => k_is)
    (case k_l_bag => k_is)
    (case a_l_take => k_is)
    (case l_l_take => k_is)
    (case c_l_take => k_is)
    (case k_l_take => k_is)
    (case a_l_leaf => k_is)
    (case l_l_leaf => k_is)
    (case c_l_leaf => k_is)
    (case k_l_leaf => k_is)
    (case a_l_contents => k_is)
    (case l_l_contents => k_is)
    (case c_l_contents => k_is)
    (case k_l_contents => k_is)
    (case a_l_built => k_is)
    (case l_l_built => k_is)
    (case c_l_built => k_is)
    (case k_l_built => k_is)
    (case a_l_opening => k_is)
    (case l_l_opening => k_is)
    (case c_l_opening => k_is)
    (case k_l_opening => k_is)
    (case a_l_due => k_is)
    (case l_l_due => k_is)
    (case c_l_due => k_is)
    (case k_l_due => k_is)
    (case a_law => k_is)
    (case l_law => k_is)
    (case c_law => k_is)
    (case k_law => k_is)
    (case a_Heap => k_is)
    (case pg_ => k_is)
    (case hd_ => k_is)
    (case po_ => k_is)
    (case sa_ => k_is)
    (case rd_ => k_is)
    (case ga_ => k_is)
    (case a_init => k_is)
    (case i_init => k_is)
    (case l_init => k_is)
    (case c_init => k_is)
    (case k_init => k_is)
    (case mk_ => k_is)
    (case kc_ => k_is)
    (case cf_of => k_is)
    (case rc_of => k_is)
    (case fi_of => k_is)
    (case l_of => k_is)
    (case c_of => k_is)
    (case k_of => k_is)
    (case a_len => k_is)
    (case i_len => k_is)
    (case l_len => k_is)
    (case c_len => k_is)
    (case k_len => k_is)
    (case a_contains => k_is)
    (case i_contains => k_is)
    (case l_contains => k_is)
    (case c_contains => k_is)
    (case k_contains => k_is)
    (case a_need_box => k_is)
    (case i_need_box => k_is)
    (case l_need_box => k_is)
    (case c_need_box => k_is)
    (case k_need_box => k_is)
    (case a_need_place => k_is)
    (case i_need_place => k_is)
    (case l_need_place => k_is)
    (case c_need_place => k_is)
    (case k_need_place => k_is)
    (case a_need_item => k_is)
    (case i_need_item => k_is)
    (case l_need_item => k_is)
    (case c_need_item => k_is)
    (case k_need_item => k_is)
    (case a_need_room => k_is)
    (case i_need_room => k_is)
    (case l_need_room => k_is)
    (case c_need_room => k_is)
    (case k_need_room => k_is)
    (case a_new => k_is)
    (case i_new => k_is)
    (case l_new => k_is)
    (case c_new => k_is)
    (case k_new => k_is)
    (case a_put => k_is)
    (case i_put => k_is)
    (case l_put => k_is)
    (case c_put => k_is)
    (case k_put => k_is)
    (case a_add_at => k_is)
    (case i_add_at => k_is)
    (case l_add_at => k_is)
    (case c_add_at => k_is)
    (case k_add_at => k_is)
    (case a_add_last => k_is)
    (case i_add_last => k_is)
    (case l_add_last => k_is)
    (case c_add_last => k_is)
    (case k_add_last => k_is)
    (case a_swap => k_is)
    (case i_swap => k_is)
    (case l_swap => k_is)
    (case c_swap => k_is)
    (case k_swap => k_is)
    (case a_look => k_is)
    (case i_look => k_is)
    (case l_look => k_is)
    (case c_look => k_is)
    (case k_look => k_is)
    (case a_contents => k_is)
    (case i_contents => k_is)
    (case l_contents => k_is)
    (case c_contents => k_is)
    (case k_contents => k_is)
    (case na_lists => k_is)
    (case cv_MOST_BOXES => k_is)
    (case cv_MOST_ITEMS => k_is)
    (case b_BOX => k_is)
    (case b_LETTERS => k_is)
    (case b_MOST_LETTERS => k_is)
    (case z_abs => k_is)
    (case z_all => k_is)
    (case z_bool => k_is)
    (case z_dict => k_is)
    (case z_enumerate => k_is)
    (case z_int => k_is)
    (case z_isinstance => k_is)
    (case z_len => k_is)
    (case z_list => k_is)
    (case z_max => k_is)
    (case z_min => k_is)
    (case z_range => k_is)
    (case z_repr => k_is)
    (case z_str => k_is)
    (case z_sum => k_is)
    (case z_tuple => k_is)
