import PyProof.Rows.All
import Wide.All
import OpenK.AllK
import Wide.FinOn
import PyProof.ReprRoads
import HandS.ForMost
import HandS.Exc
import HandS.Wide
import HandS.WideBits
import HandS.Star
import HandS.Defaults
import HandS.Property
import HandS.IsInst
import HandS.Deep
import KE.GoesMore
import KE.GoesZip
import KE.GoesEnum
import PyProof.NoPylong
import PyProof.EnumMake
import HandS.TupAny
import HandS.Style
import PyProof.ReprLen
import HandS.Conv
import PySem.Challenge.RW_oncebooked_k19_whole_interest_however_da
set_option Elab.async false
set_option linter.all false
set_option maxRecDepth 100000
set_option maxHeartbeats 4000000
/-! OB, part a: calls where no repr is under way (so that repr of any data may be asked), by position and by name. -/
namespace OB
open PySem PySem.Spec PyProof.Rows L2 PySem.W

/-- room, and no guard around -/
structure RG (k : Nat) (A : Around) : Prop where
  rm : Room k A
  gd : A.guards = some []
theorem RG.mono {j k : Nat} {A : Around} (g : RG k A) (h : j ≤ k) : RG j A := ⟨g.rm.mono h, g.gd⟩
theorem RG.deeper {k : Nat} {A : Around} (g : RG (k + 1) A) (en : Env) : RG k (A.deeper en) := ⟨g.rm.deeper en, g.gd⟩
theorem RG.in1 {k : Nat} {A : Around} (g : RG (k + 1) A) : RG k A.in1 := ⟨g.rm.in1, g.gd⟩
theorem RG.make {k : Nat} {A : Around} (g : RG (k + 1) A) (C : Addr) (us : List Value) (kw : List (Str × Value)) :
    RG k (A.under (.builtin "type.__call__" ⟨.ref C :: us, kw⟩)) := by
  refine ⟨g.rm.make C us kw, ?_⟩
  have e : Code.guards (.builtin "type.__call__" ⟨.ref C :: us, kw⟩) = [] := by
    unfold Code.guards
    rw [if_neg]
    intro z
    have z2 : guardIds.contains "type.__call__" = true := by simpa [Code.isGuard] using z
    exact absurd z2 (by decide +kernel)
  show pushGuards (Code.guards (.builtin "type.__call__" ⟨.ref C :: us, kw⟩)) A.guards = some []
  rw [e]
  exact g.gd

/-- a def's promise where no guard is around -/
structure FG (P : Program) (w : World) (K : PySem.W.Frag) (mg : Str → Option Value) (base : Heap) (CX : CXT) (k : Nat) (f : Addr) (fd : FuncData) (ps : List Str) (sp : Sp) : Prop where
  len : ∀ vs H Q E, sp vs H Q E → vs.length = ps.length
  go : ∀ (A : Around) (out : List Env) (s : Shared) (H : Hp) (ar : Args) (us : List Value) (vs : List V) (Q : VK) (E : XK), RG k A → Env0 P w K mg base A out s H →
    BindsTo s fd ar (ps.zip us) → Vals vs us → sp vs H Q E → codeAny (model P w) A (.call (.ref f) ar) (CR CX out P w H s Q E) s
section
variable {P : Program} {w : World} {K : PySem.W.Frag} {mg : Str → Option Value} {base : Heap} {CX : CXT} {f : Addr} {fd : FuncData} {ps : List Str} {sp : Sp}
theorem FG.mono {j k : Nat} (F : FG P w K mg base CX j f fd ps sp) (h : j ≤ k) : FG P w K mg base CX k f fd ps sp :=
  ⟨F.len, fun A out s H ar us vs Q E g => F.go A out s H ar us vs Q E (g.mono h)⟩
theorem FG.imp {k : Nat} {sp' : Sp} (F : FG P w K mg base CX k f fd ps sp) (h : ∀ vs H Q E, sp' vs H Q E → sp vs H Q E) : FG P w K mg base CX k f fd ps sp' :=
  ⟨fun vs H Q E q => F.len vs H Q E (h _ _ _ _ q), fun A out s H ar us vs Q E g e0 hb hv q => F.go A out s H ar us vs Q E g e0 hb hv (h _ _ _ _ q)⟩
/-- the rule for a def: as L2.fn_of, the room without guards handed on -/
theorem fg_of {k : Nat} {name qual : Str} {params : Arguments} {body : List Stmt} {sc : Scope} {dV kV doc pm cdv ct oc : Value} {an od : Option Addr}
    {osl : Array (Option Value)} {N : List Str} (lk : K.lookup f = some ⟨oc, od, .func (PySem.W.fnOf name qual params body sc dV kV doc pm an cdv ct), osl⟩)
    (hcd : PySem.W.codeIn K cdv qual = true) (S : FnScope N ps sc) (len : ∀ vs H Q E, sp vs H Q E → vs.length = ps.length)
    (hbody : ∀ (A : Around) (out : List Env) (s : Shared) (H : Hp) (vs : List V) (Q : VK) (E : XK), RG k (A.deeper (envOfC qual sc s.heap.objs.size f cdv)) → sp vs H Q E →
      ∃ t, PSs (cxOf CX P w K mg base N qual sc f cdv A out s H E) body t ∧ t { nx := fun _ H' => Q .non H', rt := Q } (start N vs) H) :
    FG P w K mg base CX (k + 1) f (PySem.W.fnOf name qual params body sc dV kV doc pm an cdv ct) ps sp := by
  refine ⟨len, fun A out s H ar us vs Q E g e0 hb r hsp => ?_⟩
  have hlen := len _ _ _ _ hsp
  have KI : K.In s.heap := e0.mod.kin.keeps fun b o e => (e0.bs b o e).1
  have nl : s.heap.NoLimit := e0.mod.nolimit.keeps fun b o e => (e0.bs b o e).1
  have kinds : ∀ y ∈ ps.zip us, sc.names.lookup y.1 = some .local ∨ (sc.names.lookup y.1 = some .cell ∧ ((cellsFrom (s.heap.objs.size + 1) sc.names []).lookup y.1).isSome = true) := fun ⟨n, v⟩ hy => by
    rcases S.par n (List.of_mem_zip hy).1 with q | q
    · exact .inl q
    · exact .inr ⟨q, PySem.W.cellsFrom_some _ _ _ (.inl q)⟩
  refine codeAny_call_function g.rm.depth (KI _ _ lk) rfl S.co S.gen rfl (PySem.W.codeRec_of KI hcd) (hb _ _ _ _ ?_)
  refine wpAny_newFunctionEnv_cells S.kind kinds fun env he s1 x => ?_
  subst he
  refine ⟨nl.keeps x.toInCall.keep, codeAny_func ?_⟩
  obtain ⟨t, ht, hq⟩ := hbody A out s H vs Q E (g.deeper _) hsp
  have I : Inv (cxOf CX P w K mg base N qual sc f cdv A out s H E) [] (start N vs) H s1 := inv_start S g.rm.hd e0 hlen r x
  refine wpAny_mono (ht.run [] s1 (start N vs) H _ I hq) (fun fl s' hs => ?_) fun e s' hs => hs
  have fin : ∀ {σ' : L2.St} {H' : Hp} {v : V} {u : Value}, Inv (cxOf CX P w K mg base N qual sc f cdv A out s H E) [] σ' H' s' → RelV v u → Q v H' → CE out P w H s Q u s' :=
    fun {σ' H' v u} J rv q => ⟨v, H', J.os, J.bare, J.base, J.hok, rv, q⟩
  match fl, hs with
  | .ret u, ⟨v, σ', H', J, rv, q⟩ => exact fin J rv q
  | .next, ⟨σ', H', J, q⟩ => exact fin (v := V.non) (u := Value.none) J rfl q
  | .brk, ⟨_, _, _, q⟩ => exact False.elim q
  | .cont, ⟨_, _, _, q⟩ => exact False.elim q
/-- .. of a def of the text, no exception leaving -/
theorem Fun.fg {x qual : Str} {st : Stmt} {N : List Str} {k : Nat} (F : Fun K x qual st f fd) (S : FnScope N ps (defScope st)) (len : ∀ vs H Q E, sp vs H Q E → vs.length = ps.length)
    (hbody : ∀ (cdv : Value) (A : Around) (out : List Env) (s : Shared) (H : Hp) (vs : List V) (Q : VK) (E : XK), RG k (A.deeper (envOfC qual (defScope st) s.heap.objs.size f cdv)) → sp vs H Q E →
      ∃ t, PSs (cxOf CX0 P w K mg base N qual (defScope st) f cdv A out s H E).nox (defBody st) t ∧ t { nx := fun _ H' => Q .non H', rt := Q } (start N vs) H) : FG P w K mg base CX0 (k + 1) f fd ps sp := by
  obtain ⟨oc, od, kV, doc, pm, an, cdv, ct, osl, rfl, lk, hcd⟩ := F.ex
  refine fg_of lk hcd S len fun A out s H vs Q E g hsp => ?_
  obtain ⟨t, h, q⟩ := hbody cdv A out s H vs Q E g hsp
  exact ⟨t, h.nox, q⟩
end

/-! ### how arguments bind -/
def pick {α : Type} (ix : List Nat) (l : List α) : List α := ix.filterMap (l[·]?)
theorem vals_pick {vs : List V} {us : List Value} (r : Vals vs us) : ∀ ix : List Nat, Vals (pick ix vs) (pick ix us)
  | [] => .nil
  | i :: ix => by
    unfold pick
    rw [List.filterMap_cons, List.filterMap_cons]
    cases e : vs[i]? with
    | none =>
      rw [r.none_of e]
      exact vals_pick r ix
    | some v =>
      obtain ⟨u, e2, r2⟩ := r.get e
      rw [e2]
      exact .cons r2 (vals_pick r ix)
/-- n values by position, those named ks by name; ix: the parameters' places among all of them -/
structure Bd (K : PySem.W.Frag) (fd : FuncData) (ps : List Str) (n : Nat) (ks : List Str) (ix : List Nat) : Prop where
  to : ∀ (us ws : List Value), us.length = n → ws.length = ks.length → bindArgs fd ⟨us, ks.zip ws⟩ = pure (ps.zip (pick ix (us ++ ws)))
theorem Fun.bd {K : PySem.W.Frag} {x qual : Str} {st : Stmt} {f : Addr} {fd : FuncData} {ps : List Str} {n : Nat} {ks : List Str} {ix : List Nat} (F : Fun K x qual st f fd)
    (h : ∀ (kV doc pm : Value) (an : Option Addr) (cdv ct : Value) (us ws : List Value), us.length = n → ws.length = ks.length →
      bindArgs (PySem.W.fnOf x qual (defArgs st) (defBody st) (defScope st) .none kV doc pm an cdv ct) ⟨us, ks.zip ws⟩ = pure (ps.zip (pick ix (us ++ ws)))) : Bd K fd ps n ks ix := by
  obtain ⟨oc, od, kV, doc, pm, an, cdv, ct, osl, rfl, lk, hcd⟩ := F.ex
  exact ⟨h kV doc pm an cdv ct⟩

/-! ### calls -/
def tCg (n m : Nat) (ix : List Nat) (sp : Sp) (E : XK) (t tk : TA) : TE := fun σ H Q => t σ H fun vs H1 => tk σ H1 fun zs H2 => vs.length = n ∧ zs.length = m ∧ sp (pick ix (vs ++ zs)) H2 Q E
def tMg (C : Addr) (mn : Str) (n m : Nat) (ix : List Nat) (sp : Sp) (E : XK) (ta : TE) (t tk : TA) : TE := fun σ H Q => ta σ H fun x H1 => ∃ a dx fs, x = .ref a ∧ H1 a = some (.ins C dx fs) ∧ fs.lookup mn = none ∧
  t σ H1 fun vs H2 => tk σ H2 fun zs H3 => (x :: vs).length = n ∧ zs.length = m ∧ sp (pick ix ((x :: vs) ++ zs)) H3 Q E
def tKg (C : Addr) (n m : Nat) (ix : List Nat) (sp : Sp) (E : XK) (t tk : TA) : TE := fun σ H Q => t σ H fun vs H1 => tk σ H1 fun zs H2 => vs.length + 1 = n ∧ zs.length = m ∧
  ∀ x dx, H2 x = none → H2 dx = none → dx ≠ x → sp (pick ix ((.ref x :: vs) ++ zs)) (upd (upd H2 dx (.own x)) x (.ins C dx [])) (fun v H3 => v = .non ∧ Q (.ref x) H3) E
section
variable {X : Cx} {CX : CXT} {k n : Nat} {f C : Addr} {fd : FuncData} {ps ks : List Str} {ix : List Nat} {sp : Sp} {E : XK} {x mn : Str} {p pos apos : Pos} {e o : Expr} {es : List Expr} {kws : List Keyword} {ta : TE} {t tk : TA}
theorem run_g {pins : List (Addr × Obj)} {σ : L2.St} {H : Hp} {s : Shared} {Q : VK} {us ws : List Value} {vs zs : List V} (F : FG X.prog X.w X.K X.mg X.base CX k f fd ps sp) (g : RG k X.A) (hb : Bd X.K fd ps n ks ix) (hx : Passes CX X E)
    (I : Inv X pins σ H s) (r : Vals vs us) (rz : Vals zs ws) (l1 : vs.length = n) (l2 : zs.length = ks.length) (h : sp (pick ix (vs ++ zs)) H Q E) :
    wpAny (model X.prog X.w) X.A (call (.ref f) us (ks.zip ws)) (EP X pins σ Q) X.xe s := by
  refine wpAny_call (codeAny_mono (F.go X.A X.stack s H ⟨us, ks.zip ws⟩ (pick ix (us ++ ws)) (pick ix (vs ++ zs)) Q E g I.env0 (.of_eq (hb.to us ws (r.length.symm.trans l1) (rz.length.symm.trans l2))) (vals_pick (r.append rz) ix) h) fun r s' hq => ?_)
  match r, hq with
  | .error e, hq => exact hx pins σ H s e s' I hq
  | .ok (.ret u), hq => exact I.after hq
  | .ok .next, hq => exact False.elim hq
  | .ok .brk, hq => exact False.elim hq
  | .ok .cont, hq => exact False.elim hq
/-- f(e, .., k = v, ..) -/
theorem pe_cg (F : FG X.prog X.w X.K X.mg X.base CX k f fd ps sp) (g : RG k X.A) (hg : Gl X x) (hm : X.mg x = some (.ref f)) (hk : PySem.W.keepIn X.K (.ref f) = true) (hb : Bd X.K fd ps n ks ix) (hx : Passes CX X E)
    (ha : PA X (e :: es) t) (hkw : PK X kws tk) (hall : (backToKw pos (keywordEach kws X.env)).all (·.1.isSome) = true := by rfl) (hks : (backToKw pos (keywordEach kws X.env)).filterMap (·.1) = ks := by rfl)
    (hdb : (x == ("__debug__" : Str)) = false := by decide) (he : starEach (e :: es) X.env = (false, eval e X.env) :: starEach es X.env := by rfl)
    (hpl : ((backTo pos (starEach (e :: es) X.env)).any (·.1) || (backToKw pos (keywordEach kws X.env)).any (·.1.isNone)) = false := by rfl) : PE X (.Call (.Name x p) (e :: es) kws pos) (tCg n ks.length ix sp E t tk) := by
  refine ⟨fun pins s σ H Q I h => wpAny_Call_Name_kw (ld_glob I hg hm ?_ hdb)⟩
  refine PySem.W.callWith_KW (h₀ := X.base) I.ok.mod.kin hk hall (thn (ha.run pos pins s σ H _ I h) fun us s1 ⟨vs, H1, I1, r, q⟩ => ?_) hpl he
  refine thn (hkw.run pos pins s1 σ H1 _ I1 q) fun ws s2 ⟨zs, H2, I2, rz, l1, l2, q2⟩ => ⟨I2.kIn, ?_⟩
  rw [hks]
  exact run_g F g hb hx I2 r rz l1 l2 q2
/-- f(k = v, ..), f() -/
theorem pe_cg0 (F : FG X.prog X.w X.K X.mg X.base CX k f fd ps sp) (g : RG k X.A) (hg : Gl X x) (hm : X.mg x = some (.ref f)) (hk : PySem.W.keepIn X.K (.ref f) = true) (hb : Bd X.K fd ps 0 ks ix) (hx : Passes CX X E)
    (hkw : PK X kws tk) (hall : (backToKw pos (keywordEach kws X.env)).all (·.1.isSome) = true := by rfl) (hks : (backToKw pos (keywordEach kws X.env)).filterMap (·.1) = ks := by rfl)
    (hdb : (x == ("__debug__" : Str)) = false := by decide)
    (hpl : ((backTo pos (starEach [] X.env)).any (·.1) || (backToKw pos (keywordEach kws X.env)).any (·.1.isNone)) = false := by rfl) : PE X (.Call (.Name x p) [] kws pos) (tCg 0 ks.length ix sp E tNil tk) := by
  refine ⟨fun pins s σ H Q I h => wpAny_Call_Name_kw (ld_glob I hg hm ?_ hdb)⟩
  refine PySem.W.callWith_KW0 (h₀ := X.base) I.ok.mod.kin hk hall ?_ hpl
  refine thn (hkw.run pos pins s σ H _ I h) fun ws s2 ⟨zs, H2, I2, rz, l1, l2, q2⟩ => ⟨I2.kIn, ?_⟩
  rw [hks]
  exact run_g (us := []) (vs := []) F g hb hx I2 .nil rz l1 l2 q2
/-- o.m(e, .., k = v, ..) -/
theorem pe_mg {pl : Sem Bool} (ho : PE X o ta) (c : Cls X.K C) (hm : Meth X.K C mn f) (F : FG X.prog X.w X.K X.mg X.base CX k f fd ps sp) (g : RG k X.A) (hb : Bd X.K fd ps n ks ix) (hx : Passes CX X E) (ha : PA X (e :: es) t) (hkw : PK X kws tk)
    (hall : (backToKw pos (keywordEach kws X.env)).all (·.1.isSome) = true := by rfl) (hks : (backToKw pos (keywordEach kws X.env)).filterMap (·.1) = ks := by rfl)
    (he : starEach (e :: es) X.env = (false, eval e X.env) :: starEach es X.env := by rfl) (hpl : ((backTo pos (starEach (e :: es) X.env)).any (·.1) || (backToKw pos (keywordEach kws X.env)).any (·.1.isNone)) = false := by rfl)
    (ht : eval (.Call (.Attribute o mn apos) (e :: es) kws pos) X.env = (do
      let ov ← eval o X.env
      standAt apos.atName
      let (fv, first) ← holding [ov] (getMethod ov mn pl)
      callWith pos fv first (backTo pos (starEach (e :: es) X.env)) (backToKw pos (keywordEach kws X.env))) := by rfl) : PE X (.Call (.Attribute o mn apos) (e :: es) kws pos) (tMg C mn n ks.length ix sp E ta t tk) := by
  refine ⟨fun pins s σ H Q I h => ?_⟩
  refine PySem.W.methodCall_KW (pl := pl) (thn (ho.run pins s σ H _ I h) fun u s1 ⟨y, H1, I1, ry, a, dx, fs, ey, ea, l, q⟩ => ?_) ht
  subst ey
  obtain rfl : u = Value.ref a := ry
  refine getmeth_ok I1 ea c hm l ?_
  refine PySem.W.callWith_KW (first := [.ref a]) (h₀ := X.base) I.ok.mod.kin hm.kp hall (thn (ha.run pos pins s1 σ H1 _ I1 q) fun us s2 ⟨vs, H2, I2, r, q2⟩ => ?_) hpl he
  refine thn (hkw.run pos pins s2 σ H2 _ I2 q2) fun ws s3 ⟨zs, H3, I3, rz, l1, l2, q3⟩ => ⟨I3.kIn, ?_⟩
  rw [hks]
  exact run_g (us := .ref a :: us) (vs := .ref a :: vs) F g hb hx I3 (.cons rfl r) rz l1 l2 q3
/-- o.m(k = v, ..), o.m() -/
theorem pe_mg0 {pl : Sem Bool} (ho : PE X o ta) (c : Cls X.K C) (hm : Meth X.K C mn f) (F : FG X.prog X.w X.K X.mg X.base CX k f fd ps sp) (g : RG k X.A) (hb : Bd X.K fd ps 1 ks ix) (hx : Passes CX X E) (hkw : PK X kws tk)
    (hall : (backToKw pos (keywordEach kws X.env)).all (·.1.isSome) = true := by rfl) (hks : (backToKw pos (keywordEach kws X.env)).filterMap (·.1) = ks := by rfl)
    (hpl : ((backTo pos (starEach [] X.env)).any (·.1) || (backToKw pos (keywordEach kws X.env)).any (·.1.isNone)) = false := by rfl)
    (ht : eval (.Call (.Attribute o mn apos) [] kws pos) X.env = (do
      let ov ← eval o X.env
      standAt apos.atName
      let (fv, first) ← holding [ov] (getMethod ov mn pl)
      callWith pos fv first (backTo pos (starEach [] X.env)) (backToKw pos (keywordEach kws X.env))) := by rfl) : PE X (.Call (.Attribute o mn apos) [] kws pos) (tMg C mn 1 ks.length ix sp E ta tNil tk) := by
  refine ⟨fun pins s σ H Q I h => ?_⟩
  refine PySem.W.methodCall_KW (pl := pl) (thn (ho.run pins s σ H _ I h) fun u s1 ⟨y, H1, I1, ry, a, dx, fs, ey, ea, l, q⟩ => ?_) ht
  subst ey
  obtain rfl : u = Value.ref a := ry
  refine getmeth_ok I1 ea c hm l ?_
  refine PySem.W.callWith_KW0 (first := [.ref a]) (h₀ := X.base) I.ok.mod.kin hm.kp hall ?_ hpl
  refine thn (hkw.run pos pins s1 σ H1 _ I1 q) fun ws s3 ⟨zs, H3, I3, rz, l1, l2, q3⟩ => ⟨I3.kIn, ?_⟩
  rw [hks]
  exact run_g (us := [.ref a]) (vs := [.ref a]) F g hb hx I3 (.cons rfl .nil) rz l1 l2 q3

theorem run_kg {pins : List (Addr × Obj)} {σ : L2.St} {H : Hp} {s : Shared} {Q : VK} {us ws : List Value} {vs zs : List V} (M : Mk X.K C f) (F : FG X.prog X.w X.K X.mg X.base CX k f fd ps sp) (g : RG (k + 1) X.A) (hb : Bd X.K fd ps n ks ix) (hx : Passes CX X E)
    (I : Inv X pins σ H s) (r : Vals vs us) (rz : Vals zs ws) (l1 : vs.length + 1 = n) (l2 : zs.length = ks.length)
    (h : ∀ x dx, H x = none → H dx = none → dx ≠ x → sp (pick ix ((.ref x :: vs) ++ zs)) (upd (upd H dx (.own x)) x (.ins C dx [])) (fun v H2 => v = .non ∧ Q (.ref x) H2) E) :
    wpAny (model X.prog X.w) X.A (call (.ref C) us (ks.zip ws)) (EP X pins σ Q) X.xe s := by
  have hq := h (s.heap.objs.size + 1) s.heap.objs.size (I.hok.fresh (Nat.le_succ _)) (I.hok.fresh (Nat.le_refl _)) (Nat.ne_of_lt (Nat.lt_succ_self _))
  have I2 := Inv.made (C := C) I
  have r1 : Vals (V.ref (s.heap.objs.size + 1) :: vs) (Value.ref (s.heap.objs.size + 1) :: us) := .cons rfl r
  have e1 : (Value.ref (s.heap.objs.size + 1) :: us).length = n := by
    rw [← r1.length]
    exact l1
  refine wpAny_call (make_map (f := f) I.kIn M.makes M.init (beq_iff_eq.mp M.fn) (codeAny_mono (F.go _ X.stack _ _ ⟨Value.ref (s.heap.objs.size + 1) :: us, ks.zip ws⟩ (pick ix ((Value.ref (s.heap.objs.size + 1) :: us) ++ ws)) _ _ E (g.make C us (ks.zip ws))
    (I2.env0.make C us (ks.zip ws)) (.of_eq (hb.to _ _ e1 (rz.length.symm.trans l2))) (vals_pick (r1.append rz) ix) hq) fun r s' hq' => ?_))
  match r, hq' with
  | .error e, hq' => exact hx pins σ _ _ e s' I2 hq'
  | .ok (.ret u), hq' =>
    obtain ⟨v, H', I3, rv, ev, q3⟩ := I2.after hq'
    subst ev
    exact ⟨rv, ⟨V.ref (s.heap.objs.size + 1), H', I3, rfl, q3⟩⟩
  | .ok .next, hq' => exact False.elim hq'
  | .ok .brk, hq' => exact False.elim hq'
  | .ok .cont, hq' => exact False.elim hq'
/-- C(e, .., k = v, ..) -/
theorem pe_kg (M : Mk X.K C f) (F : FG X.prog X.w X.K X.mg X.base CX k f fd ps sp) (g : RG (k + 1) X.A) (hg : Gl X x) (hm : X.mg x = some (.ref C)) (hb : Bd X.K fd ps n ks ix) (hx : Passes CX X E) (ha : PA X (e :: es) t) (hkw : PK X kws tk)
    (hall : (backToKw pos (keywordEach kws X.env)).all (·.1.isSome) = true := by rfl) (hks : (backToKw pos (keywordEach kws X.env)).filterMap (·.1) = ks := by rfl)
    (hdb : (x == ("__debug__" : Str)) = false := by decide) (he : starEach (e :: es) X.env = (false, eval e X.env) :: starEach es X.env := by rfl)
    (hpl : ((backTo pos (starEach (e :: es) X.env)).any (·.1) || (backToKw pos (keywordEach kws X.env)).any (·.1.isNone)) = false := by rfl) : PE X (.Call (.Name x p) (e :: es) kws pos) (tKg C n ks.length ix sp E t tk) := by
  refine ⟨fun pins s σ H Q I h => wpAny_Call_Name_kw (ld_glob I hg hm ?_ hdb)⟩
  refine PySem.W.callWith_KW (h₀ := X.base) I.ok.mod.kin M.kp hall (thn (ha.run pos pins s σ H _ I h) fun us s1 ⟨vs, H1, I1, r, q⟩ => ?_) hpl he
  refine thn (hkw.run pos pins s1 σ H1 _ I1 q) fun ws s2 ⟨zs, H2, I2, rz, l1, l2, q2⟩ => ⟨I2.kIn, ?_⟩
  rw [hks]
  exact run_kg M F g hb hx I2 r rz l1 l2 q2
/-- C(k = v, ..), C() -/
theorem pe_kg0 (M : Mk X.K C f) (F : FG X.prog X.w X.K X.mg X.base CX k f fd ps sp) (g : RG (k + 1) X.A) (hg : Gl X x) (hm : X.mg x = some (.ref C)) (hb : Bd X.K fd ps 1 ks ix) (hx : Passes CX X E) (hkw : PK X kws tk)
    (hall : (backToKw pos (keywordEach kws X.env)).all (·.1.isSome) = true := by rfl) (hks : (backToKw pos (keywordEach kws X.env)).filterMap (·.1) = ks := by rfl)
    (hdb : (x == ("__debug__" : Str)) = false := by decide)
    (hpl : ((backTo pos (starEach [] X.env)).any (·.1) || (backToKw pos (keywordEach kws X.env)).any (·.1.isNone)) = false := by rfl) : PE X (.Call (.Name x p) [] kws pos) (tKg C 1 ks.length ix sp E tNil tk) := by
  refine ⟨fun pins s σ H Q I h => wpAny_Call_Name_kw (ld_glob I hg hm ?_ hdb)⟩
  refine PySem.W.callWith_KW0 (h₀ := X.base) I.ok.mod.kin M.kp hall ?_ hpl
  refine thn (hkw.run pos pins s σ H _ I h) fun ws s2 ⟨zs, H2, I2, rz, l1, l2, q2⟩ => ⟨I2.kIn, ?_⟩
  rw [hks]
  exact run_kg (us := []) (vs := []) M F g hb hx I2 .nil rz l1 l2 q2

/-- e.f, a property -/
def tPg (C : Addr) (sp : Sp) (E : XK) (ta : TE) : TE := fun σ H Q => ta σ H fun y H1 => ∃ a dx fs, y = .ref a ∧ H1 a = some (.ins C dx fs) ∧ sp [.ref a] H1 Q E
theorem pe_pg {pa : Addr} {nm : Str} (ho : PE X o ta) (c : Cls X.K C) (hp : PropOf X.K C nm pa f) (F : FG X.prog X.w X.K X.mg X.base CX k f fd ["self"] sp) (g : RG (k + 1) X.A) (hb : Bd X.K fd ["self"] 1 [] [0]) (hx : Passes CX X.nox E)
    (hab : attributeBase o nm X.env (eval o X.env) = eval o X.env := by rfl) : PE X (.Attribute o nm pos) (tPg C sp E ta) := by
  refine ⟨fun pins s σ H Q I h => ?_⟩
  refine attr_of hab (thn (ho.run pins s σ H _ I h) fun u s1 ⟨y, H1, I1, ry, a, dx, fs, ey, ea, q⟩ => ?_)
  subst ey
  obtain rfl : u = Value.ref a := ry
  obtain ⟨mA, O, _, _, _, _⟩ := ins_get I1.hok ea
  obtain ⟨od, J, _⟩ := O.look
  obtain ⟨more, hrec⟩ := hp.rec_
  have I2 := I1.tok (s1.toks + 1)
  have hc : (PySem.W.clsIn X.K C).isSome = true := by
    obtain ⟨cd, hc, _⟩ := PySem.W.any_some c.hd
    rw [hc]
    rfl
  refine PySem.W.get_bind I1.kIn J (PySem.W.plainGet_of (c.get nm)).1 (PySem.W.findObj_data hc hp.at_ hp.get hp.tak) (PySem.W.plainGet_of (c.get nm)).2 (wpAny_call (PySem.W.prop_get (s := { s1 with toks := s1.toks + 1 }) I1.kIn hrec ?_))
  refine codeAny_mono (F.go X.A.in1 X.stack { s1 with toks := s1.toks + 1 } H1 ⟨[.ref a], []⟩ [.ref a] [.ref a] Q E g.in1 I2.env0.in1 (.of_eq (hb.to [.ref a] [] rfl rfl)) (.cons rfl .nil) q) fun r s' hq => ?_
  match r, hq with
  | .error er, hq => exact False.elim (hx pins σ H1 { s1 with toks := s1.toks + 1 } er s' (I2.wish _) hq)
  | .ok (.ret u), hq =>
    obtain ⟨v, H', I3, rv, q3⟩ := I2.after hq
    show wpAny _ _ (handedOut u) _ _ _
    rw [PySem.W.handedOut_of (handed_of rv)]
    exact wpAny_pure ⟨v, H', I3, rv, q3⟩
  | .ok .next, hq => exact False.elim hq
  | .ok .brk, hq => exact False.elim hq
  | .ok .cont, hq => exact False.elim hq
end

/-! ### repr of data -/
def rRepr (K : PySem.W.Frag) : List V → Hp → VK → Prop := fun xs H Q => ∃ v d, xs = [v] ∧ Dp K H v d ∧ d.showable = true ∧ d.hasDict = false ∧ d.depth ≤ 60 ∧ d.shown.length ≤ sizeLine ∧ Q (.str d.shown) H
section
variable {X : Cx}
theorem call_repr {k : Nat} (g : RG k X.A) : CallR X (.builtin "repr") (rRepr X.K) := by
  intro pins s σ H xs us Q I r h
  obtain ⟨v, d, rfl, hd, hs, hn, hdep, hsz, q⟩ := h
  obtain ⟨u, rfl, ru⟩ := vals1 r
  have hun := g.rm.un
  obtain ⟨as, rd⟩ := Dp.reads I d v u hd ru
  cases hd with
  | non =>
    cases ru
    exact PySem.P.repr_of_none ⟨.str _, H, I.tok _, ⟨_, rfl⟩, q⟩
  | bl b =>
    cases ru
    exact PySem.P.repr_of_bool ⟨.str _, H, I.tok _, ⟨_, rfl⟩, q⟩
  | int i =>
    obtain ⟨t, rfl⟩ := ru
    exact PySem.P.repr_of_int (of_decide_eq_true hs) ⟨.str _, H, I.tok _, ⟨_, rfl⟩, q⟩
  | str x =>
    obtain ⟨t, rfl⟩ := ru
    exact PySem.P.repr_of_str ⟨.str _, H, I.tok _, ⟨_, rfl⟩, q⟩ hsz
  | lst h1 h2 =>
    cases ru
    exact repr_of_reads' rd hs (PyData.noDict_hsm hn) g.gd (by omega) (fun _ _ e => e) (fun h' u tk hk => ⟨.str _, H, I.kept hk, ⟨_, rfl⟩, q⟩) hsz
  | tup h1 h2 =>
    cases ru
    exact repr_of_reads' rd hs (PyData.noDict_hsm hn) g.gd (by omega) (fun _ _ e => e) (fun h' u tk hk => ⟨.str _, H, I.kept hk, ⟨_, rfl⟩, q⟩) hsz
end

/-! ### the end of a law -/
theorem law_cg {P : Program} {w : World} {s₁ : Shared} {K : PySem.W.Frag} {mg mb : Str → Option Value} {a : Addr} {vs : List Value} {ns : List Int} {fa : Addr} {fd : FuncData} {x : Str} {k : Nat} {sp : Sp}
    (KX : K.In s₁.heap) (hns : s₁.heap.Ns mainGlobals mg) (hbl : s₁.heap.Ns builtinsNs mb) (hbb : ∀ x : Str, x ≠ "__name__" → mb x = bootBuiltins x) (lim : s₁.heap.NoLimit) (gn : s₁.gens = #[])
    (ha : s₁.heap.get? a = some { cls := .type "list", data := .seq vs.toArray }) (hi : IntsAre vs ns) (hl : ns.length ≤ sizeLine)
    (hr : RG k callerA) (F : ∀ base : Heap, K.In base → base.Ns mainGlobals mg → FG P w K mg base CX0 k fa fd [x] sp) (hbind : ∀ (s : Shared) (u : Value), BindsTo s fd ⟨[u], []⟩ [(x, u)])
    (hsp : ∀ H : Hp, Only H → SqL K H a (ns.map V.int) → sp [.ref a] H (fun v _ => v = .bl true) fun _ _ _ => False) :
    codeAny (model P w) callerA (.call (.ref fa) ⟨[.ref a], []⟩) (fun r s' => r = .ok (.ret (.bool true)) ∧ OldK s₁.heap s'.heap ∧ s'.os = s₁.os ∧ AllBare s'.gens) s₁ := by
  have rv := vals_ints hi
  have lv := hi.length
  -- whatever abstract heap tells of the script alone
  have main : ∀ H : Hp, (∀ b, H b ≠ none → b = a) → (H a ≠ none → K.lookup a = none) → Only H → HOk P w H s₁.heap → SqL K H a (ns.map V.int) →
      codeAny (model P w) callerA (.call (.ref fa) ⟨[.ref a], []⟩) (fun r s' => r = .ok (.ret (.bool true)) ∧ OldK s₁.heap s'.heap ∧ s'.os = s₁.os ∧ AllBare s'.gens) s₁ := by
    intro H alone apart only hok hS
    have free : ∀ {b : Addr} {o : Obj}, s₁.heap.get? b = some o → (b = a → False) → H b = none := fun {b o} e ne => by
      cases q : H b with
      | none => rfl
      | some u => exact (ne (alone b (by rw [q]; exact fun z => nomatch z))).elim
    have keepNs : ∀ {b : Addr} {m : Str → Option Value}, s₁.heap.Ns b m → (hidT s₁.heap H).Ns b m := by
      rintro b m ⟨o, es, ep, e, d, r⟩
      refine ⟨o, es, ep, hidT_get e (free e ?_), d, r⟩
      rintro rfl
      rw [ha] at e
      cases e
      exact nomatch d
    have keepK : K.In (hidT s₁.heap H) := fun b o e => by
      refine hidT_get (KX b o e) ?_
      cases q : H b with
      | none => rfl
      | some u =>
        have hb : H b ≠ none := by rw [q]; exact fun z => nomatch z
        have eb := alone b hb
        rw [eb] at hb e
        rw [apart hb] at e
        cases e
    have hM : Mod K mg (hidT s₁.heap H) := by
      obtain ⟨mc, c1, c2⟩ := lim
      exact ⟨keepK, keepNs hns, ⟨mb, keepNs hbl, hbb⟩, ⟨mc, keepNs c1, c2⟩⟩
    have e0 : Env0 P w K mg (hidT s₁.heap H) callerA [] s₁ H := ⟨rfl, hM, fun b o e => of_hidT e, Nat.le_of_eq (hidT_size _ _), trivial, (fun b hb => (nomatch hb)), hok, .of_eq gn⟩
    have fin := (F _ keepK (keepNs hns)).go callerA [] s₁ H ⟨[.ref a], []⟩ [.ref a] [.ref a] _ _ hr e0 (hbind s₁ (.ref a)) (.cons rfl .nil) (hsp H only hS)
    refine codeAny_mono fin fun r s' h => ?_
    match r, h with
    | .error e, h => exact False.elim h
    | .ok .next, h => exact False.elim h
    | .ok .brk, h => exact False.elim h
    | .ok .cont, h => exact False.elim h
    | .ok (.ret u), ⟨v, H', os, bare, un, hok', ru, q⟩ =>
      have qv : v = .bl true := q
      subst qv
      obtain rfl : u = Value.bool true := ru
      refine ⟨rfl, OldK.of_keep fun b o e => ?_, os, bare⟩
      rcases only b with z | ⟨ob, xs, z⟩
      · exact un.keep b o e z (fun y => nomatch y) (fun y => nomatch y)
      · obtain ⟨e1, _⟩ := hok b _ z
        obtain ⟨e2, _⟩ := hok' b _ (un.frzs b ob _ z)
        rw [e] at e1
        cases e1
        exact e2
  cases hk : K.lookup a with
  | some o =>
    have e := KX a o hk
    rw [ha] at e
    cases e
    refine main (fun _ => none) (fun b z => absurd rfl z) (fun z => absurd rfl z) (fun _ => .inl rfl) (fun b u z => nomatch z) (.inr ⟨_, vs.toArray, _, hk, rfl, rfl, rfl, ?_, by simpa using rv⟩)
    rw [List.size_toArray, lv]
    exact hl
  | none =>
    have one : ∀ b u, (if b = a then some (HO.frz { cls := .type "list", data := .seq vs.toArray } (.lst (ns.map V.int))) else none) = some u → b = a ∧ u = .frz { cls := .type "list", data := .seq vs.toArray } (.lst (ns.map V.int)) := fun b u z => by
      by_cases hb : b = a
      · rw [if_pos hb] at z
        exact ⟨hb, (Option.some.inj z).symm⟩
      · rw [if_neg hb] at z
        cases z
    refine main (fun b => if b = a then some (.frz { cls := .type "list", data := .seq vs.toArray } (.lst (ns.map V.int))) else none) (fun b z => ?_) (fun _ => hk) (fun b => ?_) (fun b u z => ?_) (.inl (.inr ⟨_, if_pos rfl⟩))
    · by_cases hb : b = a
      · exact hb
      · exact (z (if_neg hb)).elim
    · by_cases hb : b = a
      · exact .inr ⟨_, _, if_pos hb⟩
      · exact .inl (if_neg hb)
    · obtain ⟨hb, hu⟩ := one b u z
      subst hb hu
      exact ⟨ha, by rw [List.length_map]; exact hl, vs, _, rv, ha⟩
theorem walk_g {l : PySem.W.OpenLaw} {n k : Nat} {q : Program} {loose : List Str} {XP : (Str → Option Value) → Heap → Prop} {YP : World → Heap → Prop} {d : DefRec} {K : Params → PySem.W.Frag} {sp : PySem.W.Frag → Sp} {x : Str}
    (hn : l.most = some n) (hn2 : n ≤ sizeLine) (hdf : d.params.defaults = []) (hr : RG k callerA) (hY : ∀ (w : World) (h : Heap), YP w h → (K w.params).In h)
    (F : ∀ (w : World) (mg : Str → Option Value) (fa : Addr) (h : Heap), (K w.params).In h → h.Ns mainGlobals mg → mg d.name = some (.ref fa) → ∃ fd : FuncData,
      (∀ (s : Shared) (u : Value), BindsTo s fd ⟨[u], []⟩ [(x, u)]) ∧ ∀ base : Heap, (K w.params).In base → base.Ns mainGlobals mg → FG l.prog w (K w.params) mg base CX0 k fa fd [x] (sp (K w.params)))
    (hsp : ∀ (K : PySem.W.Frag) (H : Hp) (a : Addr) (ns : List Int), ns.length ≤ n → Only H → SqL K H a (ns.map V.int) → sp K [.ref a] H (fun v _ => v = .bl true) fun _ _ _ => False) :
    PySem.W.WalkO q loose XP YP l.row.toRowW d [] (fun f vs => PySem.call f vs) := by
  refine Att.attach_call hn hdf fun w s₀ s₁ mg mb fa o pm cd doc a vs ns G Y ho hd hcd hmg hobj hints hlen hg => ?_
  have KX := hY w _ Y
  obtain ⟨fd, hb, hF⟩ := F w mg fa _ KX G.T.g hmg
  exact law_cg KX G.T.g G.T.b G.T.builtins G.T.nolimit hg hobj hints (Nat.le_trans hlen hn2) hr hF hb fun H hO hS => hsp (K w.params) H a ns hlen hO hS
end OB

set_option Elab.async false
set_option linter.all false
set_option maxRecDepth 100000
set_option maxHeartbeats 4000000
/-! OB, part b: what is known of the heap (Sy): objects that stand exactly so (F), data that lasts (G); the steps of a reading. -/
namespace OB
open PySem PySem.Spec PyProof.Rows L2 PySem.W

/-! ### data that lasts: no list, no dict in it -/
mutual
def imm : PyData → Bool
  | .none | .bool _ | .int _ | .str _ => true
  | .tuple xs => immAll xs
  | .list _ | .dict _ => false
def immAll : List PyData → Bool
  | [] => true
  | x :: xs => imm x && immAll xs
end
/-- tuples and what is locked stay -/
def Tx (H H' : Hp) : Prop := (∀ a xs, H a = some (.tup xs) → H' a = some (.tup xs)) ∧ ∀ a o u, H a = some (.frz o u) → H' a = some (.frz o u)
theorem Tx.refl (H : Hp) : Tx H H := ⟨fun _ _ h => h, fun _ _ _ h => h⟩
theorem Tx.trans {H H1 H2 : Hp} (a : Tx H H1) (b : Tx H1 H2) : Tx H H2 := ⟨fun c xs h => b.1 c xs (a.1 c xs h), fun c o u h => b.2 c o u (a.2 c o u h)⟩
theorem Tx.new {H : Hp} {p : Addr} {o : HO} (h : H p = none) : Tx H (upd H p o) := by
  refine ⟨fun a xs e => ?_, fun a o u e => ?_⟩
  · rw [upd_ne (ne_of_none e h)]
    exact e
  · rw [upd_ne (ne_of_none e h)]
    exact e
def isMut : HO → Bool
  | .tup _ | .frz _ _ => false
  | _ => true
theorem Tx.put {H : Hp} {p : Addr} {o o' : HO} (h : H p = some o) (m : isMut o = true) : Tx H (upd H p o') := by
  refine ⟨fun a xs e => ?_, fun a ob u e => ?_⟩
  · rw [upd_ne]
    · exact e
    · rintro rfl
      rw [h] at e
      cases e
      cases m
  · rw [upd_ne]
    · exact e
    · rintro rfl
      rw [h] at e
      cases e
      cases m
theorem sqt_keep {K : Frag} {H H' : Hp} (t : Tx H H') {a : Addr} {xs : List V} (h : SqT K H a xs) : SqT K H' a xs := by
  rcases h with (h | ⟨o, h⟩) | h
  · exact .inl (.inl (t.1 _ _ h))
  · exact .inl (.inr ⟨o, t.2 _ _ _ h⟩)
  · exact .inr h
mutual
theorem dp_keep {K : Frag} {H H' : Hp} (t : Tx H H') : ∀ (d : PyData) (v : V), imm d = true → Dp K H v d → Dp K H' v d
  | .none, _, _, h => by cases h; exact .non
  | .bool b, _, _, h => by cases h; exact .bl b
  | .int i, _, _, h => by cases h; exact .int i
  | .str x, _, _, h => by cases h; exact .str x
  | .tuple ds, _, m, h => by
    cases h with
    | tup h1 h2 => exact .tup (sqt_keep t h1) (dps_keep t ds _ (by simpa [imm] using m) h2)
  | .list _, _, m, _ => by simp [imm] at m
  | .dict _, _, m, _ => by simp [imm] at m
theorem dps_keep {K : Frag} {H H' : Hp} (t : Tx H H') : ∀ (ds : List PyData) (vs : List V), immAll ds = true → DpAll K H vs ds → DpAll K H' vs ds
  | [], _, _, h => by cases h; exact .nil
  | d :: ds, _, m, h => by
    have m2 : imm d = true ∧ immAll ds = true := by simpa [immAll] using m
    cases h with
    | cons h1 h2 => exact .cons (dp_keep t d _ m2.1 h1) (dps_keep t ds _ m2.2 h2)
end
theorem immAll_append {xs ys : List PyData} : immAll (xs ++ ys) = (immAll xs && immAll ys) := by
  induction xs with
  | nil => rfl
  | cons x xs ih =>
    show (imm x && immAll (xs ++ ys)) = (imm x && immAll xs && immAll ys)
    rw [ih, Bool.and_assoc]
theorem immAll_of {xs : List PyData} (h : ∀ x ∈ xs, imm x = true) : immAll xs = true := by
  induction xs with
  | nil => rfl
  | cons x xs ih =>
    show (imm x && immAll xs) = true
    rw [h x (List.mem_cons_self ..), ih fun y hy => h y (List.mem_cons_of_mem _ hy)]
    rfl
theorem immAll_mem {xs : List PyData} (h : immAll xs = true) : ∀ x ∈ xs, imm x = true := by
  induction xs with
  | nil => intro x hx; cases hx
  | cons y xs ih =>
    have m2 : imm y = true ∧ immAll xs = true := by simpa [immAll] using h
    intro x hx
    rcases List.mem_cons.mp hx with rfl | hx
    · exact m2.1
    · exact ih m2.2 x hx

/-! ### DpAll -/
section
variable {K : Frag} {H : Hp}
theorem dps_length {vs : List V} {ds : List PyData} (h : DpAll K H vs ds) : vs.length = ds.length := by
  induction ds generalizing vs with
  | nil => cases h; rfl
  | cons d ds ih =>
    cases h with
    | cons h1 h2 => simp [ih h2]
theorem dps_get : ∀ {ds : List PyData} {vs : List V} {i : Nat} {v : V}, DpAll K H vs ds → vs[i]? = some v → ∃ d, ds[i]? = some d ∧ Dp K H v d
  | [], _, _, _, .nil, e => by simp at e
  | d :: ds, _, 0, v, .cons h1 h2, e => by
    simp at e
    subst e
    exact ⟨d, rfl, h1⟩
  | d :: ds, _, i + 1, v, .cons h1 h2, e => by
    obtain ⟨d', e1, e2⟩ := dps_get (i := i) h2 (by simpa using e)
    exact ⟨d', by simpa using e1, e2⟩
theorem dps_getD : ∀ {ds : List PyData} {vs : List V} {i : Nat} {d : PyData}, DpAll K H vs ds → ds[i]? = some d → ∃ v, vs[i]? = some v ∧ Dp K H v d
  | [], _, _, _, .nil, e => by simp at e
  | d :: ds, _, 0, v, .cons h1 h2, e => by
    simp at e
    subst e
    exact ⟨_, rfl, h1⟩
  | d :: ds, _, i + 1, v, .cons h1 h2, e => by
    obtain ⟨d', e1, e2⟩ := dps_getD (i := i) h2 (by simpa using e)
    exact ⟨d', by simpa using e1, e2⟩
theorem dps_append : ∀ {ds : List PyData} {vs : List V} {es : List PyData} {ws : List V}, DpAll K H vs ds → DpAll K H ws es → DpAll K H (vs ++ ws) (ds ++ es)
  | [], _, _, _, .nil, h => h
  | _ :: _, _, _, _, .cons h1 h2, h => .cons h1 (dps_append h2 h)
theorem dps_drop : ∀ (n : Nat) {ds : List PyData} {vs : List V}, DpAll K H vs ds → DpAll K H (vs.drop n) (ds.drop n)
  | 0, _, _, h => h
  | _ + 1, [], _, .nil => .nil
  | n + 1, _ :: _, _, .cons _ h2 => dps_drop n h2
theorem dps_take : ∀ (n : Nat) {ds : List PyData} {vs : List V}, DpAll K H vs ds → DpAll K H (vs.take n) (ds.take n)
  | 0, _, _, _ => .nil
  | _ + 1, [], _, .nil => .nil
  | n + 1, _ :: _, _, .cons h1 h2 => .cons h1 (dps_take n h2)
theorem dps_one {v : V} {d : PyData} (h : Dp K H v d) : DpAll K H [v] [d] := .cons h .nil
theorem dps_un {v : V} {d : PyData} (h : DpAll K H [v] [d]) : Dp K H v d := by
  cases h with
  | cons h1 _ => exact h1
theorem dps_ints : ∀ (ns : List Int), DpAll K H (ns.map V.int) (ns.map PyData.int)
  | [] => .nil
  | n :: ns => .cons (.int n) (dps_ints ns)
theorem dps_map {α : Type} {f : α → PyData} {ss : List α} {xs : List V} {i : Nat} {x : V} (h : DpAll K H xs (ss.map f)) (e : xs[i]? = some x) : ∃ s, ss[i]? = some s ∧ Dp K H x (f s) := by
  obtain ⟨d, e2, h2⟩ := dps_get h e
  rw [List.getElem?_map] at e2
  cases q : ss[i]? with
  | none => rw [q] at e2; cases e2
  | some s =>
    rw [q] at e2
    cases e2
    exact ⟨s, rfl, h2⟩
theorem dp_tuple {v : V} {ds : List PyData} (h : Dp K H v (.tuple ds)) : ∃ a xs, v = .ref a ∧ SqT K H a xs ∧ DpAll K H xs ds := by
  cases h with
  | tup h1 h2 => exact ⟨_, _, rfl, h1, h2⟩
theorem dp_int {v : V} {i : Int} (h : Dp K H v (.int i)) : v = .int i := by cases h; rfl
theorem dp_str {v : V} {i : Str} (h : Dp K H v (.str i)) : v = .str i := by cases h; rfl
end

/-! ### what is known -/
/-- the script: locked, or the module's own -/
def Scr (K : Frag) (H : Hp) (a : Addr) (xs : List V) : Prop := SqL K H a xs ∧ ∀ o, H a = some o → ∃ ob, o = .frz ob (.lst xs)
theorem scr_keep {K : Frag} {H H' : Hp} (t : Tx H H') {a : Addr} {xs : List V} (h : Scr K H a xs) (hn : H a = none → H' a = none) : Scr K H' a xs := by
  obtain ⟨h1, h2⟩ := h
  cases e : H a with
  | none =>
    refine ⟨?_, fun o q => by rw [hn e] at q; cases q⟩
    rcases h1 with (h1 | ⟨o, h1⟩) | h1
    · rw [e] at h1; cases h1
    · rw [e] at h1; cases h1
    · exact .inr h1
  | some o =>
    obtain ⟨ob, rfl⟩ := h2 o e
    have e2 := t.2 _ _ _ e
    exact ⟨.inl (.inr ⟨ob, e2⟩), fun o q => by rw [e2] at q; cases q; exact ⟨ob, rfl⟩⟩
inductive Ft where
  | dat (vs : List V) (ds : List PyData)
  | sq (a : Addr) (xs : List V)
  | tq (a : Addr) (xs : List V)
def Ft.ok (K : Frag) (H : Hp) : Ft → Prop
  | .dat vs ds => DpAll K H vs ds ∧ immAll ds = true
  | .sq a xs => (∃ o, H a = some (.frz o (.lst xs))) ∨ ∃ (o : Obj) (its : Array Value) (n : Nat), K.lookup a = some o ∧ o.cls = .type "list" ∧ o.dict = none ∧ o.data = .seq its n ∧ its.size ≤ sizeLine ∧ Vals xs its.toList
  | .tq a xs => SqT K H a xs
theorem Ft.keep {K : Frag} {H H' : Hp} (t : Tx H H') : ∀ g : Ft, g.ok K H → g.ok K H'
  | .dat vs ds, ⟨h, m⟩ => ⟨dps_keep t ds vs m h, m⟩
  | .sq a xs, .inl ⟨o, h⟩ => .inl ⟨o, t.2 _ _ _ h⟩
  | .sq a xs, .inr h => .inr h
  | .tq a xs, h => sqt_keep t h
structure Sy (K : Frag) (F : List (Addr × HO)) (G : List Ft) (H : Hp) : Prop where
  st : ∀ p ∈ F, H p.1 = some p.2
  nd : (F.map (·.1)).Nodup
  ft : ∀ g ∈ G, g.ok K H
section
variable {K : Frag} {F : List (Addr × HO)} {G : List Ft} {H H' : Hp} {p : Addr} {o o' : HO} {i : Nat} {v : V} {vs : List V} {d : PyData} {ds : List PyData}
theorem Sy.nil : Sy K [] [] H := ⟨fun _ h => (nomatch h), .nil, fun _ h => (nomatch h)⟩
theorem Sy.at (S : Sy K F G H) (i : Nat) (h : F[i]? = some (p, o)) : H p = some o := S.st _ (List.mem_of_getElem? h)
theorem Sy.dps (S : Sy K F G H) (i : Nat) (h : G[i]? = some (.dat vs ds)) : DpAll K H vs ds := (S.ft _ (List.mem_of_getElem? h)).1
theorem Sy.dpi (S : Sy K F G H) (i : Nat) (h : G[i]? = some (.dat vs ds)) : immAll ds = true := (S.ft _ (List.mem_of_getElem? h)).2
theorem Sy.dp (S : Sy K F G H) (i : Nat) (h : G[i]? = some (.dat [v] [d])) : Dp K H v d := dps_un (S.dps i h)
theorem Sy.sq {xs : List V} (S : Sy K F G H) (i : Nat) (h : G[i]? = some (.sq p xs)) : SqL K H p xs := by
  rcases S.ft _ (List.mem_of_getElem? h) with ⟨o, q⟩ | q
  · exact .inl (.inr ⟨o, q⟩)
  · exact .inr q
theorem Sy.tqs {xs : List V} (S : Sy K F G H) (i : Nat) (h : G[i]? = some (.tq p xs)) : SqT K H p xs := S.ft _ (List.mem_of_getElem? h)
/-- a new object -/
theorem Sy.push (S : Sy K F G H) (h : H p = none) : Sy K ((p, o) :: F) G (upd H p o) := by
  refine ⟨fun q hq => ?_, ?_, fun g hg => Ft.keep (Tx.new h) g (S.ft g hg)⟩
  · rcases List.mem_cons.mp hq with rfl | hq
    · exact upd_same
    · have e := S.st q hq
      rw [upd_ne (ne_of_none e h)]
      exact e
  · show (p :: F.map (·.1)).Nodup
    refine List.nodup_cons.mpr ⟨fun hm => ?_, S.nd⟩
    obtain ⟨q, hq, e⟩ := List.mem_map.mp hm
    have e2 := S.st q hq
    rw [e, h] at e2
    cases e2
/-- a new object that is not kept in mind -/
theorem Sy.over (S : Sy K F G H) (h : H p = none) : Sy K F G (upd H p o) := by
  obtain ⟨a, b, c⟩ := S.push (o := o) h
  exact ⟨fun q hq => a q (List.mem_cons_of_mem _ hq), S.nd, c⟩
theorem Sy.fact (S : Sy K F G H) (h : DpAll K H vs ds) (m : immAll ds = true) : Sy K F (.dat vs ds :: G) H :=
  ⟨S.st, S.nd, fun g hg => (List.mem_cons.mp hg).elim (fun e => by rw [e]; exact ⟨h, m⟩) (S.ft g)⟩
theorem Sy.add (S : Sy K F G H) (g : Ft) (h : g.ok K H) : Sy K F (g :: G) H :=
  ⟨S.st, S.nd, fun f hf => (List.mem_cons.mp hf).elim (fun e => by rw [e]; exact h) (S.ft f)⟩
/-- a tuple of data opened -/
theorem Sy.opn (S : Sy K F G H) (h : Dp K H v (.tuple ds)) (m : immAll ds = true) : ∃ a xs, v = .ref a ∧ Sy K F (.tq a xs :: .dat xs ds :: G) H := by
  obtain ⟨a, xs, e, h1, h2⟩ := dp_tuple h
  exact ⟨a, xs, e, (S.fact h2 m).add _ h1⟩
theorem Sy.lay (S : Sy K F G H) (h : H p = none) (hd : DpAll K H vs ds) (m : immAll ds = true) : Sy K F (.dat [.ref p] [.tuple ds] :: G) (upd H p (.tup vs)) := by
  refine (S.over h).fact (dps_one (.tup (.inl (.inl upd_same)) (dps_keep (Tx.new h) ds vs m hd))) ?_
  show (imm (.tuple ds) && true) = true
  rw [Bool.and_true]
  exact m
/-- an object changed -/
theorem Sy.put (S : Sy K F G H) (i : Nat) (h : F[i]? = some (p, o)) (m : isMut o = true) : Sy K (F.set i (p, o')) G (upd H p o') := by
  have hp := S.at i h
  have hi : i < F.length := (List.getElem?_eq_some_iff.mp h).1
  refine ⟨fun q hq => ?_, ?_, fun g hg => Ft.keep (Tx.put hp m) g (S.ft g hg)⟩
  · obtain ⟨j, hj⟩ := List.mem_iff_getElem?.mp hq
    by_cases e : i = j
    · subst e
      rw [List.getElem?_set_self hi] at hj
      cases hj
      exact upd_same
    · rw [List.getElem?_set_ne e] at hj
      have e2 := S.st q (List.mem_of_getElem? hj)
      rw [upd_ne]
      · exact e2
      · intro z
        have n := S.nd
        have h1 : (F.map (·.1))[i]? = some p := by rw [List.getElem?_map, h]; rfl
        have h2 : (F.map (·.1))[j]? = some p := by rw [List.getElem?_map, hj, ← z]; rfl
        exact e ((List.getElem_inj n).mp ((List.getElem?_eq_some_iff.mp h1).2.trans (List.getElem?_eq_some_iff.mp h2).2.symm))
  · have e : (F.set i (p, o')).map (·.1) = F.map (·.1) := by
      rw [List.map_set]
      refine List.ext_getElem? fun j => ?_
      by_cases e : i = j
      · subst e
        rw [List.getElem?_set_self (by simpa using hi), List.getElem?_map, h]
        rfl
      · rw [List.getElem?_set_ne e]
    rw [e]
    exact S.nd
theorem Sy.less {x : Addr × HO} (S : Sy K (x :: F) G H) : Sy K F G H := ⟨fun q hq => S.st q (List.mem_cons_of_mem _ hq), (List.nodup_cons.mp (show (x.1 :: F.map (·.1)).Nodup from S.nd)).2, S.ft⟩
theorem Sy.drop {x : Ft} (S : Sy K F (x :: G) H) : Sy K F G H := ⟨S.st, S.nd, fun g hg => S.ft g (List.mem_cons_of_mem _ hg)⟩
/-- other facts, all of them among those known -/
theorem Sy.facts {G' : List Ft} (S : Sy K F G H) (h : ∀ g ∈ G', g ∈ G) : Sy K F G' H := ⟨S.st, S.nd, fun g hg => S.ft g (h g hg)⟩
theorem Sy.drop2 {x y : Ft} (S : Sy K F (x :: y :: G) H) : Sy K F (x :: G) H := S.facts fun g hg => by
  rcases List.mem_cons.mp hg with rfl | h
  · exact List.mem_cons_self ..
  · exact List.mem_cons_of_mem _ (List.mem_cons_of_mem _ h)
theorem Sy.drop3 {x y z : Ft} (S : Sy K F (x :: y :: z :: G) H) : Sy K F (x :: y :: G) H := S.facts fun g hg => by
  rcases List.mem_cons.mp hg with rfl | h
  · exact List.mem_cons_self ..
  · rcases List.mem_cons.mp h with rfl | h
    · exact List.mem_cons_of_mem _ (List.mem_cons_self ..)
    · exact List.mem_cons_of_mem _ (List.mem_cons_of_mem _ (List.mem_cons_of_mem _ h))
theorem Sy.swap {x y : Addr × HO} (S : Sy K (x :: y :: F) G H) : Sy K (y :: x :: F) G H := by
  refine ⟨fun q hq => S.st q ?_, ?_, S.ft⟩
  · rcases List.mem_cons.mp hq with rfl | hq
    · exact List.mem_cons_of_mem _ (List.mem_cons_self ..)
    · rcases List.mem_cons.mp hq with rfl | hq
      · exact List.mem_cons_self ..
      · exact List.mem_cons_of_mem _ (List.mem_cons_of_mem _ hq)
  · have n : (x.1 :: y.1 :: F.map (·.1)).Nodup := S.nd
    show (y.1 :: x.1 :: F.map (·.1)).Nodup
    obtain ⟨n1, n2⟩ := List.nodup_cons.mp n
    obtain ⟨n3, n4⟩ := List.nodup_cons.mp n2
    refine List.nodup_cons.mpr ⟨fun z => ?_, List.nodup_cons.mpr ⟨fun z => n1 (List.mem_cons_of_mem _ z), n4⟩⟩
    rcases List.mem_cons.mp z with e | z
    · exact n1 (by rw [e]; exact List.mem_cons_self ..)
    · exact n3 z
end
end OB

set_option Elab.async false
set_option linter.all false
set_option maxRecDepth 100000
set_option maxHeartbeats 4000000
/-! OB, part c: more rules: walks over lists and tuples alike, zip and enumerate of both, a written dict of ints, powers, attributes as targets. -/
namespace OB
open PySem PySem.Spec PyProof.Rows L2 PySem.W

/-! ### a list or a tuple -/
def SqA (K : Frag) (H : Hp) (a : Addr) (xs : List V) : Prop := SqL K H a xs ∨ SqT K H a xs
/-- k: it is a list -/
def SqK (K : Frag) (H : Hp) (k : Bool) (a : Addr) (xs : List V) : Prop := match k with
  | true => SqL K H a xs
  | false => SqT K H a xs
def IsK (h : Heap) (k : Bool) (a : Addr) (its : Array Value) : Prop := match k with
  | true => h.IsList a its
  | false => h.IsTuple a its
def ItK (h : Heap) (k : Bool) (it a : Addr) (i : Nat) : Prop := match k with
  | true => h.IsListIter it a i
  | false => h.IsTupleIter it a i
theorem ItK.at {h h' : Heap} {k : Bool} {it a : Addr} {i : Nat} (x : ItK h k it a i) (e : ∀ o, h.get? it = some o → h'.get? it = some o) : ItK h' k it a i := by
  cases k with
  | true => exact Heap.IsListIter.at x e
  | false => exact Heap.IsTupleIter.at x e
theorem ItK.obj {h : Heap} {k : Bool} {it a : Addr} {i : Nat} (x : ItK h k it a i) : ∃ o, h.get? it = some o ∧ ∀ v, o.data ≠ .cell v := by
  cases k with
  | true =>
    obtain ⟨o, e, c, d⟩ := x
    exact ⟨o, e, fun v z => by rw [d] at z; cases z⟩
  | false =>
    obtain ⟨o, e, c, d⟩ := x
    exact ⟨o, e, fun v z => by rw [d] at z; cases z⟩
def itObj (k : Bool) (a : Addr) : Obj := match k with
  | true => { cls := .type "list_iterator", data := .fields #[.ref a, .int 0 0] }
  | false => { cls := .type "tuple_iterator", data := .fields #[.ref a, .int 0 0] }
theorem beginsK (k : Bool) (a : Addr) (its : Array Value) : Begins (.ref a) (itObj k a) fun h => IsK h k a its := match k with
  | true => begins_list a its
  | false => begins_tuple a its
theorem itK_new {h : Heap} {k : Bool} {it a : Addr} (e : h.get? it = some (itObj k a)) : ItK h k it a 0 := match k, e with
  | true, e => ⟨_, e, rfl, rfl⟩
  | false, e => ⟨_, e, rfl, rfl⟩
theorem drawsK {prog : Program} {w : World} {A : Around} (hh : A.handled = none) (k : Bool) (it a : Addr) (hne : a ≠ it) (its : Array Value) :
    Draws prog w A it [it, a] its.size (fun i v => its[i]? = some v) (fun i h => ItK h k it a i ∧ IsK h k a its) := match k with
  | true => Draws.list hh it a hne its
  | false => Draws.tuple hh it a hne its
section
variable {X : Cx} {pins : List (Addr × Obj)} {σ : L2.St} {H : Hp} {s : Shared} {a : Addr} {xs ys : List V} {k : Bool}
theorem inv_sqk (I : Inv X pins σ H s) (h : SqK X.K H k a xs) : ∃ its : List Value, Vals xs its ∧ IsK s.heap k a its.toArray ∧ a < s.heap.objs.size := by
  cases k with
  | true =>
    obtain ⟨its, r, p, _⟩ := I.list h
    exact ⟨its, r, p.isList, p.lt⟩
  | false =>
    obtain ⟨its, r, p, _⟩ := I.tuple h
    exact ⟨its, r, p, p.lt⟩
theorem sqk_inj (I : Inv X pins σ H s) (h : SqK X.K H k a xs) (h' : SqK X.K H k a ys) : xs = ys := by
  cases k with
  | true => exact I.list_inj h h'
  | false => exact I.tuple_inj h h'
end
theorem isK_le {h : Heap} {k : Bool} {a : Addr} {its : Array Value} (x : IsK h k a its) : ∃ o, h.get? a = some o ∧ ∃ n, o.data = .seq its n := by
  cases k with
  | true =>
    obtain ⟨o, e, _, n, d⟩ := x
    exact ⟨o, e, n, d⟩
  | false =>
    obtain ⟨o, e, _, n, d⟩ := x
    exact ⟨o, e, n, d⟩

/-! ### zip of two, each a list or a tuple -/
def ItzK (K : Frag) (k l : Bool) (a b : Addr) : It :=
  ⟨fun i H => ∃ (xs ys : List V) (x y : V), SqK K H k a xs ∧ SqK K H l b ys ∧ xs[i]? = some x ∧ ys[i]? = some y,
    fun i H v H' => ∃ T x y, v = .ref T ∧ H T = none ∧ H' = upd H T (.tup [x, y]) ∧ (∀ xs, SqK K H k a xs → xs[i]? = some x) ∧ ∀ ys, SqK K H l b ys → ys[i]? = some y,
    fun i H => ∃ xs ys : List V, SqK K H k a xs ∧ SqK K H l b ys ∧ i ≤ xs.length ∧ i ≤ ys.length ∧ (i = xs.length ∨ i = ys.length)⟩
theorem turn_zipK {P : Program} {w : World} {K : Frag} {elts : List Expr} {kk : Nat} {tpos : Pos} {k l : Bool} {a b z TI TO i1 i2 : Addr} (D : ZipSep2 z TI TO i1 i2 [i1, a] [i2, b]) :
    Turn P w K (.Tuple elts kk tpos) (ItzK K k l a b) [z, TI, TO, i1, i2] z
      (fun i h => IsZip h z TI TO .none ∧ IsTupOf2 h TI (.ref i1) (.ref i2) ∧ (∃ x y, IsTupOf2 h TO x y) ∧ ItK h k i1 a i ∧ ItK h l i2 b i) where
  mem := List.mem_cons_self ..
  obj := fun i h st c hc => by
    obtain ⟨hz, hTI, ⟨x, y, hTO⟩, h1, h2⟩ := st
    have cs : c = z ∨ c = TI ∨ c = TO ∨ c = i1 ∨ c = i2 := by simpa using hc
    rcases cs with rfl | rfl | rfl | rfl | rfl
    · exact ⟨_, hz, fun v q => nomatch q⟩
    · exact ⟨_, hTI, fun v q => nomatch q⟩
    · exact ⟨_, hTO, fun v q => nomatch q⟩
    · exact h1.obj
    · exact h2.obj
  keep := fun i h h' st kp => by
    obtain ⟨hz, hTI, ⟨x, y, hTO⟩, h1, h2⟩ := st
    exact ⟨kp z (by simp) _ hz, kp TI (by simp) _ hTI, ⟨x, y, kp TO (by simp) _ hTO⟩, h1.at fun o q => kp i1 (by simp) o q, h2.at fun o q => kp i2 (by simp) o q⟩
  item := by
    intro X hP hw hK hc i pins s σ H E I hf st hg
    subst hP hw hK
    obtain ⟨hz, hTI, ⟨x0, y0, hTO⟩, h1, h2⟩ := st
    obtain ⟨xs, ys, x, y, qa, qb, hx, hy⟩ := hg
    obtain ⟨its, ra, pa, _⟩ := inv_sqk I qa
    obtain ⟨jts, rb, pb, _⟩ := inv_sqk I qb
    obtain ⟨u, hu, ru⟩ := ra.get hx
    obtain ⟨u2, hu2, ru2⟩ := rb.get hy
    have zlt : z < s.heap.objs.size := Heap.lt_size hz
    have hh : X.A.in1.handled = none := I.ok.hd hc
    have la : i < its.toArray.size := by
      rw [List.size_toArray]
      exact (List.getElem?_eq_some_iff.mp hu).1
    have lb : i < jts.toArray.size := by
      rw [List.size_toArray]
      exact (List.getElem?_eq_some_iff.mp hu2).1
    have nea : a ≠ i1 := fun e => by
      obtain ⟨o, e1, n, d1⟩ := isK_le pa
      rw [e] at e1
      cases k with
      | true => obtain ⟨o2, e2, _, d2⟩ := h1; rw [e1] at e2; cases e2; rw [d1] at d2; cases d2
      | false => obtain ⟨o2, e2, _, d2⟩ := h1; rw [e1] at e2; cases e2; rw [d1] at d2; cases d2
    have neb : b ≠ i2 := fun e => by
      obtain ⟨o, e1, n, d1⟩ := isK_le pb
      rw [e] at e1
      cases l with
      | true => obtain ⟨o2, e2, _, d2⟩ := h2; rw [e1] at e2; cases e2; rw [d1] at d2; cases d2
      | false => obtain ⟨o2, e2, _, d2⟩ := h2; rw [e1] at e2; cases e2; rw [d1] at d2; cases d2
    refine wpAny_pyNext_zipD2_item D (drawsK hh k i1 a nea its.toArray) (drawsK hh l i2 b neb jts.toArray) hz hTI hTO ⟨h1, pa⟩ ⟨h2, pb⟩ la lb fun v1 v2 h' tk e1 e2 z' TO' g1 g2 hT hsz kp => ?_
    have q1 : v1 = u := Option.some.inj (e1.symm.trans (by simpa using hu))
    have q2 : v2 = u2 := Option.some.inj (e2.symm.trans (by simpa using hu2))
    subst q1 q2
    refine ⟨_, rfl, wpAny_letOwnedTupleGo_zip (s := { s with heap := h', toks := tk }) z' fun h'' z'' sb => ?_⟩
    have hT2 : h''.get? s.heap.objs.size = some { cls := .type "tuple", data := .seq #[v1, v2] } := (sb.2 _ (Nat.ne_of_gt zlt)).trans hT
    have fresh : ObjOk X.prog X.w (upd H s.heap.objs.size (.tup [x, y])) h'' s.heap.objs.size (.tup [x, y]) :=
      ⟨by show 2 ≤ sizeLine; decide, [v1, v2], .cons ru (.cons ru2 .nil), ⟨_, hT2, rfl, _, rfl⟩⟩
    have kp2 : ∀ c o, c ∉ [z, TI, TO, i1, i2] → s.heap.get? c = some o → h''.get? c = some o := fun c o hb q =>
      (sb.2 c (fun e => hb (by simp [e]))).trans (kp c o (fun e => hb (by simp [e])) (fun e => hb (by simp [e])) (fun e => hb (by simp [e])) (fun e => hb (by simp [e])) q)
    have I1 : Inv X pins σ (upd H s.heap.objs.size (.tup [x, y])) { s with heap := h'', toks := tk } := I.turnedNew (ch := [z, TI, TO, i1, i2]) kp2 hf (Nat.le_refl _) fresh
    have neTI : TI ≠ z ∧ TI ≠ TO ∧ TI ≠ i1 ∧ TI ≠ i2 := ⟨D.TIz, D.TITO, D.TIi1, D.TIi2⟩
    refine ⟨.ref s.heap.objs.size, _, I1, rfl, ⟨_, x, y, rfl, I.hok.fresh (Nat.le_refl _), rfl, fun m hm => by rw [sqk_inj I hm qa]; exact hx, fun m hm => by rw [sqk_inj I hm qb]; exact hy⟩, ⟨z'', ?_, ⟨v1, v2, ?_⟩, ?_, ?_⟩, fun c hcm => ?_⟩
    · exact (sb.2 _ D.TIz).trans (kp _ _ D.TIz D.TITO D.TIi1 D.TIi2 hTI)
    · exact (sb.2 _ D.TOz).trans TO'
    · exact g1.1.at fun o q => (sb.2 _ (Ne.symm D.zi1)).trans q
    · exact g2.1.at fun o q => (sb.2 _ (Ne.symm D.zi2)).trans q
    · have lt : c < s.heap.objs.size := by
        have cs : c = z ∨ c = TI ∨ c = TO ∨ c = i1 ∨ c = i2 := by simpa using hcm
        rcases cs with rfl | rfl | rfl | rfl | rfl
        · exact zlt
        · exact Heap.lt_size hTI
        · exact Heap.lt_size hTO
        · obtain ⟨o, q, _⟩ := h1.obj; exact Heap.lt_size q
        · obtain ⟨o, q, _⟩ := h2.obj; exact Heap.lt_size q
      rw [upd_ne (Nat.ne_of_lt lt)]
      exact (hf c hcm).1
  done := by
    intro X hP hw hK hc i pins s σ H E I hf st hg
    subst hP hw hK
    obtain ⟨hz, hTI, ⟨x0, y0, hTO⟩, h1, h2⟩ := st
    obtain ⟨xs, ys, qa, qb, l1, l2, le⟩ := hg
    obtain ⟨its, ra, pa, _⟩ := inv_sqk I qa
    obtain ⟨jts, rb, pb, _⟩ := inv_sqk I qb
    have hh : X.A.in1.handled = none := I.ok.hd hc
    have e1 := ra.length
    have e2 := rb.length
    have nea : a ≠ i1 := fun e => by
      obtain ⟨o, e1, n, d1⟩ := isK_le pa
      rw [e] at e1
      cases k with
      | true => obtain ⟨o2, e2, _, d2⟩ := h1; rw [e1] at e2; cases e2; rw [d1] at d2; cases d2
      | false => obtain ⟨o2, e2, _, d2⟩ := h1; rw [e1] at e2; cases e2; rw [d1] at d2; cases d2
    have neb : b ≠ i2 := fun e => by
      obtain ⟨o, e1, n, d1⟩ := isK_le pb
      rw [e] at e1
      cases l with
      | true => obtain ⟨o2, e2, _, d2⟩ := h2; rw [e1] at e2; cases e2; rw [d1] at d2; cases d2
      | false => obtain ⟨o2, e2, _, d2⟩ := h2; rw [e1] at e2; cases e2; rw [d1] at d2; cases d2
    refine wpAny_pyNext_zipD2_end D (drawsK hh k i1 a nea its.toArray) (drawsK hh l i2 b neb jts.toArray) hz hTI hTO ⟨h1, pa⟩ ⟨h2, pb⟩ (by rw [List.size_toArray]; omega) (by rw [List.size_toArray]; omega) (by rw [List.size_toArray, List.size_toArray]; omega) fun h' tk kp => ?_
    exact ⟨rfl, I.turnedL (t' := tk) (ch := [z, TI, TO, i1, i2]) (fun c o hb q => kp c o (fun e => hb (by simp [e])) (fun e => hb (by simp [e])) (fun e => hb (by simp [e])) (fun e => hb (by simp [e])) q) hf⟩
  self := fun A i s Q E st h => wpAny_pyIter_zip st.1 h
def iZipK (K : Frag) (ta : TA) : TI := fun σ H R => ta σ H fun vs H1 => ∃ k l a b xs ys, vs = [.ref a, .ref b] ∧ SqK K H1 k a xs ∧ SqK K H1 l b ys ∧ R (ItzK K k l a b) H1
theorem pi_zipK {X : Cx} {e e2 : Expr} {ta : TA} {p pos tpos : Pos} {elts : List Expr} {kk : Nat} (hg : Gl X "zip") (hm : X.mg "zip" = none) (ha : PA X [e, e2] ta)
    (hs : starEach [e, e2] X.env = (false, eval e X.env) :: starEach [e2] X.env := by rfl) (hpl : (backTo pos (starEach [e2] X.env)).any (·.1) = false := by rfl) :
    PI X (.Tuple elts kk tpos) (.Call (.Name "zip" p) [e, e2] [] pos) (iZipK X.K ta) := by
  refine ⟨fun pins s σ H R I h => Call_ (ld_blt I hg hm PyProof.Rows.boot_zip (PyProof.Rows.callWith_type1 (thn (ha.run pos pins s σ H _ I h) fun us s1 ⟨vs, H1, I1, r1, q1⟩ => ?_) hs hpl))⟩
  obtain ⟨k, l, a, b, xs, ys, rfl, qa, qb, q⟩ := q1
  cases r1 with
  | cons r rr =>
    cases rr with
    | cons r' rr =>
      cases rr
      cases r
      cases r'
      obtain ⟨its, ra, pa, la⟩ := inv_sqk I1 qa
      obtain ⟨jts, rb, pb, lb⟩ := inv_sqk I1 qb
      refine zip_begins2 (beginsK k a its.toArray) (beginsK l b jts.toArray) pa pb fun h' hz hTI hTO g1 g2 hsz kp => wpAny_pyIter_zip hz ?_
      have I2 : Inv X pins σ H1 { s1 with heap := h' } := I1.kept (t' := s1.toks) kp
      refine ⟨s1.heap.objs.size + 4, [s1.heap.objs.size + 4, s1.heap.objs.size + 2, s1.heap.objs.size + 3, s1.heap.objs.size, s1.heap.objs.size + 1], _, _, H1, rfl, I2,
        turn_zipK (zip_sep2 (fp1 := [a]) (fp2 := [b]) (fun c hc => by rw [List.mem_singleton.mp hc]; exact la) (fun c hc => by rw [List.mem_singleton.mp hc]; exact lb)), ⟨hz, hTI, ⟨_, _, hTO⟩, itK_new g1, itK_new g2⟩, fun c hcm => ?_, q⟩
      have cs : c = s1.heap.objs.size + 4 ∨ c = s1.heap.objs.size + 2 ∨ c = s1.heap.objs.size + 3 ∨ c = s1.heap.objs.size ∨ c = s1.heap.objs.size + 1 := by simpa using hcm
      have le : s1.heap.objs.size ≤ c := by
        rcases cs with rfl | rfl | rfl | rfl | rfl
        · exact Nat.le_add_right _ _
        · exact Nat.le_add_right _ _
        · exact Nat.le_add_right _ _
        · exact Nat.le_refl _
        · exact Nat.le_add_right _ _
      exact I1.fpOk le (I1.hok.fresh le)
theorem for_zipK {K : Frag} {k l : Bool} {a b : Addr} {xs ys : List V} {g : TG} {tb : TS} {D : Ends} {σ : L2.St} {H : Hp} (hl : xs.length = ys.length) (Pv : Nat → L2.St → Hp → Prop) (h0 : Pv 0 σ H) (hq : ∀ i σ H, Pv i σ H → SqK K H k a xs ∧ SqK K H l b ys)
    (hs : ∀ i x y T σ H, xs[i]? = some x → ys[i]? = some y → Pv i σ H → H T = none → g (.ref T) σ (upd H T (.tup [x, y])) fun σ2 H2 => tb { D with nx := Pv (i + 1), ct := Pv (i + 1), bk := D.nx } σ2 H2) (hd : ∀ σ H, Pv xs.length σ H → D.nx σ H) :
    ∃ W : Nat → Nat → L2.St → Hp → Prop, (∃ m, W 0 m σ H) ∧ ∀ i m σ H, W i m σ H →
      ((ItzK K k l a b).stop i H ∧ D.nx σ H) ∨ ((ItzK K k l a b).go i H ∧ ∃ N : L2.St → Hp → Prop, (∀ σ' H', N σ' H' → ∃ m', m' < m ∧ W (i + 1) m' σ' H') ∧ ∀ x H', (ItzK K k l a b).yld i H x H' → g x σ H' fun σ2 H2 => tb { D with nx := N, ct := N, bk := D.nx } σ2 H2) := by
  refine ⟨fun i m σ H => m = xs.length - i ∧ i ≤ xs.length ∧ Pv i σ H, ⟨_, rfl, Nat.zero_le _, h0⟩, ?_⟩
  rintro i m σ H ⟨rfl, hi, p⟩
  obtain ⟨qa, qb⟩ := hq i σ H p
  by_cases lt : i < xs.length
  · have hx : xs[i]? = some xs[i] := List.getElem?_eq_getElem lt
    have hy : ys[i]? = some (ys[i]'(hl ▸ lt)) := List.getElem?_eq_getElem _
    refine .inr ⟨⟨xs, ys, _, _, qa, qb, hx, hy⟩, Pv (i + 1), fun σ' H' p' => ⟨xs.length - (i + 1), by omega, rfl, lt, p'⟩, fun v H' yl => ?_⟩
    obtain ⟨T, x, y, rfl, hT, rfl, e1, e2⟩ := yl
    exact hs i x y T σ H (e1 xs qa) (e2 ys qb) p hT
  · have e : i = xs.length := by omega
    subst e
    exact .inl ⟨⟨xs, ys, qa, qb, hi, by omega, .inl rfl⟩, hd σ H p⟩

/-! ### for over a list or a tuple -/
def iSeq (K : Frag) (tl : TE) : TI := fun σ H R => tl σ H fun x H1 => ∃ a, x = .ref a ∧ (((∃ xs, SqL K H1 a xs) ∧ R (Itl K a) H1) ∨ ((∃ xs, SqT K H1 a xs) ∧ R (Itt K a) H1))
theorem pi_seq {X : Cx} {tg l : Expr} {tl : TE} (hl : PE X l tl) : PI X tg l (iSeq X.K tl) := by
  refine ⟨fun pins s σ H R I h => thn (hl.run pins s σ H _ I h) fun v s1 ⟨x, H1, I1, r1, a, ex, q⟩ => ?_⟩
  subst ex
  cases r1
  have fresh : ∀ b ∈ [s1.heap.objs.size], FpOk X pins H1 b := fun b hb => by
    rw [List.mem_singleton.mp hb]
    exact I1.fpOk (Nat.le_refl _) (I1.hok.fresh (Nat.le_refl _))
  rcases q with ⟨⟨xs, hq⟩, q⟩ | ⟨⟨xs, hq⟩, q⟩
  · obtain ⟨its, rv, p, _⟩ := I1.list hq
    exact wpAny_pyIter_list p.isList ⟨s1.heap.objs.size, [s1.heap.objs.size], _, _, H1, rfl, I1.kept (t' := s1.toks) fun b o e => Heap.get?_push_of_some _ e, turn_list a _, ⟨_, Heap.get?_push_size _ rfl, rfl, rfl⟩, fresh, q⟩
  · obtain ⟨its, rv, p, _⟩ := I1.tuple hq
    exact wpAny_pyIter_tuple (show s1.heap.IsTuple a its.toArray from p) ⟨s1.heap.objs.size, [s1.heap.objs.size], _, _, H1, rfl, I1.kept (t' := s1.toks) fun b o e => Heap.get?_push_of_some _ e, turn_tuple a _, ⟨_, Heap.get?_push_size _ rfl, rfl, rfl⟩, fresh, q⟩
end OB

set_option Elab.async false
set_option linter.all false
set_option maxRecDepth 100000
set_option maxHeartbeats 4000000
/-! OB, part d: enumerate of lists and tuples alike, a written dict of ints, powers, attributes as targets. -/
namespace OB
open PySem PySem.Spec PyProof.Rows L2 PySem.W

/-! ### enumerate -/
theorem meets_enum1 {v : Value} {o : Obj} {B : Heap → Prop} (bg : Begins v o B) :
    Meets (Builtin.«enumerate.__new__» ⟨[.type "enumerate", v], []⟩) (fun _ R s => B s.heap ∧
      R (.ok (.ret (.ref (s.heap.push o).objs.size))) { s with heap := (s.heap.push o).push { cls := .type "enumerate", data := .fields #[.none, .bool false, .ref s.heap.objs.size, rawInt 0, .none, .none] } }) :=
  .of_wp fun prog w A R s h => by
    obtain ⟨hp, gn, dr, tk, os⟩ := s
    obtain ⟨hb, h⟩ := h
    have hsub := sub_enumerate
    have walk : ∀ {A' : Around} {E : Value → Shared → Prop} {Q : Value → Shared → Prop}, Q (.ref hp.objs.size) ⟨hp.push o, gn, dr, tk, os⟩ → wpAny (model prog w) A' (pyIter v) Q E ⟨hp, gn, dr, tk, os⟩ :=
      fun q => bg.iter prog w _ _ ⟨hp, gn, dr, tk, os⟩ _ hb q
    wp_walk using walk
    refine wpAny_stack_any fun st => wpAny_pure ?_
    split
    · rename_i c _ _ _ _ _
      cases (c == Value.type "enumerate")
      · wp_walk using walk
        exact ⟨_, rfl, h⟩
      · wp_walk using walk
        exact ⟨_, rfl, h⟩
    · wp_walk using walk
      exact ⟨_, rfl, h⟩
theorem call_enum1 {prog : Program} {w : World} {A : Around} {E : Value → Shared → Prop} {s : Shared} {v : Value} {o : Obj} {B : Heap → Prop} {Q : Value → Shared → Prop} (bg : Begins v o B) (hb : B s.heap)
    (h : ∀ h', IsEnum h' (s.heap.objs.size + 1) s.heap.objs.size 0 .none → h'.get? s.heap.objs.size = some o → (∀ b o, s.heap.get? b = some o → h'.get? b = some o) → Q (.ref (s.heap.objs.size + 1)) { s with heap := h' }) :
    wpAny (model prog w) A (call (.type "enumerate") [v]) Q E s := by
  refine callType_new F.called_enumerate (by decide) (F.typeCall_enumerate_1 _) (F.newCall_enumerate_1 _) (fun obj => F.args_object_init_2 obj _) F.entry_enumerate_new (meets_enum1 bg) ⟨hb, ?_⟩
  have hz : (s.heap.push o).objs.size = s.heap.objs.size + 1 := Heap.size_push ..
  show _ ∧ _
  rw [hz]
  have he : IsEnum ((s.heap.push o).push { cls := .type "enumerate", data := .fields #[.none, .bool false, .ref s.heap.objs.size, rawInt 0, .none, .none] }) (s.heap.objs.size + 1) s.heap.objs.size 0 .none := by
    have q := Heap.get?_push_size (s.heap.push o) (o := { cls := .type "enumerate", data := .fields #[.none, .bool false, .ref s.heap.objs.size, rawInt 0, .none, .none] }) rfl
    rw [hz] at q
    exact q
  exact ⟨⟨_, he, rfl⟩, h _ he (Heap.get?_push_of_some _ (Heap.get?_push_size _ bg.free)) fun b o x => Heap.get?_push_of_some _ (Heap.get?_push_of_some _ x)⟩
def IteK (K : Frag) (k : Bool) (a : Addr) : It :=
  ⟨fun i H => ∃ (xs : List V) (x : V), SqK K H k a xs ∧ xs[i]? = some x,
    fun i H v H' => ∃ T x, v = .ref T ∧ H T = none ∧ H' = upd H T (.tup [.int (i : Nat), x]) ∧ ∀ xs, SqK K H k a xs → xs[i]? = some x,
    fun i H => ∃ xs : List V, SqK K H k a xs ∧ i = xs.length⟩
theorem turn_enumK {P : Program} {w : World} {K : Frag} {elts : List Expr} {kk : Nat} {tpos : Pos} {k : Bool} {a e it : Addr} (hea : e ≠ a) :
    Turn P w K (.Tuple elts kk tpos) (IteK K k a) [e, it] e (fun i h => (∃ old, IsEnum h e it ((i : Nat) : Int) old) ∧ ItK h k it a i ∧ e ≠ it) where
  mem := List.mem_cons_self ..
  obj := fun i h st b hb => by
    obtain ⟨⟨old, he⟩, h1, _⟩ := st
    have cs : b = e ∨ b = it := by simpa using hb
    rcases cs with rfl | rfl
    · exact ⟨_, he, fun v q => nomatch q⟩
    · exact h1.obj
  keep := fun i h h' st kp => by
    obtain ⟨⟨old, he⟩, h1, ne⟩ := st
    exact ⟨⟨old, kp e (by simp) _ he⟩, h1.at fun o q => kp it (by simp) o q, ne⟩
  item := by
    intro X hP hw hK hc i pins s σ H E I hf st hg
    subst hP hw hK
    obtain ⟨⟨old, he⟩, h1, ne⟩ := st
    obtain ⟨xs, x, qa, hx⟩ := hg
    obtain ⟨its, ra, pa, _⟩ := inv_sqk I qa
    obtain ⟨u, hu, ru⟩ := ra.get hx
    have elt : e < s.heap.objs.size := Heap.lt_size he
    have hh : X.A.in1.handled = none := I.ok.hd hc
    have la : i < its.toArray.size := by
      rw [List.size_toArray]
      exact (List.getElem?_eq_some_iff.mp hu).1
    have nea : a ≠ it := fun z => by
      obtain ⟨o, e1, n, d1⟩ := isK_le pa
      rw [z] at e1
      cases k with
      | true => obtain ⟨o2, e2, _, d2⟩ := h1; rw [e1] at e2; cases e2; rw [d1] at d2; cases d2
      | false => obtain ⟨o2, e2, _, d2⟩ := h1; rw [e1] at e2; cases e2; rw [d1] at d2; cases d2
    have nin : e ∉ [it, a] := fun z => by
      have cs : e = it ∨ e = a := by simpa using z
      exact cs.elim ne hea
    refine wpAny_pyNext_enum_itemD (drawsK hh k it a nea its.toArray) he ⟨h1, pa⟩ la ne nin fun v1 h' tk e1 he' g1 hT hsz kp => ?_
    have q1 : v1 = u := Option.some.inj (e1.symm.trans (by simpa using hu))
    subst q1
    refine ⟨_, rfl, wpAny_letOwnedTupleGo_enum (s := { s with heap := h', toks := tk + 1 }) he' fun h'' he'' sb => ?_⟩
    have hT2 : h''.get? s.heap.objs.size = some { cls := .type "tuple", data := .seq #[.int i tk, v1] } := (sb.2 _ (Nat.ne_of_gt elt)).trans hT
    have fresh : ObjOk X.prog X.w (upd H s.heap.objs.size (.tup [.int (i : Nat), x])) h'' s.heap.objs.size (.tup [.int (i : Nat), x]) :=
      ⟨by show 2 ≤ sizeLine; decide, [.int i tk, v1], .cons ⟨_, rfl⟩ (.cons ru .nil), ⟨_, hT2, rfl, _, rfl⟩⟩
    have I1 : Inv X pins σ (upd H s.heap.objs.size (.tup [.int (i : Nat), x])) { s with heap := h'', toks := tk + 1 } :=
      I.turnedNew (ch := [e, it]) (fun c o hb q => (sb.2 c (fun z => hb (by simp [z]))).trans (kp c o (fun z => hb (by simp [z])) (fun z => hb (by simp [z])) q)) hf (Nat.le_refl _) fresh
    refine ⟨.ref s.heap.objs.size, _, I1, rfl, ⟨_, x, rfl, I.hok.fresh (Nat.le_refl _), rfl, fun m hm => by rw [sqk_inj I hm qa]; exact hx⟩, ⟨⟨v1, ?_⟩, g1.1.at fun o q => (sb.2 _ (Ne.symm ne)).trans q, ne⟩, fun c hcm => ?_⟩
    · have ei : ((i + 1 : Nat) : Int) = (i : Int) + 1 := by omega
      rw [ei]
      exact he''
    · have lt : c < s.heap.objs.size := by
        have cs : c = e ∨ c = it := by simpa using hcm
        rcases cs with rfl | rfl
        · exact elt
        · obtain ⟨o, q, _⟩ := h1.obj; exact Heap.lt_size q
      rw [upd_ne (Nat.ne_of_lt lt)]
      exact (hf c hcm).1
  done := by
    intro X hP hw hK hc i pins s σ H E I hf st hg
    subst hP hw hK
    obtain ⟨⟨old, he⟩, h1, ne⟩ := st
    obtain ⟨xs, qa, le⟩ := hg
    obtain ⟨its, ra, pa, _⟩ := inv_sqk I qa
    have hh : X.A.in1.handled = none := I.ok.hd hc
    have e1 := ra.length
    have nea : a ≠ it := fun z => by
      obtain ⟨o, e1, n, d1⟩ := isK_le pa
      rw [z] at e1
      cases k with
      | true => obtain ⟨o2, e2, _, d2⟩ := h1; rw [e1] at e2; cases e2; rw [d1] at d2; cases d2
      | false => obtain ⟨o2, e2, _, d2⟩ := h1; rw [e1] at e2; cases e2; rw [d1] at d2; cases d2
    have ei : i = its.toArray.size := by
      rw [List.size_toArray]
      omega
    subst ei
    obtain ⟨f0, f1, f2, f3, f4, f5⟩ := hf it (by simp)
    exact wpAny_pyNext_enum_endD (drawsK hh k it a nea its.toArray) he ⟨h1, pa⟩ fun h' eb => ⟨rfl, I.turned (t' := s.toks) (fun b o hb q => eb b o hb q) f0 f1 f3 f4 f5⟩
  self := fun A i s Q E st h => by
    obtain ⟨⟨_, he⟩, _⟩ := st
    exact wpAny_pyIter_enum he h
def iEnumK (K : Frag) (ta : TA) : TI := fun σ H R => ta σ H fun vs H1 => ∃ k a xs, vs = [.ref a] ∧ SqK K H1 k a xs ∧ R (IteK K k a) H1
theorem pi_enumK {X : Cx} {e : Expr} {ta : TA} {p pos tpos : Pos} {elts : List Expr} {kk : Nat} (hg : Gl X "enumerate") (hm : X.mg "enumerate" = none) (ha : PA X [e] ta)
    (hs : starEach [e] X.env = [(false, eval e X.env)] := by rfl) : PI X (.Tuple elts kk tpos) (.Call (.Name "enumerate" p) [e] [] pos) (iEnumK X.K ta) := by
  refine ⟨fun pins s σ H R I h => Call_ (ld_blt I hg hm boot_enumerate (PyProof.Rows.callWith_type1 (thn (ha.run pos pins s σ H _ I h) fun us s1 ⟨vs, H1, I1, r1, q1⟩ => ?_) hs rfl))⟩
  obtain ⟨k, a, xs, rfl, qa, q⟩ := q1
  cases r1 with
  | cons r rr =>
    cases rr
    cases r
    obtain ⟨its, ra, pa, la⟩ := inv_sqk I1 qa
    refine call_enum1 (beginsK k a its.toArray) pa fun h' he g1 kp => wpAny_pyIter_enum he ?_
    have I2 : Inv X pins σ H1 { s1 with heap := h' } := I1.kept (t' := s1.toks) kp
    refine ⟨s1.heap.objs.size + 1, [s1.heap.objs.size + 1, s1.heap.objs.size], _, _, H1, rfl, I2, turn_enumK (Nat.ne_of_gt (Nat.lt_succ_of_lt la)), ⟨⟨_, he⟩, itK_new g1, Nat.succ_ne_self _⟩, fun c hcm => ?_, q⟩
    have cs : c = s1.heap.objs.size + 1 ∨ c = s1.heap.objs.size := by simpa using hcm
    have le : s1.heap.objs.size ≤ c := by
      rcases cs with rfl | rfl
      · exact Nat.le_add_right _ _
      · exact Nat.le_refl _
    exact I1.fpOk le (I1.hok.fresh le)
theorem for_enumK {K : Frag} {k : Bool} {a : Addr} {xs : List V} {g : TG} {tb : TS} {D : Ends} {σ : L2.St} {H : Hp} (Pv : Nat → L2.St → Hp → Prop) (h0 : Pv 0 σ H) (hq : ∀ i σ H, Pv i σ H → SqK K H k a xs)
    (hs : ∀ i x T σ H, xs[i]? = some x → Pv i σ H → H T = none → g (.ref T) σ (upd H T (.tup [.int (i : Nat), x])) fun σ2 H2 => tb { D with nx := Pv (i + 1), ct := Pv (i + 1), bk := D.nx } σ2 H2) (hd : ∀ σ H, Pv xs.length σ H → D.nx σ H) :
    ∃ W : Nat → Nat → L2.St → Hp → Prop, (∃ m, W 0 m σ H) ∧ ∀ i m σ H, W i m σ H →
      ((IteK K k a).stop i H ∧ D.nx σ H) ∨ ((IteK K k a).go i H ∧ ∃ N : L2.St → Hp → Prop, (∀ σ' H', N σ' H' → ∃ m', m' < m ∧ W (i + 1) m' σ' H') ∧ ∀ x H', (IteK K k a).yld i H x H' → g x σ H' fun σ2 H2 => tb { D with nx := N, ct := N, bk := D.nx } σ2 H2) := by
  refine ⟨fun i m σ H => m = xs.length - i ∧ i ≤ xs.length ∧ Pv i σ H, ⟨_, rfl, Nat.zero_le _, h0⟩, ?_⟩
  rintro i m σ H ⟨rfl, hi, p⟩
  have qa := hq i σ H p
  by_cases lt : i < xs.length
  · have hx : xs[i]? = some xs[i] := List.getElem?_eq_getElem lt
    refine .inr ⟨⟨xs, _, qa, hx⟩, Pv (i + 1), fun σ' H' p' => ⟨xs.length - (i + 1), by omega, rfl, lt, p'⟩, fun v H' yl => ?_⟩
    obtain ⟨T, x, rfl, hT, rfl, e1⟩ := yl
    exact hs i x T σ H (e1 xs qa) p hT
  · have e : i = xs.length := by omega
    subst e
    exact .inl ⟨⟨xs, qa, rfl⟩, hd σ H p⟩

/-! ### powers -/
def CPowX (i j : Int) : Prop := 0 ≤ j ∧ (Builtin.Int.intBits i : Int) * j ≤ 2 ^ 27
theorem op_powX {X : Cx} : OpR X (binaryOp .Pow) (rI CPowX fun i j => .int (i ^ j.toNat)) := opI fun _ _ _ _ _ _ _ hc q => pow_int hc.1 hc.2 q

/-! ### a written dict of ints -/
def KDi (K : Frag) (a : Addr) (kvs : List (Int × V)) : Prop := ∃ (es : Array DictEntry) (n : Nat), K.lookup a = some ⟨.type "dict", none, .dict es n, #[]⟩ ∧ (a == sysModules) = false ∧
  Paired (fun (p : Int × V) (e : DictEntry) => Value.isInt p.1 e.key = true ∧ e.hash = hashInt p.1 ∧ RelV p.2 e.val) kvs es.toList
theorem kdi_find {kvs : List (Int × V)} : ∀ {es : List DictEntry}, Paired (fun (p : Int × V) (e : DictEntry) => Value.isInt p.1 e.key = true ∧ e.hash = hashInt p.1 ∧ RelV p.2 e.val) kvs es → ∀ i : Int,
    match kvs.lookup i with
    | some v => ∃ u, (es.find? fun d => Value.isInt i d.key).map (·.val) = some u ∧ RelV v u
    | none => (es.find? fun d => Value.isInt i d.key).map (·.val) = none := by
  induction kvs with
  | nil =>
    intro es h i
    cases h
    rfl
  | cons p kvs ih =>
    intro es h i
    cases h with
    | cons h1 h2 =>
      rename_i e es
      obtain ⟨k1, _, k3⟩ := h1
      obtain ⟨t, ek⟩ := Value.isInt_shape k1
      rw [List.lookup_cons, List.find?_cons, ek]
      by_cases q : i = p.1
      · subst q
        rw [beq_self_eq_true]
        have z : Value.isInt p.1 (.int p.1 t) = true := by rw [← ek]; exact k1
        rw [z]
        exact ⟨_, rfl, k3⟩
      · have z : Value.isInt i (.int p.1 t) = false := by
          cases hz : Value.isInt i (.int p.1 t) with
          | false => rfl
          | true =>
            obtain ⟨t2, e2⟩ := Value.isInt_shape hz
            injection e2 with e3 _
            exact absurd e3.symm q
        have z2 : (i == p.1) = false := beq_eq_false_iff_ne.mpr q
        rw [z, z2]
        exact ih h2 i
theorem kdi_keys {kvs : List (Int × V)} : ∀ {es : List DictEntry}, Paired (fun (p : Int × V) (e : DictEntry) => Value.isInt p.1 e.key = true ∧ e.hash = hashInt p.1 ∧ RelV p.2 e.val) kvs es → ∀ e ∈ es, ∃ i, Value.isInt i e.key = true ∧ e.hash = hashInt i := by
  induction kvs with
  | nil =>
    intro es h e he
    cases h
    cases he
  | cons p kvs ih =>
    intro es h e he
    cases h with
    | cons h1 h2 =>
      rcases List.mem_cons.mp he with rfl | he
      · exact ⟨p.1, h1.1, h1.2.1⟩
      · exact ih h2 e he
section
variable {X : Cx}
theorem kdi_map {kvs : List (Int × V)} {a : Addr} {h : Heap} (kin : X.K.In h) (d : KDi X.K a kvs) : ∃ f : Int → Option Value, h.MapOf (PySem.intKind X.prog X.w) a f ∧ (a == sysModules) = false ∧
    ∀ i, match kvs.lookup i with
      | some v => ∃ u, f i = some u ∧ RelV v u
      | none => f i = none := by
  obtain ⟨es, n, lk, low, pr⟩ := d
  refine ⟨fun i => findBy Value.isInt es i, ⟨_, es, n, kin _ _ lk, ⟨rfl, rfl, rfl⟩, rfl, fun e he => kdi_keys pr e (Array.mem_toList_iff.mpr he), fun _ => rfl⟩, low, fun i => ?_⟩
  have q := kdi_find pr i
  obtain ⟨l⟩ := es
  unfold findBy
  have key : ∀ g : DictEntry → Bool, Array.find? g (⟨l⟩ : Array DictEntry) = l.find? g := fun g => List.find?_toArray ..
  simp only [key]
  exact q
def rIxI (K : Frag) : R2 := fun x y H Q => ∃ p i v kvs, x = .ref p ∧ y = .int i ∧ KDi K p kvs ∧ kvs.lookup i = some v ∧ Q v H
theorem ix_kdi : IxR X (rIxI X.K) := by
  intro value slice pins s σ H x y v u Q I rx ry h hs
  obtain ⟨p, i, r, kvs, rfl, rfl, kd, lk, q⟩ := h
  obtain rfl : v = Value.ref p := rx
  obtain ⟨t, rfl⟩ := ry
  obtain ⟨f, hm, low, hf⟩ := kdi_map I.kIn kd
  have hi := hf i
  rw [lk] at hi
  obtain ⟨w, e, rw'⟩ := hi
  exact tail_any hm.typeIs slot_dict_getitem.lookup (wpAny_getItem_of (show (PySem.intKind X.prog X.w).is i (.int i t) = true by simp [PySem.intKind, Value.isInt]) hm e ⟨r, H, I.tok _, rw', q⟩) hs
def rInI (K : Frag) : R2 := fun x y H Q => ∃ p i kvs, x = .int i ∧ y = .ref p ∧ KDi K p kvs ∧ Q (.bl (kvs.lookup i).isSome) H
theorem op_inI : OpR X (compareOp .In) (rInI X.K) := by
  intro pins s σ H x y v u Q I rx ry h
  obtain ⟨p, i, kvs, rfl, rfl, kd, q⟩ := h
  obtain rfl : u = Value.ref p := ry
  obtain ⟨t, rfl⟩ := rx
  obtain ⟨f, hm, low, hf⟩ := kdi_map I.kIn kd
  have hi := hf i
  refine wpAny_in_of (show (PySem.intKind X.prog X.w).is i (.int i t) = true by simp [PySem.intKind, Value.isInt]) low hm ?_
  cases e : kvs.lookup i with
  | none =>
    rw [e] at hi q
    rw [hi]
    exact ⟨.bl _, H, I.tok _, rfl, q⟩
  | some r =>
    rw [e] at hi q
    obtain ⟨z, e2, _⟩ := hi
    rw [e2]
    exact ⟨.bl _, H, I.tok _, rfl, q⟩

/-! ### o.f as a target -/
def gAtt (K : Frag) (ta : TE) (f : Str) : TG := fun v σ H Q => ta σ H fun x H1 => ∃ a C dx fs, x = .ref a ∧ H1 a = some (.ins C dx fs) ∧ Cls K C ∧ NoAttr K C f ∧ fs.length < 1000 ∧ Q σ (upd H1 a (.ins C dx (putF f v fs)))
theorem pg_att {o : Expr} {ta : TE} {f : Str} {pos : Pos} (ho : PE X o ta)
    (ha : ∀ v, assign (.Attribute o f pos) X.env v = (do
      let ov ← holding [v] (eval o X.env)
      standAt pos
      holding [v, ov] (setAttr ov f v)
      release [v, ov] []) := by intro _; rfl) : PG X (.Attribute o f pos) (gAtt X.K ta f) := by
  refine ⟨fun pins s σ H v u Q I r h => ?_⟩
  rw [ha]
  refine wpAny_bind (wpAny_holding (thn (ho.run pins s σ H _ I h) fun ov s1 ⟨x, H1, I1, r1, a, C, dx, fs, ex, ea, c, n, l, q⟩ => ?_))
  subst ex
  obtain rfl : ov = Value.ref a := r1
  refine wpAny_bind (wpAny_standAt (wpAny_bind (wpAny_holding (setattr_ok I1 ea c n l r fun s2 I2 => ?_))))
  exact wpAny_release ⟨σ, _, I2, q⟩
end
end OB

set_option Elab.async false
set_option linter.all false
set_option maxRecDepth 100000
set_option maxHeartbeats 4000000
/-! OB, part e: a reading gone through step by step. -/
namespace OB
open PySem PySem.Spec PyProof.Rows L2 PySem.W
def rInt : List V → Hp → VK → Prop := fun xs H Q => (∃ i, xs = [.int i] ∧ Q (.int i) H) ∨ ∃ k, xs = [.bl k] ∧ Q (.int (if k then 1 else 0)) H
def rAbs : List V → Hp → VK → Prop := fun xs H Q => ∃ i, xs = [.int i] ∧ Q (.int (if i < 0 then -i else i)) H
def rMax2 : List V → Hp → VK → Prop := fun xs H Q => ∃ i j, xs = [.int i, .int j] ∧ Q (.int (if j > i then j else i)) H
def rMin2 : List V → Hp → VK → Prop := fun xs H Q => ∃ i j, xs = [.int i, .int j] ∧ Q (.int (if j < i then j else i)) H
def rLen (K : Frag) : List V → Hp → VK → Prop := fun xs H Q => ∃ p ys, xs = [.ref p] ∧ (SqL K H p ys ∨ SqT K H p ys) ∧ Q (.int ys.length) H
def rTuple (K : Frag) : List V → Hp → VK → Prop := fun xs H Q => ∃ p ys, xs = [.ref p] ∧ ((SqL K H p ys ∧ ∀ l, H l = none → Q (.ref l) (upd H l (.tup ys))) ∨ (SqT K H p ys ∧ Q (.ref p) H))
def rList (K : Frag) : List V → Hp → VK → Prop := fun xs H Q => ∃ p ys, xs = [.ref p] ∧ (SqL K H p ys ∨ SqT K H p ys) ∧ ∀ l, H l = none → Q (.ref l) (upd H l (.lst ys))
def rDivmod : List V → Hp → VK → Prop := fun xs H Q => ∃ i j, xs = [.int i, .int j] ∧ CDivP i j ∧ ∀ p, H p = none → Q (.ref p) (upd H p (.tup [.int (i / j), .int (i % j)]))
def rNewT (xs : List V) (H : Hp) (Q : VK) : Prop := xs.length ≤ sizeLine ∧ ∀ p, H p = none → Q (.ref p) (upd H p (.tup xs))
def rNewL (xs : List V) (H : Hp) (Q : VK) : Prop := xs.length ≤ sizeLine ∧ ∀ p, H p = none → Q (.ref p) (upd H p (.lst xs))
def rFld (K : Frag) (f : Str) (x : V) (H : Hp) (Q : VK) : Prop := ∃ a C dx fs v, x = .ref a ∧ H a = some (.ins C dx fs) ∧ Cls K C ∧ NoAttr K C f ∧ fs.lookup f = some v ∧ Q v H
def rPut (K : Frag) (f : Str) (v x : V) (H : Hp) (QH : Hp → Prop) : Prop := ∃ a C dx fs, x = .ref a ∧ H a = some (.ins C dx fs) ∧ Cls K C ∧ NoAttr K C f ∧ fs.length < 1000 ∧ QH (upd H a (.ins C dx (putF f v fs)))
section
variable {X : Cx}
theorem c_int : CallR X (.type "int") rInt := call_int1
theorem c_abs : CallR X (.builtin "abs") rAbs := call_abs
theorem c_max (hc : X.calm = true) : CallR X (.builtin "max") rMax2 := call_max2 hc
theorem c_min (hc : X.calm = true) : CallR X (.builtin "min") rMin2 := call_min2 hc
theorem c_len : CallR X (.builtin "len") (OB.rLen X.K) := call_len_seq
theorem c_tuple : CallR X (.type "tuple") (rTuple X.K) := call_tuple_of
theorem c_list : CallR X (.type "list") (rList X.K) := call_list_of
theorem c_divmod : CallR X (.builtin "divmod") rDivmod := call_divmodW
end
section
variable {K : Frag} {F : List (Addr × HO)} {G : List Ft} {σ : L2.St} {H : Hp} {Q : VK} {D : Ends} {v x y : V} {vs ws zs : List V} {i j n m : Nat} {a b c : Int} {p q : Bool} {P R : Prop}
  {ta tb tc te tv : TE} {t tk : TA} {tt u : TT} {t1 t2 : TS} {r r' : R2} {rc : List V → Hp → VK → Prop} {ru : V → Hp → VK → Prop} {rm : V → List V → Hp → VK → Prop} {sp : Sp} {E : XK} {ix : List Nat} {ad : Addr} {mn : Str} {T : String}
  {QB : Bool → Hp → Prop} {QL : List V → Hp → Prop} {QS : L2.St → Hp → Prop} {tg : TG} {tgs : TGs} {QI : It → Hp → Prop} {g : Int → Int → V} {C : Int → Int → Prop} {ds : List PyData} {d e : PyData}
/-! expressions -/
theorem g_start {ts : TS} {τ : L2.St} (e : τ = σ) (k : ts D σ H) : ts D τ H := e ▸ k
theorem g_var (h : σ[i]? = some (some v)) (k : Q v H) : tVar i σ H Q := ⟨v, h, k⟩
theorem g_c (k : Q v H) : tC v σ H Q := k
theorem g_op (k : ta σ H fun x H1 => tb σ H1 fun y H2 => r x y H2 Q) : tOp r ta tb σ H Q := k
theorem g_un (k : ta σ H fun x H1 => ru x H1 Q) : tUn ru ta σ H Q := k
theorem g_nil (k : QL [] H) : tNil σ H QL := k
theorem g_cons (k : ta σ H fun x H1 => t σ H1 fun xs H2 => QL (x :: xs) H2) : tCons ta t σ H QL := k
theorem g_cb (k : t σ H fun vs H1 => rc vs H1 Q) : tCB rc t σ H Q := k
theorem g_if (k : tt σ H fun c H1 => if c = true then ta σ H1 Q else tb σ H1 Q) : tIf tt ta tb σ H Q := k
theorem g_andV (k : ta σ H fun x H1 => ∃ c, x = .bl c ∧ if c = true then tb σ H1 Q else Q (.bl false) H1) : tAndV ta tb σ H Q := k
theorem g_orV (k : ta σ H fun x H1 => ∃ c, x = .bl c ∧ if c = true then Q (.bl true) H1 else tb σ H1 Q) : tOrV ta tb σ H Q := k
theorem g_notV (k : ta σ H fun x H1 => ∃ c, x = .bl c ∧ Q (.bl (!c)) H1) : tNotV ta σ H Q := k
theorem g_chain (k : ta σ H fun x H1 => tb σ H1 fun y H2 => r x y H2 fun z H3 => ∃ k, z = .bl k ∧ (if k = true then tc σ H3 fun w H4 => r' y w H4 Q else Q (.bl false) H3)) : tChain r r' ta tb tc σ H Q := k
theorem g_tup (k : t σ H fun xs H1 => rNewT xs H1 Q) : tTup t σ H Q := k
theorem g_lst (k : t σ H fun xs H1 => rNewL xs H1 Q) : tLst t σ H Q := k
theorem g_cg (k : t σ H fun vs H1 => tk σ H1 fun zs H2 => vs.length = n ∧ zs.length = m ∧ sp (pick ix (vs ++ zs)) H2 Q E) : tCg n m ix sp E t tk σ H Q := k
theorem g_mg (k : ta σ H fun x H1 => ∃ a dx fs, x = .ref a ∧ H1 a = some (.ins ad dx fs) ∧ fs.lookup mn = none ∧
  t σ H1 fun vs H2 => tk σ H2 fun zs H3 => (x :: vs).length = n ∧ zs.length = m ∧ sp (pick ix ((x :: vs) ++ zs)) H3 Q E) : tMg ad mn n m ix sp E ta t tk σ H Q := k
theorem g_kg (k : t σ H fun vs H1 => tk σ H1 fun zs H2 => vs.length + 1 = n ∧ zs.length = m ∧
  ∀ x dx, H2 x = none → H2 dx = none → dx ≠ x → sp (pick ix ((.ref x :: vs) ++ zs)) (upd (upd H2 dx (.own x)) x (.ins ad dx [])) (fun v H3 => v = .non ∧ Q (.ref x) H3) E) : tKg ad n m ix sp E t tk σ H Q := k
theorem g_pg (k : ta σ H fun y H1 => ∃ a dx fs, y = .ref a ∧ H1 a = some (.ins ad dx fs) ∧ sp [.ref a] H1 Q E) : tPg ad sp E ta σ H Q := k
theorem g_bm (k : ta σ H fun x H1 => tyV K T x H1 ∧ t σ H1 fun xs H2 => rm x xs H2 Q) : tBM K T rm ta t σ H Q := k
theorem g_bm0 (k : ta σ H fun x H1 => tyV K T x H1 ∧ rm x [] H1 Q) : tBM0 K T rm ta σ H Q := k
theorem g_fld {f : Str} (k : ta σ H fun x H1 => rFld K f x H1 Q) : tFld K ta f σ H Q := k
theorem g_sl {rs : V → Option Int → Option Int → Hp → VK → Prop} {tl th : TO} (k : te σ H fun x H1 => tl σ H1 fun l H2 => th σ H2 fun u H3 => rs x l u H3 Q) : tSl rs te tl th σ H Q := k
theorem g_nopart {QO : Option Int → Hp → Prop} (k : QO none H) : tNoPart σ H QO := k
theorem g_part {QO : Option Int → Hp → Prop} (k : te σ H fun x H1 => ∃ i, x = .int i ∧ QO (some i) H1) : tPart te σ H QO := k
theorem g_pint {a : Int} {f : Int → Prop} (k : f a) : ∃ i, V.int a = .int i ∧ f i := ⟨a, rfl, k⟩
theorem g_star (k : te σ H fun x H1 => ∃ p xs, x = V.ref p ∧ (SqT K H1 p xs ∨ SqL K H1 p xs) ∧ t σ H1 fun ys H2 => QL (xs ++ ys) H2) : StX.tStar K te t σ H QL := k
/-! tests -/
theorem g_test (k : te σ H fun x H' => ∃ k, x = .bl k ∧ QB k H') : tTest te σ H QB := k
theorem g_B (k : te σ H fun x H' => ∃ k, x = .bl k ∧ QB k H') : tB te σ H QB := k
theorem g_and (k : tt σ H fun c H1 => if c = true then u σ H1 QB else QB false H1) : tAnd tt u σ H QB := k
theorem g_or (k : tt σ H fun c H1 => if c = true then QB true H1 else u σ H1 QB) : tOr tt u σ H QB := k
theorem g_not (k : tt σ H fun c H1 => QB (!c) H1) : tNot tt σ H QB := k
theorem g_yes (k : QB true H) : tYes σ H QB := k
theorem g_bl (k : QB p H) : ∃ c, V.bl p = .bl c ∧ QB c H := ⟨p, rfl, k⟩
theorem g_blx {f : Bool → Prop} (k : f p) : ∃ c, V.bl p = .bl c ∧ f c := ⟨p, rfl, k⟩
/-! statements -/
theorem g_seq (k : t1 { D with nx := t2 D } σ H) : tSeq t1 t2 D σ H := k
theorem g_asg (k : te σ H fun x H1 => tg x σ H1 D.nx) : tAsg te tg D σ H := k
theorem g_name (k : QS (σ.set i (some v)) H) : gName i v σ H QS := k
theorem g_drop (k : te σ H fun _ H1 => D.nx σ H1) : tDrop te D σ H := k
theorem g_ret (k : te σ H D.rt) : tRet te D σ H := k
theorem g_retN (k : D.rt .non H) : tRetN D σ H := k
theorem g_ifS (k : tt σ H fun b H1 => if b = true then t1 D σ H1 else t2 D σ H1) : tIfS tt t1 t2 D σ H := k
theorem g_next (k : D.nx σ H) : tNext D σ H := k
theorem g_cont (k : D.ct σ H) : tCont D σ H := k
theorem g_break (k : D.bk σ H) : tBreak D σ H := k
theorem g_par (k : t σ H fun vs H1 => ∃ v w, vs = [v, w] ∧ D.nx ((σ.set i (some v)).set j (some w)) H1) : tPar i j t D σ H := k
theorem g_par2 {N : V → V → Prop} (k : N x y) : ∃ v w, [x, y] = [v, w] ∧ N v w := ⟨x, y, rfl, k⟩
theorem g_par3 {l : Nat} (k : t σ H fun vs H1 => ∃ u v w, vs = [u, v, w] ∧ D.nx (((σ.set i (some u)).set j (some v)).set l (some w)) H1) : tPar3 i j l t D σ H := k
theorem g_par33 {z : V} {N : V → V → V → Prop} (k : N x y z) : ∃ u v w, [x, y, z] = [u, v, w] ∧ N u v w := ⟨x, y, z, rfl, k⟩
theorem g_aug {ti : TIp} (h : σ[i]? = some (some v)) (k : te σ H fun y H1 => ti v y H1 fun z H2 => D.nx (σ.set i (some z)) H2) : tAug i te ti D σ H := ⟨v, h, k⟩
theorem g_gnil (k : QS σ H) : gNil [] σ H QS := ⟨rfl, k⟩
theorem g_gcons (k : tg v σ H fun σ' H' => tgs vs σ' H' QS) : gCons tg tgs (v :: vs) σ H QS := ⟨v, vs, rfl, k⟩
theorem g_nx {A B C : L2.St → Hp → Prop} {R : VK} (k : A σ H) : Ends.nx ⟨A, R, B, C⟩ σ H := k
theorem g_rt {A B C : L2.St → Hp → Prop} {R : VK} (k : R v H) : Ends.rt ⟨A, R, B, C⟩ v H := k
theorem g_bk {A B C : L2.St → Hp → Prop} {R : VK} (k : B σ H) : Ends.bk ⟨A, R, B, C⟩ σ H := k
theorem g_ct {A B C : L2.St → Hp → Prop} {R : VK} (k : C σ H) : Ends.ct ⟨A, R, B, C⟩ σ H := k
/-! operators by values -/
theorem g_I0 (k : Q (g a b) H) : rI0 g (.int a) (.int b) H Q := ⟨a, b, rfl, rfl, k⟩
theorem g_I (h : C a b) (k : Q (g a b) H) : rI C g (.int a) (.int b) H Q := ⟨a, b, rfl, rfl, h, k⟩
theorem g_U {f : Int → V} (k : Q (f a) H) : rU f (.int a) H Q := ⟨a, rfl, k⟩
theorem g_ipI {f : Int → Int → Int} (k : Q (.int (f a b)) H) : ipI f (.int a) (.int b) H Q := ⟨a, b, rfl, rfl, k⟩
theorem g_rAdd (k : Q (.int (a + b)) H) : L2.rAdd (.int a) (.int b) H Q := ⟨a, b, rfl, rfl, k⟩
theorem g_rSub (k : Q (.int (a - b)) H) : L2.rSub (.int a) (.int b) H Q := ⟨a, b, rfl, rfl, k⟩
theorem g_eqI (k : Q (.bl (decide (a = b))) H) : rEq (.int a) (.int b) H Q := ⟨rfl, by
  have e : decide (V.int a = V.int b) = decide (a = b) := by simp
  rw [e]
  exact k⟩
theorem g_neI (k : Q (.bl (decide (a ≠ b))) H) : rNe (.int a) (.int b) H Q := ⟨rfl, by
  have e : (!decide (V.int a = V.int b)) = decide (a ≠ b) := by simp
  rw [e]
  exact k⟩
theorem g_eqS {s z : Str} (k : Q (.bl (decide (s = z))) H) : rEq (.str s) (.str z) H Q := ⟨rfl, by
  have e : decide (V.str s = V.str z) = decide (s = z) := by simp
  rw [e]
  exact k⟩
theorem g_neS {s z : Str} (k : Q (.bl (decide (s ≠ z))) H) : rNe (.str s) (.str z) H Q := ⟨rfl, by
  have e : (!decide (V.str s = V.str z)) = decide (s ≠ z) := by simp
  rw [e]
  exact k⟩
theorem g_ite (h1 : p = true → P) (h2 : p = false → R) : if p = true then P else R := by
  cases p with
  | true => rw [if_pos rfl]; exact h1 rfl
  | false => rw [if_neg Bool.false_ne_true]; exact h2 rfl
theorem g_iteD {A : Prop} [Decidable A] (h1 : A → P) (h2 : ¬ A → R) : if decide A = true then P else R := by
  by_cases h : A
  · rw [if_pos (decide_eq_true h)]; exact h1 h
  · rw [if_neg (by rw [decide_eq_false h]; exact Bool.false_ne_true)]; exact h2 h
theorem g_T (h : p = true) (k : P) : if p = true then P else R := by rw [if_pos h]; exact k
theorem g_F (h : p = false) (k : R) : if p = true then P else R := by rw [if_neg (by rw [h]; exact Bool.false_ne_true)]; exact k
theorem g_TD {A : Prop} [Decidable A] (h : A) (k : P) : if decide A = true then P else R := g_T (decide_eq_true h) k
theorem g_FD {A : Prop} [Decidable A] (h : ¬ A) (k : R) : if decide A = true then P else R := g_F (decide_eq_false h) k
theorem g_tt (k : P) : if true = true then P else R := g_T rfl k
theorem g_ff (k : R) : if false = true then P else R := g_F rfl k
/-! built-in functions by values -/
theorem g_int (k : Q (.int a) H) : rInt [.int a] H Q := .inl ⟨a, rfl, k⟩
theorem g_intB (k : Q (.int (if p then 1 else 0)) H) : rInt [.bl p] H Q := .inr ⟨p, rfl, k⟩
theorem g_abs (k : Q (.int (if a < 0 then -a else a)) H) : rAbs [.int a] H Q := ⟨a, rfl, k⟩
theorem g_max (k : Q (.int (if b > a then b else a)) H) : rMax2 [.int a, .int b] H Q := ⟨a, b, rfl, k⟩
theorem g_min (k : Q (.int (if b < a then b else a)) H) : rMin2 [.int a, .int b] H Q := ⟨a, b, rfl, k⟩
theorem g_lenL {l : Addr} (h : SqL K H l vs) (k : Q (.int vs.length) H) : OB.rLen K [.ref l] H Q := ⟨l, vs, rfl, .inl h, k⟩
theorem g_lenT {l : Addr} (h : SqT K H l vs) (k : Q (.int vs.length) H) : OB.rLen K [.ref l] H Q := ⟨l, vs, rfl, .inr h, k⟩
theorem g_divmod (S : Sy K F G H) (h : CDivP a b) (k : ∀ p H', H p = none → Sy K F (.dat [.ref p] [.tuple [.int (a / b), .int (a % b)]] :: G) H' → Q (.ref p) H') : rDivmod [.int a, .int b] H Q :=
  ⟨a, b, rfl, h, fun p hp => k p _ hp (S.lay hp (.cons (.int _) (.cons (.int _) .nil)) rfl)⟩
/-! what stands -/
theorem g_ixL {l : Addr} (h : SqL K H l vs) (e : atI vs a = some v) (k : Q v H) : rIxL K (.ref l) (.int a) H Q := ⟨l, vs, a, v, rfl, rfl, h, e, k⟩
theorem g_ixT {l : Addr} (h : SqT K H l vs) (e : atI vs a = some v) (k : Q v H) : rIxT K (.ref l) (.int a) H Q := ⟨l, vs, a, v, rfl, rfl, h, e, k⟩
theorem g_setL {l : Addr} {QH : Hp → Prop} (h : H l = some (.lst vs)) (e : ixN vs.length a = some j) (k : QH (upd H l (.lst (vs.set j v)))) : rSetL (.ref l) (.int a) v H QH := ⟨l, vs, a, j, rfl, rfl, h, e, k⟩
theorem g_gsub {ts : TSet} {to ti : TE} (k : to σ H fun o H1 => ti σ H1 fun i H2 => ts o i v H2 fun H3 => QS σ H3) : gSub to ti ts v σ H QS := k
/-- a new tuple of data -/
theorem g_newT (S : Sy K F G H) (hd : DpAll K H vs ds) (hi : immAll ds = true) (hl : vs.length ≤ 100000) (k : ∀ p H', H p = none → Sy K F (.dat [.ref p] [.tuple ds] :: G) H' → Q (.ref p) H') :
    rNewT vs H Q :=
  ⟨Nat.le_trans hl (by decide), fun p hp => k p _ hp (S.lay hp hd hi)⟩
/-- a new list -/
theorem g_newL (S : Sy K F G H) (hl : vs.length ≤ 100000) (k : ∀ p H', H p = none → Sy K ((p, .lst vs) :: F) G H' → Q (.ref p) H') :
    rNewL vs H Q :=
  ⟨Nat.le_trans hl (by decide), fun p hp => k p _ hp (S.push hp)⟩
/-- a call -/
theorem g_call (h1 : vs.length = n) (h2 : zs.length = m) (k : sp (pick ix (vs ++ zs)) H Q E) : vs.length = n ∧ zs.length = m ∧ sp (pick ix (vs ++ zs)) H Q E := ⟨h1, h2, k⟩
/-- data unpacked -/
theorem g_unp {l : Addr} (S : Sy K F G H) (h : Dp K H (.ref l) (.tuple ds)) (m : immAll ds = true) (hl : ds.length = n) (k : ∀ xs, DpAll K H xs ds → Sy K F (.dat xs ds :: G) H → tgs xs σ H QS) : gTup K n tgs (.ref l) σ H QS := by
  obtain ⟨a, xs, e, h1, h2⟩ := dp_tuple h
  cases e
  exact ⟨l, xs, rfl, h1, (dps_length h2).trans hl, k xs h2 (S.fact h2 m)⟩
theorem g_unpT {l : Addr} (h : SqT K H l vs) (hl : vs.length = n) (k : tgs vs σ H QS) : gTup K n tgs (.ref l) σ H QS := ⟨l, vs, rfl, h, hl, k⟩
/-- a pair that an iterator has just made -/
theorem g_pair {l : Addr} (S : Sy K F G H) (hl : H l = none) (k : ∀ H', Sy K F (.tq l [x, y] :: G) H' → tgs [x, y] σ H' QS) : gTup K 2 tgs (.ref l) σ (upd H l (.tup [x, y])) QS :=
  g_unpT (.inl (.inl upd_same)) rfl (k _ ((S.over hl).add (.tq l [x, y]) (.inl (.inl upd_same))))
theorem g_neN {a b : Nat} (h : a = b) (k : R) : if decide ((a : Int) ≠ (b : Int)) = true then P else R := g_FD (fun z => z (by rw [h])) k
theorem g_neN' {a : Nat} {c : Int} (h : (a : Int) = c) (k : R) : if decide ((a : Int) ≠ c) = true then P else R := g_FD (fun z => z h) k
/-- append, extend -/
theorem g_app {l : Addr} (h : H l = some (.lst vs)) (hl : vs.length < 100000) (k : Q .non (upd H l (.lst (vs ++ [v])))) : rAppend (.ref l) [v] H Q := ⟨l, vs, v, rfl, rfl, h, Nat.lt_of_lt_of_le hl (by decide), k⟩
theorem g_ext {l o : Addr} (h : H l = some (.lst vs)) (h2 : H o = some (.lst ws)) (hl : vs.length + ws.length ≤ 100000) (k : Q .non (upd H l (.lst (vs ++ ws)))) : rExtend (.ref l) [.ref o] H Q := ⟨l, o, vs, ws, rfl, rfl, h, h2, Nat.le_trans hl (by decide), k⟩
/-- the same, what stands carried on -/
theorem g_setLS {l : Addr} {QH : Hp → Prop} {f : Nat} (S : Sy K F G H) (h : F[f]? = some (l, .lst vs)) (e : ixN vs.length a = some j) (k : ∀ H', Sy K (F.set f (l, .lst (vs.set j v))) G H' → (F.set f (l, .lst (vs.set j v)))[f]? = some (l, .lst (vs.set j v)) → QH H') : rSetL (.ref l) (.int a) v H QH :=
  g_setL (S.at f h) e (k _ (S.put f h rfl) (List.getElem?_set_self (List.getElem?_eq_some_iff.mp h).1))
theorem g_appS {l : Addr} {f : Nat} (S : Sy K F G H) (h : F[f]? = some (l, .lst vs)) (hl : vs.length < 100000) (k : ∀ H', Sy K (F.set f (l, .lst (vs ++ [v]))) G H' → Q .non H') : rAppend (.ref l) [v] H Q :=
  g_app (S.at f h) hl (k _ (S.put f h rfl))
theorem g_extS {l o : Addr} {f : Nat} (S : Sy K F G H) (h : F[f]? = some (l, .lst vs)) (h2 : H o = some (.lst ws)) (hl : vs.length + ws.length ≤ 100000) (k : ∀ H', Sy K (F.set f (l, .lst (vs ++ ws))) G H' → Q .non H') : rExtend (.ref l) [.ref o] H Q :=
  g_ext (S.at f h) h2 hl (k _ (S.put f h rfl))
theorem g_fldS {l : Addr} {f : Str} {C dx : Addr} {fs : List (Str × V)} (h : H l = some (.ins C dx fs)) (c : Cls K C) (n : NoAttr K C f) (e : fs.lookup f = some v) (k : Q v H) :
    rFld K f (.ref l) H Q := ⟨l, C, dx, fs, v, rfl, h, c, n, e, k⟩
theorem g_att {f : Str} (k : ta σ H fun x H1 => rPut K f v x H1 fun H2 => QS σ H2) : gAtt K ta f v σ H QS := k
theorem g_sfld {f : Str} (k : tv σ H fun y H1 => ta σ H1 fun x H2 => rPut K f y x H2 fun H3 => D.nx σ H3) : sFld K ta tv f D σ H := k
theorem g_attS {l : Addr} {f : Str} {C dx : Addr} {fs : List (Str × V)} {i : Nat} {QH : Hp → Prop} (S : Sy K F G H) (h : F[i]? = some (l, .ins C dx fs)) (c : Cls K C) (n : NoAttr K C f) (hl : fs.length < 1000) (k : ∀ H', Sy K (F.set i (l, .ins C dx (putF f v fs))) G H' → (F.set i (l, .ins C dx (putF f v fs)))[i]? = some (l, .ins C dx (putF f v fs)) → QH H') :
    rPut K f v (.ref l) H QH :=
  ⟨l, C, dx, fs, rfl, S.at i h, c, n, hl, k _ (S.put i h rfl) (List.getElem?_set_self (List.getElem?_eq_some_iff.mp h).1)⟩
def rAugE (C a : Addr) (f : Str) (z : V) (H : Hp) (QH : Hp → Prop) : Prop := ∃ dx' fs', H a = some (.ins C dx' fs') ∧ fs'.length < 1000 ∧ QH (upd H a (.ins C dx' (putF f z fs')))
def rAugF (K : Frag) (f : Str) (x : V) (H : Hp) (R : Addr → Addr → V → Prop) : Prop := ∃ a C dx fs v, x = .ref a ∧ H a = some (.ins C dx fs) ∧ Cls K C ∧ NoAttr K C f ∧ fs.lookup f = some v ∧ R C a v
theorem g_faug {f : Str} {ta tv : TE} {rd : V → V → Hp → VK → Prop} (k : ta σ H fun x H1 => rAugF K f x H1 fun C a v => tv σ H1 fun y H2 => rd v y H2 fun z H3 => rAugE C a f z H3 fun H4 => D.nx σ H4) : sFldAug K ta tv rd f D σ H := k
theorem g_augS {l : Addr} {f : Str} {C dx : Addr} {fs : List (Str × V)} {R : Addr → Addr → V → Prop} (h : H l = some (.ins C dx fs)) (c : Cls K C) (n : NoAttr K C f) (e : fs.lookup f = some v) (k : R C l v) : rAugF K f (.ref l) H R := ⟨l, C, dx, fs, v, rfl, h, c, n, e, k⟩
theorem g_augE {l : Addr} {f : Str} {C dx : Addr} {fs : List (Str × V)} {i : Nat} {QH : Hp → Prop} (S : Sy K F G H) (h : F[i]? = some (l, .ins C dx fs)) (hl : fs.length < 1000) (k : ∀ H', Sy K (F.set i (l, .ins C dx (putF f v fs))) G H' → (F.set i (l, .ins C dx (putF f v fs)))[i]? = some (l, .ins C dx (putF f v fs)) → QH H') : rAugE C l f v H QH :=
  ⟨dx, fs, S.at i h, hl, k _ (S.put i h rfl) (List.getElem?_set_self (List.getElem?_eq_some_iff.mp h).1)⟩
theorem g_tyl {l : Addr} (h : SqL K H l vs) (k : P) : tyV K "list" (.ref l) H ∧ P := ⟨.inl ⟨rfl, _, h⟩, k⟩
theorem g_tup0 {l : Addr} (S : Sy K F G H) (h : SqL K H l vs) (hd : DpAll K H vs ds) (hi : immAll ds = true) (k : ∀ p H', H p = none → Sy K F (.dat [.ref p] [.tuple ds] :: G) H' → Q (.ref p) H') :
    rTuple K [.ref l] H Q :=
  ⟨l, vs, rfl, .inl ⟨h, fun p hp => k p _ hp (S.lay hp hd hi)⟩⟩
theorem g_sum {l : Addr} {ns : List Int} (h : SqL K H l (ns.map V.int)) (k : Q (.int ns.sum) H) : rSum K [.ref l] H Q := ⟨l, ns, rfl, h, k⟩
theorem g_all {l : Addr} {bs : List Bool} (h : SqL K H l (bs.map V.bl)) (k : Q (.bl (bs.all id)) H) : rAll K [.ref l] H Q := ⟨l, bs, rfl, h, k⟩
theorem g_repr (h : Dp K H v d) (s : d.showable = true) (hn : d.hasDict = false) (hd : d.depth ≤ 60) (hl : d.shown.length ≤ sizeLine) (k : Q (.str d.shown) H) : rRepr K [v] H Q := ⟨v, d, rfl, h, s, hn, hd, hl, k⟩
end
/-! any subscript -/
def rIxU (K : Frag) : R2 := fun x y H Q => rIxL K x y H Q ∨ rIxT K x y H Q ∨ rIxI K x y H Q ∨ rIxS x y H Q
theorem ix_U {X : Cx} : IxR X (rIxU X.K) := by
  intro value slice pins s σ H x y v u Q I rx ry h hs
  rcases h with h | h | h | h
  · exact ix_list value slice pins s σ H x y v u Q I rx ry h hs
  · exact ix_tup value slice pins s σ H x y v u Q I rx ry h hs
  · exact ix_kdi value slice pins s σ H x y v u Q I rx ry h hs
  · exact ix_str value slice pins s σ H x y v u Q I rx ry h hs
/-- any slice -/
def rSlU (K : Frag) : V → Option Int → Option Int → Hp → VK → Prop := fun x lo hi H Q => rSlA K x lo hi H Q ∨ rSlL K x lo hi H Q
theorem sl_U {X : Cx} : SlR X (rSlU X.K) := by
  intro pins s σ H x v vl vu lo hi sl Q I rx hs pl pu h
  rcases h with h | h
  · exact sl_tupA pins s σ H x v vl vu lo hi sl Q I rx hs pl pu h
  · exact sl_list pins s σ H x v vl vu lo hi sl Q I rx hs pl pu h
theorem pg_tupK {X : Cx} {K : Frag} (hK : X.K = K) {es : List Expr} {k pos : _} {t : TGs} {n : Nat} (hc : X.calm = true) (h : PGs X es t)
    (hn : (assignEach es X.env).length = n := by rfl) (hst : (assignEach es X.env).findIdx? (·.1) = none := by rfl) : PG X (.Tuple es k pos) (gTup K n t) := hK ▸ pg_tup hc h hn hst
theorem ix_UK {X : Cx} {K : Frag} (h : X.K = K) : IxR X (rIxU K) := h ▸ ix_U
theorem sl_UK {X : Cx} {K : Frag} (h : X.K = K) : SlR X (rSlU K) := h ▸ sl_U
theorem toK {X : Cx} {K : Frag} {f : Value} {r : Frag → List V → Hp → VK → Prop} (h : X.K = K) (c : CallR X f (r X.K)) : CallR X f (r K) := h ▸ c
section
variable {K : Frag} {F : List (Addr × HO)} {G : List Ft} {H : Hp} {Q : VK} {vs : List V} {v : V} {a : Int} {l : Addr}
theorem g_ixUL (h : SqL K H l vs) (e : atI vs a = some v) (k : Q v H) : rIxU K (.ref l) (.int a) H Q := .inl (g_ixL h e k)
theorem g_ixUT (h : SqT K H l vs) (e : atI vs a = some v) (k : Q v H) : rIxU K (.ref l) (.int a) H Q := .inr (.inl (g_ixT h e k))
theorem g_ixUI {kvs : List (Int × V)} (h : KDi K l kvs) (e : kvs.lookup a = some v) (k : Q v H) : rIxU K (.ref l) (.int a) H Q := .inr (.inr (.inl ⟨l, a, v, kvs, rfl, rfl, h, e, k⟩))
theorem g_slT {lo hi : Option Int} {ys : List V} (S : Sy K F G H) (h : SqT K H l vs) (hw : Nat.beq (HT.sIx vs.length 0 lo) 0 = false) (e : cutV vs lo hi = ys) (k : ∀ p H', Sy K F (.tq p ys :: G) H' → Q (.ref p) H') : rSlU K (.ref l) lo hi H Q := by
  subst e
  refine .inl ⟨l, vs, rfl, h, fun z => ?_, fun _ p hp => k p _ ((S.over hp).add (.tq p _) (.inl (.inl upd_same)))⟩
  rw [z.1] at hw
  exact Bool.noConfusion hw
theorem atI_nn {α : Type} {xs : List α} {i : Int} {x : α} (h0 : 0 ≤ i) (h : xs[i.toNat]? = some x) : atI xs i = some x := by
  have hl := (List.getElem?_eq_some_iff.mp h).1
  unfold atI ixN
  rw [if_pos h0, if_pos (by omega)]
  exact h
theorem atI_ints {ns : List Int} {i : Int} (h0 : 0 ≤ i) (h1 : i < ns.length) : ∃ n, n ∈ ns ∧ atI (ns.map V.int) i = some (.int n) := by
  have hl : i.toNat < ns.length := by omega
  refine ⟨ns[i.toNat], List.getElem_mem hl, atI_nn h0 ?_⟩
  rw [List.getElem?_map, List.getElem?_eq_getElem hl]
  rfl
theorem cpow_ok {i j : Int} {a : Nat} (h : i.natAbs < 2 ^ a) (h0 : 0 ≤ j) (h1 : (a : Int) * j ≤ 2 ^ 27) : CPowX i j :=
  ⟨h0, Int.le_trans (Int.mul_le_mul_of_nonneg_right (Int.ofNat_le.mpr (PyProof.Rows.intBits_le h)) h0) h1⟩
theorem cdiv_ok {i j : Int} (h : 0 < j) (h2 : j < 2 ^ 64) : CDivW i j := wide_div (b := 64) h (by omega) (by decide) (by decide)
end
/-! isinstance -/
section
variable {K : Frag} {H : Hp} {Q : VK}
theorem cdivp_ok {i j : Int} (h : 0 < j) (h0 : 0 ≤ i) (h1 : i < 2 ^ 200) : CDivP i j :=
  divp_ok h (Nat.le_trans (PyProof.Rows.intBits_le (k := 200) (by omega)) (by omega))
theorem isi_int {a : Int} (k : Q (.bl true) H) : rIsi K [.int a, .ty "int"] H Q := ⟨_, _, _, _, true, rfl, .ty "int", .base (.int a), kit_ty (by decide +kernel), k⟩
theorem isi_intB {a : Int} (k : Q (.bl false) H) : rIsi K [.int a, .ty "bool"] H Q := ⟨_, _, _, _, false, rfl, .ty "bool", .base (.int a), kit_ty (by decide +kernel), k⟩
theorem isi_tup {l : Addr} {xs : List V} (h : SqT K H l xs) (k : Q (.bl true) H) : rIsi K [.ref l, .ty "tuple"] H Q := by
  refine ⟨_, _, .type "tuple", _, true, rfl, .ty "tuple", ?_, kit_ty (by decide +kernel), k⟩
  rcases h with (h | ⟨o, h⟩) | ⟨o, its, n, e, c, _⟩
  · exact .base (.tup h)
  · exact .fTuple h
  · exact .kTuple e c
end
end OB

set_option Elab.async false
set_option linter.all false
set_option maxRecDepth 100000
set_option maxHeartbeats 4000000
/-! OB, part f: how long the text of data is. -/
namespace OB
open PySem PySem.Spec PyProof.Rows L2 PySem.W
/-- its text has at most n signs, it is at most k deep -/
structure Small (n k : Nat) (d : PyData) : Prop where
  sh : d.showable = true
  nd : d.hasDict = false
  dp : d.depth ≤ k
  ln : d.shown.length ≤ n
structure SmallL (n k : Nat) (xs : List PyData) : Prop where
  sh : PyData.showableAll xs = true
  nd : PyData.hasDictAll xs = false
  dp : PyData.depthAll xs ≤ k
  ln : ((PyData.shownAll xs).map (·.length)).sum + 2 * xs.length ≤ n
theorem Small.mono {n k m j : Nat} {d : PyData} (h : Small n k d) (h1 : n ≤ m) (h2 : k ≤ j) : Small m j d := ⟨h.sh, h.nd, Nat.le_trans h.dp h2, Nat.le_trans h.ln h1⟩
theorem SmallL.mono {n k m j : Nat} {d : List PyData} (h : SmallL n k d) (h1 : n ≤ m) (h2 : k ≤ j) : SmallL m j d := ⟨h.sh, h.nd, Nat.le_trans h.dp h2, Nat.le_trans h.ln h1⟩
theorem Small.int {i : Int} (h : i.natAbs < 10 ^ 60) : Small 61 0 (.int i) := by
  have h2 : i.natAbs < 2 ^ 200 := Nat.lt_of_lt_of_le h (by decide)
  refine ⟨decide_eq_true ?_, rfl, Nat.le_refl _, ?_⟩
  · have q := PySem.Flt.log2_lt_of (k := 200) (by decide) h2
    omega
  · show (Str.ofString (toString i)).length ≤ 61
    rw [PySem.ofString_length]
    exact int_text_length_le10 (k := 60) (by decide) h
theorem Small.non : Small 4 0 .none := ⟨rfl, rfl, Nat.le_refl _, by decide +kernel⟩
theorem Small.bl {b : Bool} : Small 5 0 (.bool b) := ⟨rfl, rfl, Nat.le_refl _, by cases b <;> decide +kernel⟩
theorem Small.str {x : Str} {n : Nat} (h : (reprText x).length ≤ n) : Small n 0 (.str x) := ⟨rfl, rfl, Nat.le_refl _, h⟩
theorem SmallL.nil {k : Nat} : SmallL 0 k [] := ⟨rfl, rfl, Nat.zero_le _, Nat.le_refl _⟩
theorem SmallL.cons {n m k : Nat} {x : PyData} {xs : List PyData} (h : Small n k x) (t : SmallL m k xs) : SmallL (n + 2 + m) k (x :: xs) := by
  refine ⟨?_, ?_, ?_, ?_⟩
  · show (PyData.showable x && PyData.showableAll xs) = true
    rw [h.sh, t.sh]; rfl
  · show (PyData.hasDict x || PyData.hasDictAll xs) = false
    rw [h.nd, t.nd]; rfl
  · exact Nat.max_le.mpr ⟨h.dp, t.dp⟩
  · have h1 := h.ln
    have h2 := t.ln
    show (x.shown.length + ((PyData.shownAll xs).map (·.length)).sum) + 2 * (xs.length + 1) ≤ _
    omega
theorem SmallL.all {n k : Nat} : ∀ {xs : List PyData}, (∀ x ∈ xs, Small n k x) → SmallL ((n + 2) * xs.length) k xs
  | [], _ => SmallL.nil
  | x :: xs, h => by
    have q := SmallL.cons (h x (List.mem_cons_self ..)) (SmallL.all fun y hy => h y (List.mem_cons_of_mem _ hy))
    refine q.mono ?_ (Nat.le_refl _)
    rw [List.length_cons, Nat.mul_succ]
    omega
theorem shownAll_length : ∀ xs : List PyData, (PyData.shownAll xs).length = xs.length
  | [] => rfl
  | x :: xs => by
    show (PyData.shownAll xs).length + 1 = xs.length + 1
    rw [shownAll_length xs]
theorem Small.tup {n k : Nat} {xs : List PyData} (h : SmallL n k xs) : Small (n + 3) (k + 1) (.tuple xs) := by
  refine ⟨h.sh, h.nd, Nat.succ_le_succ h.dp, ?_⟩
  have q := tupleText_len_le (PyData.shownAll xs)
  have l := h.ln
  rw [shownAll_length] at q
  show (tupleText (PyData.shownAll xs)).length ≤ _
  omega
theorem Small.lst {n k : Nat} {xs : List PyData} (h : SmallL n k xs) : Small (n + 3) (k + 1) (.list xs) := by
  refine ⟨h.sh, h.nd, Nat.succ_le_succ h.dp, ?_⟩
  have q := listText_len_le (PyData.shownAll xs)
  have l := h.ln
  rw [shownAll_length] at q
  show (listText (PyData.shownAll xs)).length ≤ _
  omega
theorem Small.up {n k : Nat} {d : PyData} (h : Small n k d) : Small n (k + 1) d := h.mono (Nat.le_refl _) (Nat.le_succ _)
theorem g_reprS {K : Frag} {H : Hp} {Q : VK} {v : V} {d : PyData} {n k : Nat} (h : Dp K H v d) (s : Small n k d) (hn : n ≤ 16777216) (hk : k ≤ 60) (q : Q (.str d.shown) H) : rRepr K [v] H Q :=
  g_repr h s.sh s.nd (Nat.le_trans s.dp hk) (Nat.le_trans s.ln hn) q
/-! ### scalars -/
def toV : PyData → V
  | .none => .non
  | .bool b => .bl b
  | .int i => .int i
  | .str x => .str x
  | _ => .non
def scal1 : PyData → Bool
  | .none | .bool _ | .int _ | .str _ => true
  | _ => false
theorem dp_scal {K : Frag} {H : Hp} {v : V} {d : PyData} (h : Dp K H v d) (s : scal1 d = true) : v = toV d := by
  cases h with
  | non => rfl
  | bl b => rfl
  | int i => rfl
  | str x => rfl
  | lst _ _ => cases s
  | tup _ _ => cases s
theorem dps_scal {K : Frag} {H : Hp} : ∀ {ds : List PyData} {vs : List V}, DpAll K H vs ds → (∀ d ∈ ds, scal1 d = true) → vs = ds.map toV
  | [], _, h, _ => by cases h; rfl
  | d :: ds, _, h, s => by
    cases h with
    | cons h1 h2 =>
      rw [dp_scal h1 (s d (List.mem_cons_self ..)), dps_scal h2 fun e he => s e (List.mem_cons_of_mem _ he)]
      rfl
theorem scal_dp {K : Frag} {H : Hp} {d : PyData} (s : scal1 d = true) : Dp K H (toV d) d := by
  cases d with
  | none => exact .non
  | bool b => exact .bl b
  | int i => exact .int i
  | str x => exact .str x
  | _ => cases s
theorem sqt_scal {K : Frag} {H : Hp} {p : Addr} {ds : List PyData} (h : Dp K H (.ref p) (.tuple ds)) (s : ∀ d ∈ ds, scal1 d = true) : SqT K H p (ds.map toV) := by
  obtain ⟨a, xs, e, h1, h2⟩ := dp_tuple h
  cases e
  rw [← dps_scal h2 s]
  exact h1
inductive ScL : List PyData → List V → Prop where
  | nil : ScL [] []
  | int {i : Int} {ds : List PyData} {vs : List V} : ScL ds vs → ScL (.int i :: ds) (.int i :: vs)
  | str {i : Str} {ds : List PyData} {vs : List V} : ScL ds vs → ScL (.str i :: ds) (.str i :: vs)
  | bl {i : Bool} {ds : List PyData} {vs : List V} : ScL ds vs → ScL (.bool i :: ds) (.bl i :: vs)
  | non {ds : List PyData} {vs : List V} : ScL ds vs → ScL (.none :: ds) (.non :: vs)
theorem ScL.sc {ds : List PyData} {vs : List V} (h : ScL ds vs) : (∀ d ∈ ds, scal1 d = true) ∧ vs = ds.map toV := by
  induction h with
  | nil => exact ⟨fun d hd => (nomatch hd), rfl⟩
  | int _ ih | str _ ih | bl _ ih | non _ ih =>
    refine ⟨fun d hd => ?_, by rw [ih.2]; rfl⟩
    rcases List.mem_cons.mp hd with rfl | hd
    · rfl
    · exact ih.1 d hd
theorem g_unpD {K : Frag} {H : Hp} {n : Nat} {tgs : TGs} {σ : L2.St} {QS : L2.St → Hp → Prop} {l : Addr} {ds : List PyData} {ws : List V} (h : Dp K H (.ref l) (.tuple ds)) (s : ScL ds ws) (hl : ds.length = n) (k : tgs ws σ H QS) : gTup K n tgs (.ref l) σ H QS := by
  obtain ⟨h1, rfl⟩ := s.sc
  exact g_unpT (sqt_scal h h1) (by rw [List.length_map]; exact hl) k
theorem g_ne {α : Type} {x : α} [Decidable (x ≠ x)] {P R : Prop} (k : R) : if decide (x ≠ x) = true then P else R := g_FD (fun h => h rfl) k
theorem dp_at {K : Frag} {H : Hp} {v : V} {ds : List PyData} (h : Dp K H v (.tuple ds)) : ∃ a xs, v = .ref a ∧ SqT K H a xs ∧ DpAll K H xs ds := dp_tuple h
end OB

set_option Elab.async false
set_option linter.all false
set_option maxRecDepth 100000
set_option maxHeartbeats 4000000
/-! OB, part g: comprehensions and loops by what is known. -/
namespace OB
open PySem PySem.Spec PyProof.Rows L2 PySem.W
section
variable {K : Frag} {G : List Ft} {σ : L2.St} {H : Hp} {Q : VK} {D : Ends} {P R : Prop} {A : Prop} [Decidable A]
theorem g_nT (h : ¬ A) (k : P) : if (!decide A) = true then P else R := g_T (by rw [decide_eq_false h]; rfl) k
theorem g_nF (h : A) (k : R) : if (!decide A) = true then P else R := g_F (by rw [decide_eq_true h]; rfl) k
theorem g_ntt (k : R) : if (!true) = true then P else R := g_F rfl k
theorem g_nff (k : P) : if (!false) = true then P else R := g_T rfl k
/-! a list comprehension: I tells of (turn, what stands, the data so far) -/
/-- one turn -/
abbrev Turn1 (K : Frag) (G : List Ft) (I : Nat → List (Addr × HO) → List PyData → Prop) (σ : L2.St) (own : List Nat) (g : TG) (tt : TT) (te : TE) (i : Nat) (x : V) : Prop :=
  ∀ (Dp : Addr) (H : Hp) (F : List (Addr × HO)) (vs : List V) (ds : List PyData) (QE : VK) (QR : Hp → Prop), I i F ds → Sy K ((Dp, .lst vs) :: F) (.dat vs ds :: G) H →
    (∀ y d F' H', I (i + 1) F' (ds ++ [d]) → Sy K ((Dp, .lst vs) :: F') (.dat [y] [d] :: .dat vs ds :: G) H' → QE y H') →
    (∀ F' H', I (i + 1) F' ds → Sy K ((Dp, .lst vs) :: F') (.dat vs ds :: G) H' → QR H') →
    g x (wipe σ own) H fun σ2 H2 => wipe σ2 own = wipe σ own ∧ tt σ2 H2 fun b H3 => if b = true then te σ2 H3 QE else QR H3
variable {I : Nat → List (Addr × HO) → List PyData → Prop} {F : List (Addr × HO)} {own : List Nat} {g : TG} {tt : TT} {te : TE}
/-- what is kept between the turns -/
def LcP (K : Frag) (G : List Ft) (I : Nat → List (Addr × HO) → List PyData → Prop) (Dp : Addr) (i : Nat) (H : Hp) : Prop :=
  ∃ (F : List (Addr × HO)) (vs : List V) (ds : List PyData), I i F ds ∧ Sy K ((Dp, .lst vs) :: F) (.dat vs ds :: G) H
theorem lcp_start {Dp : Addr} (S : Sy K F G H) (h0 : I 0 F []) (hD : H Dp = none) : LcP K G I Dp 0 (upd H Dp (.lst [])) :=
  ⟨F, [], [], h0, (S.push hD).fact .nil rfl⟩
theorem lcp_turn {Dp : Addr} {i : Nat} {x : V} (hl : ∀ i F ds, I i F ds → ds.length < 100000) (t : Turn1 K G I σ own g tt te i x) (p : LcP K G I Dp i H) :
    g x (wipe σ own) H fun σ2 H2 => wipe σ2 own = wipe σ own ∧ tt σ2 H2 fun b H3 =>
      if b = true then te σ2 H3 fun y H4 => ∃ acc, H4 Dp = some (.lst acc) ∧ acc.length < sizeLine ∧ LcP K G I Dp (i + 1) (upd H4 Dp (.lst (acc ++ [y]))) else LcP K G I Dp (i + 1) H3 := by
  obtain ⟨F, vs, ds, hi, S⟩ := p
  refine t Dp H F vs ds _ (LcP K G I Dp (i + 1)) hi S (fun y d F' H' hi' S' => ?_) fun F' H' hi' S' => ⟨F', vs, ds, hi', S'⟩
  have len := dps_length (S'.dps 1 rfl)
  have lt := hl _ _ _ hi'
  rw [List.length_append] at lt
  refine ⟨vs, S'.at 0 rfl, Nat.lt_of_lt_of_le (by omega) (show 100000 ≤ sizeLine by decide), F', vs ++ [y], ds ++ [d], hi', ?_⟩
  have S2 : Sy K ((Dp, .lst (vs ++ [y])) :: F') (.dat [y] [d] :: .dat vs ds :: G) (upd H' Dp (.lst (vs ++ [y]))) := S'.put (o' := .lst (vs ++ [y])) 0 rfl rfl
  have m1 := S'.dpi 1 rfl
  have m2 := S'.dpi 0 rfl
  exact (S2.drop.drop).fact (dps_append (S2.dps 1 rfl) (S2.dps 0 rfl)) (by rw [immAll_append, m1, m2]; rfl)
/-- over a list or a tuple -/
theorem g_lcS {tl : TE} {a : Addr} {xs : List V} (k : Bool) (I : Nat → List (Addr × HO) → List PyData → Prop) (S : Sy K F G H) (ht : ∀ Q' : VK, Q' (.ref a) H → tl σ H Q') (h0 : I 0 F [])
    (hq : ∀ i F' ds H', I i F' ds → Sy K F' G H' → SqK K H' k a xs) (hl : ∀ i F ds, I i F ds → ds.length < 100000)
    (turn : ∀ i x, xs[i]? = some x → Turn1 K G I σ own g tt te i x)
    (done : ∀ Dp H' F' vs ds, H Dp = none → I xs.length F' ds → Sy K ((Dp, .lst vs) :: F') (.dat vs ds :: G) H' → Q (.ref Dp) H') : tLc (iSeq K tl) g tt te own σ H Q := by
  refine ht _ ⟨a, rfl, ?_⟩
  have q0 := hq 0 F [] H h0 S
  have sub : ∀ {Dp i H'}, LcP K G I Dp i H' → SqK K H' k a xs := fun ⟨F', vs, ds, hi, S'⟩ => hq _ F' ds _ hi S'.drop.less
  cases k with
  | true =>
    refine .inl ⟨⟨xs, q0⟩, fun Dp hD => lc_list (K := K) (a := a) (xs := xs) (LcP K G I Dp) (lcp_start S h0 hD) (fun i H' _ p => sub p) (fun i x H' hx p => lcp_turn hl (turn i x hx) p) fun H' p => ?_⟩
    obtain ⟨F', vs, ds, hi, S'⟩ := p
    exact done Dp H' F' vs ds hD hi S'
  | false =>
    refine .inr ⟨⟨xs, q0⟩, fun Dp hD => lc_tup (K := K) (a := a) (xs := xs) (LcP K G I Dp) (lcp_start S h0 hD) (fun i H' _ p => sub p) (fun i x H' hx p => lcp_turn hl (turn i x hx) p) fun H' p => ?_⟩
    obtain ⟨F', vs, ds, hi, S'⟩ := p
    exact done Dp H' F' vs ds hD hi S'
/-- over range(n), behind what its argument does -/
def RgLc (K : Frag) (g : TG) (tt : TT) (te : TE) (own : List Nat) (σ : L2.St) (Q : VK) (n : Nat) (H : Hp) : Prop := ∀ Dp, H Dp = none → ∃ W : Nat → Nat → Hp → Prop, (∃ m, W 0 m (upd H Dp (.lst []))) ∧ ∀ i m H, W i m H →
  ((Itr 0 n).stop i H ∧ Q (.ref Dp) H) ∨ ((Itr 0 n).go i H ∧ ∃ Nx : Hp → Prop, (∀ H', Nx H' → ∃ m', m' < m ∧ W (i + 1) m' H') ∧ ∀ x H', (Itr 0 n).yld i H x H' → g x (wipe σ own) H' fun σ2 H2 => wipe σ2 own = wipe σ own ∧ tt σ2 H2 fun b H3 =>
    if b = true then te σ2 H3 fun y H4 => ∃ acc, H4 Dp = some (.lst acc) ∧ acc.length < sizeLine ∧ Nx (upd H4 Dp (.lst (acc ++ [y]))) else Nx H3)
theorem g_lcR {ta : TA} (k : ta σ H fun vs H1 => ∃ j : Int, vs = [.int j] ∧ -(2 ^ 62) ≤ j ∧ j < 2 ^ 62 ∧ RgLc K g tt te own σ Q j.toNat H1) : tLc (iRng1 ta) g tt te own σ H Q := k
theorem g_rgJ {a : Int} {f : Int → Prop} (h1 : -(2 ^ 62) ≤ a) (h2 : a < 2 ^ 62) (k : f a) : ∃ j : Int, [V.int a] = [.int j] ∧ -(2 ^ 62) ≤ j ∧ j < 2 ^ 62 ∧ f j := ⟨a, rfl, h1, h2, k⟩
theorem rglc_of {n : Nat} (I : Nat → List (Addr × HO) → List PyData → Prop) (S : Sy K F G H) (h0 : I 0 F []) (hl : ∀ i F ds, I i F ds → ds.length < 100000)
    (turn : ∀ i, i < n → Turn1 K G I σ own g tt te i (.int (0 + i)))
    (done : ∀ Dp H' F' vs ds, H Dp = none → I n F' ds → Sy K ((Dp, .lst vs) :: F') (.dat vs ds :: G) H' → Q (.ref Dp) H') : RgLc K g tt te own σ Q n H := fun Dp hD => by
  refine lc_range (lo := 0) (n := n) (LcP K G I Dp) (lcp_start S h0 hD) (fun i H' hi p => lcp_turn hl (turn i hi) p) fun H' p => ?_
  obtain ⟨F', vs, ds, hi, S'⟩ := p
  exact done Dp H' F' vs ds hD hi S'
/-! loops: W tells of (turn, slots, heap) -/
theorem g_forS {tl : TE} {tb : TS} {a : Addr} {xs : List V} (k : Bool) (Pv : Nat → L2.St → Hp → Prop) (ht : ∀ Q' : VK, Q' (.ref a) H → tl σ H Q') (h0 : Pv 0 σ H)
    (hq : ∀ i σ' H', Pv i σ' H' → SqK K H' k a xs)
    (turn : ∀ i x σ' H', xs[i]? = some x → Pv i σ' H' → g x σ' H' fun σ2 H2 => tb { D with nx := Pv (i + 1), ct := Pv (i + 1), bk := D.nx } σ2 H2)
    (done : ∀ σ' H', Pv xs.length σ' H' → D.nx σ' H') : tFor (iSeq K tl) g tb D σ H := by
  refine ht _ ⟨a, rfl, ?_⟩
  have q0 := hq 0 σ H h0
  cases k with
  | true => exact .inl ⟨⟨xs, q0⟩, for_list (K := K) (a := a) (xs := xs) Pv h0 (fun i σ' H' _ p => hq i σ' H' p) turn done⟩
  | false => exact .inr ⟨⟨xs, q0⟩, for_tup (K := K) (a := a) (xs := xs) Pv h0 (fun i σ' H' _ p => hq i σ' H' p) turn done⟩
def RgFor (g : TG) (tb : TS) (D : Ends) (σ : L2.St) (n : Nat) (H : Hp) : Prop := ∃ W : Nat → Nat → L2.St → Hp → Prop, (∃ m, W 0 m σ H) ∧ ∀ i m σ H, W i m σ H →
  ((Itr 0 n).stop i H ∧ D.nx σ H) ∨ ((Itr 0 n).go i H ∧ ∃ N : L2.St → Hp → Prop, (∀ σ' H', N σ' H' → ∃ m', m' < m ∧ W (i + 1) m' σ' H') ∧ ∀ x H', (Itr 0 n).yld i H x H' → g x σ H' fun σ2 H2 => tb { D with nx := N, ct := N, bk := D.nx } σ2 H2)
theorem g_forR {ta : TA} {tb : TS} (k : ta σ H fun vs H1 => ∃ j : Int, vs = [.int j] ∧ -(2 ^ 62) ≤ j ∧ j < 2 ^ 62 ∧ RgFor g tb D σ j.toNat H1) : tFor (iRng1 ta) g tb D σ H := k
theorem rgfor_of {tb : TS} {n : Nat} (Pv : Nat → L2.St → Hp → Prop) (h0 : Pv 0 σ H) (turn : ∀ i σ' H', i < n → Pv i σ' H' → g (.int (0 + i)) σ' H' fun σ2 H2 => tb { D with nx := Pv (i + 1), ct := Pv (i + 1), bk := D.nx } σ2 H2)
    (done : ∀ σ' H', Pv n σ' H' → D.nx σ' H') : RgFor g tb D σ n H := for_range (lo := 0) Pv h0 turn done
def rEnum (K : Frag) (vs : List V) (H : Hp) (R : It → Hp → Prop) : Prop := ∃ k a xs, vs = [.ref a] ∧ SqK K H k a xs ∧ R (IteK K k a) H
def rZip (K : Frag) (vs : List V) (H : Hp) (R : It → Hp → Prop) : Prop := ∃ k l a b xs ys, vs = [.ref a, .ref b] ∧ SqK K H k a xs ∧ SqK K H l b ys ∧ R (ItzK K k l a b) H
theorem g_forE {ta : TA} {tb : TS} (k : ta σ H fun vs H1 => rEnum K vs H1 fun J H1 => ∃ W : Nat → Nat → L2.St → Hp → Prop, (∃ m, W 0 m σ H1) ∧ ∀ i m σ H, W i m σ H →
  (J.stop i H ∧ D.nx σ H) ∨ (J.go i H ∧ ∃ N : L2.St → Hp → Prop, (∀ σ' H', N σ' H' → ∃ m', m' < m ∧ W (i + 1) m' σ' H') ∧ ∀ x H', J.yld i H x H' → g x σ H' fun σ2 H2 => tb { D with nx := N, ct := N, bk := D.nx } σ2 H2)) : tFor (iEnumK K ta) g tb D σ H := k
theorem g_forZ {ta : TA} {tb : TS} (k : ta σ H fun vs H1 => rZip K vs H1 fun J H1 => ∃ W : Nat → Nat → L2.St → Hp → Prop, (∃ m, W 0 m σ H1) ∧ ∀ i m σ H, W i m σ H →
  (J.stop i H ∧ D.nx σ H) ∨ (J.go i H ∧ ∃ N : L2.St → Hp → Prop, (∀ σ' H', N σ' H' → ∃ m', m' < m ∧ W (i + 1) m' σ' H') ∧ ∀ x H', J.yld i H x H' → g x σ H' fun σ2 H2 => tb { D with nx := N, ct := N, bk := D.nx } σ2 H2)) : tFor (iZipK K ta) g tb D σ H := k
/-- a loop without end in sight: m falls -/
theorem g_while {c : TT} {tb : TS} (W : Nat → L2.St → Hp → Prop) (m0 : Nat) (h0 : W m0 σ H)
    (turn : ∀ m σ' H', W m σ' H' → c σ' H' fun b H1 => if b = true then tb { D with nx := fun σ2 H2 => ∃ m', m' < m ∧ W m' σ2 H2, ct := fun σ2 H2 => ∃ m', m' < m ∧ W m' σ2 H2, bk := D.nx } σ' H1 else D.nx σ' H1)
    (mono : ∀ σ' H' (Q Q' : Bool → Hp → Prop), (∀ b H1, Q b H1 → Q' b H1) → c σ' H' Q → c σ' H' Q') : tWhile c tb D σ H := by
  refine ⟨W, ⟨m0, h0⟩, fun m σ' H' w => mono σ' H' _ _ (fun b H1 q => ?_) (turn m σ' H' w)⟩
  cases b with
  | true => exact ⟨_, fun _ _ h => h, q⟩
  | false => exact q
end
end OB

set_option Elab.async false
set_option linter.all false
set_option maxRecDepth 100000
set_option maxHeartbeats 4000000
/-! OB, part h: more steps. -/
namespace OB
open PySem PySem.Spec PyProof.Rows L2 PySem.W
section
variable {K : Frag} {G : List Ft} {σ : L2.St} {H : Hp} {Q : VK} {D : Ends} {P R : Prop}
/-- list(range(..)) -/
def rNewRg (a b : Int) (H : Hp) (Q : VK) : Prop := RgOk a b ∧ ∀ q, H q = none → Q (.ref q) (upd H q (.lst (rgV a b)))
theorem g_lstRg {te : L2.St → Hp → (Int → Int → Hp → Prop) → Prop} (k : te σ H fun a b H1 => rNewRg a b H1 Q) : tLstRg te σ H Q := k
theorem g_rg1 {ta : TE} {R : Int → Int → Hp → Prop} (k : ta σ H fun x H1 => ∃ n, x = .int n ∧ R 0 n H1) : tRg1 ta σ H R := k
theorem g_rg2 {ta tb : TE} {R : Int → Int → Hp → Prop} (k : ta σ H fun x H1 => tb σ H1 fun y H2 => ∃ i j, x = .int i ∧ y = .int j ∧ R i j H2) : tRg2 ta tb σ H R := k
theorem g_newRg {F : List (Addr × HO)} {a b : Int} (S : Sy K F G H) (h : RgOk a b) (k : ∀ p H', Sy K ((p, .lst (rgV a b)) :: F) G H' → Q (.ref p) H') : rNewRg a b H Q := ⟨h, fun p hp => k p _ (S.push hp)⟩
theorem rgV0 (b : Int) : rgV 0 b = ((List.range b.toNat).map fun i : Nat => (i : Int)).map V.int := by
  unfold rgV
  rw [List.map_map, Int.sub_zero]
  congr 1
  funext i
  show V.int (0 + (i : Int)) = V.int (i : Int)
  rw [Int.zero_add]
end
end OB

set_option Elab.async false
set_option linter.all false
set_option maxRecDepth 100000
namespace LAW
open PySem PySem.Spec PyProof.Rows L2 PySem.W OB
local macro_rules | `(tactic| walk_at "obc") => `(tactic| first
  | exact Or.inl ⟨by omega, by omega⟩
  | exact Or.inr ⟨by omega, by omega⟩
  | exact cdiv_ok (by omega) (by omega)
  | (show (0 : Int) < _; omega)
  | exact ⟨by omega, by decide⟩
  | exact ⟨by decide, by decide⟩)
local macro_rules | `(tactic| walk_at "obat") => `(tactic| first
  | exact Sy.at (by assumption) 0 rfl | exact Sy.at (by assumption) 1 rfl | exact Sy.at (by assumption) 2 rfl | exact Sy.at (by assumption) 3 rfl
  | exact Sy.at (by assumption) 4 rfl | exact Sy.at (by assumption) 5 rfl | exact Sy.at (by assumption) 6 rfl | exact Sy.at (by assumption) _ (by assumption) | exact Sy.at (by assumption) (_ + 1) (by assumption) | exact Sy.at (by assumption) (_ + 2) (by assumption))
local macro_rules | `(tactic| walk_at "obt") => `(tactic| first
  | exact Sy.tqs (by assumption) 0 rfl | exact Sy.tqs (by assumption) 1 rfl | exact Sy.tqs (by assumption) 2 rfl | exact Sy.tqs (by assumption) 3 rfl | exact Sy.tqs (by assumption) 4 rfl | exact Sy.tqs (by assumption) 5 rfl
  | exact Sy.tqs (by assumption) 6 rfl | exact Sy.tqs (by assumption) 7 rfl | assumption)
local macro_rules | `(tactic| walk_at "obl") => `(tactic| first
  | exact SqL.of (by walk_at "obat")
  | exact Sy.sq (by assumption) 0 rfl | exact Sy.sq (by assumption) 1 rfl | exact Sy.sq (by assumption) 2 rfl | exact Sy.sq (by assumption) 3 rfl | exact Sy.sq (by assumption) _ (by assumption))
local macro_rules | `(tactic| walk_at "obd") => `(tactic| first
  | exact Dp.int _ | exact Dp.bl _ | exact Dp.str _ | exact Dp.non
  | exact Sy.dp (by assumption) 0 rfl | exact Sy.dp (by assumption) 1 rfl | exact Sy.dp (by assumption) 2 rfl | exact Sy.dp (by assumption) 3 rfl
  | exact Sy.dp (by assumption) 4 rfl | exact Sy.dp (by assumption) 5 rfl | exact Sy.dp (by assumption) 6 rfl | exact Sy.dp (by assumption) 7 rfl
  | exact Sy.dp (by assumption) 8 rfl | exact Sy.dp (by assumption) 9 rfl | exact Sy.dp (by assumption) _ (by assumption) | assumption)
local macro_rules | `(tactic| walk_at "obds") => `(tactic| first
  | exact DpAll.nil
  | (refine' DpAll.cons ?ob1 ?ob2; (case ob1 => walk_at "obd"); (case ob2 => walk_at "obds"))
  | exact Sy.dps (by assumption) 0 rfl | exact Sy.dps (by assumption) 1 rfl | exact Sy.dps (by assumption) 2 rfl | exact Sy.dps (by assumption) 3 rfl | assumption)
local macro_rules | `(tactic| walk_at "obsc") => `(tactic| first
  | exact ScL.nil
  | ((first | refine' ScL.int ?obz | refine' ScL.str ?obz | refine' ScL.bl ?obz | refine' ScL.non ?obz); (case obz => walk_at "obsc")))
local macro_rules | `(tactic| walk_at "ob1") => `(tactic| first
  | ((with_reducible refine' g_var ?obh ?_); (case obh => rfl))
  | with_reducible refine g_c ?_
  | with_reducible refine g_nx ?_
  | with_reducible refine g_rt ?_
  | with_reducible refine g_bk ?_
  | with_reducible refine g_ct ?_
  | with_reducible refine g_op ?_
  | with_reducible refine g_I0 ?_
  | with_reducible refine g_test ?_
  | with_reducible refine g_bl ?_
  | with_reducible refine g_blx ?_
  | with_reducible refine g_B ?_
  | with_reducible refine g_seq ?_
  | with_reducible refine g_asg ?_
  | with_reducible refine g_name ?_
  | with_reducible refine g_ifS ?_
  | with_reducible refine g_ret ?_
  | with_reducible refine g_cb ?_
  | with_reducible refine g_cons ?_
  | with_reducible refine g_nil ?_
  | with_reducible refine g_int ?_
  | with_reducible refine g_intB ?_
  | with_reducible refine g_abs ?_
  | with_reducible refine g_max ?_
  | with_reducible refine g_min ?_
  | with_reducible refine g_un ?_
  | with_reducible refine g_U ?_
  | with_reducible refine g_eqI ?_
  | with_reducible refine g_neI ?_
  | with_reducible refine g_eqS ?_
  | with_reducible refine g_neS ?_
  | with_reducible refine g_tt ?_
  | with_reducible refine g_ff ?_
  | with_reducible refine g_next ?_
  | with_reducible refine g_drop ?_
  | with_reducible refine g_if ?_
  | with_reducible refine g_andV ?_
  | with_reducible refine g_orV ?_
  | with_reducible refine g_notV ?_
  | with_reducible refine g_and ?_
  | with_reducible refine g_or ?_
  | with_reducible refine g_not ?_
  | with_reducible refine g_yes ?_
  | with_reducible refine g_chain ?_
  | with_reducible refine g_cg ?_
  | with_reducible refine g_mg ?_
  | with_reducible refine g_kg ?_
  | with_reducible refine g_pg ?_
  | ((with_reducible refine' g_call ?obh ?obj ?_); (case obh => rfl); (case obj => rfl))
  | with_reducible refine g_par ?_
  | with_reducible refine g_par2 ?_
  | with_reducible refine g_par3 ?_
  | with_reducible refine g_par33 ?_
  | with_reducible refine g_gnil ?_
  | with_reducible refine g_gcons ?_
  | with_reducible refine g_gsub ?_
  | with_reducible refine g_ipI ?_
  | with_reducible refine g_rAdd ?_
  | with_reducible refine g_rSub ?_
  | ((with_reducible refine' g_aug ?obh ?_); (case obh => rfl))
  | with_reducible refine g_tup ?_
  | with_reducible refine g_lst ?_
  | with_reducible refine g_bm ?_
  | with_reducible refine g_bm0 ?_
  | with_reducible refine g_sl ?_
  | with_reducible refine g_nopart ?_
  | with_reducible refine g_part ?_
  | with_reducible refine g_pint ?_
  | with_reducible refine isi_int ?_
  | with_reducible refine isi_intB ?_
  | ((with_reducible refine' g_I ?obh ?_); (case obh => walk_at "obc"))
  | ((with_reducible refine' g_tyl ?obh ?_); (case obh => walk_at "obl"))
  | ((with_reducible refine' g_lenL ?obh ?_); (case obh => walk_at "obl"))
  | with_reducible refine g_ne ?_
  | ((with_reducible refine' g_neN' ?obh ?_); (case obh => rfl))
  | with_reducible refine g_ntt ?_
  | with_reducible refine g_nff ?_
  | with_reducible refine g_star ?_
  | with_reducible refine g_att ?_
  | with_reducible refine g_sfld ?_
  | with_reducible refine g_faug ?_
  | with_reducible refine g_fld ?_
  | ((with_reducible refine' g_nF ?obh ?_); (case obh => omega))
  | ((with_reducible refine' g_nT ?obh ?_); (case obh => omega))
  | ((with_reducible refine' g_TD ?obh ?_); (case obh => omega))
  | ((with_reducible refine' g_FD ?obh ?_); (case obh => omega))
  | ((with_reducible refine' g_ixUL ?obh ?obi ?_); (case obh => walk_at "obl"); (case obi => exact atI_nn (by omega) (by rfl)))
  | ((with_reducible refine' g_setLS ?obs ?obh ?obi ?_); (case obs => assumption); (case obh => assumption); (case obi => rfl); intro _ _ _)
  | ((with_reducible refine' g_newT ?obs ?obh ?obi ?obj ?_); (case obs => assumption); (case obh => walk_at "obds"); (case obi => rfl); (case obj => exact Nat.le_of_ble_eq_true rfl); intro _ _ _ _)
  | ((with_reducible refine' g_newL ?obs ?obj ?_); (case obs => assumption); (case obj => exact Nat.le_of_ble_eq_true rfl); intro _ _ _ _)
  | ((with_reducible refine' isi_tup ?obh ?_); (case obh => walk_at "obt"))
  | ((with_reducible refine' g_lenT ?obh ?_); (case obh => walk_at "obt"))
  | ((with_reducible refine' g_unpT ?obh ?obi ?_); (case obh => walk_at "obt"); (case obi => rfl))
  | ((with_reducible refine' g_divmod ?obs ?obh ?_); (case obs => assumption); (case obh => exact cdivp_ok (by omega) (by omega) (by omega)); intro _ _ _ _)
  | ((with_reducible refine' g_unpD ?obh ?obi ?obj ?_); (case obh => walk_at "obd"); (case obi => walk_at "obsc"); (case obj => rfl))
  | with_reducible refine g_att ?_)
def top (i : Nat) : Stmt := PySem.Challenge.pw_oncebooked_k19_whole_interest_however_da.main.body.getD i (.Pass ⟨0, 0, 0, 0⟩)
structure Tx (K : Frag) (mg : Str → Option Value) where
  a_Accrual : Addr
  m_Accrual : mg "Accrual" = some (.ref a_Accrual)
  c_Accrual : Cls K a_Accrual
  na_Accrual_own_days : NoAttr K a_Accrual "own_days"
  na_Accrual_own_paid : NoAttr K a_Accrual "own_paid"
  na_Accrual_own_rest : NoAttr K a_Accrual "own_rest"
  a_stretch_parts : Addr
  d_stretch_parts : FuncData
  F_stretch_parts : Fun K "stretch_parts" "stretch_parts" (top 26) a_stretch_parts d_stretch_parts
  m_stretch_parts : mg "stretch_parts" = some (.ref a_stretch_parts)
  a_is_integer : Addr
  d_is_integer : FuncData
  F_is_integer : Fun K "is_integer" "is_integer" (top 8) a_is_integer d_is_integer
  m_is_integer : mg "is_integer" = some (.ref a_is_integer)
  a_law_unit : Addr
  d_law_unit : FuncData
  F_law_unit : Fun K "_law_unit" "_law_unit" (top 36) a_law_unit d_law_unit
  m_law_unit : mg "_law_unit" = some (.ref a_law_unit)
  a_law_take : Addr
  d_law_take : FuncData
  F_law_take : Fun K "_law_take" "_law_take" (top 33) a_law_take d_law_take
  m_law_take : mg "_law_take" = some (.ref a_law_take)
  a_law_day_parts : Addr
  d_law_day_parts : FuncData
  F_law_day_parts : Fun K "_law_day_parts" "_law_day_parts" (top 37) a_law_day_parts d_law_day_parts
  m_law_day_parts : mg "_law_day_parts" = some (.ref a_law_day_parts)
  a_Accrual_rest : Addr
  d_Accrual_rest : FuncData
  F_Accrual_rest : Fun K "rest" "Accrual.rest" (inClass (top 29) 1) a_Accrual_rest d_Accrual_rest
  p_Accrual_rest : Addr
  pr_Accrual_rest : PropOf K a_Accrual "rest" p_Accrual_rest a_Accrual_rest
  a_Accrual_paid : Addr
  d_Accrual_paid : FuncData
  F_Accrual_paid : Fun K "paid" "Accrual.paid" (inClass (top 29) 2) a_Accrual_paid d_Accrual_paid
  p_Accrual_paid : Addr
  pr_Accrual_paid : PropOf K a_Accrual "paid" p_Accrual_paid a_Accrual_paid
  a_Accrual_days : Addr
  d_Accrual_days : FuncData
  F_Accrual_days : Fun K "days" "Accrual.days" (inClass (top 29) 3) a_Accrual_days d_Accrual_days
  p_Accrual_days : Addr
  pr_Accrual_days : PropOf K a_Accrual "days" p_Accrual_days a_Accrual_days
  a_law_divisor : Addr
  d_law_divisor : FuncData
  F_law_divisor : Fun K "_law_divisor" "_law_divisor" (top 45) a_law_divisor d_law_divisor
  m_law_divisor : mg "_law_divisor" = some (.ref a_law_divisor)
  a_law_days_of : Addr
  d_law_days_of : FuncData
  F_law_days_of : Fun K "_law_days_of" "_law_days_of" (top 42) a_law_days_of d_law_days_of
  m_law_days_of : mg "_law_days_of" = some (.ref a_law_days_of)
  a_law_pot : Addr
  d_law_pot : FuncData
  F_law_pot : Fun K "_law_pot" "_law_pot" (top 32) a_law_pot d_law_pot
  m_law_pot : mg "_law_pot" = some (.ref a_law_pot)
  a_law_cells : Addr
  d_law_cells : FuncData
  F_law_cells : Fun K "_law_cells" "_law_cells" (top 35) a_law_cells d_law_cells
  m_law_cells : mg "_law_cells" = some (.ref a_law_cells)
  a_is_year : Addr
  d_is_year : FuncData
  F_is_year : Fun K "is_year" "is_year" (top 22) a_is_year d_is_year
  m_is_year : mg "is_year" = some (.ref a_is_year)
  a_is_within : Addr
  d_is_within : FuncData
  F_is_within : Fun K "is_within" "is_within" (top 9) a_is_within d_is_within
  m_is_within : mg "is_within" = some (.ref a_is_within)
  a_law_of : Addr
  d_law_of : FuncData
  F_law_of : Fun K "_law_of" "_law_of" (top 34) a_law_of d_law_of
  m_law_of : mg "_law_of" = some (.ref a_law_of)
  a_law_parts_in : Addr
  d_law_parts_in : FuncData
  F_law_parts_in : Fun K "_law_parts_in" "_law_parts_in" (top 41) a_law_parts_in d_law_parts_in
  m_law_parts_in : mg "_law_parts_in" = some (.ref a_law_parts_in)
  a_law_cut_up : Addr
  d_law_cut_up : FuncData
  F_law_cut_up : Fun K "_law_cut_up" "_law_cut_up" (top 43) a_law_cut_up d_law_cut_up
  m_law_cut_up : mg "_law_cut_up" = some (.ref a_law_cut_up)
  a_is_rate : Addr
  d_is_rate : FuncData
  F_is_rate : Fun K "is_rate" "is_rate" (top 21) a_is_rate d_is_rate
  m_is_rate : mg "is_rate" = some (.ref a_is_rate)
  a_is_balance : Addr
  d_is_balance : FuncData
  F_is_balance : Fun K "is_balance" "is_balance" (top 20) a_is_balance d_is_balance
  m_is_balance : mg "is_balance" = some (.ref a_is_balance)
  a_check_rest : Addr
  d_check_rest : FuncData
  F_check_rest : Fun K "check_rest" "check_rest" (top 25) a_check_rest d_check_rest
  m_check_rest : mg "check_rest" = some (.ref a_check_rest)
  a_law_stretch : Addr
  d_law_stretch : FuncData
  F_law_stretch : Fun K "_law_stretch" "_law_stretch" (top 39) a_law_stretch d_law_stretch
  m_law_stretch : mg "_law_stretch" = some (.ref a_law_stretch)
  a_law_rest : Addr
  d_law_rest : FuncData
  F_law_rest : Fun K "_law_rest" "_law_rest" (top 38) a_law_rest d_law_rest
  m_law_rest : mg "_law_rest" = some (.ref a_law_rest)
  a_law_paid_rows : Addr
  d_law_paid_rows : FuncData
  F_law_paid_rows : Fun K "_law_paid_rows" "_law_paid_rows" (top 44) a_law_paid_rows d_law_paid_rows
  m_law_paid_rows : mg "_law_paid_rows" = some (.ref a_law_paid_rows)
  a_is_stretch : Addr
  d_is_stretch : FuncData
  F_is_stretch : Fun K "is_stretch" "is_stretch" (top 23) a_is_stretch d_is_stretch
  m_is_stretch : mg "is_stretch" = some (.ref a_is_stretch)
  a_law_stretches : Addr
  d_law_stretches : FuncData
  F_law_stretches : Fun K "_law_stretches" "_law_stretches" (top 40) a_law_stretches d_law_stretches
  m_law_stretches : mg "_law_stretches" = some (.ref a_law_stretches)
  a_Accrual___init__ : Addr
  d_Accrual___init__ : FuncData
  F_Accrual___init__ : Fun K "__init__" "Accrual.__init__" (inClass (top 29) 0) a_Accrual___init__ d_Accrual___init__
  mk_Accrual : Mk K a_Accrual a_Accrual___init__
  a_check_stretches : Addr
  d_check_stretches : FuncData
  F_check_stretches : Fun K "check_stretches" "check_stretches" (top 24) a_check_stretches d_check_stretches
  m_check_stretches : mg "check_stretches" = some (.ref a_check_stretches)
  a_Accrual_go_on : Addr
  d_Accrual_go_on : FuncData
  F_Accrual_go_on : Fun K "go_on" "Accrual.go_on" (inClass (top 29) 4) a_Accrual_go_on d_Accrual_go_on
  me_Accrual_go_on : Meth K a_Accrual "go_on" a_Accrual_go_on
  a_parts_of : Addr
  d_parts_of : FuncData
  F_parts_of : Fun K "parts_of" "parts_of" (top 27) a_parts_of d_parts_of
  m_parts_of : mg "parts_of" = some (.ref a_parts_of)
  a_daily : Addr
  d_daily : FuncData
  F_daily : Fun K "daily" "daily" (top 30) a_daily d_daily
  m_daily : mg "daily" = some (.ref a_daily)
  a_law_is_accrual_right : Addr
  d_law_is_accrual_right : FuncData
  F_law_is_accrual_right : Fun K "_law_is_accrual_right" "_law_is_accrual_right" (top 46) a_law_is_accrual_right d_law_is_accrual_right
  m_law_is_accrual_right : mg "_law_is_accrual_right" = some (.ref a_law_is_accrual_right)
  a_true_interest : Addr
  d_true_interest : FuncData
  F_true_interest : Fun K "true_interest" "true_interest" (top 28) a_true_interest d_true_interest
  m_true_interest : mg "true_interest" = some (.ref a_true_interest)
  a_law_right : Addr
  d_law_right : FuncData
  F_law_right : Fun K "_law_right" "_law_right" (top 47) a_law_right d_law_right
  m_law_right : mg "_law_right" = some (.ref a_law_right)
  a_law : Addr
  d_law : FuncData
  F_law : Fun K "law" "law" (top 48) a_law d_law
  m_law : mg "law" = some (.ref a_law)
  t_PARTS : Tok
  g_PARTS : mg "PARTS" = some (.int 133590000000 t_PARTS)
  t_MOST_RATE : Tok
  g_MOST_RATE : mg "MOST_RATE" = some (.int 1000000 t_MOST_RATE)
  t_MOST_BALANCE : Tok
  g_MOST_BALANCE : mg "MOST_BALANCE" = some (.int 1000000000000 t_MOST_BALANCE)
  t_MOST_DAYS : Tok
  g_MOST_DAYS : mg "MOST_DAYS" = some (.int 100000 t_MOST_DAYS)
  t_MOST_STRETCHES : Tok
  g_MOST_STRETCHES : mg "MOST_STRETCHES" = some (.int 1000 t_MOST_STRETCHES)
  t_MOST_DAILY : Tok
  g_MOST_DAILY : mg "MOST_DAILY" = some (.int 20000 t_MOST_DAILY)
  a_FACTORS : Addr
  g_FACTORS : mg "FACTORS" = some (.ref a_FACTORS)
  kd_FACTORS : KDi K a_FACTORS [(365, V.int 366), (366, V.int 365)]
  t_STRETCH_PARTS : Tok
  g_STRETCH_PARTS : mg "STRETCH_PARTS" = some (.int 4 t_STRETCH_PARTS)
  n_abs : mg "abs" = none
  n_all : mg "all" = none
  n_bool : mg "bool" = none
  n_divmod : mg "divmod" = none
  n_enumerate : mg "enumerate" = none
  n_int : mg "int" = none
  n_isinstance : mg "isinstance" = none
  n_len : mg "len" = none
  n_list : mg "list" = none
  n_max : mg "max" = none
  n_min : mg "min" = none
  n_range : mg "range" = none
  n_repr : mg "repr" = none
  n_sum : mg "sum" = none
  n_tuple : mg "tuple" = none
  n_zip : mg "zip" = none
def mkTx {K : Frag} {h : Heap} {mg : Str → Option Value} {a_Accrual : Addr} {a_stretch_parts : Addr} {oc_stretch_parts kV_stretch_parts dc_stretch_parts pm_stretch_parts cd_stretch_parts ct_stretch_parts : Value} {od_stretch_parts an_stretch_parts : Option Addr} {sl_stretch_parts : Array (Option Value)} {a_is_integer : Addr} {oc_is_integer kV_is_integer dc_is_integer pm_is_integer cd_is_integer ct_is_integer : Value} {od_is_integer an_is_integer : Option Addr} {sl_is_integer : Array (Option Value)} {a_law_unit : Addr} {oc_law_unit kV_law_unit dc_law_unit pm_law_unit cd_law_unit ct_law_unit : Value} {od_law_unit an_law_unit : Option Addr} {sl_law_unit : Array (Option Value)} {a_law_take : Addr} {oc_law_take kV_law_take dc_law_take pm_law_take cd_law_take ct_law_take : Value} {od_law_take an_law_take : Option Addr} {sl_law_take : Array (Option Value)} {a_law_day_parts : Addr} {oc_law_day_parts kV_law_day_parts dc_law_day_parts pm_law_day_parts cd_law_day_parts ct_law_day_parts : Value} {od_law_day_parts an_law_day_parts : Option Addr} {sl_law_day_parts : Array (Option Value)} {a_Accrual_rest : Addr} {oc_Accrual_rest kV_Accrual_rest dc_Accrual_rest pm_Accrual_rest cd_Accrual_rest ct_Accrual_rest : Value} {od_Accrual_rest an_Accrual_rest : Option Addr} {sl_Accrual_rest : Array (Option Value)} {p_Accrual_rest : Addr} {r_Accrual_rest : List Value} {a_Accrual_paid : Addr} {oc_Accrual_paid kV_Accrual_paid dc_Accrual_paid pm_Accrual_paid cd_Accrual_paid ct_Accrual_paid : Value} {od_Accrual_paid an_Accrual_paid : Option Addr} {sl_Accrual_paid : Array (Option Value)} {p_Accrual_paid : Addr} {r_Accrual_paid : List Value} {a_Accrual_days : Addr} {oc_Accrual_days kV_Accrual_days dc_Accrual_days pm_Accrual_days cd_Accrual_days ct_Accrual_days : Value} {od_Accrual_days an_Accrual_days : Option Addr} {sl_Accrual_days : Array (Option Value)} {p_Accrual_days : Addr} {r_Accrual_days : List Value} {a_law_divisor : Addr} {oc_law_divisor kV_law_divisor dc_law_divisor pm_law_divisor cd_law_divisor ct_law_divisor : Value} {od_law_divisor an_law_divisor : Option Addr} {sl_law_divisor : Array (Option Value)} {a_law_days_of : Addr} {oc_law_days_of kV_law_days_of dc_law_days_of pm_law_days_of cd_law_days_of ct_law_days_of : Value} {od_law_days_of an_law_days_of : Option Addr} {sl_law_days_of : Array (Option Value)} {a_law_pot : Addr} {oc_law_pot kV_law_pot dc_law_pot pm_law_pot cd_law_pot ct_law_pot : Value} {od_law_pot an_law_pot : Option Addr} {sl_law_pot : Array (Option Value)} {a_law_cells : Addr} {oc_law_cells kV_law_cells dc_law_cells pm_law_cells cd_law_cells ct_law_cells : Value} {od_law_cells an_law_cells : Option Addr} {sl_law_cells : Array (Option Value)} {a_is_year : Addr} {oc_is_year kV_is_year dc_is_year pm_is_year cd_is_year ct_is_year : Value} {od_is_year an_is_year : Option Addr} {sl_is_year : Array (Option Value)} {a_is_within : Addr} {oc_is_within kV_is_within dc_is_within pm_is_within cd_is_within ct_is_within : Value} {od_is_within an_is_within : Option Addr} {sl_is_within : Array (Option Value)} {a_law_of : Addr} {oc_law_of kV_law_of dc_law_of pm_law_of cd_law_of ct_law_of : Value} {od_law_of an_law_of : Option Addr} {sl_law_of : Array (Option Value)} {a_law_parts_in : Addr} {oc_law_parts_in kV_law_parts_in dc_law_parts_in pm_law_parts_in cd_law_parts_in ct_law_parts_in : Value} {od_law_parts_in an_law_parts_in : Option Addr} {sl_law_parts_in : Array (Option Value)} {a_law_cut_up : Addr} {oc_law_cut_up kV_law_cut_up dc_law_cut_up pm_law_cut_up cd_law_cut_up ct_law_cut_up : Value} {od_law_cut_up an_law_cut_up : Option Addr} {sl_law_cut_up : Array (Option Value)} {a_is_rate : Addr} {oc_is_rate kV_is_rate dc_is_rate pm_is_rate cd_is_rate ct_is_rate : Value} {od_is_rate an_is_rate : Option Addr} {sl_is_rate : Array (Option Value)} {a_is_balance : Addr} {oc_is_balance kV_is_balance dc_is_balance pm_is_balance cd_is_balance ct_is_balance : Value} {od_is_balance an_is_balance : Option Addr} {sl_is_balance : Array (Option Value)} {a_check_rest : Addr} {oc_check_rest kV_check_rest dc_check_rest pm_check_rest cd_check_rest ct_check_rest : Value} {od_check_rest an_check_rest : Option Addr} {sl_check_rest : Array (Option Value)} {a_law_stretch : Addr} {oc_law_stretch kV_law_stretch dc_law_stretch pm_law_stretch cd_law_stretch ct_law_stretch : Value} {od_law_stretch an_law_stretch : Option Addr} {sl_law_stretch : Array (Option Value)} {a_law_rest : Addr} {oc_law_rest kV_law_rest dc_law_rest pm_law_rest cd_law_rest ct_law_rest : Value} {od_law_rest an_law_rest : Option Addr} {sl_law_rest : Array (Option Value)} {a_law_paid_rows : Addr} {oc_law_paid_rows kV_law_paid_rows dc_law_paid_rows pm_law_paid_rows cd_law_paid_rows ct_law_paid_rows : Value} {od_law_paid_rows an_law_paid_rows : Option Addr} {sl_law_paid_rows : Array (Option Value)} {a_is_stretch : Addr} {oc_is_stretch kV_is_stretch dc_is_stretch pm_is_stretch cd_is_stretch ct_is_stretch : Value} {od_is_stretch an_is_stretch : Option Addr} {sl_is_stretch : Array (Option Value)} {a_law_stretches : Addr} {oc_law_stretches kV_law_stretches dc_law_stretches pm_law_stretches cd_law_stretches ct_law_stretches : Value} {od_law_stretches an_law_stretches : Option Addr} {sl_law_stretches : Array (Option Value)} {a_Accrual___init__ : Addr} {oc_Accrual___init__ kV_Accrual___init__ dc_Accrual___init__ pm_Accrual___init__ cd_Accrual___init__ ct_Accrual___init__ : Value} {od_Accrual___init__ an_Accrual___init__ : Option Addr} {sl_Accrual___init__ : Array (Option Value)} {a_check_stretches : Addr} {oc_check_stretches kV_check_stretches dc_check_stretches pm_check_stretches cd_check_stretches ct_check_stretches : Value} {od_check_stretches an_check_stretches : Option Addr} {sl_check_stretches : Array (Option Value)} {a_Accrual_go_on : Addr} {oc_Accrual_go_on kV_Accrual_go_on dc_Accrual_go_on pm_Accrual_go_on cd_Accrual_go_on ct_Accrual_go_on : Value} {od_Accrual_go_on an_Accrual_go_on : Option Addr} {sl_Accrual_go_on : Array (Option Value)} {a_parts_of : Addr} {oc_parts_of kV_parts_of dc_parts_of pm_parts_of cd_parts_of ct_parts_of : Value} {od_parts_of an_parts_of : Option Addr} {sl_parts_of : Array (Option Value)} {a_daily : Addr} {oc_daily kV_daily dc_daily pm_daily cd_daily ct_daily : Value} {od_daily an_daily : Option Addr} {sl_daily : Array (Option Value)} {a_law_is_accrual_right : Addr} {oc_law_is_accrual_right kV_law_is_accrual_right dc_law_is_accrual_right pm_law_is_accrual_right cd_law_is_accrual_right ct_law_is_accrual_right : Value} {od_law_is_accrual_right an_law_is_accrual_right : Option Addr} {sl_law_is_accrual_right : Array (Option Value)} {a_true_interest : Addr} {oc_true_interest kV_true_interest dc_true_interest pm_true_interest cd_true_interest ct_true_interest : Value} {od_true_interest an_true_interest : Option Addr} {sl_true_interest : Array (Option Value)} {a_law_right : Addr} {oc_law_right kV_law_right dc_law_right pm_law_right cd_law_right ct_law_right : Value} {od_law_right an_law_right : Option Addr} {sl_law_right : Array (Option Value)} {a_law : Addr} {oc_law kV_law dc_law pm_law cd_law ct_law : Value} {od_law an_law : Option Addr} {sl_law : Array (Option Value)} {t_PARTS : Tok} {t_MOST_RATE : Tok} {t_MOST_BALANCE : Tok} {t_MOST_DAYS : Tok} {t_MOST_STRETCHES : Tok} {t_MOST_DAILY : Tok} {a_FACTORS : Addr} {t_STRETCH_PARTS : Tok} (X : K.In h) (G : h.Ns mainGlobals mg)
    (n_Accrual : nsIn K mainGlobals "Accrual" = some (some (.ref a_Accrual)))
    (pg_Accrual : plainGet K a_Accrual Str.empty = true)
    (hd_Accrual : hasDictIn K a_Accrual = true)
    (po_Accrual : plainOver K a_Accrual = true)
    (sa_Accrual : findIn K (.ref a_Accrual) "__setattr__" = some (some (.builtin "object.__setattr__")))
    (na_Accrual_own_days : findIn K (.ref a_Accrual) "own_days" = some none)
    (na_Accrual_own_paid : findIn K (.ref a_Accrual) "own_paid" = some none)
    (na_Accrual_own_rest : findIn K (.ref a_Accrual) "own_rest" = some none)
    (n_stretch_parts : nsIn K mainGlobals "stretch_parts" = some (some (.ref a_stretch_parts)))
    (l_stretch_parts : K.lookup a_stretch_parts = some ⟨oc_stretch_parts, od_stretch_parts, .func (fnOf "stretch_parts" "stretch_parts" (defArgs (top 26)) (defBody (top 26)) (defScope (top 26)) .none kV_stretch_parts dc_stretch_parts pm_stretch_parts an_stretch_parts cd_stretch_parts ct_stretch_parts), sl_stretch_parts⟩)
    (c_stretch_parts : codeIn K cd_stretch_parts "stretch_parts" = true)
    (k_stretch_parts : keepIn K (.ref a_stretch_parts) = true)
    (n_is_integer : nsIn K mainGlobals "is_integer" = some (some (.ref a_is_integer)))
    (l_is_integer : K.lookup a_is_integer = some ⟨oc_is_integer, od_is_integer, .func (fnOf "is_integer" "is_integer" (defArgs (top 8)) (defBody (top 8)) (defScope (top 8)) .none kV_is_integer dc_is_integer pm_is_integer an_is_integer cd_is_integer ct_is_integer), sl_is_integer⟩)
    (c_is_integer : codeIn K cd_is_integer "is_integer" = true)
    (k_is_integer : keepIn K (.ref a_is_integer) = true)
    (n_law_unit : nsIn K mainGlobals "_law_unit" = some (some (.ref a_law_unit)))
    (l_law_unit : K.lookup a_law_unit = some ⟨oc_law_unit, od_law_unit, .func (fnOf "_law_unit" "_law_unit" (defArgs (top 36)) (defBody (top 36)) (defScope (top 36)) .none kV_law_unit dc_law_unit pm_law_unit an_law_unit cd_law_unit ct_law_unit), sl_law_unit⟩)
    (c_law_unit : codeIn K cd_law_unit "_law_unit" = true)
    (k_law_unit : keepIn K (.ref a_law_unit) = true)
    (n_law_take : nsIn K mainGlobals "_law_take" = some (some (.ref a_law_take)))
    (l_law_take : K.lookup a_law_take = some ⟨oc_law_take, od_law_take, .func (fnOf "_law_take" "_law_take" (defArgs (top 33)) (defBody (top 33)) (defScope (top 33)) .none kV_law_take dc_law_take pm_law_take an_law_take cd_law_take ct_law_take), sl_law_take⟩)
    (c_law_take : codeIn K cd_law_take "_law_take" = true)
    (k_law_take : keepIn K (.ref a_law_take) = true)
    (n_law_day_parts : nsIn K mainGlobals "_law_day_parts" = some (some (.ref a_law_day_parts)))
    (l_law_day_parts : K.lookup a_law_day_parts = some ⟨oc_law_day_parts, od_law_day_parts, .func (fnOf "_law_day_parts" "_law_day_parts" (defArgs (top 37)) (defBody (top 37)) (defScope (top 37)) .none kV_law_day_parts dc_law_day_parts pm_law_day_parts an_law_day_parts cd_law_day_parts ct_law_day_parts), sl_law_day_parts⟩)
    (c_law_day_parts : codeIn K cd_law_day_parts "_law_day_parts" = true)
    (k_law_day_parts : keepIn K (.ref a_law_day_parts) = true)
    (f_Accrual_rest : findIn K (.ref a_Accrual) "rest" = some (some (.ref p_Accrual_rest)))
    (g_Accrual_rest : specialIn K (.ref p_Accrual_rest) "__get__" = some (some (.builtin "property.__get__")))
    (t_Accrual_rest : takesIn K (.ref p_Accrual_rest) = some true)
    (r_Accrual_rest_ : recIn K p_Accrual_rest "property" = some (.ref a_Accrual_rest :: r_Accrual_rest))
    (l_Accrual_rest : K.lookup a_Accrual_rest = some ⟨oc_Accrual_rest, od_Accrual_rest, .func (fnOf "rest" "Accrual.rest" (defArgs (inClass (top 29) 1)) (defBody (inClass (top 29) 1)) (defScope (inClass (top 29) 1)) .none kV_Accrual_rest dc_Accrual_rest pm_Accrual_rest an_Accrual_rest cd_Accrual_rest ct_Accrual_rest), sl_Accrual_rest⟩)
    (c_Accrual_rest : codeIn K cd_Accrual_rest "Accrual.rest" = true)
    (k_Accrual_rest : keepIn K (.ref a_Accrual_rest) = true)
    (f_Accrual_paid : findIn K (.ref a_Accrual) "paid" = some (some (.ref p_Accrual_paid)))
    (g_Accrual_paid : specialIn K (.ref p_Accrual_paid) "__get__" = some (some (.builtin "property.__get__")))
    (t_Accrual_paid : takesIn K (.ref p_Accrual_paid) = some true)
    (r_Accrual_paid_ : recIn K p_Accrual_paid "property" = some (.ref a_Accrual_paid :: r_Accrual_paid))
    (l_Accrual_paid : K.lookup a_Accrual_paid = some ⟨oc_Accrual_paid, od_Accrual_paid, .func (fnOf "paid" "Accrual.paid" (defArgs (inClass (top 29) 2)) (defBody (inClass (top 29) 2)) (defScope (inClass (top 29) 2)) .none kV_Accrual_paid dc_Accrual_paid pm_Accrual_paid an_Accrual_paid cd_Accrual_paid ct_Accrual_paid), sl_Accrual_paid⟩)
    (c_Accrual_paid : codeIn K cd_Accrual_paid "Accrual.paid" = true)
    (k_Accrual_paid : keepIn K (.ref a_Accrual_paid) = true)
    (f_Accrual_days : findIn K (.ref a_Accrual) "days" = some (some (.ref p_Accrual_days)))
    (g_Accrual_days : specialIn K (.ref p_Accrual_days) "__get__" = some (some (.builtin "property.__get__")))
    (t_Accrual_days : takesIn K (.ref p_Accrual_days) = some true)
    (r_Accrual_days_ : recIn K p_Accrual_days "property" = some (.ref a_Accrual_days :: r_Accrual_days))
    (l_Accrual_days : K.lookup a_Accrual_days = some ⟨oc_Accrual_days, od_Accrual_days, .func (fnOf "days" "Accrual.days" (defArgs (inClass (top 29) 3)) (defBody (inClass (top 29) 3)) (defScope (inClass (top 29) 3)) .none kV_Accrual_days dc_Accrual_days pm_Accrual_days an_Accrual_days cd_Accrual_days ct_Accrual_days), sl_Accrual_days⟩)
    (c_Accrual_days : codeIn K cd_Accrual_days "Accrual.days" = true)
    (k_Accrual_days : keepIn K (.ref a_Accrual_days) = true)
    (n_law_divisor : nsIn K mainGlobals "_law_divisor" = some (some (.ref a_law_divisor)))
    (l_law_divisor : K.lookup a_law_divisor = some ⟨oc_law_divisor, od_law_divisor, .func (fnOf "_law_divisor" "_law_divisor" (defArgs (top 45)) (defBody (top 45)) (defScope (top 45)) .none kV_law_divisor dc_law_divisor pm_law_divisor an_law_divisor cd_law_divisor ct_law_divisor), sl_law_divisor⟩)
    (c_law_divisor : codeIn K cd_law_divisor "_law_divisor" = true)
    (k_law_divisor : keepIn K (.ref a_law_divisor) = true)
    (n_law_days_of : nsIn K mainGlobals "_law_days_of" = some (some (.ref a_law_days_of)))
    (l_law_days_of : K.lookup a_law_days_of = some ⟨oc_law_days_of, od_law_days_of, .func (fnOf "_law_days_of" "_law_days_of" (defArgs (top 42)) (defBody (top 42)) (defScope (top 42)) .none kV_law_days_of dc_law_days_of pm_law_days_of an_law_days_of cd_law_days_of ct_law_days_of), sl_law_days_of⟩)
    (c_law_days_of : codeIn K cd_law_days_of "_law_days_of" = true)
    (k_law_days_of : keepIn K (.ref a_law_days_of) = true)
    (n_law_pot : nsIn K mainGlobals "_law_pot" = some (some (.ref a_law_pot)))
    (l_law_pot : K.lookup a_law_pot = some ⟨oc_law_pot, od_law_pot, .func (fnOf "_law_pot" "_law_pot" (defArgs (top 32)) (defBody (top 32)) (defScope (top 32)) .none kV_law_pot dc_law_pot pm_law_pot an_law_pot cd_law_pot ct_law_pot), sl_law_pot⟩)
    (c_law_pot : codeIn K cd_law_pot "_law_pot" = true)
    (k_law_pot : keepIn K (.ref a_law_pot) = true)
    (n_law_cells : nsIn K mainGlobals "_law_cells" = some (some (.ref a_law_cells)))
    (l_law_cells : K.lookup a_law_cells = some ⟨oc_law_cells, od_law_cells, .func (fnOf "_law_cells" "_law_cells" (defArgs (top 35)) (defBody (top 35)) (defScope (top 35)) .none kV_law_cells dc_law_cells pm_law_cells an_law_cells cd_law_cells ct_law_cells), sl_law_cells⟩)
    (c_law_cells : codeIn K cd_law_cells "_law_cells" = true)
    (k_law_cells : keepIn K (.ref a_law_cells) = true)
    (n_is_year : nsIn K mainGlobals "is_year" = some (some (.ref a_is_year)))
    (l_is_year : K.lookup a_is_year = some ⟨oc_is_year, od_is_year, .func (fnOf "is_year" "is_year" (defArgs (top 22)) (defBody (top 22)) (defScope (top 22)) .none kV_is_year dc_is_year pm_is_year an_is_year cd_is_year ct_is_year), sl_is_year⟩)
    (c_is_year : codeIn K cd_is_year "is_year" = true)
    (k_is_year : keepIn K (.ref a_is_year) = true)
    (n_is_within : nsIn K mainGlobals "is_within" = some (some (.ref a_is_within)))
    (l_is_within : K.lookup a_is_within = some ⟨oc_is_within, od_is_within, .func (fnOf "is_within" "is_within" (defArgs (top 9)) (defBody (top 9)) (defScope (top 9)) .none kV_is_within dc_is_within pm_is_within an_is_within cd_is_within ct_is_within), sl_is_within⟩)
    (c_is_within : codeIn K cd_is_within "is_within" = true)
    (k_is_within : keepIn K (.ref a_is_within) = true)
    (n_law_of : nsIn K mainGlobals "_law_of" = some (some (.ref a_law_of)))
    (l_law_of : K.lookup a_law_of = some ⟨oc_law_of, od_law_of, .func (fnOf "_law_of" "_law_of" (defArgs (top 34)) (defBody (top 34)) (defScope (top 34)) .none kV_law_of dc_law_of pm_law_of an_law_of cd_law_of ct_law_of), sl_law_of⟩)
    (c_law_of : codeIn K cd_law_of "_law_of" = true)
    (k_law_of : keepIn K (.ref a_law_of) = true)
    (n_law_parts_in : nsIn K mainGlobals "_law_parts_in" = some (some (.ref a_law_parts_in)))
    (l_law_parts_in : K.lookup a_law_parts_in = some ⟨oc_law_parts_in, od_law_parts_in, .func (fnOf "_law_parts_in" "_law_parts_in" (defArgs (top 41)) (defBody (top 41)) (defScope (top 41)) .none kV_law_parts_in dc_law_parts_in pm_law_parts_in an_law_parts_in cd_law_parts_in ct_law_parts_in), sl_law_parts_in⟩)
    (c_law_parts_in : codeIn K cd_law_parts_in "_law_parts_in" = true)
    (k_law_parts_in : keepIn K (.ref a_law_parts_in) = true)
    (n_law_cut_up : nsIn K mainGlobals "_law_cut_up" = some (some (.ref a_law_cut_up)))
    (l_law_cut_up : K.lookup a_law_cut_up = some ⟨oc_law_cut_up, od_law_cut_up, .func (fnOf "_law_cut_up" "_law_cut_up" (defArgs (top 43)) (defBody (top 43)) (defScope (top 43)) .none kV_law_cut_up dc_law_cut_up pm_law_cut_up an_law_cut_up cd_law_cut_up ct_law_cut_up), sl_law_cut_up⟩)
    (c_law_cut_up : codeIn K cd_law_cut_up "_law_cut_up" = true)
    (k_law_cut_up : keepIn K (.ref a_law_cut_up) = true)
    (n_is_rate : nsIn K mainGlobals "is_rate" = some (some (.ref a_is_rate)))
    (l_is_rate : K.lookup a_is_rate = some ⟨oc_is_rate, od_is_rate, .func (fnOf "is_rate" "is_rate" (defArgs (top 21)) (defBody (top 21)) (defScope (top 21)) .none kV_is_rate dc_is_rate pm_is_rate an_is_rate cd_is_rate ct_is_rate), sl_is_rate⟩)
    (c_is_rate : codeIn K cd_is_rate "is_rate" = true)
    (k_is_rate : keepIn K (.ref a_is_rate) = true)
    (n_is_balance : nsIn K mainGlobals "is_balance" = some (some (.ref a_is_balance)))
    (l_is_balance : K.lookup a_is_balance = some ⟨oc_is_balance, od_is_balance, .func (fnOf "is_balance" "is_balance" (defArgs (top 20)) (defBody (top 20)) (defScope (top 20)) .none kV_is_balance dc_is_balance pm_is_balance an_is_balance cd_is_balance ct_is_balance), sl_is_balance⟩)
    (c_is_balance : codeIn K cd_is_balance "is_balance" = true)
    (k_is_balance : keepIn K (.ref a_is_balance) = true)
    (n_check_rest : nsIn K mainGlobals "check_rest" = some (some (.ref a_check_rest)))
    (l_check_rest : K.lookup a_check_rest = some ⟨oc_check_rest, od_check_rest, .func (fnOf "check_rest" "check_rest" (defArgs (top 25)) (defBody (top 25)) (defScope (top 25)) .none kV_check_rest dc_check_rest pm_check_rest an_check_rest cd_check_rest ct_check_rest), sl_check_rest⟩)
    (c_check_rest : codeIn K cd_check_rest "check_rest" = true)
    (k_check_rest : keepIn K (.ref a_check_rest) = true)
    (n_law_stretch : nsIn K mainGlobals "_law_stretch" = some (some (.ref a_law_stretch)))
    (l_law_stretch : K.lookup a_law_stretch = some ⟨oc_law_stretch, od_law_stretch, .func (fnOf "_law_stretch" "_law_stretch" (defArgs (top 39)) (defBody (top 39)) (defScope (top 39)) .none kV_law_stretch dc_law_stretch pm_law_stretch an_law_stretch cd_law_stretch ct_law_stretch), sl_law_stretch⟩)
    (c_law_stretch : codeIn K cd_law_stretch "_law_stretch" = true)
    (k_law_stretch : keepIn K (.ref a_law_stretch) = true)
    (n_law_rest : nsIn K mainGlobals "_law_rest" = some (some (.ref a_law_rest)))
    (l_law_rest : K.lookup a_law_rest = some ⟨oc_law_rest, od_law_rest, .func (fnOf "_law_rest" "_law_rest" (defArgs (top 38)) (defBody (top 38)) (defScope (top 38)) .none kV_law_rest dc_law_rest pm_law_rest an_law_rest cd_law_rest ct_law_rest), sl_law_rest⟩)
    (c_law_rest : codeIn K cd_law_rest "_law_rest" = true)
    (k_law_rest : keepIn K (.ref a_law_rest) = true)
    (n_law_paid_rows : nsIn K mainGlobals "_law_paid_rows" = some (some (.ref a_law_paid_rows)))
    (l_law_paid_rows : K.lookup a_law_paid_rows = some ⟨oc_law_paid_rows, od_law_paid_rows, .func (fnOf "_law_paid_rows" "_law_paid_rows" (defArgs (top 44)) (defBody (top 44)) (defScope (top 44)) .none kV_law_paid_rows dc_law_paid_rows pm_law_paid_rows an_law_paid_rows cd_law_paid_rows ct_law_paid_rows), sl_law_paid_rows⟩)
    (c_law_paid_rows : codeIn K cd_law_paid_rows "_law_paid_rows" = true)
    (k_law_paid_rows : keepIn K (.ref a_law_paid_rows) = true)
    (n_is_stretch : nsIn K mainGlobals "is_stretch" = some (some (.ref a_is_stretch)))
    (l_is_stretch : K.lookup a_is_stretch = some ⟨oc_is_stretch, od_is_stretch, .func (fnOf "is_stretch" "is_stretch" (defArgs (top 23)) (defBody (top 23)) (defScope (top 23)) .none kV_is_stretch dc_is_stretch pm_is_stretch an_is_stretch cd_is_stretch ct_is_stretch), sl_is_stretch⟩)
    (c_is_stretch : codeIn K cd_is_stretch "is_stretch" = true)
    (k_is_stretch : keepIn K (.ref a_is_stretch) = true)
    (n_law_stretches : nsIn K mainGlobals "_law_stretches" = some (some (.ref a_law_stretches)))
    (l_law_stretches : K.lookup a_law_stretches = some ⟨oc_law_stretches, od_law_stretches, .func (fnOf "_law_stretches" "_law_stretches" (defArgs (top 40)) (defBody (top 40)) (defScope (top 40)) .none kV_law_stretches dc_law_stretches pm_law_stretches an_law_stretches cd_law_stretches ct_law_stretches), sl_law_stretches⟩)
    (c_law_stretches : codeIn K cd_law_stretches "_law_stretches" = true)
    (k_law_stretches : keepIn K (.ref a_law_stretches) = true)
    (f_Accrual___init__ : findIn K (.ref a_Accrual) "__init__" = some (some (.ref a_Accrual___init__)))
    (i_Accrual___init__ : isFn K (.ref a_Accrual___init__) = true)
    (l_Accrual___init__ : K.lookup a_Accrual___init__ = some ⟨oc_Accrual___init__, od_Accrual___init__, .func (fnOf "__init__" "Accrual.__init__" (defArgs (inClass (top 29) 0)) (defBody (inClass (top 29) 0)) (defScope (inClass (top 29) 0)) .none kV_Accrual___init__ dc_Accrual___init__ pm_Accrual___init__ an_Accrual___init__ cd_Accrual___init__ ct_Accrual___init__), sl_Accrual___init__⟩)
    (c_Accrual___init__ : codeIn K cd_Accrual___init__ "Accrual.__init__" = true)
    (k_Accrual___init__ : keepIn K (.ref a_Accrual___init__) = true)
    (mk_Accrual : makesIn K a_Accrual = true)
    (kc_Accrual : keepIn K (.ref a_Accrual) = true)
    (n_check_stretches : nsIn K mainGlobals "check_stretches" = some (some (.ref a_check_stretches)))
    (l_check_stretches : K.lookup a_check_stretches = some ⟨oc_check_stretches, od_check_stretches, .func (fnOf "check_stretches" "check_stretches" (defArgs (top 24)) (defBody (top 24)) (defScope (top 24)) .none kV_check_stretches dc_check_stretches pm_check_stretches an_check_stretches cd_check_stretches ct_check_stretches), sl_check_stretches⟩)
    (c_check_stretches : codeIn K cd_check_stretches "check_stretches" = true)
    (k_check_stretches : keepIn K (.ref a_check_stretches) = true)
    (f_Accrual_go_on : findIn K (.ref a_Accrual) "go_on" = some (some (.ref a_Accrual_go_on)))
    (i_Accrual_go_on : isFn K (.ref a_Accrual_go_on) = true)
    (l_Accrual_go_on : K.lookup a_Accrual_go_on = some ⟨oc_Accrual_go_on, od_Accrual_go_on, .func (fnOf "go_on" "Accrual.go_on" (defArgs (inClass (top 29) 4)) (defBody (inClass (top 29) 4)) (defScope (inClass (top 29) 4)) .none kV_Accrual_go_on dc_Accrual_go_on pm_Accrual_go_on an_Accrual_go_on cd_Accrual_go_on ct_Accrual_go_on), sl_Accrual_go_on⟩)
    (c_Accrual_go_on : codeIn K cd_Accrual_go_on "Accrual.go_on" = true)
    (k_Accrual_go_on : keepIn K (.ref a_Accrual_go_on) = true)
    (n_parts_of : nsIn K mainGlobals "parts_of" = some (some (.ref a_parts_of)))
    (l_parts_of : K.lookup a_parts_of = some ⟨oc_parts_of, od_parts_of, .func (fnOf "parts_of" "parts_of" (defArgs (top 27)) (defBody (top 27)) (defScope (top 27)) .none kV_parts_of dc_parts_of pm_parts_of an_parts_of cd_parts_of ct_parts_of), sl_parts_of⟩)
    (c_parts_of : codeIn K cd_parts_of "parts_of" = true)
    (k_parts_of : keepIn K (.ref a_parts_of) = true)
    (n_daily : nsIn K mainGlobals "daily" = some (some (.ref a_daily)))
    (l_daily : K.lookup a_daily = some ⟨oc_daily, od_daily, .func (fnOf "daily" "daily" (defArgs (top 30)) (defBody (top 30)) (defScope (top 30)) .none kV_daily dc_daily pm_daily an_daily cd_daily ct_daily), sl_daily⟩)
    (c_daily : codeIn K cd_daily "daily" = true)
    (k_daily : keepIn K (.ref a_daily) = true)
    (n_law_is_accrual_right : nsIn K mainGlobals "_law_is_accrual_right" = some (some (.ref a_law_is_accrual_right)))
    (l_law_is_accrual_right : K.lookup a_law_is_accrual_right = some ⟨oc_law_is_accrual_right, od_law_is_accrual_right, .func (fnOf "_law_is_accrual_right" "_law_is_accrual_right" (defArgs (top 46)) (defBody (top 46)) (defScope (top 46)) .none kV_law_is_accrual_right dc_law_is_accrual_right pm_law_is_accrual_right an_law_is_accrual_right cd_law_is_accrual_right ct_law_is_accrual_right), sl_law_is_accrual_right⟩)
    (c_law_is_accrual_right : codeIn K cd_law_is_accrual_right "_law_is_accrual_right" = true)
    (k_law_is_accrual_right : keepIn K (.ref a_law_is_accrual_right) = true)
    (n_true_interest : nsIn K mainGlobals "true_interest" = some (some (.ref a_true_interest)))
    (l_true_interest : K.lookup a_true_interest = some ⟨oc_true_interest, od_true_interest, .func (fnOf "true_interest" "true_interest" (defArgs (top 28)) (defBody (top 28)) (defScope (top 28)) .none kV_true_interest dc_true_interest pm_true_interest an_true_interest cd_true_interest ct_true_interest), sl_true_interest⟩)
    (c_true_interest : codeIn K cd_true_interest "true_interest" = true)
    (k_true_interest : keepIn K (.ref a_true_interest) = true)
    (n_law_right : nsIn K mainGlobals "_law_right" = some (some (.ref a_law_right)))
    (l_law_right : K.lookup a_law_right = some ⟨oc_law_right, od_law_right, .func (fnOf "_law_right" "_law_right" (defArgs (top 47)) (defBody (top 47)) (defScope (top 47)) .none kV_law_right dc_law_right pm_law_right an_law_right cd_law_right ct_law_right), sl_law_right⟩)
    (c_law_right : codeIn K cd_law_right "_law_right" = true)
    (k_law_right : keepIn K (.ref a_law_right) = true)
    (n_law : nsIn K mainGlobals "law" = some (some (.ref a_law)))
    (l_law : K.lookup a_law = some ⟨oc_law, od_law, .func (fnOf "law" "law" (defArgs (top 48)) (defBody (top 48)) (defScope (top 48)) .none kV_law dc_law pm_law an_law cd_law ct_law), sl_law⟩)
    (c_law : codeIn K cd_law "law" = true)
    (k_law : keepIn K (.ref a_law) = true)
    (g_PARTS : nsIn K mainGlobals "PARTS" = some (some (.int 133590000000 t_PARTS)))
    (g_MOST_RATE : nsIn K mainGlobals "MOST_RATE" = some (some (.int 1000000 t_MOST_RATE)))
    (g_MOST_BALANCE : nsIn K mainGlobals "MOST_BALANCE" = some (some (.int 1000000000000 t_MOST_BALANCE)))
    (g_MOST_DAYS : nsIn K mainGlobals "MOST_DAYS" = some (some (.int 100000 t_MOST_DAYS)))
    (g_MOST_STRETCHES : nsIn K mainGlobals "MOST_STRETCHES" = some (some (.int 1000 t_MOST_STRETCHES)))
    (g_MOST_DAILY : nsIn K mainGlobals "MOST_DAILY" = some (some (.int 20000 t_MOST_DAILY)))
    (g_FACTORS : nsIn K mainGlobals "FACTORS" = some (some (.ref a_FACTORS)))
    (kd_FACTORS : KDi K a_FACTORS [(365, V.int 366), (366, V.int 365)])
    (g_STRETCH_PARTS : nsIn K mainGlobals "STRETCH_PARTS" = some (some (.int 4 t_STRETCH_PARTS)))
    (n_abs : nsIn K mainGlobals "abs" = some none)
    (n_all : nsIn K mainGlobals "all" = some none)
    (n_bool : nsIn K mainGlobals "bool" = some none)
    (n_divmod : nsIn K mainGlobals "divmod" = some none)
    (n_enumerate : nsIn K mainGlobals "enumerate" = some none)
    (n_int : nsIn K mainGlobals "int" = some none)
    (n_isinstance : nsIn K mainGlobals "isinstance" = some none)
    (n_len : nsIn K mainGlobals "len" = some none)
    (n_list : nsIn K mainGlobals "list" = some none)
    (n_max : nsIn K mainGlobals "max" = some none)
    (n_min : nsIn K mainGlobals "min" = some none)
    (n_range : nsIn K mainGlobals "range" = some none)
    (n_repr : nsIn K mainGlobals "repr" = some none)
    (n_sum : nsIn K mainGlobals "sum" = some none)
    (n_tuple : nsIn K mainGlobals "tuple" = some none)
    (n_zip : nsIn K mainGlobals "zip" = some none) : Tx K mg where
  a_Accrual := a_Accrual
  m_Accrual := mg_of X G n_Accrual
  c_Accrual := ⟨pg_Accrual, hd_Accrual, po_Accrual, sa_Accrual⟩
  na_Accrual_own_days := na_Accrual_own_days
  na_Accrual_own_paid := na_Accrual_own_paid
  na_Accrual_own_rest := na_Accrual_own_rest
  a_stretch_parts := a_stretch_parts
  d_stretch_parts := fnOf "stretch_parts" "stretch_parts" (defArgs (top 26)) (defBody (top 26)) (defScope (top 26)) .none kV_stretch_parts dc_stretch_parts pm_stretch_parts an_stretch_parts cd_stretch_parts ct_stretch_parts
  F_stretch_parts := fun_mk (st := (top 26)) l_stretch_parts c_stretch_parts k_stretch_parts
  m_stretch_parts := mg_of X G n_stretch_parts
  a_is_integer := a_is_integer
  d_is_integer := fnOf "is_integer" "is_integer" (defArgs (top 8)) (defBody (top 8)) (defScope (top 8)) .none kV_is_integer dc_is_integer pm_is_integer an_is_integer cd_is_integer ct_is_integer
  F_is_integer := fun_mk (st := (top 8)) l_is_integer c_is_integer k_is_integer
  m_is_integer := mg_of X G n_is_integer
  a_law_unit := a_law_unit
  d_law_unit := fnOf "_law_unit" "_law_unit" (defArgs (top 36)) (defBody (top 36)) (defScope (top 36)) .none kV_law_unit dc_law_unit pm_law_unit an_law_unit cd_law_unit ct_law_unit
  F_law_unit := fun_mk (st := (top 36)) l_law_unit c_law_unit k_law_unit
  m_law_unit := mg_of X G n_law_unit
  a_law_take := a_law_take
  d_law_take := fnOf "_law_take" "_law_take" (defArgs (top 33)) (defBody (top 33)) (defScope (top 33)) .none kV_law_take dc_law_take pm_law_take an_law_take cd_law_take ct_law_take
  F_law_take := fun_mk (st := (top 33)) l_law_take c_law_take k_law_take
  m_law_take := mg_of X G n_law_take
  a_law_day_parts := a_law_day_parts
  d_law_day_parts := fnOf "_law_day_parts" "_law_day_parts" (defArgs (top 37)) (defBody (top 37)) (defScope (top 37)) .none kV_law_day_parts dc_law_day_parts pm_law_day_parts an_law_day_parts cd_law_day_parts ct_law_day_parts
  F_law_day_parts := fun_mk (st := (top 37)) l_law_day_parts c_law_day_parts k_law_day_parts
  m_law_day_parts := mg_of X G n_law_day_parts
  a_Accrual_rest := a_Accrual_rest
  d_Accrual_rest := fnOf "rest" "Accrual.rest" (defArgs (inClass (top 29) 1)) (defBody (inClass (top 29) 1)) (defScope (inClass (top 29) 1)) .none kV_Accrual_rest dc_Accrual_rest pm_Accrual_rest an_Accrual_rest cd_Accrual_rest ct_Accrual_rest
  F_Accrual_rest := fun_mk (st := (inClass (top 29) 1)) l_Accrual_rest c_Accrual_rest k_Accrual_rest
  p_Accrual_rest := p_Accrual_rest
  pr_Accrual_rest := ⟨f_Accrual_rest, g_Accrual_rest, t_Accrual_rest, ⟨r_Accrual_rest, r_Accrual_rest_⟩⟩
  a_Accrual_paid := a_Accrual_paid
  d_Accrual_paid := fnOf "paid" "Accrual.paid" (defArgs (inClass (top 29) 2)) (defBody (inClass (top 29) 2)) (defScope (inClass (top 29) 2)) .none kV_Accrual_paid dc_Accrual_paid pm_Accrual_paid an_Accrual_paid cd_Accrual_paid ct_Accrual_paid
  F_Accrual_paid := fun_mk (st := (inClass (top 29) 2)) l_Accrual_paid c_Accrual_paid k_Accrual_paid
  p_Accrual_paid := p_Accrual_paid
  pr_Accrual_paid := ⟨f_Accrual_paid, g_Accrual_paid, t_Accrual_paid, ⟨r_Accrual_paid, r_Accrual_paid_⟩⟩
  a_Accrual_days := a_Accrual_days
  d_Accrual_days := fnOf "days" "Accrual.days" (defArgs (inClass (top 29) 3)) (defBody (inClass (top 29) 3)) (defScope (inClass (top 29) 3)) .none kV_Accrual_days dc_Accrual_days pm_Accrual_days an_Accrual_days cd_Accrual_days ct_Accrual_days
  F_Accrual_days := fun_mk (st := (inClass (top 29) 3)) l_Accrual_days c_Accrual_days k_Accrual_days
  p_Accrual_days := p_Accrual_days
  pr_Accrual_days := ⟨f_Accrual_days, g_Accrual_days, t_Accrual_days, ⟨r_Accrual_days, r_Accrual_days_⟩⟩
  a_law_divisor := a_law_divisor
  d_law_divisor := fnOf "_law_divisor" "_law_divisor" (defArgs (top 45)) (defBody (top 45)) (defScope (top 45)) .none kV_law_divisor dc_law_divisor pm_law_divisor an_law_divisor cd_law_divisor ct_law_divisor
  F_law_divisor := fun_mk (st := (top 45)) l_law_divisor c_law_divisor k_law_divisor
  m_law_divisor := mg_of X G n_law_divisor
  a_law_days_of := a_law_days_of
  d_law_days_of := fnOf "_law_days_of" "_law_days_of" (defArgs (top 42)) (defBody (top 42)) (defScope (top 42)) .none kV_law_days_of dc_law_days_of pm_law_days_of an_law_days_of cd_law_days_of ct_law_days_of
  F_law_days_of := fun_mk (st := (top 42)) l_law_days_of c_law_days_of k_law_days_of
  m_law_days_of := mg_of X G n_law_days_of
  a_law_pot := a_law_pot
  d_law_pot := fnOf "_law_pot" "_law_pot" (defArgs (top 32)) (defBody (top 32)) (defScope (top 32)) .none kV_law_pot dc_law_pot pm_law_pot an_law_pot cd_law_pot ct_law_pot
  F_law_pot := fun_mk (st := (top 32)) l_law_pot c_law_pot k_law_pot
  m_law_pot := mg_of X G n_law_pot
  a_law_cells := a_law_cells
  d_law_cells := fnOf "_law_cells" "_law_cells" (defArgs (top 35)) (defBody (top 35)) (defScope (top 35)) .none kV_law_cells dc_law_cells pm_law_cells an_law_cells cd_law_cells ct_law_cells
  F_law_cells := fun_mk (st := (top 35)) l_law_cells c_law_cells k_law_cells
  m_law_cells := mg_of X G n_law_cells
  a_is_year := a_is_year
  d_is_year := fnOf "is_year" "is_year" (defArgs (top 22)) (defBody (top 22)) (defScope (top 22)) .none kV_is_year dc_is_year pm_is_year an_is_year cd_is_year ct_is_year
  F_is_year := fun_mk (st := (top 22)) l_is_year c_is_year k_is_year
  m_is_year := mg_of X G n_is_year
  a_is_within := a_is_within
  d_is_within := fnOf "is_within" "is_within" (defArgs (top 9)) (defBody (top 9)) (defScope (top 9)) .none kV_is_within dc_is_within pm_is_within an_is_within cd_is_within ct_is_within
  F_is_within := fun_mk (st := (top 9)) l_is_within c_is_within k_is_within
  m_is_within := mg_of X G n_is_within
  a_law_of := a_law_of
  d_law_of := fnOf "_law_of" "_law_of" (defArgs (top 34)) (defBody (top 34)) (defScope (top 34)) .none kV_law_of dc_law_of pm_law_of an_law_of cd_law_of ct_law_of
  F_law_of := fun_mk (st := (top 34)) l_law_of c_law_of k_law_of
  m_law_of := mg_of X G n_law_of
  a_law_parts_in := a_law_parts_in
  d_law_parts_in := fnOf "_law_parts_in" "_law_parts_in" (defArgs (top 41)) (defBody (top 41)) (defScope (top 41)) .none kV_law_parts_in dc_law_parts_in pm_law_parts_in an_law_parts_in cd_law_parts_in ct_law_parts_in
  F_law_parts_in := fun_mk (st := (top 41)) l_law_parts_in c_law_parts_in k_law_parts_in
  m_law_parts_in := mg_of X G n_law_parts_in
  a_law_cut_up := a_law_cut_up
  d_law_cut_up := fnOf "_law_cut_up" "_law_cut_up" (defArgs (top 43)) (defBody (top 43)) (defScope (top 43)) .none kV_law_cut_up dc_law_cut_up pm_law_cut_up an_law_cut_up cd_law_cut_up ct_law_cut_up
  F_law_cut_up := fun_mk (st := (top 43)) l_law_cut_up c_law_cut_up k_law_cut_up
  m_law_cut_up := mg_of X G n_law_cut_up
  a_is_rate := a_is_rate
  d_is_rate := fnOf "is_rate" "is_rate" (defArgs (top 21)) (defBody (top 21)) (defScope (top 21)) .none kV_is_rate dc_is_rate pm_is_rate an_is_rate cd_is_rate ct_is_rate
  F_is_rate := fun_mk (st := (top 21)) l_is_rate c_is_rate k_is_rate
  m_is_rate := mg_of X G n_is_rate
  a_is_balance := a_is_balance
  d_is_balance := fnOf "is_balance" "is_balance" (defArgs (top 20)) (defBody (top 20)) (defScope (top 20)) .none kV_is_balance dc_is_balance pm_is_balance an_is_balance cd_is_balance ct_is_balance
  F_is_balance := fun_mk (st := (top 20)) l_is_balance c_is_balance k_is_balance
  m_is_balance := mg_of X G n_is_balance
  a_check_rest := a_check_rest
  d_check_rest := fnOf "check_rest" "check_rest" (defArgs (top 25)) (defBody (top 25)) (defScope (top 25)) .none kV_check_rest dc_check_rest pm_check_rest an_check_rest cd_check_rest ct_check_rest
  F_check_rest := fun_mk (st := (top 25)) l_check_rest c_check_rest k_check_rest
  m_check_rest := mg_of X G n_check_rest
  a_law_stretch := a_law_stretch
  d_law_stretch := fnOf "_law_stretch" "_law_stretch" (defArgs (top 39)) (defBody (top 39)) (defScope (top 39)) .none kV_law_stretch dc_law_stretch pm_law_stretch an_law_stretch cd_law_stretch ct_law_stretch
  F_law_stretch := fun_mk (st := (top 39)) l_law_stretch c_law_stretch k_law_stretch
  m_law_stretch := mg_of X G n_law_stretch
  a_law_rest := a_law_rest
  d_law_rest := fnOf "_law_rest" "_law_rest" (defArgs (top 38)) (defBody (top 38)) (defScope (top 38)) .none kV_law_rest dc_law_rest pm_law_rest an_law_rest cd_law_rest ct_law_rest
  F_law_rest := fun_mk (st := (top 38)) l_law_rest c_law_rest k_law_rest
  m_law_rest := mg_of X G n_law_rest
  a_law_paid_rows := a_law_paid_rows
  d_law_paid_rows := fnOf "_law_paid_rows" "_law_paid_rows" (defArgs (top 44)) (defBody (top 44)) (defScope (top 44)) .none kV_law_paid_rows dc_law_paid_rows pm_law_paid_rows an_law_paid_rows cd_law_paid_rows ct_law_paid_rows
  F_law_paid_rows := fun_mk (st := (top 44)) l_law_paid_rows c_law_paid_rows k_law_paid_rows
  m_law_paid_rows := mg_of X G n_law_paid_rows
  a_is_stretch := a_is_stretch
  d_is_stretch := fnOf "is_stretch" "is_stretch" (defArgs (top 23)) (defBody (top 23)) (defScope (top 23)) .none kV_is_stretch dc_is_stretch pm_is_stretch an_is_stretch cd_is_stretch ct_is_stretch
  F_is_stretch := fun_mk (st := (top 23)) l_is_stretch c_is_stretch k_is_stretch
  m_is_stretch := mg_of X G n_is_stretch
  a_law_stretches := a_law_stretches
  d_law_stretches := fnOf "_law_stretches" "_law_stretches" (defArgs (top 40)) (defBody (top 40)) (defScope (top 40)) .none kV_law_stretches dc_law_stretches pm_law_stretches an_law_stretches cd_law_stretches ct_law_stretches
  F_law_stretches := fun_mk (st := (top 40)) l_law_stretches c_law_stretches k_law_stretches
  m_law_stretches := mg_of X G n_law_stretches
  a_Accrual___init__ := a_Accrual___init__
  d_Accrual___init__ := fnOf "__init__" "Accrual.__init__" (defArgs (inClass (top 29) 0)) (defBody (inClass (top 29) 0)) (defScope (inClass (top 29) 0)) .none kV_Accrual___init__ dc_Accrual___init__ pm_Accrual___init__ an_Accrual___init__ cd_Accrual___init__ ct_Accrual___init__
  F_Accrual___init__ := fun_mk (st := (inClass (top 29) 0)) l_Accrual___init__ c_Accrual___init__ k_Accrual___init__
  mk_Accrual := ⟨mk_Accrual, f_Accrual___init__, i_Accrual___init__, kc_Accrual⟩
  a_check_stretches := a_check_stretches
  d_check_stretches := fnOf "check_stretches" "check_stretches" (defArgs (top 24)) (defBody (top 24)) (defScope (top 24)) .none kV_check_stretches dc_check_stretches pm_check_stretches an_check_stretches cd_check_stretches ct_check_stretches
  F_check_stretches := fun_mk (st := (top 24)) l_check_stretches c_check_stretches k_check_stretches
  m_check_stretches := mg_of X G n_check_stretches
  a_Accrual_go_on := a_Accrual_go_on
  d_Accrual_go_on := fnOf "go_on" "Accrual.go_on" (defArgs (inClass (top 29) 4)) (defBody (inClass (top 29) 4)) (defScope (inClass (top 29) 4)) .none kV_Accrual_go_on dc_Accrual_go_on pm_Accrual_go_on an_Accrual_go_on cd_Accrual_go_on ct_Accrual_go_on
  F_Accrual_go_on := fun_mk (st := (inClass (top 29) 4)) l_Accrual_go_on c_Accrual_go_on k_Accrual_go_on
  me_Accrual_go_on := ⟨f_Accrual_go_on, i_Accrual_go_on, k_Accrual_go_on⟩
  a_parts_of := a_parts_of
  d_parts_of := fnOf "parts_of" "parts_of" (defArgs (top 27)) (defBody (top 27)) (defScope (top 27)) .none kV_parts_of dc_parts_of pm_parts_of an_parts_of cd_parts_of ct_parts_of
  F_parts_of := fun_mk (st := (top 27)) l_parts_of c_parts_of k_parts_of
  m_parts_of := mg_of X G n_parts_of
  a_daily := a_daily
  d_daily := fnOf "daily" "daily" (defArgs (top 30)) (defBody (top 30)) (defScope (top 30)) .none kV_daily dc_daily pm_daily an_daily cd_daily ct_daily
  F_daily := fun_mk (st := (top 30)) l_daily c_daily k_daily
  m_daily := mg_of X G n_daily
  a_law_is_accrual_right := a_law_is_accrual_right
  d_law_is_accrual_right := fnOf "_law_is_accrual_right" "_law_is_accrual_right" (defArgs (top 46)) (defBody (top 46)) (defScope (top 46)) .none kV_law_is_accrual_right dc_law_is_accrual_right pm_law_is_accrual_right an_law_is_accrual_right cd_law_is_accrual_right ct_law_is_accrual_right
  F_law_is_accrual_right := fun_mk (st := (top 46)) l_law_is_accrual_right c_law_is_accrual_right k_law_is_accrual_right
  m_law_is_accrual_right := mg_of X G n_law_is_accrual_right
  a_true_interest := a_true_interest
  d_true_interest := fnOf "true_interest" "true_interest" (defArgs (top 28)) (defBody (top 28)) (defScope (top 28)) .none kV_true_interest dc_true_interest pm_true_interest an_true_interest cd_true_interest ct_true_interest
  F_true_interest := fun_mk (st := (top 28)) l_true_interest c_true_interest k_true_interest
  m_true_interest := mg_of X G n_true_interest
  a_law_right := a_law_right
  d_law_right := fnOf "_law_right" "_law_right" (defArgs (top 47)) (defBody (top 47)) (defScope (top 47)) .none kV_law_right dc_law_right pm_law_right an_law_right cd_law_right ct_law_right
  F_law_right := fun_mk (st := (top 47)) l_law_right c_law_right k_law_right
  m_law_right := mg_of X G n_law_right
  a_law := a_law
  d_law := fnOf "law" "law" (defArgs (top 48)) (defBody (top 48)) (defScope (top 48)) .none kV_law dc_law pm_law an_law cd_law ct_law
  F_law := fun_mk (st := (top 48)) l_law c_law k_law
  m_law := mg_of X G n_law
  t_PARTS := t_PARTS
  g_PARTS := mg_of X G g_PARTS
  t_MOST_RATE := t_MOST_RATE
  g_MOST_RATE := mg_of X G g_MOST_RATE
  t_MOST_BALANCE := t_MOST_BALANCE
  g_MOST_BALANCE := mg_of X G g_MOST_BALANCE
  t_MOST_DAYS := t_MOST_DAYS
  g_MOST_DAYS := mg_of X G g_MOST_DAYS
  t_MOST_STRETCHES := t_MOST_STRETCHES
  g_MOST_STRETCHES := mg_of X G g_MOST_STRETCHES
  t_MOST_DAILY := t_MOST_DAILY
  g_MOST_DAILY := mg_of X G g_MOST_DAILY
  a_FACTORS := a_FACTORS
  g_FACTORS := mg_of X G g_FACTORS
  kd_FACTORS := kd_FACTORS
  t_STRETCH_PARTS := t_STRETCH_PARTS
  g_STRETCH_PARTS := mg_of X G g_STRETCH_PARTS
  n_abs := mg_none_of X G n_abs
  n_all := mg_none_of X G n_all
  n_bool := mg_none_of X G n_bool
  n_divmod := mg_none_of X G n_divmod
  n_enumerate := mg_none_of X G n_enumerate
  n_int := mg_none_of X G n_int
  n_isinstance := mg_none_of X G n_isinstance
  n_len := mg_none_of X G n_len
  n_list := mg_none_of X G n_list
  n_max := mg_none_of X G n_max
  n_min := mg_none_of X G n_min
  n_range := mg_none_of X G n_range
  n_repr := mg_none_of X G n_repr
  n_sum := mg_none_of X G n_sum
  n_tuple := mg_none_of X G n_tuple
  n_zip := mg_none_of X G n_zip
section
variable {P : Program} {w : World} {K : Frag} {mg : Str → Option Value} {base : Heap}
/-! ### words -/
def sp_is_integer (K : Frag) : Sp := fun vs H Q E => vs.length = 1 ∧ ∃ a : Int, vs = [.int a] ∧ Q (.bl true) H
abbrev names_is_integer : List Str := ["value"]
theorem sc_is_integer : FnScope names_is_integer ["value"] (defScope (top 8)) := ⟨rfl, rfl, rfl, by decide +kernel, rfl, by decide +kernel, by decide +kernel⟩
set_option maxHeartbeats 4000000 in
theorem ok_is_integer (T : Tx K mg) : FG P w K mg base CX0 1 T.a_is_integer T.d_is_integer ["value"] (sp_is_integer K) := by
  refine OB.Fun.fg T.F_is_integer sc_is_integer (fun vs H Q E h => h.1) (fun cdv A out s H vs Q E g h => ?_)
  obtain ⟨_, a, rfl, k⟩ := h
  refine ⟨_, (pss_one (ps_ret (pe_and (pe_callB (toK (r := rIsi) (K := K) rfl call_isi) (by rfl) T.n_isinstance (by decide +kernel) (pa_cons (pv 0) (pa_cons (pe_bltn (v := .ty "int") (by rfl) T.n_int (by decide +kernel) rfl) pa_nil))) (pe_one (pe_not (pe_callB (toK (r := rIsi) (K := K) rfl call_isi) (by rfl) T.n_isinstance (by decide +kernel) (pa_cons (pv 0) (pa_cons (pe_bltn (v := .ty "bool") (by rfl) T.n_bool (by decide +kernel) rfl) pa_nil)))))))), ?_⟩
  refine g_start (σ := [some _]) rfl ?_
  repeat walk_at "ob1"
  exact k
def sp_is_within (K : Frag) : Sp := fun vs H Q E => vs.length = 3 ∧ ∃ a b c : Int, vs = [.int a, .int b, .int c] ∧ Q (.bl (decide (b ≤ a ∧ a ≤ c))) H
abbrev names_is_within : List Str := ["value", "least", "most"]
theorem sc_is_within : FnScope names_is_within ["value", "least", "most"] (defScope (top 9)) := ⟨rfl, rfl, rfl, by decide +kernel, rfl, by decide +kernel, by decide +kernel⟩
set_option maxHeartbeats 4000000 in
theorem ok_is_within (T : Tx K mg) : FG P w K mg base CX0 2 T.a_is_within T.d_is_within ["value", "least", "most"] (sp_is_within K) := by
  refine OB.Fun.fg T.F_is_within sc_is_within (fun vs H Q E h => h.1) (fun cdv A out s H vs Q E g h => ?_)
  obtain ⟨_, a, b, c, rfl, k⟩ := h
  refine ⟨_, (pss_one (ps_ret (pe_and (pe_cg (ok_is_integer T) (g.mono (by decide : 1 ≤ 1)) (by rfl) T.m_is_integer T.F_is_integer.kp (OB.Fun.bd T.F_is_integer (ps := ["value"]) (n := 1) (ks := []) (ix := [0]) (fun _ _ _ _ _ _ us ws h1 h2 => match us, ws, h1, h2 with | [_], [], _, _ => rfl)) pass0 (pa_cons (pv 0) pa_nil) pk_nil) (pe_one (pe_chain op_le op_le (pv 1) (pv 0) (pv 2)))))), ?_⟩
  refine g_start (σ := [some _, some _, some _]) rfl ?_
  repeat walk_at "ob1"
  refine ⟨rfl, a, rfl, ?_⟩
  repeat walk_at "ob1"
  refine g_iteD (fun h1 => ?_) (fun h1 => ?_)
  · repeat walk_at "ob1"
    have e : decide (b ≤ a ∧ a ≤ c) = decide (a ≤ c) := by simp [h1]
    rw [← e]
    exact k
  · have e : decide (b ≤ a ∧ a ≤ c) = false := by simp [h1]
    rw [← e]
    exact k
/-! ### draws -/
/-- the pot: n draws were made at most -/
def potO (a b c : Int) : HO := .lst [.int a, .int b, .int c]
structure PotOk (n : Nat) (a b c : Int) : Prop where
  a0 : 0 ≤ a
  a1 : a.natAbs < 2 ^ 1000
  b0 : 0 ≤ b
  b1 : b < 2 ^ 61
  c0 : 0 ≤ c
  c1 : c ≤ n
theorem pot_div {n : Nat} {a b c u : Int} (o : PotOk n a b c) (u0 : 0 < u) : PotOk (n + 1) (a / u) b c := by
  obtain ⟨a0, a1, b0, b1, c0, c1⟩ := o
  have h1 : 0 ≤ a / u := Int.ediv_nonneg a0 (by omega)
  have h2 : a / u ≤ a := Int.ediv_le_self _ a0
  exact ⟨h1, by omega, b0, b1, c0, by omega⟩
def sp_law_take (K : Frag) : Sp := fun vs H Q E => vs.length = 2 ∧ ∃ (F : List (Addr × HO)) (G : List Ft) (i : Nat) (p : Addr) (n : Nat) (u a b c : Int), vs = [.ref p, .int u] ∧ Sy K F G H ∧ F[i]? = some (p, potO a b c) ∧ PotOk n a b c ∧ n < 1000000 ∧ 0 < u ∧ u < 2 ^ 60 ∧
  ∀ (r a' b' c' : Int) (H' : Hp), 0 ≤ r → r < u → PotOk (n + 1) a' b' c' → Sy K (F.set i (p, potO a' b' c')) G H' → Q (.int r) H'
abbrev names_law_take : List Str := ["pot", "upto", "digit", "prime", "blend"]
theorem sc_law_take : FnScope names_law_take ["pot", "upto"] (defScope (top 33)) := ⟨rfl, rfl, rfl, by decide +kernel, rfl, by decide +kernel, by decide +kernel⟩
set_option maxHeartbeats 4000000 in
theorem ok_law_take (T : Tx K mg) : FG P w K mg base CX0 1 T.a_law_take T.d_law_take ["pot", "upto"] (sp_law_take K) := by
  refine OB.Fun.fg T.F_law_take sc_law_take (fun vs H Q E h => h.1) (fun cdv A out s H vs Q E g h => ?_)
  obtain ⟨_, F, G, i, p, n, u, a, b, c, rfl, S, hF, ok, hn, u0, u1, k⟩ := h
  refine ⟨_, (pss_cons (ps_if (pt_cmpR op_gt (pe_ix (ix_UK (K := K) rfl) (pv 0) pe_int (fun _ _ => rfl)) pe_int (nomark _)) (pss_cons (ps_set (i := 2) sc_law_take.nd rfl (by first | exact Or.inl rfl | exact Or.inr rfl) (pe_op op_mod (pe_callTy c_int (by rfl) T.n_int (by decide +kernel) (pa_cons (pe_ix (ix_UK (K := K) rfl) (pv 0) pe_int (fun _ _ => rfl)) pa_nil)) (pv 1)))
      (pss_cons (ps_asg (pe_op op_fdivW (pe_ix (ix_UK (K := K) rfl) (pv 0) pe_int (fun _ _ => rfl)) (pv 1)) (pg_sub (pv 0) pe_int set_list))
      (pss_one (ps_ret (pv 2))))) pss_nil)
      (pss_cons (ps_asg (pe_op op_add (pe_ix (ix_UK (K := K) rfl) (pv 0) pe_int (fun _ _ => rfl)) pe_int) (pg_sub (pv 0) pe_int set_list))
      (pss_cons (ps_set (i := 3) sc_law_take.nd rfl (by first | exact Or.inl rfl | exact Or.inr rfl) (pe_ix (ix_UK (K := K) rfl) (pe_lst (pa_cons pe_int (pa_cons pe_int (pa_cons pe_int (pa_cons pe_int (pa_cons pe_int pa_nil)))))) (pe_op op_mod (pe_callTy c_int (by rfl) T.n_int (by decide +kernel) (pa_cons (pe_ix (ix_UK (K := K) rfl) (pv 0) pe_int (fun _ _ => rfl)) pa_nil)) pe_int) (fun _ _ => rfl)))
      (pss_cons (ps_set (i := 4) sc_law_take.nd rfl (by first | exact Or.inl rfl | exact Or.inr rfl) (pe_op op_mod (pe_callTy c_int (by rfl) T.n_int (by decide +kernel) (pa_cons (pe_op op_powX (pe_callTy c_int (by rfl) T.n_int (by decide +kernel) (pa_cons (pe_op op_add (pe_op op_add (pe_ix (ix_UK (K := K) rfl) (pv 0) pe_int (fun _ _ => rfl)) (pe_op op_mul (pe_op op_mul pe_int (pe_ix (ix_UK (K := K) rfl) (pv 0) pe_int (fun _ _ => rfl))) (pe_ix (ix_UK (K := K) rfl) (pv 0) pe_int (fun _ _ => rfl)))) pe_int) pa_nil)) pe_int) pa_nil)) (pv 3)))
      (pss_cons (ps_set (i := 4) sc_law_take.nd rfl (by first | exact Or.inl rfl | exact Or.inr rfl) (pe_op op_mod (pe_callTy c_int (by rfl) T.n_int (by decide +kernel) (pa_cons (pe_op op_mul (pv 4) (pe_op op_add (pe_op op_mod (pe_callTy c_int (by rfl) T.n_int (by decide +kernel) (pa_cons (pv 4) pa_nil)) pe_int) (pe_op op_mul pe_int (pe_ix (ix_UK (K := K) rfl) (pv 0) pe_int (fun _ _ => rfl))))) pa_nil)) pe_int))
      (pss_one (ps_ret (pe_op op_mod (pe_callTy c_int (by rfl) T.n_int (by decide +kernel) (pa_cons (pe_op op_fdivW (pv 4) pe_int) pa_nil)) (pv 1))))))))), ?_⟩
  refine g_start (σ := [some _, some _, none, none, none]) rfl ?_
  repeat walk_at "ob1"
  refine g_iteD (fun h1 => ?_) (fun h1 => ?_)
  · repeat walk_at "ob1"
    refine k (a % u) (a / u) b c _ ?_ ?_ ?_ (by assumption)
    · exact Int.emod_nonneg _ (by omega)
    · exact Int.emod_lt_of_pos _ u0
    · exact pot_div ok u0
  · obtain ⟨a0, a1, b0, b1, c0, c1⟩ := ok
    repeat walk_at "ob1"
    obtain ⟨pr, hm, hp⟩ := atI_ints (ns := [2147483647, 2147483629, 2147483587, 2147483579, 2147483563]) (i := (c + 1) % 5) (by omega) (by show _ < (5 : Int); omega)
    have hpr : 0 < pr ∧ pr < 2147483648 := (show ∀ n ∈ ([2147483647, 2147483629, 2147483587, 2147483579, 2147483563] : List Int), 0 < n ∧ n < 2147483648 by decide) pr hm
    refine g_ixUL (by walk_at "obl") hp ?_
    repeat walk_at "ob1"
    have hs : (c + 1) * (c + 1) ≤ 1000000 * 1000000 := Int.mul_le_mul (by omega) (by omega) (by omega) (by decide)
    have hs0 : 0 ≤ (c + 1) * (c + 1) := Int.mul_nonneg (by omega) (by omega)
    have hx : 98359 * (c + 1) * (c + 1) = 98359 * ((c + 1) * (c + 1)) := Int.mul_assoc ..
    refine g_I (cpow_ok (a := 64) (by omega) (by decide) (by decide)) ?_
    repeat walk_at "ob1"
    refine k _ a b (c + 1) _ ?_ ?_ ⟨a0, a1, b0, b1, by omega, by omega⟩ (Sy.less (by assumption))
    · exact Int.emod_nonneg _ (by omega)
    · exact Int.emod_lt_of_pos _ u0
theorem use_take {F : List (Addr × HO)} {G : List Ft} {H : Hp} {Q : VK} {E : XK} {i n : Nat} {p : Addr} {u a b c : Int} (S : Sy K F G H) (hF : F[i]? = some (p, potO a b c)) (ok : PotOk n a b c) (hn : n < 1000000) (u0 : 0 < u) (u1 : u < 2 ^ 60)
    (k : ∀ (r a' b' c' : Int) (H' : Hp), 0 ≤ r → r < u → PotOk (n + 1) a' b' c' → Sy K (F.set i (p, potO a' b' c')) G H' → (F.set i (p, potO a' b' c'))[i]? = some (p, potO a' b' c') → Q (.int r) H') : sp_law_take K [.ref p, .int u] H Q E :=
  ⟨rfl, F, G, i, p, n, u, a, b, c, rfl, S, hF, ok, hn, u0, u1, fun r a' b' c' H' h1 h2 h3 h4 => k r a' b' c' H' h1 h2 h3 h4 (List.getElem?_set_self (List.getElem?_eq_some_iff.mp hF).1)⟩
theorem use_is_integer {a : Int} {H : Hp} {Q : VK} {E : XK} (k : Q (.bl true) H) : sp_is_integer K [.int a] H Q E := ⟨rfl, a, rfl, k⟩
theorem use_is_within {a b c : Int} {H : Hp} {Q : VK} {E : XK} (k : Q (.bl (decide (b ≤ a ∧ a ≤ c))) H) : sp_is_within K [.int a, .int b, .int c] H Q E := ⟨rfl, a, b, c, rfl, k⟩
local macro_rules | `(tactic| walk_at "ob2") => `(tactic| first
  | walk_at "ob1"
  | refine use_is_integer ?_
  | refine use_is_within ?_)
/-! ### stretches -/
structure Str4 where
  d : Int
  b : Int
  r : Int
  y : Int
def enc (s : Str4) : PyData := .tuple [.int s.d, .int s.b, .int s.r, .int s.y]
structure Ok4 (s : Str4) : Prop where
  d0 : 1 ≤ s.d
  d1 : s.d ≤ 100000
  b0 : -1000000000000 ≤ s.b
  b1 : s.b ≤ 1000000000000
  r0 : 0 ≤ s.r
  r1 : s.r ≤ 1000000
  y0 : s.y = 365 ∨ s.y = 366
def dayP (s : Str4) : Int := (if s.b > 0 then s.b else 0) * s.r * (731 - s.y)
def parts (s : Str4) : Int := s.d * (if s.b > 0 then s.b else 0) * s.r * (731 - s.y)
def sp_is_balance (K : Frag) : Sp := fun vs H Q E => vs.length = 1 ∧ ∃ a : Int, vs = [.int a] ∧ Q (.bl (decide (-1000000000000 ≤ a ∧ a ≤ 1000000000000))) H
abbrev names_is_balance : List Str := ["value"]
theorem sc_is_balance : FnScope names_is_balance ["value"] (defScope (top 20)) := ⟨rfl, rfl, rfl, by decide +kernel, rfl, by decide +kernel, by decide +kernel⟩
set_option maxHeartbeats 4000000 in
theorem ok_is_balance (T : Tx K mg) : FG P w K mg base CX0 3 T.a_is_balance T.d_is_balance ["value"] (sp_is_balance K) := by
  refine OB.Fun.fg T.F_is_balance sc_is_balance (fun vs H Q E h => h.1) (fun cdv A out s H vs Q E g h => ?_)
  obtain ⟨_, a, rfl, k⟩ := h
  refine ⟨_, (pss_one (ps_ret (pe_cg (ok_is_within T) (g.mono (by decide : 2 ≤ 2)) (by rfl) T.m_is_within T.F_is_within.kp (OB.Fun.bd T.F_is_within (ps := ["value", "least", "most"]) (n := 3) (ks := []) (ix := [0, 1, 2]) (fun _ _ _ _ _ _ us ws h1 h2 => match us, ws, h1, h2 with | [_, _, _], [], _, _ => rfl)) pass0 (pa_cons (pv 0) (pa_cons (pe_un un_neg (pe_glob (v := .int 1000000000000) (by rfl) T.g_MOST_BALANCE ⟨_, rfl⟩)) (pa_cons (pe_glob (v := .int 1000000000000) (by rfl) T.g_MOST_BALANCE ⟨_, rfl⟩) pa_nil))) pk_nil))), ?_⟩
  refine g_start (σ := [some _]) rfl ?_
  repeat walk_at "ob2"
  exact k
def sp_is_rate (K : Frag) : Sp := fun vs H Q E => vs.length = 1 ∧ ∃ a : Int, vs = [.int a] ∧ Q (.bl (decide (0 ≤ a ∧ a ≤ 1000000))) H
abbrev names_is_rate : List Str := ["value"]
theorem sc_is_rate : FnScope names_is_rate ["value"] (defScope (top 21)) := ⟨rfl, rfl, rfl, by decide +kernel, rfl, by decide +kernel, by decide +kernel⟩
set_option maxHeartbeats 4000000 in
theorem ok_is_rate (T : Tx K mg) : FG P w K mg base CX0 3 T.a_is_rate T.d_is_rate ["value"] (sp_is_rate K) := by
  refine OB.Fun.fg T.F_is_rate sc_is_rate (fun vs H Q E h => h.1) (fun cdv A out s H vs Q E g h => ?_)
  obtain ⟨_, a, rfl, k⟩ := h
  refine ⟨_, (pss_one (ps_ret (pe_cg (ok_is_within T) (g.mono (by decide : 2 ≤ 2)) (by rfl) T.m_is_within T.F_is_within.kp (OB.Fun.bd T.F_is_within (ps := ["value", "least", "most"]) (n := 3) (ks := []) (ix := [0, 1, 2]) (fun _ _ _ _ _ _ us ws h1 h2 => match us, ws, h1, h2 with | [_, _, _], [], _, _ => rfl)) pass0 (pa_cons (pv 0) (pa_cons pe_int (pa_cons (pe_glob (v := .int 1000000) (by rfl) T.g_MOST_RATE ⟨_, rfl⟩) pa_nil))) pk_nil))), ?_⟩
  refine g_start (σ := [some _]) rfl ?_
  repeat walk_at "ob2"
  exact k
def sp_is_year (K : Frag) : Sp := fun vs H Q E => vs.length = 1 ∧ ∃ a : Int, vs = [.int a] ∧ (a = 365 ∨ a = 366) ∧ Q (.bl true) H
abbrev names_is_year : List Str := ["value"]
theorem sc_is_year : FnScope names_is_year ["value"] (defScope (top 22)) := ⟨rfl, rfl, rfl, by decide +kernel, rfl, by decide +kernel, by decide +kernel⟩
set_option maxHeartbeats 4000000 in
theorem ok_is_year (T : Tx K mg) : FG P w K mg base CX0 2 T.a_is_year T.d_is_year ["value"] (sp_is_year K) := by
  refine OB.Fun.fg T.F_is_year sc_is_year (fun vs H Q E h => h.1) (fun cdv A out s H vs Q E g h => ?_)
  obtain ⟨_, a, rfl, h, k⟩ := h
  refine ⟨_, (pss_one (ps_ret (pe_and (pe_cg (ok_is_integer T) (g.mono (by decide : 1 ≤ 1)) (by rfl) T.m_is_integer T.F_is_integer.kp (OB.Fun.bd T.F_is_integer (ps := ["value"]) (n := 1) (ks := []) (ix := [0]) (fun _ _ _ _ _ _ us ws h1 h2 => match us, ws, h1, h2 with | [_], [], _, _ => rfl)) pass0 (pa_cons (pv 0) pa_nil) pk_nil) (pe_one (pe_cmpR op_inI (pv 0) (pe_glob (v := .ref T.a_FACTORS) (by rfl) T.g_FACTORS rfl) (by rfl)))))), ?_⟩
  refine g_start (σ := [some _]) rfl ?_
  repeat walk_at "ob2"
  refine ⟨T.a_FACTORS, a, _, rfl, rfl, T.kd_FACTORS, ?_⟩
  have e : (List.lookup a [((365 : Int), V.int 366), (366, V.int 365)]).isSome = true := by
    rcases h with rfl | rfl <;> rfl
  rw [e]
  exact k
def sp_check_rest (K : Frag) : Sp := fun vs H Q E => vs.length = 1 ∧ ∃ a : Int, vs = [.int a] ∧ 0 ≤ a ∧ a ≤ 133589999999 ∧ Q .non H
abbrev names_check_rest : List Str := ["rest"]
theorem sc_check_rest : FnScope names_check_rest ["rest"] (defScope (top 25)) := ⟨rfl, rfl, rfl, by decide +kernel, rfl, by decide +kernel, by decide +kernel⟩
set_option maxHeartbeats 4000000 in
theorem ok_check_rest (T : Tx K mg) : FG P w K mg base CX0 3 T.a_check_rest T.d_check_rest ["rest"] (sp_check_rest K) := by
  refine OB.Fun.fg T.F_check_rest sc_check_rest (fun vs H Q E h => h.1) (fun cdv A out s H vs Q E g h => ?_)
  obtain ⟨_, a, rfl, h1, h2, k⟩ := h
  refine ⟨_, (pss_one (ps_if (pt_not (pt_val (pe_cg (ok_is_within T) (g.mono (by decide : 2 ≤ 2)) (by rfl) T.m_is_within T.F_is_within.kp (OB.Fun.bd T.F_is_within (ps := ["value", "least", "most"]) (n := 3) (ks := []) (ix := [0, 1, 2]) (fun _ _ _ _ _ _ us ws h1 h2 => match us, ws, h1, h2 with | [_, _, _], [], _, _ => rfl)) pass0 (pa_cons (pv 0) (pa_cons pe_int (pa_cons (pe_op op_sub (pe_glob (v := .int 133590000000) (by rfl) T.g_PARTS ⟨_, rfl⟩) pe_int) pa_nil))) pk_nil))) (pss_one ps_never) pss_nil)), ?_⟩
  refine g_start (σ := [some _]) rfl ?_
  repeat walk_at "ob2"
  exact k
theorem sqt_enc {H : Hp} {p : Addr} {s : Str4} (h : Dp K H (.ref p) (enc s)) : SqT K H p [.int s.d, .int s.b, .int s.r, .int s.y] :=
  sqt_scal (ds := [.int s.d, .int s.b, .int s.r, .int s.y]) h fun d hd => by
    rcases List.mem_cons.mp hd with rfl | hd
    · rfl
    rcases List.mem_cons.mp hd with rfl | hd
    · rfl
    rcases List.mem_cons.mp hd with rfl | hd
    · rfl
    rcases List.mem_cons.mp hd with rfl | hd
    · rfl
    cases hd
theorem fac_at {y : Int} (h : y = 365 ∨ y = 366) : List.lookup y [((365 : Int), V.int 366), (366, V.int 365)] = some (.int (731 - y)) := by
  rcases h with rfl | rfl <;> rfl
def sp_stretch_parts (K : Frag) : Sp := fun vs H Q E => vs.length = 1 ∧ ∃ (p : Addr) (s : Str4), vs = [.ref p] ∧ Dp K H (.ref p) (enc s) ∧ Ok4 s ∧ Q (.int (parts s)) H
abbrev names_stretch_parts : List Str := ["stretch", "days", "balance", "rate", "year"]
theorem sc_stretch_parts : FnScope names_stretch_parts ["stretch"] (defScope (top 26)) := ⟨rfl, rfl, rfl, by decide +kernel, rfl, by decide +kernel, by decide +kernel⟩
set_option maxHeartbeats 4000000 in
theorem ok_stretch_parts (T : Tx K mg) : FG P w K mg base CX0 1 T.a_stretch_parts T.d_stretch_parts ["stretch"] (sp_stretch_parts K) := by
  refine OB.Fun.fg T.F_stretch_parts sc_stretch_parts (fun vs H Q E h => h.1) (fun cdv A out s H vs Q E g h => ?_)
  obtain ⟨_, p, st, rfl, hd, ok, k⟩ := h
  refine ⟨_, (pss_cons (ps_asg (pv 0) (pg_tupK (K := K) rfl (n := 4) rfl (pgs_cons (pg_name (i := 1) sc_stretch_parts.nd rfl (by first | exact Or.inl rfl | exact Or.inr rfl)) (pgs_cons (pg_name (i := 2) sc_stretch_parts.nd rfl (by first | exact Or.inl rfl | exact Or.inr rfl)) (pgs_cons (pg_name (i := 3) sc_stretch_parts.nd rfl (by first | exact Or.inl rfl | exact Or.inr rfl)) (pgs_cons (pg_name (i := 4) sc_stretch_parts.nd rfl (by first | exact Or.inl rfl | exact Or.inr rfl)) pgs_nil))))))
      (pss_one (ps_ret (pe_op op_mul (pe_op op_mul (pe_op op_mul (pv 1) (pe_callB (c_max rfl) (by rfl) T.n_max (by decide +kernel) (pa_cons pe_int (pa_cons (pv 2) pa_nil)))) (pv 3)) (pe_ix (ix_UK (K := K) rfl) (pe_glob (v := .ref T.a_FACTORS) (by rfl) T.g_FACTORS rfl) (pv 4) (fun _ _ => rfl)))))), ?_⟩
  refine g_start (σ := [some _, none, none, none, none]) rfl ?_
  obtain ⟨d0, d1, b0, b1, r0, r1, y0⟩ := ok
  repeat walk_at "ob2"
  refine g_ixUI T.kd_FACTORS (fac_at y0) ?_
  repeat walk_at "ob2"
  exact k
def sp_law_unit (K : Frag) : Sp := fun vs H Q E => vs.length = 0 ∧ vs = [] ∧ Q (.int 133590000000) H
abbrev names_law_unit : List Str := []
theorem sc_law_unit : FnScope names_law_unit [] (defScope (top 36)) := ⟨rfl, rfl, rfl, by decide +kernel, rfl, by decide +kernel, by decide +kernel⟩
set_option maxHeartbeats 4000000 in
theorem ok_law_unit (T : Tx K mg) : FG P w K mg base CX0 1 T.a_law_unit T.d_law_unit [] (sp_law_unit K) := by
  refine OB.Fun.fg T.F_law_unit sc_law_unit (fun vs H Q E h => h.1) (fun cdv A out s H vs Q E g h => ?_)
  obtain ⟨_, rfl, k⟩ := h
  refine ⟨_, (pss_one (ps_ret pe_int)), ?_⟩
  refine g_start (σ := []) rfl ?_
  repeat walk_at "ob2"
  exact k
def sp_law_day_parts (K : Frag) : Sp := fun vs H Q E => vs.length = 3 ∧ ∃ s : Str4, vs = [.int s.b, .int s.r, .int s.y] ∧ Ok4 s ∧ Q (.int (dayP s)) H
abbrev names_law_day_parts : List Str := ["balance", "rate", "year"]
theorem sc_law_day_parts : FnScope names_law_day_parts ["balance", "rate", "year"] (defScope (top 37)) := ⟨rfl, rfl, rfl, by decide +kernel, rfl, by decide +kernel, by decide +kernel⟩
set_option maxHeartbeats 4000000 in
theorem ok_law_day_parts (T : Tx K mg) : FG P w K mg base CX0 1 T.a_law_day_parts T.d_law_day_parts ["balance", "rate", "year"] (sp_law_day_parts K) := by
  refine OB.Fun.fg T.F_law_day_parts sc_law_day_parts (fun vs H Q E h => h.1) (fun cdv A out s H vs Q E g h => ?_)
  obtain ⟨_, st, rfl, ok, k⟩ := h
  refine ⟨_, (pss_one (ps_ret (pe_callTy c_int (by rfl) T.n_int (by decide +kernel) (pa_cons (pe_op op_mul (pe_op op_mul (pe_callB (c_max rfl) (by rfl) T.n_max (by decide +kernel) (pa_cons pe_int (pa_cons (pv 0) pa_nil))) (pv 1)) (pe_op op_sub pe_int (pv 2))) pa_nil)))), ?_⟩
  refine g_start (σ := [some _, some _, some _]) rfl ?_
  obtain ⟨d0, d1, b0, b1, r0, r1, y0⟩ := ok
  repeat walk_at "ob2"
  exact k
theorem use_balance {a : Int} {H : Hp} {Q : VK} {E : XK} (k : Q (.bl (decide (-1000000000000 ≤ a ∧ a ≤ 1000000000000))) H) : sp_is_balance K [.int a] H Q E := ⟨rfl, a, rfl, k⟩
theorem use_rate {a : Int} {H : Hp} {Q : VK} {E : XK} (k : Q (.bl (decide (0 ≤ a ∧ a ≤ 1000000))) H) : sp_is_rate K [.int a] H Q E := ⟨rfl, a, rfl, k⟩
theorem use_year {a : Int} {H : Hp} {Q : VK} {E : XK} (h : a = 365 ∨ a = 366) (k : Q (.bl true) H) : sp_is_year K [.int a] H Q E := ⟨rfl, a, rfl, h, k⟩
theorem use_rest {a : Int} {H : Hp} {Q : VK} {E : XK} (h1 : 0 ≤ a) (h2 : a ≤ 133589999999) (k : Q .non H) : sp_check_rest K [.int a] H Q E := ⟨rfl, a, rfl, h1, h2, k⟩
theorem use_parts {p : Addr} {s : Str4} {H : Hp} {Q : VK} {E : XK} (h : Dp K H (.ref p) (enc s)) (o : Ok4 s) (k : Q (.int (parts s)) H) : sp_stretch_parts K [.ref p] H Q E := ⟨rfl, p, s, rfl, h, o, k⟩
theorem use_unit {H : Hp} {Q : VK} {E : XK} (k : Q (.int 133590000000) H) : sp_law_unit K [] H Q E := ⟨rfl, rfl, k⟩
local macro_rules | `(tactic| walk_at "ob3") => `(tactic| first
  | walk_at "ob2"
  | refine use_balance ?_
  | refine use_rate ?_
  | refine use_year (by assumption) ?_
  | refine use_unit ?_
  | refine use_rest (by omega) (by omega) ?_
  | refine isi_tup (sqt_enc (by assumption)) ?_
  | refine g_lenT (sqt_enc (by assumption)) ?_
  | refine g_unpT (sqt_enc (by assumption)) rfl ?_)
def sp_is_stretch (K : Frag) : Sp := fun vs H Q E => vs.length = 1 ∧ ∃ (p : Addr) (s : Str4), vs = [.ref p] ∧ Dp K H (.ref p) (enc s) ∧ Ok4 s ∧ Q (.bl true) H
abbrev names_is_stretch : List Str := ["value", "days", "balance", "rate", "year"]
theorem sc_is_stretch : FnScope names_is_stretch ["value"] (defScope (top 23)) := ⟨rfl, rfl, rfl, by decide +kernel, rfl, by decide +kernel, by decide +kernel⟩
set_option maxHeartbeats 4000000 in
theorem ok_is_stretch (T : Tx K mg) : FG P w K mg base CX0 4 T.a_is_stretch T.d_is_stretch ["value"] (sp_is_stretch K) := by
  refine OB.Fun.fg T.F_is_stretch sc_is_stretch (fun vs H Q E h => h.1) (fun cdv A out s H vs Q E g h => ?_)
  obtain ⟨_, p, st, rfl, hd, ok, k⟩ := h
  refine ⟨_, (pss_cons (ps_if (PW.pt (pw_or (pt_not (pt_val (pe_callB (toK (r := rIsi) (K := K) rfl call_isi) (by rfl) T.n_isinstance (by decide +kernel) (pa_cons (pv 0) (pa_cons (pe_bltn (v := .ty "tuple") (by rfl) T.n_tuple (by decide +kernel) rfl) pa_nil))))) (pw_or1 (pt_cmpR op_ne (pe_callB (toK (r := OB.rLen) (K := K) rfl c_len) (by rfl) T.n_len PySem.boot_len (pa_cons (pv 0) pa_nil)) (pe_glob (v := .int 4) (by rfl) T.g_STRETCH_PARTS ⟨_, rfl⟩) (nomark _))))) (pss_one (ps_ret pe_bl)) pss_nil)
      (pss_cons (ps_asg (pv 0) (pg_tupK (K := K) rfl (n := 4) rfl (pgs_cons (pg_name (i := 1) sc_is_stretch.nd rfl (by first | exact Or.inl rfl | exact Or.inr rfl)) (pgs_cons (pg_name (i := 2) sc_is_stretch.nd rfl (by first | exact Or.inl rfl | exact Or.inr rfl)) (pgs_cons (pg_name (i := 3) sc_is_stretch.nd rfl (by first | exact Or.inl rfl | exact Or.inr rfl)) (pgs_cons (pg_name (i := 4) sc_is_stretch.nd rfl (by first | exact Or.inl rfl | exact Or.inr rfl)) pgs_nil))))))
      (pss_one (ps_ret (pe_and (pe_cg (ok_is_within T) (g.mono (by decide : 2 ≤ 3)) (by rfl) T.m_is_within T.F_is_within.kp (OB.Fun.bd T.F_is_within (ps := ["value", "least", "most"]) (n := 3) (ks := []) (ix := [0, 1, 2]) (fun _ _ _ _ _ _ us ws h1 h2 => match us, ws, h1, h2 with | [_, _, _], [], _, _ => rfl)) pass0 (pa_cons (pv 1) (pa_cons pe_int (pa_cons (pe_glob (v := .int 100000) (by rfl) T.g_MOST_DAYS ⟨_, rfl⟩) pa_nil))) pk_nil) (pe_and (pe_cg (ok_is_balance T) (g.mono (by decide : 3 ≤ 3)) (by rfl) T.m_is_balance T.F_is_balance.kp (OB.Fun.bd T.F_is_balance (ps := ["value"]) (n := 1) (ks := []) (ix := [0]) (fun _ _ _ _ _ _ us ws h1 h2 => match us, ws, h1, h2 with | [_], [], _, _ => rfl)) pass0 (pa_cons (pv 2) pa_nil) pk_nil) (pe_and (pe_cg (ok_is_rate T) (g.mono (by decide : 3 ≤ 3)) (by rfl) T.m_is_rate T.F_is_rate.kp (OB.Fun.bd T.F_is_rate (ps := ["value"]) (n := 1) (ks := []) (ix := [0]) (fun _ _ _ _ _ _ us ws h1 h2 => match us, ws, h1, h2 with | [_], [], _, _ => rfl)) pass0 (pa_cons (pv 3) pa_nil) pk_nil) (pe_one (pe_cg (ok_is_year T) (g.mono (by decide : 2 ≤ 3)) (by rfl) T.m_is_year T.F_is_year.kp (OB.Fun.bd T.F_is_year (ps := ["value"]) (n := 1) (ks := []) (ix := [0]) (fun _ _ _ _ _ _ us ws h1 h2 => match us, ws, h1, h2 with | [_], [], _, _ => rfl)) pass0 (pa_cons (pv 4) pa_nil) pk_nil))))))))), ?_⟩
  refine g_start (σ := [some _, none, none, none, none]) rfl ?_
  obtain ⟨d0, d1, b0, b1, r0, r1, y0⟩ := ok
  repeat walk_at "ob3"
  have e : decide (st.r ≤ 1) = decide (st.r ≤ 1) := rfl
  exact k
theorem use_is_stretch {p : Addr} {s : Str4} {H : Hp} {Q : VK} {E : XK} (h : Dp K H (.ref p) (enc s)) (o : Ok4 s) (k : Q (.bl true) H) : sp_is_stretch K [.ref p] H Q E := ⟨rfl, p, s, rfl, h, o, k⟩
/-- stretches at an address: a tuple -/
def encs (ss : List Str4) : PyData := .tuple (ss.map enc)
theorem enc_imm (ss : List Str4) : immAll (ss.map enc) = true := immAll_of fun x hx => by
  obtain ⟨s, _, rfl⟩ := List.mem_map.mp hx
  rfl
def sp_check_stretches (K : Frag) : Sp := fun vs H Q E => vs.length = 1 ∧ ∃ (F : List (Addr × HO)) (G : List Ft) (p : Addr) (ss : List Str4), vs = [.ref p] ∧ Sy K F G H ∧ Dp K H (.ref p) (encs ss) ∧ (∀ s ∈ ss, Ok4 s) ∧ ss.length ≤ 1000 ∧ ∀ H', Sy K F G H' → Q .non H'
abbrev names_check_stretches : List Str := ["stretches", "number", "stretch"]
theorem sc_check_stretches : FnScope names_check_stretches ["stretches"] (defScope (top 24)) := ⟨rfl, rfl, rfl, by decide +kernel, rfl, by decide +kernel, by decide +kernel⟩
set_option maxHeartbeats 4000000 in
theorem ok_check_stretches (T : Tx K mg) : FG P w K mg base CX0 5 T.a_check_stretches T.d_check_stretches ["stretches"] (sp_check_stretches K) := by
  refine OB.Fun.fg T.F_check_stretches sc_check_stretches (fun vs H Q E h => h.1) (fun cdv A out s H vs Q E g h => ?_)
  obtain ⟨_, F, G, p, ss, rfl, S, hd, ok, hn, k⟩ := h
  refine ⟨_, (pss_cons (ps_if (PW.pt (pw_or (pt_not (pt_val (pe_callB (toK (r := rIsi) (K := K) rfl call_isi) (by rfl) T.n_isinstance (by decide +kernel) (pa_cons (pv 0) (pa_cons (pe_bltn (v := .ty "tuple") (by rfl) T.n_tuple (by decide +kernel) rfl) pa_nil))))) (pw_or1 (pt_cmpR op_gt (pe_callB (toK (r := OB.rLen) (K := K) rfl c_len) (by rfl) T.n_len PySem.boot_len (pa_cons (pv 0) pa_nil)) (pe_glob (v := .int 1000) (by rfl) T.g_MOST_STRETCHES ⟨_, rfl⟩) (nomark _))))) (pss_one ps_never) pss_nil)
      (pss_one (ps_for PassesOwn.never rfl (pi_enumK (by rfl) T.n_enumerate (pa_cons (pv 0) pa_nil)) (pg_tupK (K := K) rfl (n := 2) rfl (pgs_cons (pg_name (i := 1) sc_check_stretches.nd rfl (by first | exact Or.inl rfl | exact Or.inr rfl)) (pgs_cons (pg_name (i := 2) sc_check_stretches.nd rfl (by first | exact Or.inl rfl | exact Or.inr rfl)) pgs_nil)))
      (pss_one (ps_if (pt_not (pt_val (pe_cg (ok_is_stretch T) (g.mono (by decide : 4 ≤ 4)) (by rfl) T.m_is_stretch T.F_is_stretch.kp (OB.Fun.bd T.F_is_stretch (ps := ["value"]) (n := 1) (ks := []) (ix := [0]) (fun _ _ _ _ _ _ us ws h1 h2 => match us, ws, h1, h2 with | [_], [], _, _ => rfl)) pass0 (pa_cons (pv 2) pa_nil) pk_nil))) (pss_one ps_never) pss_nil))))), ?_⟩
  refine g_start (σ := [some _, none, none]) rfl ?_
  obtain ⟨a, xs, e, S1⟩ := S.opn hd (enc_imm ss)
  cases e
  have hlen : xs.length = ss.length := by rw [dps_length (S1.dps 1 rfl), List.length_map]
  repeat walk_at "ob3"
  refine g_forE ?_
  repeat walk_at "ob3"
  refine ⟨false, p, xs, rfl, S1.tqs 0 rfl, ?_⟩
  refine for_enumK (xs := xs) (fun i σ' H' => ∃ v1 v2, σ' = [some (.ref p), v1, v2] ∧ Sy K F (.tq p xs :: .dat xs (ss.map enc) :: G) H') ⟨none, none, rfl, S1⟩ (fun i σ' H' ⟨_, _, _, S2⟩ => S2.tqs 0 rfl) ?_ ?_
  · rintro i x Tn σ' H' hx ⟨v1, v2, rfl, S2⟩ hT
    refine g_pair S2 hT fun H2 S3 => ?_
    obtain ⟨st, hst, hds⟩ := dps_map (S3.dps 2 rfl) hx
    obtain ⟨q, ys, rfl, _⟩ := dp_at hds
    repeat walk_at "ob3"
    refine use_is_stretch hds (ok _ (List.mem_of_getElem? hst)) ?_
    repeat walk_at "ob3"
    exact ⟨_, _, rfl, S3.drop⟩
  · rintro σ' H' ⟨v1, v2, rfl, S2⟩
    exact k _ S2.drop.drop
end
end LAW

set_option Elab.async false
set_option linter.all false
set_option maxRecDepth 100000
namespace LAW
open PySem PySem.Spec PyProof.Rows L2 PySem.W OB
local macro_rules | `(tactic| walk_at "obc") => `(tactic| first
  | exact Or.inl ⟨by omega, by omega⟩
  | exact Or.inr ⟨by omega, by omega⟩
  | exact cdiv_ok (by omega) (by omega)
  | (show (0 : Int) < _; omega)
  | exact ⟨by omega, by decide⟩
  | exact ⟨by decide, by decide⟩)
local macro_rules | `(tactic| walk_at "obat") => `(tactic| first
  | exact Sy.at (by assumption) 0 rfl | exact Sy.at (by assumption) 1 rfl | exact Sy.at (by assumption) 2 rfl | exact Sy.at (by assumption) 3 rfl
  | exact Sy.at (by assumption) 4 rfl | exact Sy.at (by assumption) 5 rfl | exact Sy.at (by assumption) 6 rfl | exact Sy.at (by assumption) _ (by assumption) | exact Sy.at (by assumption) (_ + 1) (by assumption) | exact Sy.at (by assumption) (_ + 2) (by assumption))
local macro_rules | `(tactic| walk_at "obt") => `(tactic| first
  | exact Sy.tqs (by assumption) 0 rfl | exact Sy.tqs (by assumption) 1 rfl | exact Sy.tqs (by assumption) 2 rfl | exact Sy.tqs (by assumption) 3 rfl | exact Sy.tqs (by assumption) 4 rfl | exact Sy.tqs (by assumption) 5 rfl
  | exact Sy.tqs (by assumption) 6 rfl | exact Sy.tqs (by assumption) 7 rfl | assumption)
local macro_rules | `(tactic| walk_at "obl") => `(tactic| first
  | exact SqL.of (by walk_at "obat")
  | exact Sy.sq (by assumption) 0 rfl | exact Sy.sq (by assumption) 1 rfl | exact Sy.sq (by assumption) 2 rfl | exact Sy.sq (by assumption) 3 rfl | exact Sy.sq (by assumption) _ (by assumption))
local macro_rules | `(tactic| walk_at "obd") => `(tactic| first
  | exact Dp.int _ | exact Dp.bl _ | exact Dp.str _ | exact Dp.non
  | exact Sy.dp (by assumption) 0 rfl | exact Sy.dp (by assumption) 1 rfl | exact Sy.dp (by assumption) 2 rfl | exact Sy.dp (by assumption) 3 rfl
  | exact Sy.dp (by assumption) 4 rfl | exact Sy.dp (by assumption) 5 rfl | exact Sy.dp (by assumption) 6 rfl | exact Sy.dp (by assumption) 7 rfl
  | exact Sy.dp (by assumption) 8 rfl | exact Sy.dp (by assumption) 9 rfl | exact Sy.dp (by assumption) _ (by assumption) | assumption)
local macro_rules | `(tactic| walk_at "obds") => `(tactic| first
  | exact DpAll.nil
  | (refine' DpAll.cons ?ob1 ?ob2; (case ob1 => walk_at "obd"); (case ob2 => walk_at "obds"))
  | exact Sy.dps (by assumption) 0 rfl | exact Sy.dps (by assumption) 1 rfl | exact Sy.dps (by assumption) 2 rfl | exact Sy.dps (by assumption) 3 rfl | assumption)
local macro_rules | `(tactic| walk_at "obsc") => `(tactic| first
  | exact ScL.nil
  | ((first | refine' ScL.int ?obz | refine' ScL.str ?obz | refine' ScL.bl ?obz | refine' ScL.non ?obz); (case obz => walk_at "obsc")))
local macro_rules | `(tactic| walk_at "ob1") => `(tactic| first
  | ((with_reducible refine' g_var ?obh ?_); (case obh => rfl))
  | with_reducible refine g_c ?_
  | with_reducible refine g_nx ?_
  | with_reducible refine g_rt ?_
  | with_reducible refine g_bk ?_
  | with_reducible refine g_ct ?_
  | with_reducible refine g_op ?_
  | with_reducible refine g_I0 ?_
  | with_reducible refine g_test ?_
  | with_reducible refine g_bl ?_
  | with_reducible refine g_blx ?_
  | with_reducible refine g_B ?_
  | with_reducible refine g_seq ?_
  | with_reducible refine g_asg ?_
  | with_reducible refine g_name ?_
  | with_reducible refine g_ifS ?_
  | with_reducible refine g_ret ?_
  | with_reducible refine g_cb ?_
  | with_reducible refine g_cons ?_
  | with_reducible refine g_nil ?_
  | with_reducible refine g_int ?_
  | with_reducible refine g_intB ?_
  | with_reducible refine g_abs ?_
  | with_reducible refine g_max ?_
  | with_reducible refine g_min ?_
  | with_reducible refine g_un ?_
  | with_reducible refine g_U ?_
  | with_reducible refine g_eqI ?_
  | with_reducible refine g_neI ?_
  | with_reducible refine g_eqS ?_
  | with_reducible refine g_neS ?_
  | with_reducible refine g_tt ?_
  | with_reducible refine g_ff ?_
  | with_reducible refine g_next ?_
  | with_reducible refine g_drop ?_
  | with_reducible refine g_if ?_
  | with_reducible refine g_andV ?_
  | with_reducible refine g_orV ?_
  | with_reducible refine g_notV ?_
  | with_reducible refine g_and ?_
  | with_reducible refine g_or ?_
  | with_reducible refine g_not ?_
  | with_reducible refine g_yes ?_
  | with_reducible refine g_chain ?_
  | with_reducible refine g_cg ?_
  | with_reducible refine g_mg ?_
  | with_reducible refine g_kg ?_
  | with_reducible refine g_pg ?_
  | ((with_reducible refine' g_call ?obh ?obj ?_); (case obh => rfl); (case obj => rfl))
  | with_reducible refine g_par ?_
  | with_reducible refine g_par2 ?_
  | with_reducible refine g_par3 ?_
  | with_reducible refine g_par33 ?_
  | with_reducible refine g_gnil ?_
  | with_reducible refine g_gcons ?_
  | with_reducible refine g_gsub ?_
  | with_reducible refine g_ipI ?_
  | with_reducible refine g_rAdd ?_
  | with_reducible refine g_rSub ?_
  | ((with_reducible refine' g_aug ?obh ?_); (case obh => rfl))
  | with_reducible refine g_tup ?_
  | with_reducible refine g_lst ?_
  | with_reducible refine g_bm ?_
  | with_reducible refine g_bm0 ?_
  | with_reducible refine g_sl ?_
  | with_reducible refine g_nopart ?_
  | with_reducible refine g_part ?_
  | with_reducible refine g_pint ?_
  | with_reducible refine isi_int ?_
  | with_reducible refine isi_intB ?_
  | ((with_reducible refine' g_I ?obh ?_); (case obh => walk_at "obc"))
  | ((with_reducible refine' g_tyl ?obh ?_); (case obh => walk_at "obl"))
  | ((with_reducible refine' g_lenL ?obh ?_); (case obh => walk_at "obl"))
  | with_reducible refine g_ne ?_
  | ((with_reducible refine' g_neN' ?obh ?_); (case obh => rfl))
  | with_reducible refine g_ntt ?_
  | with_reducible refine g_nff ?_
  | with_reducible refine g_star ?_
  | with_reducible refine g_att ?_
  | with_reducible refine g_sfld ?_
  | with_reducible refine g_faug ?_
  | with_reducible refine g_fld ?_
  | ((with_reducible refine' g_nF ?obh ?_); (case obh => omega))
  | ((with_reducible refine' g_nT ?obh ?_); (case obh => omega))
  | ((with_reducible refine' g_TD ?obh ?_); (case obh => omega))
  | ((with_reducible refine' g_FD ?obh ?_); (case obh => omega))
  | ((with_reducible refine' g_ixUL ?obh ?obi ?_); (case obh => walk_at "obl"); (case obi => exact atI_nn (by omega) (by rfl)))
  | ((with_reducible refine' g_setLS ?obs ?obh ?obi ?_); (case obs => assumption); (case obh => assumption); (case obi => rfl); intro _ _ _)
  | ((with_reducible refine' g_newT ?obs ?obh ?obi ?obj ?_); (case obs => assumption); (case obh => walk_at "obds"); (case obi => rfl); (case obj => exact Nat.le_of_ble_eq_true rfl); intro _ _ _ _)
  | ((with_reducible refine' g_newL ?obs ?obj ?_); (case obs => assumption); (case obj => exact Nat.le_of_ble_eq_true rfl); intro _ _ _ _)
  | ((with_reducible refine' isi_tup ?obh ?_); (case obh => walk_at "obt"))
  | ((with_reducible refine' g_lenT ?obh ?_); (case obh => walk_at "obt"))
  | ((with_reducible refine' g_unpT ?obh ?obi ?_); (case obh => walk_at "obt"); (case obi => rfl))
  | ((with_reducible refine' g_divmod ?obs ?obh ?_); (case obs => assumption); (case obh => exact cdivp_ok (by omega) (by omega) (by omega)); intro _ _ _ _)
  | ((with_reducible refine' g_unpD ?obh ?obi ?obj ?_); (case obh => walk_at "obd"); (case obi => walk_at "obsc"); (case obj => rfl))
  | with_reducible refine g_att ?_)
local macro_rules | `(tactic| walk_at "ob") => `(tactic| first
  | walk_at "ob1"
  | refine use_is_integer ?_
  | refine use_is_within ?_
  | refine use_balance ?_
  | refine use_rate ?_
  | refine use_year (by assumption) ?_
  | refine use_unit ?_
  | refine use_rest (by omega) (by omega) ?_
  | refine use_parts (by walk_at "obd") (by assumption) ?_
  | refine use_is_stretch (by walk_at "obd") (by assumption) ?_
  | refine g_unpT (sqt_enc (by walk_at "obd")) rfl ?_)
section
variable {P : Program} {w : World} {K : Frag} {mg : Str → Option Value} {base : Heap}
theorem use_check {F : List (Addr × HO)} {G : List Ft} {H : Hp} {Q : VK} {E : XK} {p : Addr} {ss : List Str4} (S : Sy K F G H) (hd : Dp K H (.ref p) (encs ss)) (ok : ∀ s ∈ ss, Ok4 s) (hn : ss.length ≤ 1000) (k : ∀ H', Sy K F G H' → Q .non H') : sp_check_stretches K [.ref p] H Q E :=
  ⟨rfl, F, G, p, ss, rfl, S, hd, ok, hn, k⟩
def sumP (ss : List Str4) : Int := (ss.map parts).sum
def sp_parts_of (K : Frag) : Sp := fun vs H Q E => vs.length = 1 ∧ ∃ (F : List (Addr × HO)) (G : List Ft) (p : Addr) (ss : List Str4), vs = [.ref p] ∧ Sy K F G H ∧ Dp K H (.ref p) (encs ss) ∧ (∀ s ∈ ss, Ok4 s) ∧ ss.length ≤ 1000 ∧ ∀ H', Sy K F G H' → Q (.int (sumP ss)) H'
abbrev names_parts_of : List Str := ["stretches", "stretch"]
theorem sc_parts_of : FnScope names_parts_of ["stretches"] (defScope (top 27)) := ⟨rfl, rfl, rfl, by decide +kernel, rfl, by decide +kernel, by decide +kernel⟩
set_option maxHeartbeats 4000000 in
theorem ok_parts_of (T : Tx K mg) : FG P w K mg base CX0 6 T.a_parts_of T.d_parts_of ["stretches"] (sp_parts_of K) := by
  refine OB.Fun.fg T.F_parts_of sc_parts_of (fun vs H Q E h => h.1) (fun cdv A out s H vs Q E g h => ?_)
  obtain ⟨_, F, G, p, ss, rfl, S, hd, ok, hn, k⟩ := h
  refine ⟨_, (pss_cons (ps_expr (pe_cg (ok_check_stretches T) (g.mono (by decide : 5 ≤ 5)) (by rfl) T.m_check_stretches T.F_check_stretches.kp (OB.Fun.bd T.F_check_stretches (ps := ["stretches"]) (n := 1) (ks := []) (ix := [0]) (fun _ _ _ _ _ _ us ws h1 h2 => match us, ws, h1, h2 with | [_], [], _, _ => rfl)) pass0 (pa_cons (pv 0) pa_nil) pk_nil))
      (pss_one (ps_ret (pe_callB (toK (r := rSum) (K := K) rfl (cr_sum rfl)) (by rfl) T.n_sum (by decide +kernel) (pa_cons (pe_lc (own := [("stretch", 1)]) (tt := tYes) rfl sc_parts_of.nd (pi_seq (pv 0)) (blkOk_by (N := names_parts_of) (sc := defScope (top 27)) (own := [("stretch", 1)]) (by decide +kernel)) (fun _ _ _ _ _ => (pg_name (i := 1) sc_parts_of.nd rfl (by first | exact Or.inl rfl | exact Or.inr rfl))) (fun _ _ _ _ _ => pts_nil) (fun _ _ _ _ _ => (pe_cg (ok_stretch_parts T) (g.mono (by decide : 1 ≤ 5)) (by rfl) T.m_stretch_parts T.F_stretch_parts.kp (OB.Fun.bd T.F_stretch_parts (ps := ["stretch"]) (n := 1) (ks := []) (ix := [0]) (fun _ _ _ _ _ _ us ws h1 h2 => match us, ws, h1, h2 with | [_], [], _, _ => rfl)) pass0 (pa_cons (pv 1) pa_nil) pk_nil))) pa_nil))))), ?_⟩
  refine g_start (σ := [some _, none]) rfl ?_
  obtain ⟨a, xs, e, S1⟩ := S.opn hd (enc_imm ss)
  cases e
  have hlen : xs.length = ss.length := by rw [dps_length (S1.dps 1 rfl), List.length_map]
  repeat walk_at "ob"
  refine use_check (S1.add (.dat [.ref p] [encs ss]) ⟨dps_one hd, by show (imm (.tuple (ss.map enc)) && true) = true; rw [Bool.and_true]; exact enc_imm ss⟩) hd ok hn fun H1 S2 => ?_
  repeat walk_at "ob"
  refine g_lcS (a := p) (xs := xs) false (fun i F' ds => F' = F ∧ ds = (ss.take i).map fun s => .int (parts s)) S2 (fun Q' q => by walk_at "ob"; exact q) ⟨rfl, rfl⟩ (fun i F' ds H' _ S3 => S3.tqs 1 rfl) (fun i F' ds hi => by
    rw [hi.2, List.length_map, List.length_take]; omega) ?_ ?_
  · intro i x hx Dp H2 F2 vs ds QE QR hi S3 kE kR
    obtain ⟨st, hst, hds⟩ := dps_map (S3.dps 3 rfl) hx
    obtain ⟨q, ys, rfl, _⟩ := dp_at hds
    have o := ok _ (List.mem_of_getElem? hst)
    repeat walk_at "ob"
    refine ⟨rfl, ?_⟩
    repeat walk_at "ob"
    refine kE _ (.int (parts st)) F2 H2 ⟨hi.1, ?_⟩ (S3.fact (dps_one (.int _)) rfl)
    rw [hi.2, List.take_add_one, hst]
    simp
  · intro Dp H2 F2 vs ds hD hi S3
    have hv : vs = (ss.map parts).map V.int := by
      rw [dps_scal (S3.dps 0 rfl) (by rw [hi.2]; intro d hd; obtain ⟨s, _, rfl⟩ := List.mem_map.mp hd; rfl), hi.2, hlen, List.take_length]
      simp [toV, Function.comp_def]
    repeat walk_at "ob"
    subst hv
    refine g_sum (ns := ss.map parts) (by walk_at "obl") ?_
    obtain ⟨rfl, _⟩ := hi
    exact k _ S3.less.drop.drop.drop.drop
end
end LAW

set_option Elab.async false
set_option linter.all false
set_option maxRecDepth 100000
namespace LAW
open PySem PySem.Spec PyProof.Rows L2 PySem.W OB
local macro_rules | `(tactic| walk_at "obc") => `(tactic| first
  | exact Or.inl ⟨by omega, by omega⟩
  | exact Or.inr ⟨by omega, by omega⟩
  | exact cdiv_ok (by omega) (by omega)
  | (show (0 : Int) < _; omega)
  | exact ⟨by omega, by decide⟩
  | exact ⟨by decide, by decide⟩)
local macro_rules | `(tactic| walk_at "obat") => `(tactic| first
  | exact Sy.at (by assumption) 0 rfl | exact Sy.at (by assumption) 1 rfl | exact Sy.at (by assumption) 2 rfl | exact Sy.at (by assumption) 3 rfl
  | exact Sy.at (by assumption) 4 rfl | exact Sy.at (by assumption) 5 rfl | exact Sy.at (by assumption) 6 rfl | exact Sy.at (by assumption) _ (by assumption) | exact Sy.at (by assumption) (_ + 1) (by assumption) | exact Sy.at (by assumption) (_ + 2) (by assumption))
local macro_rules | `(tactic| walk_at "obt") => `(tactic| first
  | exact Sy.tqs (by assumption) 0 rfl | exact Sy.tqs (by assumption) 1 rfl | exact Sy.tqs (by assumption) 2 rfl | exact Sy.tqs (by assumption) 3 rfl | exact Sy.tqs (by assumption) 4 rfl | exact Sy.tqs (by assumption) 5 rfl
  | exact Sy.tqs (by assumption) 6 rfl | exact Sy.tqs (by assumption) 7 rfl | assumption)
local macro_rules | `(tactic| walk_at "obl") => `(tactic| first
  | exact SqL.of (by walk_at "obat")
  | exact Sy.sq (by assumption) 0 rfl | exact Sy.sq (by assumption) 1 rfl | exact Sy.sq (by assumption) 2 rfl | exact Sy.sq (by assumption) 3 rfl | exact Sy.sq (by assumption) _ (by assumption))
local macro_rules | `(tactic| walk_at "obd") => `(tactic| first
  | exact Dp.int _ | exact Dp.bl _ | exact Dp.str _ | exact Dp.non
  | exact Sy.dp (by assumption) 0 rfl | exact Sy.dp (by assumption) 1 rfl | exact Sy.dp (by assumption) 2 rfl | exact Sy.dp (by assumption) 3 rfl
  | exact Sy.dp (by assumption) 4 rfl | exact Sy.dp (by assumption) 5 rfl | exact Sy.dp (by assumption) 6 rfl | exact Sy.dp (by assumption) 7 rfl
  | exact Sy.dp (by assumption) 8 rfl | exact Sy.dp (by assumption) 9 rfl | exact Sy.dp (by assumption) _ (by assumption) | assumption)
local macro_rules | `(tactic| walk_at "obds") => `(tactic| first
  | exact DpAll.nil
  | (refine' DpAll.cons ?ob1 ?ob2; (case ob1 => walk_at "obd"); (case ob2 => walk_at "obds"))
  | exact Sy.dps (by assumption) 0 rfl | exact Sy.dps (by assumption) 1 rfl | exact Sy.dps (by assumption) 2 rfl | exact Sy.dps (by assumption) 3 rfl | assumption)
local macro_rules | `(tactic| walk_at "obsc") => `(tactic| first
  | exact ScL.nil
  | ((first | refine' ScL.int ?obz | refine' ScL.str ?obz | refine' ScL.bl ?obz | refine' ScL.non ?obz); (case obz => walk_at "obsc")))
local macro_rules | `(tactic| walk_at "ob1") => `(tactic| first
  | ((with_reducible refine' g_var ?obh ?_); (case obh => rfl))
  | with_reducible refine g_c ?_
  | with_reducible refine g_nx ?_
  | with_reducible refine g_rt ?_
  | with_reducible refine g_bk ?_
  | with_reducible refine g_ct ?_
  | with_reducible refine g_op ?_
  | with_reducible refine g_I0 ?_
  | with_reducible refine g_test ?_
  | with_reducible refine g_bl ?_
  | with_reducible refine g_blx ?_
  | with_reducible refine g_B ?_
  | with_reducible refine g_seq ?_
  | with_reducible refine g_asg ?_
  | with_reducible refine g_name ?_
  | with_reducible refine g_ifS ?_
  | with_reducible refine g_ret ?_
  | with_reducible refine g_cb ?_
  | with_reducible refine g_cons ?_
  | with_reducible refine g_nil ?_
  | with_reducible refine g_int ?_
  | with_reducible refine g_intB ?_
  | with_reducible refine g_abs ?_
  | with_reducible refine g_max ?_
  | with_reducible refine g_min ?_
  | with_reducible refine g_un ?_
  | with_reducible refine g_U ?_
  | with_reducible refine g_eqI ?_
  | with_reducible refine g_neI ?_
  | with_reducible refine g_eqS ?_
  | with_reducible refine g_neS ?_
  | with_reducible refine g_tt ?_
  | with_reducible refine g_ff ?_
  | with_reducible refine g_next ?_
  | with_reducible refine g_drop ?_
  | with_reducible refine g_if ?_
  | with_reducible refine g_andV ?_
  | with_reducible refine g_orV ?_
  | with_reducible refine g_notV ?_
  | with_reducible refine g_and ?_
  | with_reducible refine g_or ?_
  | with_reducible refine g_not ?_
  | with_reducible refine g_yes ?_
  | with_reducible refine g_chain ?_
  | with_reducible refine g_cg ?_
  | with_reducible refine g_mg ?_
  | with_reducible refine g_kg ?_
  | with_reducible refine g_pg ?_
  | ((with_reducible refine' g_call ?obh ?obj ?_); (case obh => rfl); (case obj => rfl))
  | with_reducible refine g_par ?_
  | with_reducible refine g_par2 ?_
  | with_reducible refine g_par3 ?_
  | with_reducible refine g_par33 ?_
  | with_reducible refine g_gnil ?_
  | with_reducible refine g_gcons ?_
  | with_reducible refine g_gsub ?_
  | with_reducible refine g_ipI ?_
  | with_reducible refine g_rAdd ?_
  | with_reducible refine g_rSub ?_
  | ((with_reducible refine' g_aug ?obh ?_); (case obh => rfl))
  | with_reducible refine g_tup ?_
  | with_reducible refine g_lst ?_
  | with_reducible refine g_bm ?_
  | with_reducible refine g_bm0 ?_
  | with_reducible refine g_sl ?_
  | with_reducible refine g_nopart ?_
  | with_reducible refine g_part ?_
  | with_reducible refine g_pint ?_
  | with_reducible refine isi_int ?_
  | with_reducible refine isi_intB ?_
  | ((with_reducible refine' g_I ?obh ?_); (case obh => walk_at "obc"))
  | ((with_reducible refine' g_tyl ?obh ?_); (case obh => walk_at "obl"))
  | ((with_reducible refine' g_lenL ?obh ?_); (case obh => walk_at "obl"))
  | with_reducible refine g_ne ?_
  | ((with_reducible refine' g_neN' ?obh ?_); (case obh => rfl))
  | with_reducible refine g_ntt ?_
  | with_reducible refine g_nff ?_
  | with_reducible refine g_star ?_
  | with_reducible refine g_att ?_
  | with_reducible refine g_sfld ?_
  | with_reducible refine g_faug ?_
  | with_reducible refine g_fld ?_
  | ((with_reducible refine' g_nF ?obh ?_); (case obh => omega))
  | ((with_reducible refine' g_nT ?obh ?_); (case obh => omega))
  | ((with_reducible refine' g_TD ?obh ?_); (case obh => omega))
  | ((with_reducible refine' g_FD ?obh ?_); (case obh => omega))
  | ((with_reducible refine' g_ixUL ?obh ?obi ?_); (case obh => walk_at "obl"); (case obi => exact atI_nn (by omega) (by rfl)))
  | ((with_reducible refine' g_setLS ?obs ?obh ?obi ?_); (case obs => assumption); (case obh => assumption); (case obi => rfl); intro _ _ _)
  | ((with_reducible refine' g_newT ?obs ?obh ?obi ?obj ?_); (case obs => assumption); (case obh => walk_at "obds"); (case obi => rfl); (case obj => exact Nat.le_of_ble_eq_true rfl); intro _ _ _ _)
  | ((with_reducible refine' g_newL ?obs ?obj ?_); (case obs => assumption); (case obj => exact Nat.le_of_ble_eq_true rfl); intro _ _ _ _)
  | ((with_reducible refine' isi_tup ?obh ?_); (case obh => walk_at "obt"))
  | ((with_reducible refine' g_lenT ?obh ?_); (case obh => walk_at "obt"))
  | ((with_reducible refine' g_unpT ?obh ?obi ?_); (case obh => walk_at "obt"); (case obi => rfl))
  | ((with_reducible refine' g_divmod ?obs ?obh ?_); (case obs => assumption); (case obh => exact cdivp_ok (by omega) (by omega) (by omega)); intro _ _ _ _)
  | ((with_reducible refine' g_unpD ?obh ?obi ?obj ?_); (case obh => walk_at "obd"); (case obi => walk_at "obsc"); (case obj => rfl))
  | with_reducible refine g_att ?_)
local macro_rules | `(tactic| walk_at "ob") => `(tactic| first
  | walk_at "ob1"
  | refine use_is_integer ?_
  | refine use_is_within ?_
  | refine use_balance ?_
  | refine use_rate ?_
  | refine use_year (by assumption) ?_
  | refine use_unit ?_
  | refine use_rest (by omega) (by omega) ?_
  | refine use_parts (by walk_at "obd") (by assumption) ?_
  | refine use_is_stretch (by walk_at "obd") (by assumption) ?_
  | refine g_unpT (sqt_enc (by walk_at "obd")) rfl ?_)
section
variable {P : Program} {w : World} {K : Frag} {mg : Str → Option Value} {base : Heap}
theorem use_parts_of {F : List (Addr × HO)} {G : List Ft} {H : Hp} {Q : VK} {E : XK} {p : Addr} {ss : List Str4} (S : Sy K F G H) (hd : Dp K H (.ref p) (encs ss)) (ok : ∀ s ∈ ss, Ok4 s) (hn : ss.length ≤ 1000) (k : ∀ H', Sy K F G H' → Q (.int (sumP ss)) H') : sp_parts_of K [.ref p] H Q E :=
  ⟨rfl, F, G, p, ss, rfl, S, hd, ok, hn, k⟩
theorem parts_nn {s : Str4} (o : Ok4 s) : 0 ≤ parts s := by
  obtain ⟨d0, d1, b0, b1, r0, r1, y0⟩ := o
  unfold parts
  have h1 : 0 ≤ (if s.b > 0 then s.b else 0) := by split <;> omega
  exact Int.mul_nonneg (Int.mul_nonneg (Int.mul_nonneg (by omega) h1) r0) (by omega)
theorem sum_nn : ∀ {ns : List Int}, (∀ n ∈ ns, 0 ≤ n) → 0 ≤ ns.sum
  | [], _ => Int.le_refl _
  | n :: ns, h => by
    rw [List.sum_cons]
    have h1 := h n (List.mem_cons_self ..)
    have h2 := sum_nn (ns := ns) fun m hm => h m (List.mem_cons_of_mem _ hm)
    omega
theorem sumP_nn {ss : List Str4} (ok : ∀ s ∈ ss, Ok4 s) : 0 ≤ sumP ss := sum_nn fun n hn => by
  obtain ⟨s, hs, rfl⟩ := List.mem_map.mp hn
  exact parts_nn (ok s hs)
/-- the divisor of parts and a unit -/
def gU (a : Int) : Nat := Nat.gcd a.toNat 133590000000
theorem gU_pos (a : Int) : 0 < gU a := Nat.gcd_pos_of_pos_right _ (by decide)
theorem gU_le (a : Int) : gU a ≤ 133590000000 := Nat.gcd_le_right _ (by decide)
def lowest (a : Int) : PyData := .tuple [.int (a / gU a), .int (133590000000 / gU a)]
/-- one turn of the divisor's loop -/
def GcdI (g m n : Nat) : Prop := Nat.gcd m n = g ∧ n ≤ 133590000000
theorem gcd_turn {g m n : Nat} (h : GcdI g m n) (h0 : 0 < n) : GcdI g n (m % n) ∧ m % n < n := by
  refine ⟨⟨?_, ?_⟩, Nat.mod_lt _ h0⟩
  · rw [← h.1, Nat.gcd_comm m n, Nat.gcd_rec n m, Nat.gcd_comm]
  · have := Nat.mod_lt m h0
    have := h.2
    omega
theorem gcd_end {g m n : Nat} (h : GcdI g m n) (h0 : ¬ (0 < (n : Int))) : g = m := by
  have e : n = 0 := by omega
  subst e
  rw [← h.1, Nat.gcd_zero_right]
def sp_true_interest (K : Frag) : Sp := fun vs H Q E => vs.length = 1 ∧ ∃ (F : List (Addr × HO)) (G : List Ft) (p : Addr) (ss : List Str4), vs = [.ref p] ∧ Sy K F G H ∧ Dp K H (.ref p) (encs ss) ∧ (∀ s ∈ ss, Ok4 s) ∧ ss.length ≤ 1000 ∧
  ∀ q H', Sy K F (.dat [.ref q] [lowest (sumP ss)] :: G) H' → Q (.ref q) H'
abbrev names_true_interest : List Str := ["stretches", "parts", "one", "other"]
theorem sc_true_interest : FnScope names_true_interest ["stretches"] (defScope (top 28)) := ⟨rfl, rfl, rfl, by decide +kernel, rfl, by decide +kernel, by decide +kernel⟩
set_option maxHeartbeats 4000000 in
theorem ok_true_interest (T : Tx K mg) : FG P w K mg base CX0 7 T.a_true_interest T.d_true_interest ["stretches"] (sp_true_interest K) := by
  refine OB.Fun.fg T.F_true_interest sc_true_interest (fun vs H Q E h => h.1) (fun cdv A out s H vs Q E g h => ?_)
  obtain ⟨_, F, G, p, ss, rfl, S, hd, ok, hn, k⟩ := h
  refine ⟨_, (pss_cons (ps_set (i := 1) sc_true_interest.nd rfl (by first | exact Or.inl rfl | exact Or.inr rfl) (pe_cg (ok_parts_of T) (g.mono (by decide : 6 ≤ 6)) (by rfl) T.m_parts_of T.F_parts_of.kp (OB.Fun.bd T.F_parts_of (ps := ["stretches"]) (n := 1) (ks := []) (ix := [0]) (fun _ _ _ _ _ _ us ws h1 h2 => match us, ws, h1, h2 with | [_], [], _, _ => rfl)) pass0 (pa_cons (pv 0) pa_nil) pk_nil))
      (pss_cons (ps_par (i := 2) (j := 3) rfl sc_true_interest.nd rfl rfl (by decide) rfl rfl (pa_cons (pv 1) (pa_cons (pe_glob (v := .int 133590000000) (by rfl) T.g_PARTS ⟨_, rfl⟩) pa_nil)) (by rfl))
      (pss_cons (ps_while PassesOwn.never (pt_cmpR op_gt (pv 3) pe_int (nomark _))
      (pss_one (ps_par (i := 2) (j := 3) rfl sc_true_interest.nd rfl rfl (by decide) rfl rfl (pa_cons (pv 3) (pa_cons (pe_op op_mod (pv 2) (pv 3)) pa_nil)) (by rfl))))
      (pss_one (ps_ret (pe_tup (pa_cons (pe_op op_fdivW (pv 1) (pv 2)) (pa_cons (pe_op op_fdivW (pe_glob (v := .int 133590000000) (by rfl) T.g_PARTS ⟨_, rfl⟩) (pv 2)) pa_nil)))))))), ?_⟩
  refine g_start (σ := [some _, none, none, none]) rfl ?_
  repeat walk_at "ob"
  refine use_parts_of S hd ok hn fun H1 S1 => ?_
  repeat walk_at "ob"
  refine g_while (fun n σ' H' => ∃ m : Nat, GcdI (gU (sumP ss)) m n ∧ σ' = [some (.ref p), some (.int (sumP ss)), some (.int m), some (.int n)] ∧ Sy K F G H') 133590000000 ?_ ?_ ?_
  · refine ⟨(sumP ss).toNat, ⟨rfl, Nat.le_refl _⟩, ?_, S1⟩
    rw [Int.toNat_of_nonneg (sumP_nn ok)]
    rfl
  · rintro n σ' H' ⟨m, hg, rfl, S2⟩
    repeat walk_at "ob"
    refine g_iteD (fun h1 => ?_) (fun h1 => ?_)
    · repeat walk_at "ob"
      obtain ⟨g1, g2⟩ := gcd_turn hg (by omega)
      exact ⟨m % n, g2, n, g1, by rw [Int.natCast_emod]; rfl, S2⟩
    · repeat walk_at "ob"
      have e := gcd_end hg h1
      subst e
      have g1 := gU_pos (sumP ss)
      have g2 := gU_le (sumP ss)
      repeat walk_at "ob"
      refine k _ _ ?_
      assumption
  · rintro σ' H' Q1 Q2 hq ⟨v, h, a, b, ea, eb, k, ek, q⟩
    exact ⟨v, h, a, b, ea, eb, k, ek, hq _ _ q⟩
end
end LAW

set_option Elab.async false
set_option linter.all false
set_option maxRecDepth 100000
namespace LAW
open PySem PySem.Spec PyProof.Rows L2 PySem.W OB
local macro_rules | `(tactic| walk_at "obc") => `(tactic| first
  | exact Or.inl ⟨by omega, by omega⟩
  | exact Or.inr ⟨by omega, by omega⟩
  | exact cdiv_ok (by omega) (by omega)
  | (show (0 : Int) < _; omega)
  | exact ⟨by omega, by decide⟩
  | exact ⟨by decide, by decide⟩)
local macro_rules | `(tactic| walk_at "obat") => `(tactic| first
  | exact Sy.at (by assumption) 0 rfl | exact Sy.at (by assumption) 1 rfl | exact Sy.at (by assumption) 2 rfl | exact Sy.at (by assumption) 3 rfl
  | exact Sy.at (by assumption) 4 rfl | exact Sy.at (by assumption) 5 rfl | exact Sy.at (by assumption) 6 rfl | exact Sy.at (by assumption) _ (by assumption) | exact Sy.at (by assumption) (_ + 1) (by assumption) | exact Sy.at (by assumption) (_ + 2) (by assumption))
local macro_rules | `(tactic| walk_at "obt") => `(tactic| first
  | exact Sy.tqs (by assumption) 0 rfl | exact Sy.tqs (by assumption) 1 rfl | exact Sy.tqs (by assumption) 2 rfl | exact Sy.tqs (by assumption) 3 rfl | exact Sy.tqs (by assumption) 4 rfl | exact Sy.tqs (by assumption) 5 rfl
  | exact Sy.tqs (by assumption) 6 rfl | exact Sy.tqs (by assumption) 7 rfl | assumption)
local macro_rules | `(tactic| walk_at "obl") => `(tactic| first
  | exact SqL.of (by walk_at "obat")
  | exact Sy.sq (by assumption) 0 rfl | exact Sy.sq (by assumption) 1 rfl | exact Sy.sq (by assumption) 2 rfl | exact Sy.sq (by assumption) 3 rfl | exact Sy.sq (by assumption) _ (by assumption))
local macro_rules | `(tactic| walk_at "obd") => `(tactic| first
  | exact Dp.int _ | exact Dp.bl _ | exact Dp.str _ | exact Dp.non
  | exact Sy.dp (by assumption) 0 rfl | exact Sy.dp (by assumption) 1 rfl | exact Sy.dp (by assumption) 2 rfl | exact Sy.dp (by assumption) 3 rfl
  | exact Sy.dp (by assumption) 4 rfl | exact Sy.dp (by assumption) 5 rfl | exact Sy.dp (by assumption) 6 rfl | exact Sy.dp (by assumption) 7 rfl
  | exact Sy.dp (by assumption) 8 rfl | exact Sy.dp (by assumption) 9 rfl | exact Sy.dp (by assumption) _ (by assumption) | assumption)
local macro_rules | `(tactic| walk_at "obds") => `(tactic| first
  | exact DpAll.nil
  | (refine' DpAll.cons ?ob1 ?ob2; (case ob1 => walk_at "obd"); (case ob2 => walk_at "obds"))
  | exact Sy.dps (by assumption) 0 rfl | exact Sy.dps (by assumption) 1 rfl | exact Sy.dps (by assumption) 2 rfl | exact Sy.dps (by assumption) 3 rfl | assumption)
local macro_rules | `(tactic| walk_at "obsc") => `(tactic| first
  | exact ScL.nil
  | ((first | refine' ScL.int ?obz | refine' ScL.str ?obz | refine' ScL.bl ?obz | refine' ScL.non ?obz); (case obz => walk_at "obsc")))
local macro_rules | `(tactic| walk_at "ob1") => `(tactic| first
  | ((with_reducible refine' g_var ?obh ?_); (case obh => rfl))
  | with_reducible refine g_c ?_
  | with_reducible refine g_nx ?_
  | with_reducible refine g_rt ?_
  | with_reducible refine g_bk ?_
  | with_reducible refine g_ct ?_
  | with_reducible refine g_op ?_
  | with_reducible refine g_I0 ?_
  | with_reducible refine g_test ?_
  | with_reducible refine g_bl ?_
  | with_reducible refine g_blx ?_
  | with_reducible refine g_B ?_
  | with_reducible refine g_seq ?_
  | with_reducible refine g_asg ?_
  | with_reducible refine g_name ?_
  | with_reducible refine g_ifS ?_
  | with_reducible refine g_ret ?_
  | with_reducible refine g_cb ?_
  | with_reducible refine g_cons ?_
  | with_reducible refine g_nil ?_
  | with_reducible refine g_int ?_
  | with_reducible refine g_intB ?_
  | with_reducible refine g_abs ?_
  | with_reducible refine g_max ?_
  | with_reducible refine g_min ?_
  | with_reducible refine g_un ?_
  | with_reducible refine g_U ?_
  | with_reducible refine g_eqI ?_
  | with_reducible refine g_neI ?_
  | with_reducible refine g_eqS ?_
  | with_reducible refine g_neS ?_
  | with_reducible refine g_tt ?_
  | with_reducible refine g_ff ?_
  | with_reducible refine g_next ?_
  | with_reducible refine g_drop ?_
  | with_reducible refine g_if ?_
  | with_reducible refine g_andV ?_
  | with_reducible refine g_orV ?_
  | with_reducible refine g_notV ?_
  | with_reducible refine g_and ?_
  | with_reducible refine g_or ?_
  | with_reducible refine g_not ?_
  | with_reducible refine g_yes ?_
  | with_reducible refine g_chain ?_
  | with_reducible refine g_cg ?_
  | with_reducible refine g_mg ?_
  | with_reducible refine g_kg ?_
  | with_reducible refine g_pg ?_
  | ((with_reducible refine' g_call ?obh ?obj ?_); (case obh => rfl); (case obj => rfl))
  | with_reducible refine g_par ?_
  | with_reducible refine g_par2 ?_
  | with_reducible refine g_par3 ?_
  | with_reducible refine g_par33 ?_
  | with_reducible refine g_gnil ?_
  | with_reducible refine g_gcons ?_
  | with_reducible refine g_gsub ?_
  | with_reducible refine g_ipI ?_
  | with_reducible refine g_rAdd ?_
  | with_reducible refine g_rSub ?_
  | ((with_reducible refine' g_aug ?obh ?_); (case obh => rfl))
  | with_reducible refine g_tup ?_
  | with_reducible refine g_lst ?_
  | with_reducible refine g_bm ?_
  | with_reducible refine g_bm0 ?_
  | with_reducible refine g_sl ?_
  | with_reducible refine g_nopart ?_
  | with_reducible refine g_part ?_
  | with_reducible refine g_pint ?_
  | with_reducible refine isi_int ?_
  | with_reducible refine isi_intB ?_
  | ((with_reducible refine' g_I ?obh ?_); (case obh => walk_at "obc"))
  | ((with_reducible refine' g_tyl ?obh ?_); (case obh => walk_at "obl"))
  | ((with_reducible refine' g_lenL ?obh ?_); (case obh => walk_at "obl"))
  | with_reducible refine g_ne ?_
  | ((with_reducible refine' g_neN' ?obh ?_); (case obh => rfl))
  | with_reducible refine g_ntt ?_
  | with_reducible refine g_nff ?_
  | with_reducible refine g_star ?_
  | with_reducible refine g_att ?_
  | with_reducible refine g_sfld ?_
  | with_reducible refine g_faug ?_
  | with_reducible refine g_fld ?_
  | ((with_reducible refine' g_nF ?obh ?_); (case obh => omega))
  | ((with_reducible refine' g_nT ?obh ?_); (case obh => omega))
  | ((with_reducible refine' g_TD ?obh ?_); (case obh => omega))
  | ((with_reducible refine' g_FD ?obh ?_); (case obh => omega))
  | ((with_reducible refine' g_ixUL ?obh ?obi ?_); (case obh => walk_at "obl"); (case obi => exact atI_nn (by omega) (by rfl)))
  | ((with_reducible refine' g_setLS ?obs ?obh ?obi ?_); (case obs => assumption); (case obh => assumption); (case obi => rfl); intro _ _ _)
  | ((with_reducible refine' g_newT ?obs ?obh ?obi ?obj ?_); (case obs => assumption); (case obh => walk_at "obds"); (case obi => rfl); (case obj => exact Nat.le_of_ble_eq_true rfl); intro _ _ _ _)
  | ((with_reducible refine' g_newL ?obs ?obj ?_); (case obs => assumption); (case obj => exact Nat.le_of_ble_eq_true rfl); intro _ _ _ _)
  | ((with_reducible refine' isi_tup ?obh ?_); (case obh => walk_at "obt"))
  | ((with_reducible refine' g_lenT ?obh ?_); (case obh => walk_at "obt"))
  | ((with_reducible refine' g_unpT ?obh ?obi ?_); (case obh => walk_at "obt"); (case obi => rfl))
  | ((with_reducible refine' g_divmod ?obs ?obh ?_); (case obs => assumption); (case obh => exact cdivp_ok (by omega) (by omega) (by omega)); intro _ _ _ _)
  | ((with_reducible refine' g_unpD ?obh ?obi ?obj ?_); (case obh => walk_at "obd"); (case obi => walk_at "obsc"); (case obj => rfl))
  | with_reducible refine g_att ?_)
section
variable {P : Program} {w : World} {K : Frag} {mg : Str → Option Value} {base : Heap}
/-! ### accruals -/
structure AccC (K : Frag) (C : Addr) : Prop where
  c : Cls K C
  n1 : NoAttr K C "own_rest"
  n2 : NoAttr K C "own_paid"
  n3 : NoAttr K C "own_days"
theorem Tx.acc {K : Frag} {mg : Str → Option Value} (T : Tx K mg) : AccC K T.a_Accrual := ⟨T.c_Accrual, T.na_Accrual_own_rest, T.na_Accrual_own_paid, T.na_Accrual_own_days⟩
def accF (r p d : Int) : List (Str × V) := [("own_rest", .int r), ("own_paid", .int p), ("own_days", .int d)]
def accO (C dx : Addr) (r p d : Int) : HO := .ins C dx (accF r p d)
theorem acc_r (r p d x : Int) : putF "own_rest" (.int x) (accF r p d) = accF x p d := rfl
theorem acc_p (r p d x : Int) : putF "own_paid" (.int x) (accF r p d) = accF r x d := rfl
theorem acc_d (r p d x : Int) : putF "own_days" (.int x) (accF r p d) = accF r p x := rfl
local macro_rules | `(tactic| walk_at "obat19") => `(tactic| first | assumption | walk_at "obat")
local macro_rules | `(tactic| walk_at "ob") => `(tactic| first
  | walk_at "ob1"
  | refine use_is_integer ?_
  | refine use_is_within ?_
  | refine use_balance ?_
  | refine use_rate ?_
  | refine use_year (by assumption) ?_
  | refine use_unit ?_
  | refine use_rest (by omega) (by omega) ?_
  | refine use_parts (by walk_at "obd") (by assumption) ?_
  | refine use_is_stretch (by walk_at "obd") (by assumption) ?_
  | refine g_unpT (sqt_enc (by walk_at "obd")) rfl ?_
  | ((with_reducible refine' g_fldS ?obh ?obc ?obn ?obe ?_); (case obh => walk_at "obat19"); (case obc => exact AccC.c (by assumption)); (case obn => first | exact AccC.n1 (by assumption) | exact AccC.n2 (by assumption) | exact AccC.n3 (by assumption)); (case obe => rfl))
  | ((with_reducible refine' g_attS ?obs ?obh ?obc ?obn ?obl ?_); (case obs => assumption); (case obh => assumption); (case obc => exact AccC.c (by assumption)); (case obn => first | exact AccC.n1 (by assumption) | exact AccC.n2 (by assumption) | exact AccC.n3 (by assumption)); (case obl => exact Nat.le_of_ble_eq_true rfl); intro _ _ _)
  | ((with_reducible refine' g_augS ?obh ?obc ?obn ?obe ?_); (case obh => walk_at "obat19"); (case obc => exact AccC.c (by assumption)); (case obn => first | exact AccC.n1 (by assumption) | exact AccC.n2 (by assumption) | exact AccC.n3 (by assumption)); (case obe => rfl))
  | ((with_reducible refine' g_augE ?obs ?obh ?obl ?_); (case obs => assumption); (case obh => assumption); (case obl => exact Nat.le_of_ble_eq_true rfl); intro _ _ _)
  | ((with_reducible refine' g_ixUT ?obh ?obi ?_); (case obh => first | exact sqt_enc (by walk_at "obd") | walk_at "obt"); (case obi => rfl)))
def sp_Accrual___init__ (K : Frag) : Sp := fun vs H Q E => vs.length = 2 ∧ ∃ (F : List (Addr × HO)) (G : List Ft) (i : Nat) (p C dx : Addr) (r : Int), vs = [.ref p, .int r] ∧ Sy K F G H ∧ F[i]? = some (p, .ins C dx []) ∧ AccC K C ∧ 0 ≤ r ∧ r ≤ 133589999999 ∧
  ∀ H', Sy K (F.set i (p, accO C dx r 0 0)) G H' → Q .non H'
abbrev names_Accrual___init__ : List Str := ["self", "rest"]
theorem sc_Accrual___init__ : FnScope names_Accrual___init__ ["self", "rest"] (defScope (inClass (top 29) 0)) := ⟨rfl, rfl, rfl, by decide +kernel, rfl, by decide +kernel, by decide +kernel⟩
set_option maxHeartbeats 4000000 in
theorem ok_Accrual___init__ (T : Tx K mg) : FG P w K mg base CX0 4 T.a_Accrual___init__ T.d_Accrual___init__ ["self", "rest"] (sp_Accrual___init__ K) := by
  refine OB.Fun.fg T.F_Accrual___init__ sc_Accrual___init__ (fun vs H Q E h => h.1) (fun cdv A out s H vs Q E g h => ?_)
  obtain ⟨_, F, G, i, p, C, dx, r, rfl, S, hF, A, h1, h2, k⟩ := h
  refine ⟨_, (pss_cons (ps_expr (pe_cg (ok_check_rest T) (g.mono (by decide : 3 ≤ 3)) (by rfl) T.m_check_rest T.F_check_rest.kp (OB.Fun.bd T.F_check_rest (ps := ["rest"]) (n := 1) (ks := []) (ix := [0]) (fun _ _ _ _ _ _ us ws h1 h2 => match us, ws, h1, h2 with | [_], [], _, _ => rfl)) pass0 (pa_cons (pv 1) pa_nil) pk_nil))
      (pss_one (ps_asg (pe_tup (pa_cons (pv 1) (pa_cons pe_int (pa_cons pe_int pa_nil)))) (pg_tupK (K := K) rfl (n := 3) rfl (pgs_cons (pg_att (pv 0)) (pgs_cons (pg_att (pv 0)) (pgs_cons (pg_att (pv 0)) pgs_nil))))))), ?_⟩
  refine g_start (σ := [some _, some _]) rfl ?_
  repeat walk_at "ob"
  simp only [List.set_set] at *
  exact k _ (Sy.drop (by assumption))
def sp_Accrual_rest (K : Frag) : Sp := fun vs H Q E => vs.length = 1 ∧ ∃ (p C dx : Addr) (r d e : Int), vs = [.ref p] ∧ H p = some (accO C dx r d e) ∧ AccC K C ∧ Q (.int r) H
abbrev names_Accrual_rest : List Str := ["self"]
theorem sc_Accrual_rest : FnScope names_Accrual_rest ["self"] (defScope (inClass (top 29) 1)) := ⟨rfl, rfl, rfl, by decide +kernel, rfl, by decide +kernel, by decide +kernel⟩
set_option maxHeartbeats 4000000 in
theorem ok_Accrual_rest (T : Tx K mg) : FG P w K mg base CX0 1 T.a_Accrual_rest T.d_Accrual_rest ["self"] (sp_Accrual_rest K) := by
  refine OB.Fun.fg T.F_Accrual_rest sc_Accrual_rest (fun vs H Q E h => h.1) (fun cdv A out s H vs Q E g h => ?_)
  obtain ⟨_, p, C, dx, r, d, e, rfl, hp, A, k⟩ := h
  refine ⟨_, (pss_one (ps_ret (pe_fld (pv 0) rfl))), ?_⟩
  refine g_start (σ := [some _]) rfl ?_
  repeat walk_at "ob"
  exact k
def sp_Accrual_paid (K : Frag) : Sp := fun vs H Q E => vs.length = 1 ∧ ∃ (p C dx : Addr) (r d e : Int), vs = [.ref p] ∧ H p = some (accO C dx r d e) ∧ AccC K C ∧ Q (.int d) H
abbrev names_Accrual_paid : List Str := ["self"]
theorem sc_Accrual_paid : FnScope names_Accrual_paid ["self"] (defScope (inClass (top 29) 2)) := ⟨rfl, rfl, rfl, by decide +kernel, rfl, by decide +kernel, by decide +kernel⟩
set_option maxHeartbeats 4000000 in
theorem ok_Accrual_paid (T : Tx K mg) : FG P w K mg base CX0 1 T.a_Accrual_paid T.d_Accrual_paid ["self"] (sp_Accrual_paid K) := by
  refine OB.Fun.fg T.F_Accrual_paid sc_Accrual_paid (fun vs H Q E h => h.1) (fun cdv A out s H vs Q E g h => ?_)
  obtain ⟨_, p, C, dx, r, d, e, rfl, hp, A, k⟩ := h
  refine ⟨_, (pss_one (ps_ret (pe_fld (pv 0) rfl))), ?_⟩
  refine g_start (σ := [some _]) rfl ?_
  repeat walk_at "ob"
  exact k
def sp_Accrual_days (K : Frag) : Sp := fun vs H Q E => vs.length = 1 ∧ ∃ (p C dx : Addr) (r d e : Int), vs = [.ref p] ∧ H p = some (accO C dx r d e) ∧ AccC K C ∧ Q (.int e) H
abbrev names_Accrual_days : List Str := ["self"]
theorem sc_Accrual_days : FnScope names_Accrual_days ["self"] (defScope (inClass (top 29) 3)) := ⟨rfl, rfl, rfl, by decide +kernel, rfl, by decide +kernel, by decide +kernel⟩
set_option maxHeartbeats 4000000 in
theorem ok_Accrual_days (T : Tx K mg) : FG P w K mg base CX0 1 T.a_Accrual_days T.d_Accrual_days ["self"] (sp_Accrual_days K) := by
  refine OB.Fun.fg T.F_Accrual_days sc_Accrual_days (fun vs H Q E h => h.1) (fun cdv A out s H vs Q E g h => ?_)
  obtain ⟨_, p, C, dx, r, d, e, rfl, hp, A, k⟩ := h
  refine ⟨_, (pss_one (ps_ret (pe_fld (pv 0) rfl))), ?_⟩
  refine g_start (σ := [some _]) rfl ?_
  repeat walk_at "ob"
  exact k
theorem parts_le {s : Str4} (o : Ok4 s) : parts s ≤ 36600000000000000000000000 := by
  obtain ⟨d0, d1, b0, b1, r0, r1, y0⟩ := o
  unfold parts
  have h0 : 0 ≤ (if s.b > 0 then s.b else 0) := by split <;> omega
  have h1 : (if s.b > 0 then s.b else 0) ≤ 1000000000000 := by split <;> omega
  have a1 := Int.mul_le_mul d1 h1 h0 (by decide)
  have a2 := Int.mul_le_mul a1 r1 r0 (by decide)
  have a3 := Int.mul_le_mul a2 (show 731 - s.y ≤ 366 by omega) (by omega) (by decide)
  omega
def sp_Accrual_go_on (K : Frag) : Sp := fun vs H Q E => vs.length = 2 ∧ ∃ (F : List (Addr × HO)) (G : List Ft) (i : Nat) (p q C dx : Addr) (r d e : Int) (s : Str4), vs = [.ref p, .ref q] ∧ Sy K F G H ∧ F[i]? = some (p, accO C dx r d e) ∧ AccC K C ∧ Dp K H (.ref q) (enc s) ∧ Ok4 s ∧ 0 ≤ r ∧ r ≤ 133589999999 ∧
  ∀ H', Sy K (F.set i (p, accO C dx ((r + parts s) % 133590000000) (d + (r + parts s) / 133590000000) (e + s.d))) G H' → Q (.int ((r + parts s) / 133590000000)) H'
abbrev names_Accrual_go_on : List Str := ["self", "stretch", "units"]
theorem sc_Accrual_go_on : FnScope names_Accrual_go_on ["self", "stretch"] (defScope (inClass (top 29) 4)) := ⟨rfl, rfl, rfl, by decide +kernel, rfl, by decide +kernel, by decide +kernel⟩
set_option maxHeartbeats 4000000 in
theorem ok_Accrual_go_on (T : Tx K mg) : FG P w K mg base CX0 5 T.a_Accrual_go_on T.d_Accrual_go_on ["self", "stretch"] (sp_Accrual_go_on K) := by
  refine OB.Fun.fg T.F_Accrual_go_on sc_Accrual_go_on (fun vs H Q E h => h.1) (fun cdv A out s H vs Q E g h => ?_)
  obtain ⟨_, F, G, i, p, q, C, dx, r, d, e, st, rfl, S, hF, A, hd, ok, h1, h2, k⟩ := h
  refine ⟨_, (pss_cons (ps_if (pt_not (pt_val (pe_cg (ok_is_stretch T) (g.mono (by decide : 4 ≤ 4)) (by rfl) T.m_is_stretch T.F_is_stretch.kp (OB.Fun.bd T.F_is_stretch (ps := ["value"]) (n := 1) (ks := []) (ix := [0]) (fun _ _ _ _ _ _ us ws h1 h2 => match us, ws, h1, h2 with | [_], [], _, _ => rfl)) pass0 (pa_cons (pv 1) pa_nil) pk_nil))) (pss_one ps_never) pss_nil)
      (pss_cons (ps_asg (pe_callB c_divmod (by rfl) T.n_divmod (by decide +kernel) (pa_cons (pe_op op_add (pe_fld (pv 0) rfl) (pe_cg (ok_stretch_parts T) (g.mono (by decide : 1 ≤ 4)) (by rfl) T.m_stretch_parts T.F_stretch_parts.kp (OB.Fun.bd T.F_stretch_parts (ps := ["stretch"]) (n := 1) (ks := []) (ix := [0]) (fun _ _ _ _ _ _ us ws h1 h2 => match us, ws, h1, h2 with | [_], [], _, _ => rfl)) pass0 (pa_cons (pv 1) pa_nil) pk_nil)) (pa_cons (pe_glob (v := .int 133590000000) (by rfl) T.g_PARTS ⟨_, rfl⟩) pa_nil))) (pg_tupK (K := K) rfl (n := 2) rfl (pgs_cons (pg_name (i := 2) sc_Accrual_go_on.nd rfl (by first | exact Or.inl rfl | exact Or.inr rfl)) (pgs_cons (pg_att (pv 0)) pgs_nil))))
      (pss_cons (ps_fldaug (pv 0) (pv 2) in_add)
      (pss_cons (ps_fldaug (pv 0) (pe_ix (ix_UK (K := K) rfl) (pv 1) pe_int (fun _ _ => rfl)) in_add)
      (pss_one (ps_ret (pv 2))))))), ?_⟩
  refine g_start (σ := [some _, some _, none]) rfl ?_
  have p1 := parts_le ok
  have p0 := parts_nn ok
  have S1 := S.add (.dat [.ref q] [enc st]) ⟨dps_one hd, rfl⟩
  repeat walk_at "ob"
  simp only [List.set_set] at *
  exact k _ (Sy.drop (Sy.drop (by assumption)))
end
end LAW

set_option Elab.async false
set_option linter.all false
set_option maxRecDepth 100000
namespace LAW
open PySem PySem.Spec PyProof.Rows L2 PySem.W OB
local macro_rules | `(tactic| walk_at "obc") => `(tactic| first
  | exact Or.inl ⟨by omega, by omega⟩
  | exact Or.inr ⟨by omega, by omega⟩
  | exact cdiv_ok (by omega) (by omega)
  | (show (0 : Int) < _; omega)
  | exact ⟨by omega, by decide⟩
  | exact ⟨by decide, by decide⟩)
local macro_rules | `(tactic| walk_at "obat") => `(tactic| first
  | exact Sy.at (by assumption) 0 rfl | exact Sy.at (by assumption) 1 rfl | exact Sy.at (by assumption) 2 rfl | exact Sy.at (by assumption) 3 rfl
  | exact Sy.at (by assumption) 4 rfl | exact Sy.at (by assumption) 5 rfl | exact Sy.at (by assumption) 6 rfl | exact Sy.at (by assumption) _ (by assumption) | exact Sy.at (by assumption) (_ + 1) (by assumption) | exact Sy.at (by assumption) (_ + 2) (by assumption))
local macro_rules | `(tactic| walk_at "obt") => `(tactic| first
  | exact Sy.tqs (by assumption) 0 rfl | exact Sy.tqs (by assumption) 1 rfl | exact Sy.tqs (by assumption) 2 rfl | exact Sy.tqs (by assumption) 3 rfl | exact Sy.tqs (by assumption) 4 rfl | exact Sy.tqs (by assumption) 5 rfl
  | exact Sy.tqs (by assumption) 6 rfl | exact Sy.tqs (by assumption) 7 rfl | assumption)
local macro_rules | `(tactic| walk_at "obl") => `(tactic| first
  | exact SqL.of (by walk_at "obat")
  | exact Sy.sq (by assumption) 0 rfl | exact Sy.sq (by assumption) 1 rfl | exact Sy.sq (by assumption) 2 rfl | exact Sy.sq (by assumption) 3 rfl | exact Sy.sq (by assumption) _ (by assumption))
local macro_rules | `(tactic| walk_at "obd") => `(tactic| first
  | exact Dp.int _ | exact Dp.bl _ | exact Dp.str _ | exact Dp.non
  | exact Sy.dp (by assumption) 0 rfl | exact Sy.dp (by assumption) 1 rfl | exact Sy.dp (by assumption) 2 rfl | exact Sy.dp (by assumption) 3 rfl
  | exact Sy.dp (by assumption) 4 rfl | exact Sy.dp (by assumption) 5 rfl | exact Sy.dp (by assumption) 6 rfl | exact Sy.dp (by assumption) 7 rfl
  | exact Sy.dp (by assumption) 8 rfl | exact Sy.dp (by assumption) 9 rfl | exact Sy.dp (by assumption) _ (by assumption) | assumption)
local macro_rules | `(tactic| walk_at "obds") => `(tactic| first
  | exact DpAll.nil
  | (refine' DpAll.cons ?ob1 ?ob2; (case ob1 => walk_at "obd"); (case ob2 => walk_at "obds"))
  | exact Sy.dps (by assumption) 0 rfl | exact Sy.dps (by assumption) 1 rfl | exact Sy.dps (by assumption) 2 rfl | exact Sy.dps (by assumption) 3 rfl | assumption)
local macro_rules | `(tactic| walk_at "obsc") => `(tactic| first
  | exact ScL.nil
  | ((first | refine' ScL.int ?obz | refine' ScL.str ?obz | refine' ScL.bl ?obz | refine' ScL.non ?obz); (case obz => walk_at "obsc")))
local macro_rules | `(tactic| walk_at "ob1") => `(tactic| first
  | ((with_reducible refine' g_var ?obh ?_); (case obh => rfl))
  | with_reducible refine g_c ?_
  | with_reducible refine g_nx ?_
  | with_reducible refine g_rt ?_
  | with_reducible refine g_bk ?_
  | with_reducible refine g_ct ?_
  | with_reducible refine g_op ?_
  | with_reducible refine g_I0 ?_
  | with_reducible refine g_test ?_
  | with_reducible refine g_bl ?_
  | with_reducible refine g_blx ?_
  | with_reducible refine g_B ?_
  | with_reducible refine g_seq ?_
  | with_reducible refine g_asg ?_
  | with_reducible refine g_name ?_
  | with_reducible refine g_ifS ?_
  | with_reducible refine g_ret ?_
  | with_reducible refine g_cb ?_
  | with_reducible refine g_cons ?_
  | with_reducible refine g_nil ?_
  | with_reducible refine g_int ?_
  | with_reducible refine g_intB ?_
  | with_reducible refine g_abs ?_
  | with_reducible refine g_max ?_
  | with_reducible refine g_min ?_
  | with_reducible refine g_un ?_
  | with_reducible refine g_U ?_
  | with_reducible refine g_eqI ?_
  | with_reducible refine g_neI ?_
  | with_reducible refine g_eqS ?_
  | with_reducible refine g_neS ?_
  | with_reducible refine g_tt ?_
  | with_reducible refine g_ff ?_
  | with_reducible refine g_next ?_
  | with_reducible refine g_drop ?_
  | with_reducible refine g_if ?_
  | with_reducible refine g_andV ?_
  | with_reducible refine g_orV ?_
  | with_reducible refine g_notV ?_
  | with_reducible refine g_and ?_
  | with_reducible refine g_or ?_
  | with_reducible refine g_not ?_
  | with_reducible refine g_yes ?_
  | with_reducible refine g_chain ?_
  | with_reducible refine g_cg ?_
  | with_reducible refine g_mg ?_
  | with_reducible refine g_kg ?_
  | with_reducible refine g_pg ?_
  | ((with_reducible refine' g_call ?obh ?obj ?_); (case obh => rfl); (case obj => rfl))
  | with_reducible refine g_par ?_
  | with_reducible refine g_par2 ?_
  | with_reducible refine g_par3 ?_
  | with_reducible refine g_par33 ?_
  | with_reducible refine g_gnil ?_
  | with_reducible refine g_gcons ?_
  | with_reducible refine g_gsub ?_
  | with_reducible refine g_ipI ?_
  | with_reducible refine g_rAdd ?_
  | with_reducible refine g_rSub ?_
  | ((with_reducible refine' g_aug ?obh ?_); (case obh => rfl))
  | with_reducible refine g_tup ?_
  | with_reducible refine g_lst ?_
  | with_reducible refine g_bm ?_
  | with_reducible refine g_bm0 ?_
  | with_reducible refine g_sl ?_
  | with_reducible refine g_nopart ?_
  | with_reducible refine g_part ?_
  | with_reducible refine g_pint ?_
  | with_reducible refine isi_int ?_
  | with_reducible refine isi_intB ?_
  | ((with_reducible refine' g_I ?obh ?_); (case obh => walk_at "obc"))
  | ((with_reducible refine' g_tyl ?obh ?_); (case obh => walk_at "obl"))
  | ((with_reducible refine' g_lenL ?obh ?_); (case obh => walk_at "obl"))
  | with_reducible refine g_ne ?_
  | ((with_reducible refine' g_neN' ?obh ?_); (case obh => rfl))
  | with_reducible refine g_ntt ?_
  | with_reducible refine g_nff ?_
  | with_reducible refine g_star ?_
  | with_reducible refine g_att ?_
  | with_reducible refine g_sfld ?_
  | with_reducible refine g_faug ?_
  | with_reducible refine g_fld ?_
  | ((with_reducible refine' g_nF ?obh ?_); (case obh => omega))
  | ((with_reducible refine' g_nT ?obh ?_); (case obh => omega))
  | ((with_reducible refine' g_TD ?obh ?_); (case obh => omega))
  | ((with_reducible refine' g_FD ?obh ?_); (case obh => omega))
  | ((with_reducible refine' g_ixUL ?obh ?obi ?_); (case obh => walk_at "obl"); (case obi => exact atI_nn (by omega) (by rfl)))
  | ((with_reducible refine' g_setLS ?obs ?obh ?obi ?_); (case obs => assumption); (case obh => assumption); (case obi => rfl); intro _ _ _)
  | ((with_reducible refine' g_newT ?obs ?obh ?obi ?obj ?_); (case obs => assumption); (case obh => walk_at "obds"); (case obi => rfl); (case obj => exact Nat.le_of_ble_eq_true rfl); intro _ _ _ _)
  | ((with_reducible refine' g_newL ?obs ?obj ?_); (case obs => assumption); (case obj => exact Nat.le_of_ble_eq_true rfl); intro _ _ _ _)
  | ((with_reducible refine' isi_tup ?obh ?_); (case obh => walk_at "obt"))
  | ((with_reducible refine' g_lenT ?obh ?_); (case obh => walk_at "obt"))
  | ((with_reducible refine' g_unpT ?obh ?obi ?_); (case obh => walk_at "obt"); (case obi => rfl))
  | ((with_reducible refine' g_divmod ?obs ?obh ?_); (case obs => assumption); (case obh => exact cdivp_ok (by omega) (by omega) (by omega)); intro _ _ _ _)
  | ((with_reducible refine' g_unpD ?obh ?obi ?obj ?_); (case obh => walk_at "obd"); (case obi => walk_at "obsc"); (case obj => rfl))
  | with_reducible refine g_att ?_)
local macro_rules | `(tactic| walk_at "obat19") => `(tactic| first | assumption | walk_at "obat")
local macro_rules | `(tactic| walk_at "ob") => `(tactic| first
  | walk_at "ob1"
  | refine use_is_integer ?_
  | refine use_is_within ?_
  | refine use_balance ?_
  | refine use_rate ?_
  | refine use_year (by assumption) ?_
  | refine use_unit ?_
  | refine use_rest (by omega) (by omega) ?_
  | refine use_parts (by walk_at "obd") (by assumption) ?_
  | refine use_is_stretch (by walk_at "obd") (by assumption) ?_
  | refine g_unpT (sqt_enc (by walk_at "obd")) rfl ?_
  | ((with_reducible refine' g_fldS ?obh ?obc ?obn ?obe ?_); (case obh => walk_at "obat19"); (case obc => exact AccC.c (by assumption)); (case obn => first | exact AccC.n1 (by assumption) | exact AccC.n2 (by assumption) | exact AccC.n3 (by assumption)); (case obe => rfl))
  | ((with_reducible refine' g_attS ?obs ?obh ?obc ?obn ?obl ?_); (case obs => assumption); (case obh => assumption); (case obc => exact AccC.c (by assumption)); (case obn => first | exact AccC.n1 (by assumption) | exact AccC.n2 (by assumption) | exact AccC.n3 (by assumption)); (case obl => exact Nat.le_of_ble_eq_true rfl); intro _ _ _)
  | ((with_reducible refine' g_augS ?obh ?obc ?obn ?obe ?_); (case obh => walk_at "obat19"); (case obc => exact AccC.c (by assumption)); (case obn => first | exact AccC.n1 (by assumption) | exact AccC.n2 (by assumption) | exact AccC.n3 (by assumption)); (case obe => rfl))
  | ((with_reducible refine' g_augE ?obs ?obh ?obl ?_); (case obs => assumption); (case obh => assumption); (case obl => exact Nat.le_of_ble_eq_true rfl); intro _ _ _)
  | ((with_reducible refine' g_ixUT ?obh ?obi ?_); (case obh => first | exact sqt_enc (by walk_at "obd") | walk_at "obt"); (case obi => rfl)))
section
variable {P : Program} {w : World} {K : Frag} {mg : Str → Option Value} {base : Heap}
/-! ### rows of what is paid -/
def rows : List Int → Int → List (Int × Int)
  | [], _ => []
  | p :: ps, r => ((r + p) / 133590000000, (r + p) % 133590000000) :: rows ps ((r + p) % 133590000000)
def endR : List Int → Int → Int
  | [], r => r
  | p :: ps, r => endR ps ((r + p) % 133590000000)
theorem endR_snoc : ∀ (ps : List Int) (r p : Int), endR (ps ++ [p]) r = (endR ps r + p) % 133590000000
  | [], _, _ => rfl
  | q :: ps, r, p => by
    show endR (ps ++ [p]) _ = _
    rw [endR_snoc]
    rfl
theorem rows_snoc : ∀ (ps : List Int) (r p : Int), rows (ps ++ [p]) r = rows ps r ++ [((endR ps r + p) / 133590000000, (endR ps r + p) % 133590000000)]
  | [], _, _ => rfl
  | q :: ps, r, p => by
    show _ :: rows (ps ++ [p]) _ = _
    rw [rows_snoc]
    rfl
theorem rows_length : ∀ (ps : List Int) (r : Int), (rows ps r).length = ps.length
  | [], _ => rfl
  | p :: ps, r => by
    show (rows ps _).length + 1 = _
    rw [rows_length]
    rfl
theorem endR_in : ∀ (ps : List Int) {r : Int}, 0 ≤ r → r ≤ 133589999999 → 0 ≤ endR ps r ∧ endR ps r ≤ 133589999999
  | [], _, h1, h2 => ⟨h1, h2⟩
  | p :: ps, r, _, _ => endR_in ps (r := (r + p) % 133590000000) (by omega) (by omega)
def rowD (x : Int × Int) : PyData := .tuple [.int x.1, .int x.2]
def rowsD (ps : List Int) (r : Int) : List PyData := (rows ps r).map rowD
theorem rowsD_imm (ps : List Int) (r : Int) : immAll (rowsD ps r) = true := immAll_of fun x hx => by
  obtain ⟨s, _, rfl⟩ := List.mem_map.mp hx
  rfl
theorem rowsD_snoc (ps : List Int) (r p : Int) : rowsD (ps ++ [p]) r = rowsD ps r ++ [.tuple [.int ((endR ps r + p) / 133590000000), .int ((endR ps r + p) % 133590000000)]] := by
  unfold rowsD
  rw [rows_snoc, List.map_append]
  rfl
theorem rowsD_length (ps : List Int) (r : Int) : (rowsD ps r).length = ps.length := by
  unfold rowsD
  rw [List.length_map, rows_length]
/-- the parts of each day -/
def flat (ss : List Str4) : List Int := ss.flatMap fun s => List.replicate s.d.toNat (dayP s)
theorem flat_length : ∀ {ss : List Str4}, (∀ s ∈ ss, Ok4 s) → ((flat ss).length : Int) = (ss.map Str4.d).sum
  | [], _ => rfl
  | s :: ss, h => by
    have e := flat_length (ss := ss) fun x hx => h x (List.mem_cons_of_mem _ hx)
    have o := h s (List.mem_cons_self ..)
    have d0 := o.d0
    unfold flat at e ⊢
    rw [List.flatMap_cons, List.length_append, List.length_replicate, List.map_cons, List.sum_cons]
    omega
theorem flat_take {ss : List Str4} {i : Nat} {s : Str4} (h : ss[i]? = some s) : flat (ss.take (i + 1)) = flat (ss.take i) ++ List.replicate s.d.toNat (dayP s) := by
  rw [List.take_add_one, h]
  unfold flat
  rw [List.flatMap_append]
  simp
theorem flat_take_length {ss : List Str4} {i j : Nat} {s : Str4} (h : ss[i]? = some s) (hj : j < s.d.toNat) : (flat (ss.take i) ++ List.replicate j (dayP s)).length < (flat ss).length := by
  have e : flat ss = flat (ss.take (i + 1)) ++ flat (ss.drop (i + 1)) := by
    conv => lhs; rw [← List.take_append_drop (i + 1) ss]
    unfold flat
    rw [List.flatMap_append]
  rw [e, flat_take h]
  simp only [List.length_append, List.length_replicate]
  omega
theorem dayP_eq (s : Str4) : parts { s with d := 1 } = dayP s := by
  unfold parts dayP
  rw [Int.one_mul]
theorem Ok4.one {s : Str4} (o : Ok4 s) : Ok4 { s with d := 1 } := ⟨Int.le_refl _, (by decide : (1 : Int) ≤ 100000), o.b0, o.b1, o.r0, o.r1, o.y0⟩
def sp_daily (K : Frag) : Sp := fun vs H Q E => vs.length = 2 ∧ ∃ (F : List (Addr × HO)) (G : List Ft) (p : Addr) (ss : List Str4) (r : Int), vs = [.ref p, .int r] ∧ Sy K F G H ∧ Dp K H (.ref p) (encs ss) ∧ (∀ s ∈ ss, Ok4 s) ∧ ss.length ≤ 1000 ∧ 0 ≤ r ∧ r ≤ 133589999999 ∧ (flat ss).length ≤ 20000 ∧
  ∀ q H', Sy K F (.dat [.ref q] [.tuple (rowsD (flat ss) r)] :: G) H' → Q (.ref q) H'
abbrev names_daily : List Str := ["stretches", "rest", "days", "stretch", "found", "kept", "parts", "day", "units"]
theorem sc_daily : FnScope names_daily ["stretches", "rest"] (defScope (top 30)) := ⟨rfl, rfl, rfl, by decide +kernel, rfl, by decide +kernel, by decide +kernel⟩
set_option maxHeartbeats 4000000 in
theorem ok_daily (T : Tx K mg) : FG P w K mg base CX0 6 T.a_daily T.d_daily ["stretches", "rest"] (sp_daily K) := by
  refine OB.Fun.fg T.F_daily sc_daily (fun vs H Q E h => h.1) (fun cdv A out s H vs Q E g h => ?_)
  obtain ⟨_, F, G, p, ss, r, rfl, S, hd, ok, hn, r0, r1, hfl, k⟩ := h
  refine ⟨_, (pss_cons (ps_expr (pe_cg (ok_check_stretches T) (g.mono (by decide : 5 ≤ 5)) (by rfl) T.m_check_stretches T.F_check_stretches.kp (OB.Fun.bd T.F_check_stretches (ps := ["stretches"]) (n := 1) (ks := []) (ix := [0]) (fun _ _ _ _ _ _ us ws h1 h2 => match us, ws, h1, h2 with | [_], [], _, _ => rfl)) pass0 (pa_cons (pv 0) pa_nil) pk_nil))
      (pss_cons (ps_expr (pe_cg (ok_check_rest T) (g.mono (by decide : 3 ≤ 5)) (by rfl) T.m_check_rest T.F_check_rest.kp (OB.Fun.bd T.F_check_rest (ps := ["rest"]) (n := 1) (ks := []) (ix := [0]) (fun _ _ _ _ _ _ us ws h1 h2 => match us, ws, h1, h2 with | [_], [], _, _ => rfl)) pass0 (pa_cons (pv 1) pa_nil) pk_nil))
      (pss_cons (ps_set (i := 2) sc_daily.nd rfl (by first | exact Or.inl rfl | exact Or.inr rfl) (pe_callB (toK (r := rSum) (K := K) rfl (cr_sum rfl)) (by rfl) T.n_sum (by decide +kernel) (pa_cons (pe_lc (own := [("stretch", 3)]) (tt := tYes) rfl sc_daily.nd (pi_seq (pv 0)) (blkOk_by (N := names_daily) (sc := defScope (top 30)) (own := [("stretch", 3)]) (by decide +kernel)) (fun _ _ _ _ _ => (pg_name (i := 3) sc_daily.nd rfl (by first | exact Or.inl rfl | exact Or.inr rfl))) (fun _ _ _ _ _ => pts_nil) (fun _ _ _ _ _ => (pe_ix (ix_UK (K := K) rfl) (pv 3) pe_int (fun _ _ => rfl)))) pa_nil)))
      (pss_cons (ps_if (pt_cmpR op_gt (pv 2) (pe_glob (v := .int 20000) (by rfl) T.g_MOST_DAILY ⟨_, rfl⟩) (nomark _)) (pss_one ps_never) pss_nil)
      (pss_cons (ps_par (i := 4) (j := 5) rfl sc_daily.nd rfl rfl (by decide) rfl rfl (pa_cons (pe_lst pa_nil) (pa_cons (pv 1) pa_nil)) (by rfl))
      (pss_cons (ps_for PassesOwn.never rfl (pi_seq (pv 0)) (pg_name (i := 3) sc_daily.nd rfl (by first | exact Or.inl rfl | exact Or.inr rfl))
      (pss_cons (ps_set (i := 6) sc_daily.nd rfl (by first | exact Or.inl rfl | exact Or.inr rfl) (pe_cg (ok_stretch_parts T) (g.mono (by decide : 1 ≤ 5)) (by rfl) T.m_stretch_parts T.F_stretch_parts.kp (OB.Fun.bd T.F_stretch_parts (ps := ["stretch"]) (n := 1) (ks := []) (ix := [0]) (fun _ _ _ _ _ _ us ws h1 h2 => match us, ws, h1, h2 with | [_], [], _, _ => rfl)) pass0 (pa_cons (pe_tup (pa_cons pe_int (StX.pa_star (pe_slice (sl_UK (K := K) rfl) (pv 3) (po_some pe_int) po_none) pa_nil))) pa_nil) pk_nil))
      (pss_one (ps_for PassesOwn.never rfl (pi_range1 rfl T.n_range (pa_cons (pe_ix (ix_UK (K := K) rfl) (pv 3) pe_int (fun _ _ => rfl)) pa_nil)) (pg_name (i := 7) sc_daily.nd rfl (by first | exact Or.inl rfl | exact Or.inr rfl))
      (pss_cons (ps_asg (pe_callB c_divmod (by rfl) T.n_divmod (by decide +kernel) (pa_cons (pe_op op_add (pv 5) (pv 6)) (pa_cons (pe_glob (v := .int 133590000000) (by rfl) T.g_PARTS ⟨_, rfl⟩) pa_nil))) (pg_tupK (K := K) rfl (n := 2) rfl (pgs_cons (pg_name (i := 8) sc_daily.nd rfl (by first | exact Or.inl rfl | exact Or.inr rfl)) (pgs_cons (pg_name (i := 5) sc_daily.nd rfl (by first | exact Or.inl rfl | exact Or.inr rfl)) pgs_nil))))
      (pss_one (ps_expr (pe_bm PySem.F.plainAttrs_list PySem.F.slot_list_append PySem.F.type_list_append mt_append (pv 4) (pa_cons (pe_tup (pa_cons (pv 8) (pa_cons (pv 5) pa_nil))) pa_nil)))))))))
      (pss_one (ps_ret (pe_callTy (toK (r := rTuple) (K := K) rfl c_tuple) (by rfl) T.n_tuple (by decide +kernel) (pa_cons (pv 4) pa_nil)))))))))), ?_⟩
  refine g_start (σ := [some _, some _, none, none, none, none, none, none, none]) rfl ?_
  have hfl' := flat_length ok
  obtain ⟨a, xs, e, S0⟩ := S.opn hd (enc_imm ss)
  cases e
  have hlen : xs.length = ss.length := by rw [dps_length (S0.dps 1 rfl), List.length_map]
  repeat walk_at "ob"
  refine use_check S0 hd ok hn fun H1 S1 => ?_
  repeat walk_at "ob"
  refine g_lcS (a := p) (xs := xs) false (fun i F' ds => F' = F ∧ ds = (ss.take i).map fun s => .int s.d) S1 (fun Q' q => by walk_at "ob"; exact q) ⟨rfl, rfl⟩ (fun i F' ds H' _ S3 => S3.tqs 0 rfl) (fun i F' ds hi => by
    rw [hi.2, List.length_map, List.length_take]; omega) ?_ ?_
  · intro i x hx Dp H2 F2 vs ds QE QR hi S3 kE kR
    obtain ⟨st, hst, hds⟩ := dps_map (S3.dps 2 rfl) hx
    obtain ⟨q, ys, rfl, _⟩ := dp_at hds
    repeat walk_at "ob"
    refine ⟨rfl, ?_⟩
    repeat walk_at "ob"
    refine kE _ (.int st.d) F2 H2 ⟨hi.1, ?_⟩ (S3.fact (dps_one (.int _)) rfl)
    rw [hi.2, List.take_add_one, hst]
    simp
  intro Dp H2 F2 vs ds hD hi S3
  have hv : vs = (ss.map Str4.d).map V.int := by
    rw [dps_scal (S3.dps 0 rfl) (by rw [hi.2]; intro d hd; obtain ⟨s, _, rfl⟩ := List.mem_map.mp hd; rfl), hi.2, hlen, List.take_length]
    simp [toV, Function.comp_def]
  repeat walk_at "ob"
  subst hv
  refine g_sum (ns := ss.map Str4.d) (by walk_at "obl") ?_
  obtain ⟨rfl, _⟩ := hi
  have S4 := S3.less.drop
  clear S3
  repeat walk_at "ob"
  rename_i q H3 hq S5
  have S5 : Sy K ((q, .lst []) :: F2) (.tq p xs :: .dat xs (ss.map enc) :: G) H3 := S5
  refine g_forS (a := p) (xs := xs) false (fun i σ' H' => ∃ v3 v6 v7 v8 vs, σ' = [some (.ref p), some (.int r), some (.int (ss.map Str4.d).sum), v3, some (.ref q), some (.int (endR (flat (ss.take i)) r)), v6, v7, v8] ∧
    Sy K ((q, .lst vs) :: F2) (.dat vs (rowsD (flat (ss.take i)) r) :: .tq p xs :: .dat xs (ss.map enc) :: G) H') (fun Q' q => by walk_at "ob"; exact q) ⟨none, none, none, none, [], rfl, S5.fact .nil rfl⟩ (fun i σ' H' ⟨_, _, _, _, _, _, S6⟩ => S6.tqs 1 rfl) ?_ ?_
  · rintro i x σ' H' hx ⟨v3, v6, v7, v8, vs, rfl, S6⟩
    obtain ⟨st, hst, hds⟩ := dps_map (S6.dps 2 rfl) hx
    obtain ⟨u, ys, rfl, _⟩ := dp_at hds
    have o := ok _ (List.mem_of_getElem? hst)
    have d0 := o.d0
    have d1 := o.d1
    have S7 := S6.add (.dat [.ref u] [enc st]) ⟨dps_one hds, rfl⟩
    clear S6
    repeat walk_at "ob"
    refine g_slT S7 (sqt_enc (by walk_at "obd")) rfl rfl fun p2 H4 S8 => ?_
    clear S7
    repeat walk_at "ob"
    refine ⟨p2, _, rfl, .inl (S8.tqs 0 rfl), ?_⟩
    repeat walk_at "ob"
    rename_i p3 H5 hp3 S9
    refine use_parts (s := { st with d := 1 }) (S9.dp 0 rfl) o.one ?_
    rw [dayP_eq]
    clear S8
    have S10 : Sy K ((q, .lst vs) :: F2) (.dat [.ref u] [enc st] :: .dat vs (rowsD (flat (ss.take i)) r) :: .tq p xs :: .dat xs (ss.map enc) :: G) H5 := S9.drop.drop
    clear S9
    repeat walk_at "ob"
    have q0 := parts_nn o.one
    have q1 := parts_le o.one
    rw [dayP_eq] at q0 q1
    refine g_forR ?_
    repeat walk_at "ob"
    refine ⟨st.d, rfl, by omega, by omega, ?_⟩
    refine rgfor_of (fun j σ' H' => ∃ v7 v8 vs, σ' = [some (.ref p), some (.int r), some (.int (ss.map Str4.d).sum), some (.ref u), some (.ref q), some (.int (endR (flat (ss.take i) ++ List.replicate j (dayP st)) r)), some (.int (dayP st)), v7, v8] ∧
      Sy K ((q, .lst vs) :: F2) (.dat vs (rowsD (flat (ss.take i) ++ List.replicate j (dayP st)) r) :: .dat [.ref u] [enc st] :: .tq p xs :: .dat xs (ss.map enc) :: G) H') ⟨v7, v8, vs, ?_, ?_⟩ ?_ ?_
    · simp only [List.replicate_zero, List.append_nil]
      rfl
    · simp only [List.replicate_zero, List.append_nil]
      exact (S10.fact (S10.dps 1 rfl) (S10.dpi 1 rfl)).drop3
    · rintro j σ2 H6 hj ⟨v7, v8, vs, rfl, S11⟩
      have hln := flat_take_length hst hj
      have hvs := dps_length (S11.dps 0 rfl)
      rw [rowsD_length] at hvs
      obtain ⟨e1, e2⟩ := endR_in (flat (ss.take i) ++ List.replicate j (dayP st)) r0 r1
      repeat walk_at "ob"
      rename_i t1 H7 _ S12 t2 H8 _ S13
      refine g_appS S13 (f := 0) rfl (by omega) fun H9 S14 => ?_
      repeat walk_at "ob"
      rw [List.replicate_succ', ← List.append_assoc]
      refine ⟨_, _, vs ++ [.ref t2], by rw [endR_snoc]; rfl, ?_⟩
      rw [rowsD_snoc]
      have S15 := S14.fact (dps_append (S14.dps 2 rfl) (S14.dps 0 rfl)) (by rw [immAll_append, rowsD_imm]; rfl)
      exact S15.drop2.drop2.drop2
    · rintro σ2 H6 ⟨v7, v8, vs, rfl, S11⟩
      rw [← flat_take hst] at S11 ⊢
      exact ⟨_, _, _, _, _, rfl, S11.drop2⟩
  · rintro σ' H' ⟨v3, v6, v7, v8, vs, rfl, S6⟩
    repeat walk_at "ob"
    refine g_tup0 S6 (by walk_at "obl") (S6.dps 0 rfl) (rowsD_imm ..) fun q2 H4 _ S7 => ?_
    rw [hlen, List.take_length] at S7
    exact k q2 H4 S7.less.drop2.drop2.drop2
end
end LAW

set_option Elab.async false
set_option linter.all false
set_option maxRecDepth 100000
namespace LAW
open PySem PySem.Spec PyProof.Rows L2 PySem.W OB
local macro_rules | `(tactic| walk_at "obc") => `(tactic| first
  | exact Or.inl ⟨by omega, by omega⟩
  | exact Or.inr ⟨by omega, by omega⟩
  | exact cdiv_ok (by omega) (by omega)
  | (show (0 : Int) < _; omega)
  | exact ⟨by omega, by decide⟩
  | exact ⟨by decide, by decide⟩)
local macro_rules | `(tactic| walk_at "obat") => `(tactic| first
  | exact Sy.at (by assumption) 0 rfl | exact Sy.at (by assumption) 1 rfl | exact Sy.at (by assumption) 2 rfl | exact Sy.at (by assumption) 3 rfl
  | exact Sy.at (by assumption) 4 rfl | exact Sy.at (by assumption) 5 rfl | exact Sy.at (by assumption) 6 rfl | exact Sy.at (by assumption) _ (by assumption) | exact Sy.at (by assumption) (_ + 1) (by assumption) | exact Sy.at (by assumption) (_ + 2) (by assumption))
local macro_rules | `(tactic| walk_at "obt") => `(tactic| first
  | exact Sy.tqs (by assumption) 0 rfl | exact Sy.tqs (by assumption) 1 rfl | exact Sy.tqs (by assumption) 2 rfl | exact Sy.tqs (by assumption) 3 rfl | exact Sy.tqs (by assumption) 4 rfl | exact Sy.tqs (by assumption) 5 rfl
  | exact Sy.tqs (by assumption) 6 rfl | exact Sy.tqs (by assumption) 7 rfl | assumption)
local macro_rules | `(tactic| walk_at "obl") => `(tactic| first
  | exact SqL.of (by walk_at "obat")
  | exact Sy.sq (by assumption) 0 rfl | exact Sy.sq (by assumption) 1 rfl | exact Sy.sq (by assumption) 2 rfl | exact Sy.sq (by assumption) 3 rfl | exact Sy.sq (by assumption) _ (by assumption))
local macro_rules | `(tactic| walk_at "obd") => `(tactic| first
  | exact Dp.int _ | exact Dp.bl _ | exact Dp.str _ | exact Dp.non
  | exact Sy.dp (by assumption) 0 rfl | exact Sy.dp (by assumption) 1 rfl | exact Sy.dp (by assumption) 2 rfl | exact Sy.dp (by assumption) 3 rfl
  | exact Sy.dp (by assumption) 4 rfl | exact Sy.dp (by assumption) 5 rfl | exact Sy.dp (by assumption) 6 rfl | exact Sy.dp (by assumption) 7 rfl
  | exact Sy.dp (by assumption) 8 rfl | exact Sy.dp (by assumption) 9 rfl | exact Sy.dp (by assumption) _ (by assumption) | assumption)
local macro_rules | `(tactic| walk_at "obds") => `(tactic| first
  | exact DpAll.nil
  | (refine' DpAll.cons ?ob1 ?ob2; (case ob1 => walk_at "obd"); (case ob2 => walk_at "obds"))
  | exact Sy.dps (by assumption) 0 rfl | exact Sy.dps (by assumption) 1 rfl | exact Sy.dps (by assumption) 2 rfl | exact Sy.dps (by assumption) 3 rfl | assumption)
local macro_rules | `(tactic| walk_at "obsc") => `(tactic| first
  | exact ScL.nil
  | ((first | refine' ScL.int ?obz | refine' ScL.str ?obz | refine' ScL.bl ?obz | refine' ScL.non ?obz); (case obz => walk_at "obsc")))
local macro_rules | `(tactic| walk_at "ob1") => `(tactic| first
  | ((with_reducible refine' g_var ?obh ?_); (case obh => rfl))
  | with_reducible refine g_c ?_
  | with_reducible refine g_nx ?_
  | with_reducible refine g_rt ?_
  | with_reducible refine g_bk ?_
  | with_reducible refine g_ct ?_
  | with_reducible refine g_op ?_
  | with_reducible refine g_I0 ?_
  | with_reducible refine g_test ?_
  | with_reducible refine g_bl ?_
  | with_reducible refine g_blx ?_
  | with_reducible refine g_B ?_
  | with_reducible refine g_seq ?_
  | with_reducible refine g_asg ?_
  | with_reducible refine g_name ?_
  | with_reducible refine g_ifS ?_
  | with_reducible refine g_ret ?_
  | with_reducible refine g_cb ?_
  | with_reducible refine g_cons ?_
  | with_reducible refine g_nil ?_
  | with_reducible refine g_int ?_
  | with_reducible refine g_intB ?_
  | with_reducible refine g_abs ?_
  | with_reducible refine g_max ?_
  | with_reducible refine g_min ?_
  | with_reducible refine g_un ?_
  | with_reducible refine g_U ?_
  | with_reducible refine g_eqI ?_
  | with_reducible refine g_neI ?_
  | with_reducible refine g_eqS ?_
  | with_reducible refine g_neS ?_
  | with_reducible refine g_tt ?_
  | with_reducible refine g_ff ?_
  | with_reducible refine g_next ?_
  | with_reducible refine g_drop ?_
  | with_reducible refine g_if ?_
  | with_reducible refine g_andV ?_
  | with_reducible refine g_orV ?_
  | with_reducible refine g_notV ?_
  | with_reducible refine g_and ?_
  | with_reducible refine g_or ?_
  | with_reducible refine g_not ?_
  | with_reducible refine g_yes ?_
  | with_reducible refine g_chain ?_
  | with_reducible refine g_cg ?_
  | with_reducible refine g_mg ?_
  | with_reducible refine g_kg ?_
  | with_reducible refine g_pg ?_
  | ((with_reducible refine' g_call ?obh ?obj ?_); (case obh => rfl); (case obj => rfl))
  | with_reducible refine g_par ?_
  | with_reducible refine g_par2 ?_
  | with_reducible refine g_par3 ?_
  | with_reducible refine g_par33 ?_
  | with_reducible refine g_gnil ?_
  | with_reducible refine g_gcons ?_
  | with_reducible refine g_gsub ?_
  | with_reducible refine g_ipI ?_
  | with_reducible refine g_rAdd ?_
  | with_reducible refine g_rSub ?_
  | ((with_reducible refine' g_aug ?obh ?_); (case obh => rfl))
  | with_reducible refine g_tup ?_
  | with_reducible refine g_lst ?_
  | with_reducible refine g_bm ?_
  | with_reducible refine g_bm0 ?_
  | with_reducible refine g_sl ?_
  | with_reducible refine g_nopart ?_
  | with_reducible refine g_part ?_
  | with_reducible refine g_pint ?_
  | with_reducible refine isi_int ?_
  | with_reducible refine isi_intB ?_
  | ((with_reducible refine' g_I ?obh ?_); (case obh => walk_at "obc"))
  | ((with_reducible refine' g_tyl ?obh ?_); (case obh => walk_at "obl"))
  | ((with_reducible refine' g_lenL ?obh ?_); (case obh => walk_at "obl"))
  | with_reducible refine g_ne ?_
  | ((with_reducible refine' g_neN' ?obh ?_); (case obh => rfl))
  | with_reducible refine g_ntt ?_
  | with_reducible refine g_nff ?_
  | with_reducible refine g_star ?_
  | with_reducible refine g_att ?_
  | with_reducible refine g_sfld ?_
  | with_reducible refine g_faug ?_
  | with_reducible refine g_fld ?_
  | ((with_reducible refine' g_nF ?obh ?_); (case obh => omega))
  | ((with_reducible refine' g_nT ?obh ?_); (case obh => omega))
  | ((with_reducible refine' g_TD ?obh ?_); (case obh => omega))
  | ((with_reducible refine' g_FD ?obh ?_); (case obh => omega))
  | ((with_reducible refine' g_ixUL ?obh ?obi ?_); (case obh => walk_at "obl"); (case obi => exact atI_nn (by omega) (by rfl)))
  | ((with_reducible refine' g_setLS ?obs ?obh ?obi ?_); (case obs => assumption); (case obh => assumption); (case obi => rfl); intro _ _ _)
  | ((with_reducible refine' g_newT ?obs ?obh ?obi ?obj ?_); (case obs => assumption); (case obh => walk_at "obds"); (case obi => rfl); (case obj => exact Nat.le_of_ble_eq_true rfl); intro _ _ _ _)
  | ((with_reducible refine' g_newL ?obs ?obj ?_); (case obs => assumption); (case obj => exact Nat.le_of_ble_eq_true rfl); intro _ _ _ _)
  | ((with_reducible refine' isi_tup ?obh ?_); (case obh => walk_at "obt"))
  | ((with_reducible refine' g_lenT ?obh ?_); (case obh => walk_at "obt"))
  | ((with_reducible refine' g_unpT ?obh ?obi ?_); (case obh => walk_at "obt"); (case obi => rfl))
  | ((with_reducible refine' g_divmod ?obs ?obh ?_); (case obs => assumption); (case obh => exact cdivp_ok (by omega) (by omega) (by omega)); intro _ _ _ _)
  | ((with_reducible refine' g_unpD ?obh ?obi ?obj ?_); (case obh => walk_at "obd"); (case obi => walk_at "obsc"); (case obj => rfl))
  | with_reducible refine g_att ?_)
local macro_rules | `(tactic| walk_at "obat19") => `(tactic| first | assumption | walk_at "obat")
local macro_rules | `(tactic| walk_at "ob") => `(tactic| first
  | walk_at "ob1"
  | refine use_is_integer ?_
  | refine use_is_within ?_
  | refine use_balance ?_
  | refine use_rate ?_
  | refine use_year (by assumption) ?_
  | refine use_unit ?_
  | refine use_rest (by omega) (by omega) ?_
  | refine use_parts (by walk_at "obd") (by assumption) ?_
  | refine use_is_stretch (by walk_at "obd") (by assumption) ?_
  | refine g_unpT (sqt_enc (by walk_at "obd")) rfl ?_
  | ((with_reducible refine' g_fldS ?obh ?obc ?obn ?obe ?_); (case obh => walk_at "obat19"); (case obc => exact AccC.c (by assumption)); (case obn => first | exact AccC.n1 (by assumption) | exact AccC.n2 (by assumption) | exact AccC.n3 (by assumption)); (case obe => rfl))
  | ((with_reducible refine' g_attS ?obs ?obh ?obc ?obn ?obl ?_); (case obs => assumption); (case obh => assumption); (case obc => exact AccC.c (by assumption)); (case obn => first | exact AccC.n1 (by assumption) | exact AccC.n2 (by assumption) | exact AccC.n3 (by assumption)); (case obl => exact Nat.le_of_ble_eq_true rfl); intro _ _ _)
  | ((with_reducible refine' g_augS ?obh ?obc ?obn ?obe ?_); (case obh => walk_at "obat19"); (case obc => exact AccC.c (by assumption)); (case obn => first | exact AccC.n1 (by assumption) | exact AccC.n2 (by assumption) | exact AccC.n3 (by assumption)); (case obe => rfl))
  | ((with_reducible refine' g_augE ?obs ?obh ?obl ?_); (case obs => assumption); (case obh => assumption); (case obl => exact Nat.le_of_ble_eq_true rfl); intro _ _ _)
  | ((with_reducible refine' g_ixUT ?obh ?obi ?_); (case obh => first | exact sqt_enc (by walk_at "obd") | walk_at "obt"); (case obi => rfl)))
section
variable {P : Program} {w : World} {K : Frag} {mg : Str → Option Value} {base : Heap}
def sp_law_divisor (K : Frag) : Sp := fun vs H Q E => vs.length = 2 ∧ ∃ a : Int, vs = [.int a, .int 133590000000] ∧ 0 ≤ a ∧ Q (.int (gU a)) H
abbrev names_law_divisor : List Str := ["one", "other"]
theorem sc_law_divisor : FnScope names_law_divisor ["one", "other"] (defScope (top 45)) := ⟨rfl, rfl, rfl, by decide +kernel, rfl, by decide +kernel, by decide +kernel⟩
set_option maxHeartbeats 4000000 in
theorem ok_law_divisor (T : Tx K mg) : FG P w K mg base CX0 1 T.a_law_divisor T.d_law_divisor ["one", "other"] (sp_law_divisor K) := by
  refine OB.Fun.fg T.F_law_divisor sc_law_divisor (fun vs H Q E h => h.1) (fun cdv A out s H vs Q E g h => ?_)
  obtain ⟨_, a, rfl, h0, k⟩ := h
  refine ⟨_, (pss_cons (ps_while PassesOwn.never (pt_cmpR op_gt (pv 1) pe_int (nomark _))
      (pss_one (ps_par (i := 0) (j := 1) rfl sc_law_divisor.nd rfl rfl (by decide) rfl rfl (pa_cons (pv 1) (pa_cons (pe_op op_mod (pv 0) (pv 1)) pa_nil)) (by rfl))))
      (pss_one (ps_ret (pv 0)))), ?_⟩
  refine g_start (σ := [some _, some _]) rfl ?_
  repeat walk_at "ob"
  refine g_while (fun n σ' H' => ∃ m : Nat, GcdI (gU a) m n ∧ σ' = [some (.int m), some (.int n)] ∧ H' = H) 133590000000 ?_ ?_ ?_
  · refine ⟨a.toNat, ⟨rfl, Nat.le_refl _⟩, ?_, rfl⟩
    rw [Int.toNat_of_nonneg h0]
    rfl
  · rintro n σ' H' ⟨m, hg, rfl, rfl⟩
    repeat walk_at "ob"
    refine g_iteD (fun h1 => ?_) (fun h1 => ?_)
    · repeat walk_at "ob"
      obtain ⟨g1, g2⟩ := gcd_turn hg (by omega)
      exact ⟨m % n, g2, n, g1, by rw [Int.natCast_emod]; rfl, rfl⟩
    · repeat walk_at "ob"
      have e := gcd_end hg h1
      subst e
      exact k
  · rintro σ' H' Q1 Q2 hq ⟨v, h, a, b, ea, eb, k, ek, q⟩
    exact ⟨v, h, a, b, ea, eb, k, ek, hq _ _ q⟩
/-- what a draw leaves -/
def PotK (K : Frag) (F : List (Addr × HO)) (G : List Ft) (i : Nat) (p : Addr) (n : Nat) (R : Hp → Prop) : Prop :=
  ∀ (a' b' c' : Int) (H' : Hp), PotOk n a' b' c' → Sy K (F.set i (p, potO a' b' c')) G H' → (F.set i (p, potO a' b' c'))[i]? = some (p, potO a' b' c') → R H'
def sp_law_of (K : Frag) : Sp := fun vs H Q E => vs.length = 2 ∧ ∃ (F : List (Addr × HO)) (G : List Ft) (i j : Nat) (p q : Addr) (n : Nat) (ns : List Int) (a b c : Int), vs = [.ref p, .ref q] ∧ Sy K F G H ∧ F[i]? = some (p, potO a b c) ∧ F[j]? = some (q, .lst (ns.map V.int)) ∧ i ≠ j ∧ PotOk n a b c ∧ n < 1000000 ∧ 0 < ns.length ∧ ns.length < 100 ∧
  ∀ r ∈ ns, PotK K F G i p (n + 1) (Q (.int r))
abbrev names_law_of : List Str := ["pot", "some"]
theorem sc_law_of : FnScope names_law_of ["pot", "some"] (defScope (top 34)) := ⟨rfl, rfl, rfl, by decide +kernel, rfl, by decide +kernel, by decide +kernel⟩
set_option maxHeartbeats 4000000 in
theorem ok_law_of (T : Tx K mg) : FG P w K mg base CX0 2 T.a_law_of T.d_law_of ["pot", "some"] (sp_law_of K) := by
  refine OB.Fun.fg T.F_law_of sc_law_of (fun vs H Q E h => h.1) (fun cdv A out s H vs Q E g h => ?_)
  obtain ⟨_, F, G, i, j, p, q, n, ns, a, b, c, rfl, S, hF, hj, hij, ok, hn, l0, l1, k⟩ := h
  refine ⟨_, (pss_one (ps_ret (pe_ix (ix_UK (K := K) rfl) (pv 1) (pe_cg (ok_law_take T) (g.mono (by decide : 1 ≤ 1)) (by rfl) T.m_law_take T.F_law_take.kp (OB.Fun.bd T.F_law_take (ps := ["pot", "upto"]) (n := 2) (ks := []) (ix := [0, 1]) (fun _ _ _ _ _ _ us ws h1 h2 => match us, ws, h1, h2 with | [_, _], [], _, _ => rfl)) pass0 (pa_cons (pv 0) (pa_cons (pe_callB (toK (r := OB.rLen) (K := K) rfl c_len) (by rfl) T.n_len PySem.boot_len (pa_cons (pv 1) pa_nil)) pa_nil)) pk_nil) (fun _ _ => rfl)))), ?_⟩
  refine g_start (σ := [some _, some _]) rfl ?_
  have hij' : ∀ x, (F.set i x)[j]? = some (q, .lst (ns.map V.int)) := fun x => by rw [List.getElem?_set_ne hij]; exact hj
  have e : (((ns.map V.int).length : Nat) : Int) = ns.length := by rw [List.length_map]
  repeat walk_at "ob"
  refine use_take S hF ok hn (by omega) (by omega) fun r a' b' c' H' h1 h2 o2 S2 hF2 => ?_
  obtain ⟨x, hm, hx⟩ := atI_ints (ns := ns) h1 (by omega)
  refine g_ixUL (SqL.of (S2.at j (hij' _))) hx ?_
  repeat walk_at "ob"
  exact k x hm a' b' c' H' o2 S2 hF2
theorem pot_less {F : List (Addr × HO)} {G : List Ft} {H : Hp} {i : Nat} {x : Addr × HO} {y z : Addr × HO} (S : Sy K ((x :: F.set i y).set (i + 1) z) G H) : Sy K (F.set i z) G H := by
  have S5 : Sy K (x :: (F.set i y).set i z) G H := S
  have S6 := S5.less
  rw [List.set_set] at S6
  exact S6
theorem set_at {F : List (Addr × HO)} {i : Nat} {x y : Addr × HO} (h : F[i]? = some x) : (F.set i y)[i]? = some y := List.getElem?_set_self (List.getElem?_eq_some_iff.mp h).1
theorem PotK.use {F : List (Addr × HO)} {G : List Ft} {H : Hp} {i n : Nat} {p : Addr} {R : Hp → Prop} {x : Addr × HO} {a b c : Int} (k : PotK K F G i p n R) (hF : F[i]? = some x) (o : PotOk n a b c) (S : Sy K (F.set i (p, potO a b c)) G H) : R H := k a b c H o S (set_at hF)
theorem use_take2 {F : List (Addr × HO)} {G : List Ft} {H : Hp} {Q : VK} {E : XK} {i n : Nat} {p : Addr} {u a b c : Int} {x : Addr × HO} (S : Sy K (F.set i (p, potO a b c)) G H) (hF : F[i]? = some x) (ok : PotOk n a b c) (hn : n < 1000000) (u0 : 0 < u) (u1 : u < 2 ^ 60)
    (k : ∀ (r a' b' c' : Int) (H' : Hp), 0 ≤ r → r < u → PotOk (n + 1) a' b' c' → Sy K (F.set i (p, potO a' b' c')) G H' → Q (.int r) H') : sp_law_take K [.ref p, .int u] H Q E :=
  use_take S (set_at hF) ok hn u0 u1 fun r a' b' c' H' h1 h2 o S' _ => k r a' b' c' H' h1 h2 o (by rw [List.set_set] at S'; exact S')
/-- behind a list that was just made: it falls away -/
theorem use_of2 {F : List (Addr × HO)} {G : List Ft} {H : Hp} {Q : VK} {E : XK} {i n : Nat} {p q : Addr} {ns : List Int} {vs : List V} {a b c : Int} {x : Addr × HO} (S : Sy K ((q, .lst vs) :: F.set i (p, potO a b c)) G H) (e : vs = ns.map V.int) (hF : F[i]? = some x) (ok : PotOk n a b c) (hn : n < 1000000) (l0 : Nat.ble 1 ns.length = true) (l1 : Nat.ble ns.length 99 = true)
    (k : ∀ r ∈ ns, ∀ (a' b' c' : Int) (H' : Hp), PotOk (n + 1) a' b' c' → Sy K (F.set i (p, potO a' b' c')) G H' → Q (.int r) H') : sp_law_of K [.ref p, .ref q] H Q E := by
  subst e
  refine ⟨rfl, _, G, i + 1, 0, p, q, n, ns, a, b, c, rfl, S, set_at hF, rfl, by omega, ok, hn, Nat.le_of_ble_eq_true l0, Nat.lt_succ_of_le (Nat.le_of_ble_eq_true l1), fun r hr a' b' c' H' o S' _ => ?_⟩
  exact k r hr a' b' c' H' o (pot_less S')
theorem use_of {F : List (Addr × HO)} {G : List Ft} {H : Hp} {Q : VK} {E : XK} {i j n : Nat} {p q : Addr} {ns : List Int} {a b c : Int} (S : Sy K F G H) (hF : F[i]? = some (p, potO a b c)) (hj : F[j]? = some (q, .lst (ns.map V.int))) (hij : i ≠ j) (ok : PotOk n a b c) (hn : n < 1000000) (l0 : 0 < ns.length) (l1 : ns.length < 100)
    (k : ∀ r ∈ ns, PotK K F G i p (n + 1) (Q (.int r))) : sp_law_of K [.ref p, .ref q] H Q E := ⟨rfl, F, G, i, j, p, q, n, ns, a, b, c, rfl, S, hF, hj, hij, ok, hn, l0, l1, k⟩
def sp_law_rest (K : Frag) : Sp := fun vs H Q E => vs.length = 1 ∧ ∃ (F : List (Addr × HO)) (G : List Ft) (i : Nat) (p : Addr) (n : Nat) (a b c : Int), vs = [.ref p] ∧ Sy K F G H ∧ F[i]? = some (p, potO a b c) ∧ PotOk n a b c ∧ n < 900000 ∧
  ∀ r : Int, 0 ≤ r → r ≤ 133589999999 → PotK K F G i p (n + 2) (Q (.int r))
abbrev names_law_rest : List Str := ["pot", "half"]
theorem sc_law_rest : FnScope names_law_rest ["pot"] (defScope (top 38)) := ⟨rfl, rfl, rfl, by decide +kernel, rfl, by decide +kernel, by decide +kernel⟩
set_option maxHeartbeats 4000000 in
theorem ok_law_rest (T : Tx K mg) : FG P w K mg base CX0 3 T.a_law_rest T.d_law_rest ["pot"] (sp_law_rest K) := by
  refine OB.Fun.fg T.F_law_rest sc_law_rest (fun vs H Q E h => h.1) (fun cdv A out s H vs Q E g h => ?_)
  obtain ⟨_, F, G, i, p, n, a, b, c, rfl, S, hF, ok, hn, k⟩ := h
  refine ⟨_, (pss_cons (ps_set (i := 1) sc_law_rest.nd rfl (by first | exact Or.inl rfl | exact Or.inr rfl) (pe_op op_fdivW (pe_cg0 (ok_law_unit T) (g.mono (by decide : 1 ≤ 2)) (by rfl) T.m_law_unit T.F_law_unit.kp (OB.Fun.bd T.F_law_unit (ps := []) (n := 0) (ks := []) (ix := []) (fun _ _ _ _ _ _ us ws h1 h2 => match us, ws, h1, h2 with | [], [], _, _ => rfl)) pass0 pk_nil) pe_int))
      (pss_one (ps_ret (pe_callTy c_int (by rfl) T.n_int (by decide +kernel) (pa_cons (pe_cg (ok_law_of T) (g.mono (by decide : 2 ≤ 2)) (by rfl) T.m_law_of T.F_law_of.kp (OB.Fun.bd T.F_law_of (ps := ["pot", "some"]) (n := 2) (ks := []) (ix := [0, 1]) (fun _ _ _ _ _ _ us ws h1 h2 => match us, ws, h1, h2 with | [_, _], [], _, _ => rfl)) pass0 (pa_cons (pv 0) (pa_cons (pe_lst (pa_cons pe_int (pa_cons pe_int (pa_cons (pe_op op_sub (pe_cg0 (ok_law_unit T) (g.mono (by decide : 1 ≤ 2)) (by rfl) T.m_law_unit T.F_law_unit.kp (OB.Fun.bd T.F_law_unit (ps := []) (n := 0) (ks := []) (ix := []) (fun _ _ _ _ _ _ us ws h1 h2 => match us, ws, h1, h2 with | [], [], _, _ => rfl)) pass0 pk_nil) pe_int) (pa_cons (pe_cg (ok_law_take T) (g.mono (by decide : 1 ≤ 2)) (by rfl) T.m_law_take T.F_law_take.kp (OB.Fun.bd T.F_law_take (ps := ["pot", "upto"]) (n := 2) (ks := []) (ix := [0, 1]) (fun _ _ _ _ _ _ us ws h1 h2 => match us, ws, h1, h2 with | [_, _], [], _, _ => rfl)) pass0 (pa_cons (pv 0) (pa_cons (pe_cg0 (ok_law_unit T) (g.mono (by decide : 1 ≤ 2)) (by rfl) T.m_law_unit T.F_law_unit.kp (OB.Fun.bd T.F_law_unit (ps := []) (n := 0) (ks := []) (ix := []) (fun _ _ _ _ _ _ us ws h1 h2 => match us, ws, h1, h2 with | [], [], _, _ => rfl)) pass0 pk_nil) pa_nil)) pk_nil) (pa_cons (pv 1) (pa_cons (pe_op op_sub (pv 1) pe_int) pa_nil))))))) pa_nil)) pk_nil) pa_nil))))), ?_⟩
  refine g_start (σ := [some _, none]) rfl ?_
  repeat walk_at "ob"
  refine use_take S hF ok (by omega) (by omega) (by omega) fun r a' b' c' H' h1 h2 o2 S2 hF2 => ?_
  repeat walk_at "ob"
  rename_i q H2 hq S3
  refine use_of2 (ns := [0, 0, 133589999999, r, 66795000000, 66794999999]) S3 rfl hF o2 (by omega) rfl rfl fun x hx a3 b3 c3 H3 o3 S4 => ?_
  repeat walk_at "ob"
  simp only [List.mem_cons, List.not_mem_nil, or_false] at hx
  exact (k x (by omega) (by omega)).use hF o3 S4
theorem use_rest_draw {F : List (Addr × HO)} {G : List Ft} {H : Hp} {Q : VK} {E : XK} {i n : Nat} {p : Addr} {a b c : Int} (S : Sy K F G H) (hF : F[i]? = some (p, potO a b c)) (ok : PotOk n a b c) (hn : n < 900000)
    (k : ∀ r : Int, 0 ≤ r → r ≤ 133589999999 → PotK K F G i p (n + 2) (Q (.int r))) : sp_law_rest K [.ref p] H Q E := ⟨rfl, F, G, i, p, n, a, b, c, rfl, S, hF, ok, hn, k⟩
def sp_law_stretch (K : Frag) : Sp := fun vs H Q E => vs.length = 2 ∧ ∃ (F : List (Addr × HO)) (G : List Ft) (i : Nat) (p : Addr) (n : Nat) (m a b c : Int), vs = [.ref p, .int m] ∧ Sy K F G H ∧ F[i]? = some (p, potO a b c) ∧ PotOk n a b c ∧ n < 900000 ∧ 0 < m ∧ m ≤ 100000 ∧
  ∀ (s : Str4) (q : Addr), Ok4 s → s.d ≤ m → PotK K F (.dat [.ref q] [enc s] :: G) i p (n + 7) (Q (.ref q))
abbrev names_law_stretch : List Str := ["pot", "most", "some", "balance", "rate"]
theorem sc_law_stretch : FnScope names_law_stretch ["pot", "most"] (defScope (top 39)) := ⟨rfl, rfl, rfl, by decide +kernel, rfl, by decide +kernel, by decide +kernel⟩
set_option maxHeartbeats 4000000 in
theorem ok_law_stretch (T : Tx K mg) : FG P w K mg base CX0 3 T.a_law_stretch T.d_law_stretch ["pot", "most"] (sp_law_stretch K) := by
  refine OB.Fun.fg T.F_law_stretch sc_law_stretch (fun vs H Q E h => h.1) (fun cdv A out s H vs Q E g h => ?_)
  obtain ⟨_, F, G, i, p, n, m, a, b, c, rfl, S, hF, ok, hn, m0, m1, k⟩ := h
  refine ⟨_, (pss_cons (ps_set (i := 2) sc_law_stretch.nd rfl (by first | exact Or.inl rfl | exact Or.inr rfl) (pe_lst (pa_cons pe_int (pa_cons (pe_un un_neg pe_int) (pa_cons (pe_op op_powX pe_int pe_int) (pa_cons (pe_un un_neg (pe_op op_powX pe_int pe_int)) (pa_cons pe_int (pa_cons (pe_op op_add pe_int (pe_cg (ok_law_take T) (g.mono (by decide : 1 ≤ 2)) (by rfl) T.m_law_take T.F_law_take.kp (OB.Fun.bd T.F_law_take (ps := ["pot", "upto"]) (n := 2) (ks := []) (ix := [0, 1]) (fun _ _ _ _ _ _ us ws h1 h2 => match us, ws, h1, h2 with | [_, _], [], _, _ => rfl)) pass0 (pa_cons (pv 0) (pa_cons pe_int pa_nil)) pk_nil)) (pa_cons (pe_cg (ok_law_take T) (g.mono (by decide : 1 ≤ 2)) (by rfl) T.m_law_take T.F_law_take.kp (OB.Fun.bd T.F_law_take (ps := ["pot", "upto"]) (n := 2) (ks := []) (ix := [0, 1]) (fun _ _ _ _ _ _ us ws h1 h2 => match us, ws, h1, h2 with | [_, _], [], _, _ => rfl)) pass0 (pa_cons (pv 0) (pa_cons (pe_op op_powX pe_int pe_int) pa_nil)) pk_nil) (pa_cons pe_int pa_nil))))))))))
      (pss_cons (ps_set (i := 3) sc_law_stretch.nd rfl (by first | exact Or.inl rfl | exact Or.inr rfl) (pe_callTy c_int (by rfl) T.n_int (by decide +kernel) (pa_cons (pe_cg (ok_law_of T) (g.mono (by decide : 2 ≤ 2)) (by rfl) T.m_law_of T.F_law_of.kp (OB.Fun.bd T.F_law_of (ps := ["pot", "some"]) (n := 2) (ks := []) (ix := [0, 1]) (fun _ _ _ _ _ _ us ws h1 h2 => match us, ws, h1, h2 with | [_, _], [], _, _ => rfl)) pass0 (pa_cons (pv 0) (pa_cons (pv 2) pa_nil)) pk_nil) pa_nil)))
      (pss_cons (ps_set (i := 4) sc_law_stretch.nd rfl (by first | exact Or.inl rfl | exact Or.inr rfl) (pe_callTy c_int (by rfl) T.n_int (by decide +kernel) (pa_cons (pe_cg (ok_law_of T) (g.mono (by decide : 2 ≤ 2)) (by rfl) T.m_law_of T.F_law_of.kp (OB.Fun.bd T.F_law_of (ps := ["pot", "some"]) (n := 2) (ks := []) (ix := [0, 1]) (fun _ _ _ _ _ _ us ws h1 h2 => match us, ws, h1, h2 with | [_, _], [], _, _ => rfl)) pass0 (pa_cons (pv 0) (pa_cons (pe_lst (pa_cons pe_int (pa_cons (pe_op op_powX pe_int pe_int) (pa_cons pe_int (pa_cons pe_int (pa_cons (pe_cg (ok_law_take T) (g.mono (by decide : 1 ≤ 2)) (by rfl) T.m_law_take T.F_law_take.kp (OB.Fun.bd T.F_law_take (ps := ["pot", "upto"]) (n := 2) (ks := []) (ix := [0, 1]) (fun _ _ _ _ _ _ us ws h1 h2 => match us, ws, h1, h2 with | [_, _], [], _, _ => rfl)) pass0 (pa_cons (pv 0) (pa_cons (pe_op op_powX pe_int pe_int) pa_nil)) pk_nil) (pa_cons pe_int pa_nil))))))) pa_nil)) pk_nil) pa_nil)))
      (pss_one (ps_ret (pe_tup (pa_cons (pe_callTy c_int (by rfl) T.n_int (by decide +kernel) (pa_cons (pe_op op_add pe_int (pe_cg (ok_law_take T) (g.mono (by decide : 1 ≤ 2)) (by rfl) T.m_law_take T.F_law_take.kp (OB.Fun.bd T.F_law_take (ps := ["pot", "upto"]) (n := 2) (ks := []) (ix := [0, 1]) (fun _ _ _ _ _ _ us ws h1 h2 => match us, ws, h1, h2 with | [_, _], [], _, _ => rfl)) pass0 (pa_cons (pv 0) (pa_cons (pv 1) pa_nil)) pk_nil)) pa_nil)) (pa_cons (pv 3) (pa_cons (pv 4) (pa_cons (pe_callTy c_int (by rfl) T.n_int (by decide +kernel) (pa_cons (pe_cg (ok_law_of T) (g.mono (by decide : 2 ≤ 2)) (by rfl) T.m_law_of T.F_law_of.kp (OB.Fun.bd T.F_law_of (ps := ["pot", "some"]) (n := 2) (ks := []) (ix := [0, 1]) (fun _ _ _ _ _ _ us ws h1 h2 => match us, ws, h1, h2 with | [_, _], [], _, _ => rfl)) pass0 (pa_cons (pv 0) (pa_cons (pe_lst (pa_cons pe_int (pa_cons pe_int pa_nil))) pa_nil)) pk_nil) pa_nil)) pa_nil)))))))))), ?_⟩
  refine g_start (σ := [some _, some _, none, none, none]) rfl ?_
  repeat walk_at "ob"
  refine use_take S hF ok (by omega) (by omega) (by omega) fun r1 a1 b1 c1 H1 l1 u1 o1 S1 hF1 => ?_
  repeat walk_at "ob"
  refine use_take2 S1 hF o1 (by omega) (by decide) (by decide) fun r2 a2 b2 c2 H2 l2 u2 o2 S2 => ?_
  have e9 : (10 : Int) ^ Int.toNat 9 = 1000000000 := by decide
  have e12 : (10 : Int) ^ Int.toNat 12 = 1000000000000 := by decide
  have e6 : (10 : Int) ^ Int.toNat 6 = 1000000 := by decide
  rw [e9] at u2
  repeat walk_at "ob"
  rename_i q3 H3 _ S3
  refine use_of2 (ns := [0, -5, 10 ^ Int.toNat 12, -10 ^ Int.toNat 12, 1, 1 + r1, r2, 1000]) S3 rfl hF o2 (by omega) rfl rfl fun x4 hx4 a4 b4 c4 H4 o4 S4 => ?_
  rw [e12] at hx4
  simp only [List.mem_cons, List.not_mem_nil, or_false] at hx4
  clear S3 S2 S1
  repeat walk_at "ob"
  refine use_take2 S4 hF o4 (by omega) (by decide) (by decide) fun r5 a5 b5 c5 H5 l5 u5 o5 S5 => ?_
  rw [e6] at u5
  clear S4
  repeat walk_at "ob"
  rename_i q6 H6 _ S6
  refine use_of2 (ns := [0, 10 ^ Int.toNat 6, 1, 50000, r5, 30000]) S6 rfl hF o5 (by omega) rfl rfl fun x7 hx7 a7 b7 c7 H7 o7 S7 => ?_
  rw [e6] at hx7
  simp only [List.mem_cons, List.not_mem_nil, or_false] at hx7
  clear S6 S5
  repeat walk_at "ob"
  refine use_take2 S7 hF o7 (by omega) (by omega) (by omega) fun r8 a8 b8 c8 H8 l8 u8 o8 S8 => ?_
  clear S7
  repeat walk_at "ob"
  rename_i q9 H9 _ S9
  refine use_of2 (ns := [365, 366]) S9 rfl hF o8 (by omega) rfl rfl fun x10 hx10 a10 b10 c10 H10 o10 S10 => ?_
  simp only [List.mem_cons, List.not_mem_nil, or_false] at hx10
  clear S9 S8
  repeat walk_at "ob"
  rename_i q11 H11 _ S11
  exact (k ⟨1 + r8, x4, x7, x10⟩ q11 ⟨by show 1 ≤ 1 + r8; omega, by show 1 + r8 ≤ 100000; omega, by show _ ≤ x4; omega, by show x4 ≤ _; omega, by show 0 ≤ x7; omega, by show x7 ≤ _; omega, hx10⟩ (by show 1 + r8 ≤ m; omega)).use hF o10 S11
end
end LAW

set_option Elab.async false
set_option linter.all false
set_option maxRecDepth 100000
namespace LAW
open PySem PySem.Spec PyProof.Rows L2 PySem.W OB
local macro_rules | `(tactic| walk_at "obc") => `(tactic| first
  | exact Or.inl ⟨by omega, by omega⟩
  | exact Or.inr ⟨by omega, by omega⟩
  | exact cdiv_ok (by omega) (by omega)
  | (show (0 : Int) < _; omega)
  | exact ⟨by omega, by decide⟩
  | exact ⟨by decide, by decide⟩)
local macro_rules | `(tactic| walk_at "obat") => `(tactic| first
  | exact Sy.at (by assumption) 0 rfl | exact Sy.at (by assumption) 1 rfl | exact Sy.at (by assumption) 2 rfl | exact Sy.at (by assumption) 3 rfl
  | exact Sy.at (by assumption) 4 rfl | exact Sy.at (by assumption) 5 rfl | exact Sy.at (by assumption) 6 rfl | exact Sy.at (by assumption) _ (by assumption) | exact Sy.at (by assumption) (_ + 1) (by assumption) | exact Sy.at (by assumption) (_ + 2) (by assumption))
local macro_rules | `(tactic| walk_at "obt") => `(tactic| first
  | exact Sy.tqs (by assumption) 0 rfl | exact Sy.tqs (by assumption) 1 rfl | exact Sy.tqs (by assumption) 2 rfl | exact Sy.tqs (by assumption) 3 rfl | exact Sy.tqs (by assumption) 4 rfl | exact Sy.tqs (by assumption) 5 rfl
  | exact Sy.tqs (by assumption) 6 rfl | exact Sy.tqs (by assumption) 7 rfl | assumption)
local macro_rules | `(tactic| walk_at "obl") => `(tactic| first
  | exact SqL.of (by walk_at "obat")
  | exact Sy.sq (by assumption) 0 rfl | exact Sy.sq (by assumption) 1 rfl | exact Sy.sq (by assumption) 2 rfl | exact Sy.sq (by assumption) 3 rfl | exact Sy.sq (by assumption) _ (by assumption))
local macro_rules | `(tactic| walk_at "obd") => `(tactic| first
  | exact Dp.int _ | exact Dp.bl _ | exact Dp.str _ | exact Dp.non
  | exact Sy.dp (by assumption) 0 rfl | exact Sy.dp (by assumption) 1 rfl | exact Sy.dp (by assumption) 2 rfl | exact Sy.dp (by assumption) 3 rfl
  | exact Sy.dp (by assumption) 4 rfl | exact Sy.dp (by assumption) 5 rfl | exact Sy.dp (by assumption) 6 rfl | exact Sy.dp (by assumption) 7 rfl
  | exact Sy.dp (by assumption) 8 rfl | exact Sy.dp (by assumption) 9 rfl | exact Sy.dp (by assumption) _ (by assumption) | assumption)
local macro_rules | `(tactic| walk_at "obds") => `(tactic| first
  | exact DpAll.nil
  | (refine' DpAll.cons ?ob1 ?ob2; (case ob1 => walk_at "obd"); (case ob2 => walk_at "obds"))
  | exact Sy.dps (by assumption) 0 rfl | exact Sy.dps (by assumption) 1 rfl | exact Sy.dps (by assumption) 2 rfl | exact Sy.dps (by assumption) 3 rfl | assumption)
local macro_rules | `(tactic| walk_at "obsc") => `(tactic| first
  | exact ScL.nil
  | ((first | refine' ScL.int ?obz | refine' ScL.str ?obz | refine' ScL.bl ?obz | refine' ScL.non ?obz); (case obz => walk_at "obsc")))
local macro_rules | `(tactic| walk_at "ob1") => `(tactic| first
  | ((with_reducible refine' g_var ?obh ?_); (case obh => rfl))
  | with_reducible refine g_c ?_
  | with_reducible refine g_nx ?_
  | with_reducible refine g_rt ?_
  | with_reducible refine g_bk ?_
  | with_reducible refine g_ct ?_
  | with_reducible refine g_op ?_
  | with_reducible refine g_I0 ?_
  | with_reducible refine g_test ?_
  | with_reducible refine g_bl ?_
  | with_reducible refine g_blx ?_
  | with_reducible refine g_B ?_
  | with_reducible refine g_seq ?_
  | with_reducible refine g_asg ?_
  | with_reducible refine g_name ?_
  | with_reducible refine g_ifS ?_
  | with_reducible refine g_ret ?_
  | with_reducible refine g_cb ?_
  | with_reducible refine g_cons ?_
  | with_reducible refine g_nil ?_
  | with_reducible refine g_int ?_
  | with_reducible refine g_intB ?_
  | with_reducible refine g_abs ?_
  | with_reducible refine g_max ?_
  | with_reducible refine g_min ?_
  | with_reducible refine g_un ?_
  | with_reducible refine g_U ?_
  | with_reducible refine g_eqI ?_
  | with_reducible refine g_neI ?_
  | with_reducible refine g_eqS ?_
  | with_reducible refine g_neS ?_
  | with_reducible refine g_tt ?_
  | with_reducible refine g_ff ?_
  | with_reducible refine g_next ?_
  | with_reducible refine g_drop ?_
  | with_reducible refine g_if ?_
  | with_reducible refine g_andV ?_
  | with_reducible refine g_orV ?_
  | with_reducible refine g_notV ?_
  | with_reducible refine g_and ?_
  | with_reducible refine g_or ?_
  | with_reducible refine g_not ?_
  | with_reducible refine g_yes ?_
  | with_reducible refine g_chain ?_
  | with_reducible refine g_cg ?_
  | with_reducible refine g_mg ?_
  | with_reducible refine g_kg ?_
  | with_reducible refine g_pg ?_
  | ((with_reducible refine' g_call ?obh ?obj ?_); (case obh => rfl); (case obj => rfl))
  | with_reducible refine g_par ?_
  | with_reducible refine g_par2 ?_
  | with_reducible refine g_par3 ?_
  | with_reducible refine g_par33 ?_
  | with_reducible refine g_gnil ?_
  | with_reducible refine g_gcons ?_
  | with_reducible refine g_gsub ?_
  | with_reducible refine g_ipI ?_
  | with_reducible refine g_rAdd ?_
  | with_reducible refine g_rSub ?_
  | ((with_reducible refine' g_aug ?obh ?_); (case obh => rfl))
  | with_reducible refine g_tup ?_
  | with_reducible refine g_lst ?_
  | with_reducible refine g_bm ?_
  | with_reducible refine g_bm0 ?_
  | with_reducible refine g_sl ?_
  | with_reducible refine g_nopart ?_
  | with_reducible refine g_part ?_
  | with_reducible refine g_pint ?_
  | with_reducible refine isi_int ?_
  | with_reducible refine isi_intB ?_
  | ((with_reducible refine' g_I ?obh ?_); (case obh => walk_at "obc"))
  | ((with_reducible refine' g_tyl ?obh ?_); (case obh => walk_at "obl"))
  | ((with_reducible refine' g_lenL ?obh ?_); (case obh => walk_at "obl"))
  | with_reducible refine g_ne ?_
  | ((with_reducible refine' g_neN' ?obh ?_); (case obh => rfl))
  | with_reducible refine g_ntt ?_
  | with_reducible refine g_nff ?_
  | with_reducible refine g_star ?_
  | with_reducible refine g_att ?_
  | with_reducible refine g_sfld ?_
  | with_reducible refine g_faug ?_
  | with_reducible refine g_fld ?_
  | ((with_reducible refine' g_nF ?obh ?_); (case obh => omega))
  | ((with_reducible refine' g_nT ?obh ?_); (case obh => omega))
  | ((with_reducible refine' g_TD ?obh ?_); (case obh => omega))
  | ((with_reducible refine' g_FD ?obh ?_); (case obh => omega))
  | ((with_reducible refine' g_ixUL ?obh ?obi ?_); (case obh => walk_at "obl"); (case obi => exact atI_nn (by omega) (by rfl)))
  | ((with_reducible refine' g_setLS ?obs ?obh ?obi ?_); (case obs => assumption); (case obh => assumption); (case obi => rfl); intro _ _ _)
  | ((with_reducible refine' g_newT ?obs ?obh ?obi ?obj ?_); (case obs => assumption); (case obh => walk_at "obds"); (case obi => rfl); (case obj => exact Nat.le_of_ble_eq_true rfl); intro _ _ _ _)
  | ((with_reducible refine' g_newL ?obs ?obj ?_); (case obs => assumption); (case obj => exact Nat.le_of_ble_eq_true rfl); intro _ _ _ _)
  | ((with_reducible refine' isi_tup ?obh ?_); (case obh => walk_at "obt"))
  | ((with_reducible refine' g_lenT ?obh ?_); (case obh => walk_at "obt"))
  | ((with_reducible refine' g_unpT ?obh ?obi ?_); (case obh => walk_at "obt"); (case obi => rfl))
  | ((with_reducible refine' g_divmod ?obs ?obh ?_); (case obs => assumption); (case obh => exact cdivp_ok (by omega) (by omega) (by omega)); intro _ _ _ _)
  | ((with_reducible refine' g_unpD ?obh ?obi ?obj ?_); (case obh => walk_at "obd"); (case obi => walk_at "obsc"); (case obj => rfl))
  | with_reducible refine g_att ?_)
local macro_rules | `(tactic| walk_at "obat19") => `(tactic| first | assumption | walk_at "obat")
local macro_rules | `(tactic| walk_at "ob") => `(tactic| first
  | walk_at "ob1"
  | refine use_is_integer ?_
  | refine use_is_within ?_
  | refine use_balance ?_
  | refine use_rate ?_
  | refine use_year (by assumption) ?_
  | refine use_unit ?_
  | refine use_rest (by omega) (by omega) ?_
  | refine use_parts (by walk_at "obd") (by assumption) ?_
  | refine use_is_stretch (by walk_at "obd") (by assumption) ?_
  | refine g_unpT (sqt_enc (by walk_at "obd")) rfl ?_
  | ((with_reducible refine' g_fldS ?obh ?obc ?obn ?obe ?_); (case obh => walk_at "obat19"); (case obc => exact AccC.c (by assumption)); (case obn => first | exact AccC.n1 (by assumption) | exact AccC.n2 (by assumption) | exact AccC.n3 (by assumption)); (case obe => rfl))
  | ((with_reducible refine' g_attS ?obs ?obh ?obc ?obn ?obl ?_); (case obs => assumption); (case obh => assumption); (case obc => exact AccC.c (by assumption)); (case obn => first | exact AccC.n1 (by assumption) | exact AccC.n2 (by assumption) | exact AccC.n3 (by assumption)); (case obl => exact Nat.le_of_ble_eq_true rfl); intro _ _ _)
  | ((with_reducible refine' g_augS ?obh ?obc ?obn ?obe ?_); (case obh => walk_at "obat19"); (case obc => exact AccC.c (by assumption)); (case obn => first | exact AccC.n1 (by assumption) | exact AccC.n2 (by assumption) | exact AccC.n3 (by assumption)); (case obe => rfl))
  | ((with_reducible refine' g_augE ?obs ?obh ?obl ?_); (case obs => assumption); (case obh => assumption); (case obl => exact Nat.le_of_ble_eq_true rfl); intro _ _ _)
  | ((with_reducible refine' g_ixUT ?obh ?obi ?_); (case obh => first | exact sqt_enc (by walk_at "obd") | walk_at "obt"); (case obi => rfl)))
section
variable {P : Program} {w : World} {K : Frag} {mg : Str → Option Value} {base : Heap}
def DrawnIn (m : Int) (ss : List Str4) : Prop := ∀ s ∈ ss, Ok4 s ∧ s.d ≤ m
def sp_law_stretches (K : Frag) : Sp := fun vs H Q E => vs.length = 3 ∧ ∃ (F : List (Addr × HO)) (G : List Ft) (i : Nat) (p : Addr) (n : Nat) (t m a b c : Int), vs = [.ref p, .int t, .int m] ∧ Sy K F G H ∧ F[i]? = some (p, potO a b c) ∧ PotOk n a b c ∧ n < 100000 ∧ 0 ≤ t ∧ t ≤ 1000 ∧ 0 < m ∧ m ≤ 100000 ∧
  ∀ (ss : List Str4) (q : Addr), (ss.length : Int) ≤ t → DrawnIn m ss → PotK K F (.dat [.ref q] [encs ss] :: G) i p (n + 1 + 7 * ss.length) (Q (.ref q))
abbrev names_law_stretches : List Str := ["pot", "amount", "most", "lap"]
theorem sc_law_stretches : FnScope names_law_stretches ["pot", "amount", "most"] (defScope (top 40)) := ⟨rfl, rfl, rfl, by decide +kernel, rfl, by decide +kernel, by decide +kernel⟩
set_option maxHeartbeats 4000000 in
theorem ok_law_stretches (T : Tx K mg) : FG P w K mg base CX0 4 T.a_law_stretches T.d_law_stretches ["pot", "amount", "most"] (sp_law_stretches K) := by
  refine OB.Fun.fg T.F_law_stretches sc_law_stretches (fun vs H Q E h => h.1) (fun cdv A out s H vs Q E g h => ?_)
  obtain ⟨_, F, G, i, p, n, t, m, a, b, c, rfl, S, hF, ok, hn, t0, t1, m0, m1, k⟩ := h
  refine ⟨_, (pss_one (ps_ret (pe_callTy (toK (r := rTuple) (K := K) rfl c_tuple) (by rfl) T.n_tuple (by decide +kernel) (pa_cons (pe_lc (own := [("lap", 3)]) (tt := tYes) rfl sc_law_stretches.nd (pi_range1 rfl T.n_range (pa_cons (pe_cg (ok_law_take T) (g.mono (by decide : 1 ≤ 3)) (by rfl) T.m_law_take T.F_law_take.kp (OB.Fun.bd T.F_law_take (ps := ["pot", "upto"]) (n := 2) (ks := []) (ix := [0, 1]) (fun _ _ _ _ _ _ us ws h1 h2 => match us, ws, h1, h2 with | [_, _], [], _, _ => rfl)) pass0 (pa_cons (pv 0) (pa_cons (pe_op op_add (pv 1) pe_int) pa_nil)) pk_nil) pa_nil)) (blkOk_by (N := names_law_stretches) (sc := defScope (top 40)) (own := [("lap", 3)]) (by decide +kernel)) (fun _ _ _ _ _ => (pg_name (i := 3) sc_law_stretches.nd rfl (by first | exact Or.inl rfl | exact Or.inr rfl))) (fun _ _ _ _ _ => pts_nil) (fun _ _ _ _ _ => (pe_cg (ok_law_stretch T) (g.mono (by decide : 3 ≤ 3)) (by rfl) T.m_law_stretch T.F_law_stretch.kp (OB.Fun.bd T.F_law_stretch (ps := ["pot", "most"]) (n := 2) (ks := []) (ix := [0, 1]) (fun _ _ _ _ _ _ us ws h1 h2 => match us, ws, h1, h2 with | [_, _], [], _, _ => rfl)) pass0 (pa_cons (pv 0) (pa_cons (pv 2) pa_nil)) pk_nil))) pa_nil)))), ?_⟩
  refine g_start (σ := [some _, some _, some _, none]) rfl ?_
  repeat walk_at "ob"
  refine g_lcR (K := K) ?_
  repeat walk_at "ob"
  refine use_take S hF ok (by omega) (by omega) (by omega) fun r1 a1 b1 c1 H1 l1 u1 o1 S1 hF1 => ?_
  repeat walk_at "ob"
  refine g_rgJ (by omega) (by omega) ?_
  refine rglc_of (fun j F' ds => ∃ a' b' c' ss, F' = F.set i (p, potO a' b' c') ∧ PotOk (n + 1 + 7 * j) a' b' c' ∧ ss.length = j ∧ DrawnIn m ss ∧ ds = ss.map enc ∧ j ≤ r1.toNat) S1 ⟨a1, b1, c1, [], rfl, o1, rfl, (fun s hs => nomatch hs), rfl, Nat.zero_le _⟩ ?_ ?_ ?_
  · rintro j F' ds ⟨a', b', c', ss, _, _, hl, _, rfl, hj⟩
    rw [List.length_map, hl]
    omega
  · intro j hj Dp H2 F2 vs ds QE QR hi S3 kE kR
    obtain ⟨a', b', c', ss, rfl, o2, hl, hs, rfl, hj2⟩ := hi
    repeat walk_at "ob"
    refine ⟨rfl, ?_⟩
    repeat walk_at "ob"
    refine ⟨rfl, _, _, i + 1, p, _, m, a', b', c', rfl, S3, set_at hF, o2, by omega, m0, m1, fun s q os hm a3 b3 c3 H3 o3 S4 _ => ?_⟩
    have S5 : Sy K ((Dp, .lst vs) :: (F.set i (p, potO a' b' c')).set i (p, potO a3 b3 c3)) (.dat [.ref q] [enc s] :: .dat vs (ss.map enc) :: G) H3 := S4
    rw [List.set_set] at S5
    refine kE _ _ _ _ ⟨a3, b3, c3, ss ++ [s], rfl, o3, by rw [List.length_append, hl]; rfl, ?_, by rw [List.map_append]; rfl, hj⟩ S5
    intro x hx
    rcases List.mem_append.mp hx with hx | hx
    · exact hs x hx
    · cases List.mem_singleton.mp hx
      exact ⟨os, hm⟩
  · intro Dp H2 F2 vs ds hD hi S3
    obtain ⟨a', b', c', ss, rfl, o2, hl, hs, rfl, hj2⟩ := hi
    repeat walk_at "ob"
    refine g_tup0 S3 (by walk_at "obl") (S3.dps 0 rfl) (enc_imm ss) fun q2 H4 _ S7 => ?_
    refine (k ss q2 (by omega) hs).use hF (by rw [hl]; exact o2) S7.less.drop2
/-- parts of stretches in a tuple or in a list -/
def sp_law_parts_in (K : Frag) : Sp := fun vs H Q E => vs.length = 1 ∧ ∃ (F : List (Addr × HO)) (G : List Ft) (b : Bool) (p : Addr) (xs : List V) (ss : List Str4), vs = [.ref p] ∧ Sy K F (.dat xs (ss.map enc) :: G) H ∧ (∀ H', Sy K F (.dat xs (ss.map enc) :: G) H' → SqK K H' b p xs) ∧ (∀ s ∈ ss, Ok4 s) ∧ ss.length ≤ 1000 ∧
  ∀ H', Sy K F (.dat xs (ss.map enc) :: G) H' → Q (.int (sumP ss)) H'
abbrev names_law_parts_in : List Str := ["spans", "days", "balance", "rate", "year"]
theorem sc_law_parts_in : FnScope names_law_parts_in ["spans"] (defScope (top 41)) := ⟨rfl, rfl, rfl, by decide +kernel, rfl, by decide +kernel, by decide +kernel⟩
set_option maxHeartbeats 4000000 in
theorem ok_law_parts_in (T : Tx K mg) : FG P w K mg base CX0 2 T.a_law_parts_in T.d_law_parts_in ["spans"] (sp_law_parts_in K) := by
  refine OB.Fun.fg T.F_law_parts_in sc_law_parts_in (fun vs H Q E h => h.1) (fun cdv A out s H vs Q E g h => ?_)
  obtain ⟨_, F, G, b, p, xs, ss, rfl, S, hq, ok, hn, k⟩ := h
  refine ⟨_, (pss_one (ps_ret (pe_callTy c_int (by rfl) T.n_int (by decide +kernel) (pa_cons (pe_callB (toK (r := rSum) (K := K) rfl (cr_sum rfl)) (by rfl) T.n_sum (by decide +kernel) (pa_cons (pe_lc (own := [("days", 1), ("balance", 2), ("rate", 3), ("year", 4)]) (tt := tYes) rfl sc_law_parts_in.nd (pi_seq (pv 0)) (blkOk_by (N := names_law_parts_in) (sc := defScope (top 41)) (own := [("days", 1), ("balance", 2), ("rate", 3), ("year", 4)]) (by decide +kernel)) (fun _ _ _ _ _ => (pg_tupK (K := K) rfl (n := 4) rfl (pgs_cons (pg_name (i := 1) sc_law_parts_in.nd rfl (by first | exact Or.inl rfl | exact Or.inr rfl)) (pgs_cons (pg_name (i := 2) sc_law_parts_in.nd rfl (by first | exact Or.inl rfl | exact Or.inr rfl)) (pgs_cons (pg_name (i := 3) sc_law_parts_in.nd rfl (by first | exact Or.inl rfl | exact Or.inr rfl)) (pgs_cons (pg_name (i := 4) sc_law_parts_in.nd rfl (by first | exact Or.inl rfl | exact Or.inr rfl)) pgs_nil)))))) (fun _ _ _ _ _ => pts_nil) (fun _ _ _ _ _ => (pe_op op_mul (pv 1) (pe_cg (ok_law_day_parts T) (g.mono (by decide : 1 ≤ 1)) (by rfl) T.m_law_day_parts T.F_law_day_parts.kp (OB.Fun.bd T.F_law_day_parts (ps := ["balance", "rate", "year"]) (n := 3) (ks := []) (ix := [0, 1, 2]) (fun _ _ _ _ _ _ us ws h1 h2 => match us, ws, h1, h2 with | [_, _, _], [], _, _ => rfl)) pass0 (pa_cons (pv 2) (pa_cons (pv 3) (pa_cons (pv 4) pa_nil))) pk_nil)))) pa_nil)) pa_nil)))), ?_⟩
  refine g_start (σ := [some _, none, none, none, none]) rfl ?_
  have hlen : xs.length = ss.length := by rw [dps_length (S.dps 0 rfl), List.length_map]
  repeat walk_at "ob"
  refine g_lcS (a := p) (xs := xs) b (fun i F' ds => F' = F ∧ ds = (ss.take i).map fun s => .int (parts s)) S (fun Q' q => by walk_at "ob"; exact q) ⟨rfl, rfl⟩ (fun i F' ds H' hi S3 => hq H' (hi.1 ▸ S3)) (fun i F' ds hi => by
    rw [hi.2, List.length_map, List.length_take]; omega) ?_ ?_
  · intro i x hx Dp H2 F2 vs ds QE QR hi S3 kE kR
    obtain ⟨st, hst, hds⟩ := dps_map (S3.dps 1 rfl) hx
    obtain ⟨q, ys, rfl, _⟩ := dp_at hds
    have o := ok _ (List.mem_of_getElem? hst)
    repeat walk_at "ob"
    refine ⟨rfl, ?_⟩
    repeat walk_at "ob"
    refine ⟨rfl, st, rfl, o, ?_⟩
    have d0 := o.d0
    have d1 := o.d1
    have q0 := parts_nn o.one
    have q1 := parts_le o.one
    rw [dayP_eq] at q0 q1
    repeat walk_at "ob"
    have e : st.d * dayP st = parts st := by
      unfold dayP parts
      rw [Int.mul_assoc st.d, Int.mul_assoc st.d]
    rw [e]
    refine kE _ (.int (parts st)) F2 H2 ⟨hi.1, ?_⟩ (S3.fact (dps_one (.int _)) rfl)
    rw [hi.2, List.take_add_one, hst]
    simp
  · intro Dp H2 F2 vs ds hD hi S3
    have hv : vs = (ss.map parts).map V.int := by
      rw [dps_scal (S3.dps 0 rfl) (by rw [hi.2]; intro d hd; obtain ⟨s, _, rfl⟩ := List.mem_map.mp hd; rfl), hi.2, hlen, List.take_length]
      simp [toV, Function.comp_def]
    repeat walk_at "ob"
    subst hv
    refine g_sum (ns := ss.map parts) (by walk_at "obl") ?_
    repeat walk_at "ob"
    obtain ⟨rfl, _⟩ := hi
    exact k _ S3.less.drop
/-- each day a stretch of its own -/
def singles (ss : List Str4) : List Str4 := ss.flatMap fun s => List.replicate s.d.toNat { s with d := 1 }
theorem singles_parts (ss : List Str4) : (singles ss).map parts = flat ss := by
  unfold singles flat
  rw [List.map_flatMap]
  congr 1
  funext s
  rw [List.map_replicate, dayP_eq]
theorem singles_length (ss : List Str4) : (singles ss).length = (flat ss).length := by rw [← singles_parts, List.length_map]
theorem singles_take {ss : List Str4} {i : Nat} {s : Str4} (h : ss[i]? = some s) : singles (ss.take (i + 1)) = singles (ss.take i) ++ List.replicate s.d.toNat { s with d := 1 } := by
  rw [List.take_add_one, h]
  unfold singles
  rw [List.flatMap_append]
  simp
theorem singles_le (ss : List Str4) (i : Nat) : (singles (ss.take i)).length ≤ (singles ss).length := by
  conv => rhs; rw [← List.take_append_drop i ss]
  unfold singles
  rw [List.flatMap_append, List.length_append]
  omega
theorem singles_ok {ss : List Str4} (ok : ∀ s ∈ ss, Ok4 s) : ∀ s ∈ singles ss, Ok4 s := by
  intro s hs
  obtain ⟨t, ht, h⟩ := List.mem_flatMap.mp hs
  obtain ⟨_, rfl⟩ := List.mem_replicate.mp h
  exact (ok t ht).one
def sp_law_days_of (K : Frag) : Sp := fun vs H Q E => vs.length = 1 ∧ ∃ (F : List (Addr × HO)) (G : List Ft) (p : Addr) (ss : List Str4), vs = [.ref p] ∧ Sy K F G H ∧ Dp K H (.ref p) (encs ss) ∧ (∀ s ∈ ss, Ok4 s) ∧ (flat ss).length ≤ 20000 ∧
  ∀ q H', Sy K F (.dat [.ref q] [encs (singles ss)] :: G) H' → Q (.ref q) H'
abbrev names_law_days_of : List Str := ["spans", "found", "days", "balance", "rate", "year", "lap"]
theorem sc_law_days_of : FnScope names_law_days_of ["spans"] (defScope (top 42)) := ⟨rfl, rfl, rfl, by decide +kernel, rfl, by decide +kernel, by decide +kernel⟩
set_option maxHeartbeats 4000000 in
theorem ok_law_days_of (T : Tx K mg) : FG P w K mg base CX0 1 T.a_law_days_of T.d_law_days_of ["spans"] (sp_law_days_of K) := by
  refine OB.Fun.fg T.F_law_days_of sc_law_days_of (fun vs H Q E h => h.1) (fun cdv A out s H vs Q E g h => ?_)
  obtain ⟨_, F, G, p, ss, rfl, S, hd, ok, hfl, k⟩ := h
  refine ⟨_, (pss_cons (ps_set (i := 1) sc_law_days_of.nd rfl (by first | exact Or.inl rfl | exact Or.inr rfl) (pe_lst pa_nil))
      (pss_cons (ps_for PassesOwn.never rfl (pi_seq (pv 0)) (pg_tupK (K := K) rfl (n := 4) rfl (pgs_cons (pg_name (i := 2) sc_law_days_of.nd rfl (by first | exact Or.inl rfl | exact Or.inr rfl)) (pgs_cons (pg_name (i := 3) sc_law_days_of.nd rfl (by first | exact Or.inl rfl | exact Or.inr rfl)) (pgs_cons (pg_name (i := 4) sc_law_days_of.nd rfl (by first | exact Or.inl rfl | exact Or.inr rfl)) (pgs_cons (pg_name (i := 5) sc_law_days_of.nd rfl (by first | exact Or.inl rfl | exact Or.inr rfl)) pgs_nil)))))
      (pss_one (ps_expr (pe_bm PySem.F.plainAttrs_list PySem.F.slot_list_extend PySem.F.type_list_extend mt_extend (pv 1) (pa_cons (pe_lc (own := [("lap", 6)]) (tt := tYes) rfl sc_law_days_of.nd (pi_range1 rfl T.n_range (pa_cons (pv 2) pa_nil)) (blkOk_by (N := names_law_days_of) (sc := defScope (top 42)) (own := [("lap", 6)]) (by decide +kernel)) (fun _ _ _ _ _ => (pg_name (i := 6) sc_law_days_of.nd rfl (by first | exact Or.inl rfl | exact Or.inr rfl))) (fun _ _ _ _ _ => pts_nil) (fun _ _ _ _ _ => (pe_tup (pa_cons pe_int (pa_cons (pv 3) (pa_cons (pv 4) (pa_cons (pv 5) pa_nil))))))) pa_nil)))))
      (pss_one (ps_ret (pe_callTy (toK (r := rTuple) (K := K) rfl c_tuple) (by rfl) T.n_tuple (by decide +kernel) (pa_cons (pv 1) pa_nil)))))), ?_⟩
  refine g_start (σ := [some _, none, none, none, none, none, none]) rfl ?_
  obtain ⟨a, xs, e, S0⟩ := S.opn hd (enc_imm ss)
  cases e
  have hlen : xs.length = ss.length := by rw [dps_length (S0.dps 1 rfl), List.length_map]
  repeat walk_at "ob"
  rename_i q H3 hq S5
  refine g_forS (a := p) (xs := xs) false (fun i σ' H' => ∃ v2 v3 v4 v5 v6 vs, σ' = [some (.ref p), some (.ref q), v2, v3, v4, v5, v6] ∧
    Sy K ((q, .lst vs) :: F) (.dat vs ((singles (ss.take i)).map enc) :: .tq p xs :: .dat xs (ss.map enc) :: G) H') (fun Q' q => by walk_at "ob"; exact q) ⟨none, none, none, none, none, [], rfl, S5.fact .nil rfl⟩ (fun i σ' H' ⟨_, _, _, _, _, _, _, S6⟩ => S6.tqs 1 rfl) ?_ ?_
  · rintro i x σ' H' hx ⟨v2, v3, v4, v5, v6, vs, rfl, S6⟩
    obtain ⟨st, hst, hds⟩ := dps_map (S6.dps 2 rfl) hx
    obtain ⟨u, ys, rfl, _⟩ := dp_at hds
    have o := ok _ (List.mem_of_getElem? hst)
    repeat walk_at "ob"
    have d0 := o.d0
    have d1 := o.d1
    have S7 := S6.add (.dat [.ref u] [enc st]) ⟨dps_one hds, rfl⟩
    have hln : (singles (ss.take i)).length + st.d.toNat ≤ (singles ss).length := by
      have e := singles_le ss (i + 1)
      rw [singles_take hst, List.length_append, List.length_replicate] at e
      exact e
    rw [singles_length ss] at hln
    have hvs := dps_length (S6.dps 0 rfl)
    rw [List.length_map] at hvs
    refine g_lcR (K := K) ?_
    repeat walk_at "ob"
    refine g_rgJ (by omega) (by omega) ?_
    refine rglc_of (fun j F' ds => F' = (q, .lst vs) :: F ∧ ds = List.replicate j (enc { st with d := 1 }) ∧ j ≤ st.d.toNat) S7 ⟨rfl, rfl, Nat.zero_le _⟩ ?_ ?_ ?_
    · rintro j F' ds ⟨_, rfl, _⟩
      rw [List.length_replicate]
      omega
    · intro j hj Dp H2 F2 vs2 ds QE QR hi S8 kE kR
      obtain ⟨rfl, rfl, hj2⟩ := hi
      repeat walk_at "ob"
      refine ⟨rfl, ?_⟩
      repeat walk_at "ob"
      refine kE _ (enc { st with d := 1 }) _ _ ⟨rfl, by rw [List.replicate_succ'], hj⟩ ?_
      assumption
    · rintro Dp H2 F2 vs2 ds hD ⟨rfl, rfl, _⟩ S8
      repeat walk_at "ob"
      have hv2 := dps_length (S8.dps 0 rfl)
      rw [List.length_replicate] at hv2
      refine g_extS S8 (f := 1) rfl (S8.at 0 rfl) (by omega) fun H9 S9 => ?_
      repeat walk_at "ob"
      rw [singles_take hst]
      refine ⟨_, _, _, _, _, vs ++ vs2, rfl, ?_⟩
      have S10 := S9.fact (dps_append (S9.dps 2 rfl) (S9.dps 0 rfl)) (by rw [immAll_append, enc_imm, immAll_of fun x hx => by rw [(List.mem_replicate.mp hx).2]; rfl]; rfl)
      have S11 := S10.drop2.drop2.drop2
      rw [List.map_append, List.map_replicate]
      exact Sy.less (x := (Dp, .lst vs2)) S11
  · rintro σ' H' ⟨v2, v3, v4, v5, v6, vs, rfl, S6⟩
    repeat walk_at "ob"
    rw [hlen, List.take_length] at S6
    refine g_tup0 S6 (by walk_at "obl") (S6.dps 0 rfl) (enc_imm ..) fun q2 H4 _ S7 => ?_
    exact k q2 H4 S7.less.drop2.drop2.drop2
theorem use_parts_in {F : List (Addr × HO)} {G : List Ft} {H : Hp} {Q : VK} {E : XK} {p : Addr} {ss : List Str4} (S : Sy K F G H) (hd : Dp K H (.ref p) (encs ss)) (ok : ∀ s ∈ ss, Ok4 s) (hn : ss.length ≤ 1000)
    (k : ∀ H', Sy K F G H' → Q (.int (sumP ss)) H') : sp_law_parts_in K [.ref p] H Q E := by
  obtain ⟨a, xs, e, S0⟩ := S.opn hd (enc_imm ss)
  cases e
  have S1 := (S0.add (.tq p xs) (S0.tqs 0 rfl)).drop2
  have S2 : Sy K F (.dat xs (ss.map enc) :: .tq p xs :: G) H := (S0.fact (S0.dps 1 rfl) (enc_imm ss)).drop3
  exact ⟨rfl, F, .tq p xs :: G, false, p, xs, ss, rfl, S2, fun H' S' => S'.tqs 1 rfl, ok, hn, fun H' S' => k H' S'.drop.drop⟩
/-! ### days cut at drawn places -/
/-- other stretches of the same days -/
def Same (t ss : List Str4) : Prop := (∀ s ∈ t, Ok4 s) ∧ flat t = flat ss ∧ t.length ≤ 2 * ss.length
theorem flat_app (a b : List Str4) : flat (a ++ b) = flat a ++ flat b := List.flatMap_append ..
theorem flat_one (s : Str4) : flat [s] = List.replicate s.d.toNat (dayP s) := by
  unfold flat
  simp
theorem cut_one {s : Str4} (o : Ok4 s) {f : Int} (h0 : 0 ≤ f) (h1 : f < s.d) : Same (([{ s with d := f }, { s with d := s.d - f }] : List Str4).filter fun x => decide (x.d > 0)) [s] := by
  have k : Ok4 { s with d := s.d - f } := ⟨by show 1 ≤ s.d - f; omega, by have := o.d1; show s.d - f ≤ 100000; omega, o.b0, o.b1, o.r0, o.r1, o.y0⟩
  by_cases hf : f > 0
  · have e : (([{ s with d := f }, { s with d := s.d - f }] : List Str4).filter fun x => decide (x.d > 0)) = [{ s with d := f }, { s with d := s.d - f }] := by
      simp [List.filter, hf, h1]
    rw [e]
    refine ⟨fun x hx => ?_, ?_, Nat.le_of_ble_eq_true rfl⟩
    · rcases List.mem_cons.mp hx with rfl | hx
      · exact ⟨hf, by have := o.d1; show f ≤ 100000; omega, o.b0, o.b1, o.r0, o.r1, o.y0⟩
      · cases List.mem_singleton.mp hx
        exact k
    · show flat ([{ s with d := f }] ++ [{ s with d := s.d - f }]) = _
      rw [flat_app, flat_one, flat_one, flat_one]
      show List.replicate f.toNat (dayP s) ++ List.replicate (s.d - f).toNat (dayP s) = _
      rw [List.replicate_append_replicate]
      congr 1
      omega
  · have hz : f = 0 := by omega
    subst hz
    have e : (([{ s with d := 0 }, { s with d := s.d - 0 }] : List Str4).filter fun x => decide (x.d > 0)) = [{ s with d := s.d - 0 }] := by
      simp [List.filter, h1]
    rw [e]
    refine ⟨fun x hx => ?_, ?_, Nat.le_of_ble_eq_true rfl⟩
    · cases List.mem_singleton.mp hx
      exact k
    · rw [flat_one, flat_one]
      show List.replicate (s.d - 0).toNat (dayP s) = _
      rw [Int.sub_zero]
theorem set_self {F : List (Addr × HO)} {i : Nat} {x : Addr × HO} (h : F[i]? = some x) : F.set i x = F := by
  obtain ⟨hi, e⟩ := List.getElem?_eq_some_iff.mp h
  rw [← e, List.set_getElem_self]
theorem pot_under {F : List (Addr × HO)} {G : List Ft} {H : Hp} {i : Nat} {x y z : Addr × HO} (S : Sy K ((x :: F.set i y).set (i + 1) z) G H) : Sy K (x :: F.set i z) G H := by
  have S5 : Sy K (x :: (F.set i y).set i z) G H := S
  rw [List.set_set] at S5
  exact S5
theorem Same.app {t ss u vv : List Str4} (h : Same t ss) (k : Same u vv) : Same (t ++ u) (ss ++ vv) := by
  refine ⟨fun x hx => ?_, ?_, ?_⟩
  · rcases List.mem_append.mp hx with hx | hx
    · exact h.1 x hx
    · exact k.1 x hx
  · rw [flat_app, flat_app, h.2.1, k.2.1]
  · have := h.2.2
    have := k.2.2
    rw [List.length_append, List.length_append]
    omega
def sp_law_cut_up (K : Frag) : Sp := fun vs H Q E => vs.length = 2 ∧ ∃ (F : List (Addr × HO)) (G : List Ft) (i : Nat) (p q : Addr) (n : Nat) (a b c : Int) (ss : List Str4), vs = [.ref p, .ref q] ∧ Sy K F G H ∧ F[i]? = some (p, potO a b c) ∧ PotOk n a b c ∧ n < 100000 ∧ Dp K H (.ref q) (encs ss) ∧ (∀ s ∈ ss, Ok4 s) ∧ ss.length ≤ 1000 ∧
  ∀ (t : List Str4) (r : Addr), Same t ss → PotK K F (.dat [.ref r] [encs t] :: G) i p (n + ss.length) (Q (.ref r))
abbrev names_law_cut_up : List Str := ["pot", "spans", "found", "days", "balance", "rate", "year", "first", "some", "one"]
theorem sc_law_cut_up : FnScope names_law_cut_up ["pot", "spans"] (defScope (top 43)) := ⟨rfl, rfl, rfl, by decide +kernel, rfl, by decide +kernel, by decide +kernel⟩
set_option maxHeartbeats 4000000 in
theorem ok_law_cut_up (T : Tx K mg) : FG P w K mg base CX0 2 T.a_law_cut_up T.d_law_cut_up ["pot", "spans"] (sp_law_cut_up K) := by
  refine OB.Fun.fg T.F_law_cut_up sc_law_cut_up (fun vs H Q E h => h.1) (fun cdv A out s H vs Q E g h => ?_)
  obtain ⟨_, F, G, i, p, q, n, a, b, c, ss, rfl, S, hF, po, hn, hd, ok, hl, k⟩ := h
  refine ⟨_, (pss_cons (ps_set (i := 2) sc_law_cut_up.nd rfl (by first | exact Or.inl rfl | exact Or.inr rfl) (pe_lst pa_nil))
      (pss_cons (ps_for PassesOwn.never rfl (pi_seq (pv 1)) (pg_tupK (K := K) rfl (n := 4) rfl (pgs_cons (pg_name (i := 3) sc_law_cut_up.nd rfl (by first | exact Or.inl rfl | exact Or.inr rfl)) (pgs_cons (pg_name (i := 4) sc_law_cut_up.nd rfl (by first | exact Or.inl rfl | exact Or.inr rfl)) (pgs_cons (pg_name (i := 5) sc_law_cut_up.nd rfl (by first | exact Or.inl rfl | exact Or.inr rfl)) (pgs_cons (pg_name (i := 6) sc_law_cut_up.nd rfl (by first | exact Or.inl rfl | exact Or.inr rfl)) pgs_nil)))))
      (pss_cons (ps_set (i := 7) sc_law_cut_up.nd rfl (by first | exact Or.inl rfl | exact Or.inr rfl) (pe_callTy c_int (by rfl) T.n_int (by decide +kernel) (pa_cons (pe_cg (ok_law_take T) (g.mono (by decide : 1 ≤ 1)) (by rfl) T.m_law_take T.F_law_take.kp (OB.Fun.bd T.F_law_take (ps := ["pot", "upto"]) (n := 2) (ks := []) (ix := [0, 1]) (fun _ _ _ _ _ _ us ws h1 h2 => match us, ws, h1, h2 with | [_, _], [], _, _ => rfl)) pass0 (pa_cons (pv 0) (pa_cons (pv 3) pa_nil)) pk_nil) pa_nil)))
      (pss_cons (ps_set (i := 8) sc_law_cut_up.nd rfl (by first | exact Or.inl rfl | exact Or.inr rfl) (pe_lst (pa_cons (pe_tup (pa_cons (pv 7) (pa_cons (pv 4) (pa_cons (pv 5) (pa_cons (pv 6) pa_nil))))) (pa_cons (pe_tup (pa_cons (pe_op op_sub (pv 3) (pv 7)) (pa_cons (pv 4) (pa_cons (pv 5) (pa_cons (pv 6) pa_nil))))) pa_nil))))
      (pss_one (ps_expr (pe_bm PySem.F.plainAttrs_list PySem.F.slot_list_extend PySem.F.type_list_extend mt_extend (pv 2) (pa_cons (pe_lc (own := [("one", 9)]) rfl sc_law_cut_up.nd (pi_seq (pv 8)) (blkOk_by (N := names_law_cut_up) (sc := defScope (top 43)) (own := [("one", 9)]) (by decide +kernel)) (fun _ _ _ _ _ => (pg_name (i := 9) sc_law_cut_up.nd rfl (by first | exact Or.inl rfl | exact Or.inr rfl))) (fun _ _ _ _ _ => pts_one (pt_cmpR op_gt (pe_ix (ix_UK (K := K) rfl) (pv 9) pe_int (fun _ _ => rfl)) pe_int (nomark _))) (fun _ _ _ _ _ => (pv 9))) pa_nil)))))))
      (pss_one (ps_ret (pe_callTy (toK (r := rTuple) (K := K) rfl c_tuple) (by rfl) T.n_tuple (by decide +kernel) (pa_cons (pv 2) pa_nil)))))), ?_⟩
  refine g_start (σ := [some _, some _, none, none, none, none, none, none, none, none]) rfl ?_
  obtain ⟨a, xs, e, S0⟩ := S.opn hd (enc_imm ss)
  cases e
  have hlen : xs.length = ss.length := by rw [dps_length (S0.dps 1 rfl), List.length_map]
  repeat walk_at "ob"
  rename_i f H3 hq S5
  refine g_forS (a := q) (xs := xs) false (fun j σ' H' => ∃ v3 v4 v5 v6 v7 v8 v9 vs a' b' c' t, σ' = [some (.ref p), some (.ref q), some (.ref f), v3, v4, v5, v6, v7, v8, v9] ∧ PotOk (n + j) a' b' c' ∧ Same t (ss.take j) ∧ j ≤ ss.length ∧
    Sy K ((f, .lst vs) :: F.set i (p, potO a' b' c')) (.dat vs (t.map enc) :: .tq q xs :: .dat xs (ss.map enc) :: G) H') (fun Q' q => by walk_at "ob"; exact q)
    ⟨none, none, none, none, none, none, none, [], a, b, c, [], rfl, po, ⟨fun _ h => (nomatch h), rfl, Nat.zero_le _⟩, Nat.zero_le _, by rw [set_self hF]; exact S5.fact .nil rfl⟩ (fun j σ' H' ⟨_, _, _, _, _, _, _, _, _, _, _, _, _, _, _, _, S6⟩ => S6.tqs 1 rfl) ?_ ?_
  · rintro j x σ' H' hx ⟨v3, v4, v5, v6, v7, v8, v9, vs, a', b', c', t, rfl, o1, sm, hj, S6⟩
    obtain ⟨st, hst, hds⟩ := dps_map (S6.dps 2 rfl) hx
    have hj1 := (List.getElem?_eq_some_iff.mp hst).1
    obtain ⟨u, ys, rfl, _⟩ := dp_at hds
    have o := ok _ (List.mem_of_getElem? hst)
    have d0 := o.d0
    have d1 := o.d1
    repeat walk_at "ob"
    refine use_take (i := i + 1) S6 (set_at hF) o1 (by omega) (by omega) (by omega) fun r a2 b2 c2 H4 l2 u2 o2 S7 _ => ?_
    have S8 := pot_under S7
    clear S6 S7
    repeat walk_at "ob"
    rename_i t1 H5 _ S9 t2 H6 _ S10 l H7 _ S11
    clear S8
    clear S9
    clear S10
    have S12 := S11.fact (vs := [.ref t1, .ref t2]) (ds := ([{ st with d := r }, { st with d := st.d - r }] : List Str4).map enc) (dps_append (dps_one (S11.dp 1 rfl)) (dps_one (S11.dp 0 rfl))) rfl
    have S13 := S12.drop2.drop2
    clear S11 S12
    have hc := cut_one o l2 u2
    generalize ecs : ([{ st with d := r }, { st with d := st.d - r }] : List Str4) = cs at hc S13
    have hcl : cs.length = 2 := by rw [← ecs]; rfl
    refine g_lcS (a := l) (xs := [.ref t1, .ref t2]) true (fun i F' ds => F' = _ ∧ ds = ((cs.take i).filter fun x => decide (x.d > 0)).map enc) S13 (fun Q' q => by walk_at "ob"; exact q) ⟨rfl, rfl⟩ (fun i F' ds H' hi S3 => SqL.of ((hi.1 ▸ S3).at 0 rfl)) (fun i F' ds hi => by
      have e1 := List.length_filter_le (fun x : Str4 => decide (x.d > 0)) (cs.take i)
      rw [List.length_take] at e1
      rw [hi.2, List.length_map]
      omega) ?_ ?_
    · intro i2 x hx2 Dp H8 F2 vs2 ds QE QR hi S3 kE kR
      obtain ⟨rfl, rfl⟩ := hi
      obtain ⟨sc, hsc, hdc⟩ := dps_map (S3.dps 1 rfl) hx2
      obtain ⟨q3, ys3, rfl, _⟩ := dp_at hdc
      repeat walk_at "ob"
      refine ⟨rfl, ?_⟩
      repeat walk_at "ob"
      refine g_iteD (fun h1 => ?_) (fun h1 => ?_)
      · repeat walk_at "ob"
        refine kE _ (enc sc) _ H8 ⟨rfl, ?_⟩ (S3.fact (dps_one hdc) rfl)
        rw [List.take_add_one, hsc, List.filter_append, List.map_append]
        congr 1
        simp [h1]
      · refine kR _ H8 ⟨rfl, ?_⟩ S3
        rw [List.take_add_one, hsc, List.filter_append, List.map_append]
        simp [h1]
    · rintro Dp H8 F2 vs2 ds hD ⟨rfl, rfl⟩ S3
      rw [show ([V.ref t1, V.ref t2] : List V).length = cs.length from hcl.symm, List.take_length] at S3
      repeat walk_at "ob"
      have v1 := dps_length (S3.dps 0 rfl)
      have v2 := dps_length (S3.dps 2 rfl)
      have w1 := List.length_filter_le (fun x : Str4 => decide (x.d > 0)) cs
      have w2 := sm.2.2
      rw [List.length_map] at v1 v2
      rw [List.length_take] at w2
      refine g_extS S3 (f := 2) rfl (S3.at 0 rfl) (by omega) fun H9 S9 => ?_
      repeat walk_at "ob"
      have S10 := S9.fact (dps_append (S9.dps 2 rfl) (S9.dps 0 rfl)) (by rw [immAll_append, enc_imm, enc_imm]; rfl)
      have S11 := S10.drop2.drop2.drop2
      rw [← List.map_append] at S11
      refine ⟨_, _, _, _, _, _, _, vs ++ vs2, a2, b2, c2, t ++ cs.filter (fun x => decide (x.d > 0)), rfl, o2, ?_, hj1, ?_⟩
      · rw [List.take_add_one, hst]
        exact sm.app hc
      · exact (Sy.less (x := (l, _)) (Sy.less (x := (Dp, _)) S11))
  · rintro σ' H' ⟨v3, v4, v5, v6, v7, v8, v9, vs, a', b', c', t, rfl, o1, sm, hj, S6⟩
    repeat walk_at "ob"
    rw [hlen, List.take_length] at sm
    refine g_tup0 S6 (by walk_at "obl") (S6.dps 0 rfl) (enc_imm ..) fun q2 H4 _ S7 => ?_
    refine (k t q2 sm).use hF (by rw [← hlen]; exact o1) S7.less.drop2.drop2.drop2
/-! ### rows of stretches, as a list -/
def sp_law_paid_rows (K : Frag) : Sp := fun vs H Q E => vs.length = 2 ∧ ∃ (F : List (Addr × HO)) (G : List Ft) (p : Addr) (r : Int) (ss : List Str4), vs = [.ref p, .int r] ∧ Sy K F G H ∧ Dp K H (.ref p) (encs ss) ∧ (∀ s ∈ ss, Ok4 s) ∧ ss.length ≤ 20000 ∧ 0 ≤ r ∧ r ≤ 133589999999 ∧
  ∀ (q : Addr) (xs : List V) H', Sy K ((q, .lst xs) :: F) (.dat xs (rowsD (ss.map parts) r) :: G) H' → Q (.ref q) H'
abbrev names_law_paid_rows : List Str := ["spans", "rest", "found", "parts", "one", "whole"]
theorem sc_law_paid_rows : FnScope names_law_paid_rows ["spans", "rest"] (defScope (top 44)) := ⟨rfl, rfl, rfl, by decide +kernel, rfl, by decide +kernel, by decide +kernel⟩
set_option maxHeartbeats 4000000 in
theorem ok_law_paid_rows (T : Tx K mg) : FG P w K mg base CX0 3 T.a_law_paid_rows T.d_law_paid_rows ["spans", "rest"] (sp_law_paid_rows K) := by
  refine OB.Fun.fg T.F_law_paid_rows sc_law_paid_rows (fun vs H Q E h => h.1) (fun cdv A out s H vs Q E g h => ?_)
  obtain ⟨_, F, G, p, r, ss, rfl, S, hd, ok, hl, r0, r1, k⟩ := h
  refine ⟨_, (pss_cons (ps_par (i := 2) (j := 3) rfl sc_law_paid_rows.nd rfl rfl (by decide) rfl rfl (pa_cons (pe_lst pa_nil) (pa_cons (pv 1) pa_nil)) (by rfl))
      (pss_cons (ps_for PassesOwn.never rfl (pi_seq (pv 0)) (pg_name (i := 4) sc_law_paid_rows.nd rfl (by first | exact Or.inl rfl | exact Or.inr rfl))
      (pss_cons (ps_set (i := 5) sc_law_paid_rows.nd rfl (by first | exact Or.inl rfl | exact Or.inr rfl) (pe_op op_add (pv 3) (pe_cg (ok_law_parts_in T) (g.mono (by decide : 2 ≤ 2)) (by rfl) T.m_law_parts_in T.F_law_parts_in.kp (OB.Fun.bd T.F_law_parts_in (ps := ["spans"]) (n := 1) (ks := []) (ix := [0]) (fun _ _ _ _ _ _ us ws h1 h2 => match us, ws, h1, h2 with | [_], [], _, _ => rfl)) pass0 (pa_cons (pe_lst (pa_cons (pv 4) pa_nil)) pa_nil) pk_nil)))
      (pss_cons (ps_expr (pe_bm PySem.F.plainAttrs_list PySem.F.slot_list_append PySem.F.type_list_append mt_append (pv 2) (pa_cons (pe_tup (pa_cons (pe_callTy c_int (by rfl) T.n_int (by decide +kernel) (pa_cons (pe_op op_fdivW (pv 5) (pe_cg0 (ok_law_unit T) (g.mono (by decide : 1 ≤ 2)) (by rfl) T.m_law_unit T.F_law_unit.kp (OB.Fun.bd T.F_law_unit (ps := []) (n := 0) (ks := []) (ix := []) (fun _ _ _ _ _ _ us ws h1 h2 => match us, ws, h1, h2 with | [], [], _, _ => rfl)) pass0 pk_nil)) pa_nil)) (pa_cons (pe_callTy c_int (by rfl) T.n_int (by decide +kernel) (pa_cons (pe_op op_mod (pv 5) (pe_cg0 (ok_law_unit T) (g.mono (by decide : 1 ≤ 2)) (by rfl) T.m_law_unit T.F_law_unit.kp (OB.Fun.bd T.F_law_unit (ps := []) (n := 0) (ks := []) (ix := []) (fun _ _ _ _ _ _ us ws h1 h2 => match us, ws, h1, h2 with | [], [], _, _ => rfl)) pass0 pk_nil)) pa_nil)) pa_nil))) pa_nil)))
      (pss_one (ps_set (i := 3) sc_law_paid_rows.nd rfl (by first | exact Or.inl rfl | exact Or.inr rfl) (pe_op op_mod (pv 5) (pe_cg0 (ok_law_unit T) (g.mono (by decide : 1 ≤ 2)) (by rfl) T.m_law_unit T.F_law_unit.kp (OB.Fun.bd T.F_law_unit (ps := []) (n := 0) (ks := []) (ix := []) (fun _ _ _ _ _ _ us ws h1 h2 => match us, ws, h1, h2 with | [], [], _, _ => rfl)) pass0 pk_nil)))))))
      (pss_one (ps_ret (pv 2))))), ?_⟩
  refine g_start (σ := [some _, some _, none, none, none, none]) rfl ?_
  obtain ⟨a, xs, e, S0⟩ := S.opn hd (enc_imm ss)
  cases e
  have hlen : xs.length = ss.length := by rw [dps_length (S0.dps 1 rfl), List.length_map]
  repeat walk_at "ob"
  rename_i f H3 hq S5
  refine g_forS (a := p) (xs := xs) false (fun j σ' H' => ∃ v4 v5 vs, σ' = [some (.ref p), some (.int r), some (.ref f), some (.int (endR ((ss.take j).map parts) r)), v4, v5] ∧
    Sy K ((f, .lst vs) :: F) (.dat vs (rowsD ((ss.take j).map parts) r) :: .tq p xs :: .dat xs (ss.map enc) :: G) H') (fun Q' q => by walk_at "ob"; exact q)
    ⟨none, none, [], rfl, S5.fact .nil rfl⟩ (fun j σ' H' ⟨_, _, _, _, S6⟩ => S6.tqs 1 rfl) ?_ ?_
  · rintro j x σ' H' hx ⟨v4, v5, vs, rfl, S6⟩
    obtain ⟨st, hst, hds⟩ := dps_map (S6.dps 2 rfl) hx
    have hj1 := (List.getElem?_eq_some_iff.mp hst).1
    obtain ⟨u, ys, rfl, _⟩ := dp_at hds
    have o := ok _ (List.mem_of_getElem? hst)
    have p0 := parts_nn o
    have p1 := parts_le o
    obtain ⟨e1, e2⟩ := endR_in ((ss.take j).map parts) r0 r1
    have S7 := S6.add (.dat [.ref u] ([st].map enc)) ⟨dps_one hds, rfl⟩
    have hvs := dps_length (S6.dps 0 rfl)
    rw [rowsD_length, List.length_map, List.length_take] at hvs
    clear S6
    repeat walk_at "ob"
    rename_i l H4 _ S8
    refine ⟨rfl, _, _, true, l, _, [st], rfl, S8, fun H' S' => SqL.of (S'.at 0 rfl), (fun s hs => by cases List.mem_singleton.mp hs; exact o), Nat.le_of_ble_eq_true rfl, fun H5 S9 => ?_⟩
    rw [show sumP [st] = parts st from Int.add_zero _]
    clear S8 S7
    repeat walk_at "ob"
    rename_i t1 H6 _ S10
    refine g_appS S10 (f := 1) rfl (by omega) fun H7 S11 => ?_
    repeat walk_at "ob"
    have em : (ss.take (j + 1)).map parts = (ss.take j).map parts ++ [parts st] := by
      rw [List.take_add_one, hst, List.map_append]
      rfl
    rw [em]
    refine ⟨_, _, vs ++ [.ref t1], by rw [endR_snoc]; rfl, ?_⟩
    rw [rowsD_snoc]
    have S12 := S11.fact (dps_append (S11.dps 2 rfl) (S11.dps 0 rfl)) (by rw [immAll_append, rowsD_imm]; rfl)
    exact Sy.less (x := (l, _)) (S12.drop2.drop2.drop2)
  · rintro σ' H' ⟨v4, v5, vs, rfl, S6⟩
    repeat walk_at "ob"
    rw [hlen, List.take_length] at S6
    exact k f vs _ S6.drop2.drop2
end
end LAW

set_option Elab.async false
set_option linter.all false
set_option maxRecDepth 100000
namespace LAW
open PySem PySem.Spec PyProof.Rows L2 PySem.W OB
local macro_rules | `(tactic| walk_at "obc") => `(tactic| first
  | exact Or.inl ⟨by omega, by omega⟩
  | exact Or.inr ⟨by omega, by omega⟩
  | exact cdiv_ok (by omega) (by omega)
  | (show (0 : Int) < _; omega)
  | exact ⟨by omega, by decide⟩
  | exact ⟨by decide, by decide⟩)
local macro_rules | `(tactic| walk_at "obat") => `(tactic| first
  | exact Sy.at (by assumption) 0 rfl | exact Sy.at (by assumption) 1 rfl | exact Sy.at (by assumption) 2 rfl | exact Sy.at (by assumption) 3 rfl
  | exact Sy.at (by assumption) 4 rfl | exact Sy.at (by assumption) 5 rfl | exact Sy.at (by assumption) 6 rfl | exact Sy.at (by assumption) _ (by assumption) | exact Sy.at (by assumption) (_ + 1) (by assumption) | exact Sy.at (by assumption) (_ + 2) (by assumption))
local macro_rules | `(tactic| walk_at "obt") => `(tactic| first
  | exact Sy.tqs (by assumption) 0 rfl | exact Sy.tqs (by assumption) 1 rfl | exact Sy.tqs (by assumption) 2 rfl | exact Sy.tqs (by assumption) 3 rfl | exact Sy.tqs (by assumption) 4 rfl | exact Sy.tqs (by assumption) 5 rfl
  | exact Sy.tqs (by assumption) 6 rfl | exact Sy.tqs (by assumption) 7 rfl | assumption)
local macro_rules | `(tactic| walk_at "obl") => `(tactic| first
  | exact SqL.of (by walk_at "obat")
  | exact Sy.sq (by assumption) 0 rfl | exact Sy.sq (by assumption) 1 rfl | exact Sy.sq (by assumption) 2 rfl | exact Sy.sq (by assumption) 3 rfl | exact Sy.sq (by assumption) _ (by assumption))
local macro_rules | `(tactic| walk_at "obd") => `(tactic| first
  | exact Dp.int _ | exact Dp.bl _ | exact Dp.str _ | exact Dp.non
  | exact Sy.dp (by assumption) 0 rfl | exact Sy.dp (by assumption) 1 rfl | exact Sy.dp (by assumption) 2 rfl | exact Sy.dp (by assumption) 3 rfl
  | exact Sy.dp (by assumption) 4 rfl | exact Sy.dp (by assumption) 5 rfl | exact Sy.dp (by assumption) 6 rfl | exact Sy.dp (by assumption) 7 rfl
  | exact Sy.dp (by assumption) 8 rfl | exact Sy.dp (by assumption) 9 rfl | exact Sy.dp (by assumption) _ (by assumption) | assumption)
local macro_rules | `(tactic| walk_at "obds") => `(tactic| first
  | exact DpAll.nil
  | (refine' DpAll.cons ?ob1 ?ob2; (case ob1 => walk_at "obd"); (case ob2 => walk_at "obds"))
  | exact Sy.dps (by assumption) 0 rfl | exact Sy.dps (by assumption) 1 rfl | exact Sy.dps (by assumption) 2 rfl | exact Sy.dps (by assumption) 3 rfl | assumption)
local macro_rules | `(tactic| walk_at "obsc") => `(tactic| first
  | exact ScL.nil
  | ((first | refine' ScL.int ?obz | refine' ScL.str ?obz | refine' ScL.bl ?obz | refine' ScL.non ?obz); (case obz => walk_at "obsc")))
local macro_rules | `(tactic| walk_at "ob1") => `(tactic| first
  | ((with_reducible refine' g_var ?obh ?_); (case obh => rfl))
  | with_reducible refine g_c ?_
  | with_reducible refine g_nx ?_
  | with_reducible refine g_rt ?_
  | with_reducible refine g_bk ?_
  | with_reducible refine g_ct ?_
  | with_reducible refine g_op ?_
  | with_reducible refine g_I0 ?_
  | with_reducible refine g_test ?_
  | with_reducible refine g_bl ?_
  | with_reducible refine g_blx ?_
  | with_reducible refine g_B ?_
  | with_reducible refine g_seq ?_
  | with_reducible refine g_asg ?_
  | with_reducible refine g_name ?_
  | with_reducible refine g_ifS ?_
  | with_reducible refine g_ret ?_
  | with_reducible refine g_cb ?_
  | with_reducible refine g_cons ?_
  | with_reducible refine g_nil ?_
  | with_reducible refine g_int ?_
  | with_reducible refine g_intB ?_
  | with_reducible refine g_abs ?_
  | with_reducible refine g_max ?_
  | with_reducible refine g_min ?_
  | with_reducible refine g_un ?_
  | with_reducible refine g_U ?_
  | with_reducible refine g_eqI ?_
  | with_reducible refine g_neI ?_
  | with_reducible refine g_eqS ?_
  | with_reducible refine g_neS ?_
  | with_reducible refine g_tt ?_
  | with_reducible refine g_ff ?_
  | with_reducible refine g_next ?_
  | with_reducible refine g_drop ?_
  | with_reducible refine g_if ?_
  | with_reducible refine g_andV ?_
  | with_reducible refine g_orV ?_
  | with_reducible refine g_notV ?_
  | with_reducible refine g_and ?_
  | with_reducible refine g_or ?_
  | with_reducible refine g_not ?_
  | with_reducible refine g_yes ?_
  | with_reducible refine g_chain ?_
  | with_reducible refine g_cg ?_
  | with_reducible refine g_mg ?_
  | with_reducible refine g_kg ?_
  | with_reducible refine g_pg ?_
  | ((with_reducible refine' g_call ?obh ?obj ?_); (case obh => rfl); (case obj => rfl))
  | with_reducible refine g_par ?_
  | with_reducible refine g_par2 ?_
  | with_reducible refine g_par3 ?_
  | with_reducible refine g_par33 ?_
  | with_reducible refine g_gnil ?_
  | with_reducible refine g_gcons ?_
  | with_reducible refine g_gsub ?_
  | with_reducible refine g_ipI ?_
  | with_reducible refine g_rAdd ?_
  | with_reducible refine g_rSub ?_
  | ((with_reducible refine' g_aug ?obh ?_); (case obh => rfl))
  | with_reducible refine g_tup ?_
  | with_reducible refine g_lst ?_
  | with_reducible refine g_bm ?_
  | with_reducible refine g_bm0 ?_
  | with_reducible refine g_sl ?_
  | with_reducible refine g_nopart ?_
  | with_reducible refine g_part ?_
  | with_reducible refine g_pint ?_
  | with_reducible refine isi_int ?_
  | with_reducible refine isi_intB ?_
  | ((with_reducible refine' g_I ?obh ?_); (case obh => walk_at "obc"))
  | ((with_reducible refine' g_tyl ?obh ?_); (case obh => walk_at "obl"))
  | ((with_reducible refine' g_lenL ?obh ?_); (case obh => walk_at "obl"))
  | with_reducible refine g_ne ?_
  | ((with_reducible refine' g_neN' ?obh ?_); (case obh => rfl))
  | with_reducible refine g_ntt ?_
  | with_reducible refine g_nff ?_
  | with_reducible refine g_star ?_
  | with_reducible refine g_att ?_
  | with_reducible refine g_sfld ?_
  | with_reducible refine g_faug ?_
  | with_reducible refine g_fld ?_
  | ((with_reducible refine' g_nF ?obh ?_); (case obh => omega))
  | ((with_reducible refine' g_nT ?obh ?_); (case obh => omega))
  | ((with_reducible refine' g_TD ?obh ?_); (case obh => omega))
  | ((with_reducible refine' g_FD ?obh ?_); (case obh => omega))
  | ((with_reducible refine' g_ixUL ?obh ?obi ?_); (case obh => walk_at "obl"); (case obi => exact atI_nn (by omega) (by rfl)))
  | ((with_reducible refine' g_setLS ?obs ?obh ?obi ?_); (case obs => assumption); (case obh => assumption); (case obi => rfl); intro _ _ _)
  | ((with_reducible refine' g_newT ?obs ?obh ?obi ?obj ?_); (case obs => assumption); (case obh => walk_at "obds"); (case obi => rfl); (case obj => exact Nat.le_of_ble_eq_true rfl); intro _ _ _ _)
  | ((with_reducible refine' g_newL ?obs ?obj ?_); (case obs => assumption); (case obj => exact Nat.le_of_ble_eq_true rfl); intro _ _ _ _)
  | ((with_reducible refine' isi_tup ?obh ?_); (case obh => walk_at "obt"))
  | ((with_reducible refine' g_lenT ?obh ?_); (case obh => walk_at "obt"))
  | ((with_reducible refine' g_unpT ?obh ?obi ?_); (case obh => walk_at "obt"); (case obi => rfl))
  | ((with_reducible refine' g_divmod ?obs ?obh ?_); (case obs => assumption); (case obh => exact cdivp_ok (by omega) (by omega) (by omega)); intro _ _ _ _)
  | ((with_reducible refine' g_unpD ?obh ?obi ?obj ?_); (case obh => walk_at "obd"); (case obi => walk_at "obsc"); (case obj => rfl))
  | with_reducible refine g_att ?_)
section
variable {P : Program} {w : World} {K : Frag} {mg : Str → Option Value} {base : Heap}
theorem Sy.make {F : List (Addr × HO)} {G : List Ft} {H : Hp} {x dx : Addr} {o o' : HO} (S : Sy K F G H) (h1 : H x = none) (h2 : H dx = none) (hne : dx ≠ x) : Sy K ((x, o) :: F) G (upd (upd H dx o') x o) :=
  (S.over h2).push (by rw [L2.upd_ne (Ne.symm hne)]; exact h1)
theorem sumP_le : ∀ {ss : List Str4}, (∀ s ∈ ss, Ok4 s) → sumP ss ≤ 36600000000000000000000000 * ss.length
  | [], _ => Int.le_refl _
  | s :: ss, h => by
    have e := sumP_le (ss := ss) fun x hx => h x (List.mem_cons_of_mem _ hx)
    have q := parts_le (h s (List.mem_cons_self ..))
    unfold sumP at e ⊢
    rw [List.map_cons, List.sum_cons, List.length_cons]
    omega
theorem sumP_take {ss : List Str4} {i : Nat} {s : Str4} (h : ss[i]? = some s) : sumP (ss.take (i + 1)) = sumP (ss.take i) + parts s := by
  rw [List.take_add_one, h]
  unfold sumP
  rw [List.map_append, List.sum_append]
  simp
theorem use_prest {H : Hp} {Q : VK} {E : XK} {p C dx : Addr} {r d e : Int} (h : H p = some (accO C dx r d e)) (A : AccC K C) (k : Q (.int r) H) : ∃ a dx fs, V.ref p = .ref a ∧ H a = some (.ins C dx fs) ∧ sp_Accrual_rest K [.ref a] H Q E :=
  ⟨p, dx, _, rfl, h, rfl, p, C, dx, r, d, e, rfl, h, A, k⟩
theorem use_ppaid {H : Hp} {Q : VK} {E : XK} {p C dx : Addr} {r d e : Int} (h : H p = some (accO C dx r d e)) (A : AccC K C) (k : Q (.int d) H) : ∃ a dx fs, V.ref p = .ref a ∧ H a = some (.ins C dx fs) ∧ sp_Accrual_paid K [.ref a] H Q E :=
  ⟨p, dx, _, rfl, h, rfl, p, C, dx, r, d, e, rfl, h, A, k⟩
theorem use_pdays {H : Hp} {Q : VK} {E : XK} {p C dx : Addr} {r d e : Int} (h : H p = some (accO C dx r d e)) (A : AccC K C) (k : Q (.int e) H) : ∃ a dx fs, V.ref p = .ref a ∧ H a = some (.ins C dx fs) ∧ sp_Accrual_days K [.ref a] H Q E :=
  ⟨p, dx, _, rfl, h, rfl, p, C, dx, r, d, e, rfl, h, A, k⟩
theorem small3 {a b c : Int} (ha : a.natAbs < 10 ^ 60) (hb : b.natAbs < 10 ^ 60) (hc : c.natAbs < 10 ^ 60) : Small 1000 1 (.tuple [.int a, .int b, .int c]) :=
  (Small.tup ((SmallL.cons (Small.int ha) (SmallL.cons (Small.int hb) (SmallL.cons (Small.int hc) SmallL.nil))))).mono (by decide) (by decide)
theorem use_paid_rows {F : List (Addr × HO)} {G : List Ft} {H : Hp} {Q : VK} {E : XK} {p : Addr} {r : Int} {ss : List Str4} (S : Sy K F G H) (hd : Dp K H (.ref p) (encs ss)) (ok : ∀ s ∈ ss, Ok4 s) (hl : ss.length ≤ 20000) (r0 : 0 ≤ r) (r1 : r ≤ 133589999999)
    (k : ∀ (q : Addr) (xs : List V) H', Sy K ((q, .lst xs) :: F) (.dat xs (rowsD (ss.map parts) r) :: G) H' → Q (.ref q) H') : sp_law_paid_rows K [.ref p, .int r] H Q E := ⟨rfl, F, G, p, r, ss, rfl, S, hd, ok, hl, r0, r1, k⟩
local macro_rules | `(tactic| walk_at "obat19") => `(tactic| first | assumption | walk_at "obat")
local macro_rules | `(tactic| walk_at "ob") => `(tactic| first
  | walk_at "ob1"
  | refine use_is_integer ?_
  | refine use_is_within ?_
  | refine use_balance ?_
  | refine use_rate ?_
  | refine use_year (by assumption) ?_
  | refine use_unit ?_
  | refine use_rest (by omega) (by omega) ?_
  | refine use_parts (by walk_at "obd") (by assumption) ?_
  | refine use_is_stretch (by walk_at "obd") (by assumption) ?_
  | refine g_unpT (sqt_enc (by walk_at "obd")) rfl ?_
  | ((with_reducible refine' g_fldS ?obh ?obc ?obn ?obe ?_); (case obh => walk_at "obat19"); (case obc => exact AccC.c (by assumption)); (case obn => first | exact AccC.n1 (by assumption) | exact AccC.n2 (by assumption) | exact AccC.n3 (by assumption)); (case obe => rfl))
  | ((with_reducible refine' g_attS ?obs ?obh ?obc ?obn ?obl ?_); (case obs => assumption); (case obh => assumption); (case obc => exact AccC.c (by assumption)); (case obn => first | exact AccC.n1 (by assumption) | exact AccC.n2 (by assumption) | exact AccC.n3 (by assumption)); (case obl => exact Nat.le_of_ble_eq_true rfl); intro _ _ _)
  | ((with_reducible refine' g_augS ?obh ?obc ?obn ?obe ?_); (case obh => walk_at "obat19"); (case obc => exact AccC.c (by assumption)); (case obn => first | exact AccC.n1 (by assumption) | exact AccC.n2 (by assumption) | exact AccC.n3 (by assumption)); (case obe => rfl))
  | ((with_reducible refine' g_augE ?obs ?obh ?obl ?_); (case obs => assumption); (case obh => assumption); (case obl => exact Nat.le_of_ble_eq_true rfl); intro _ _ _)
  | ((with_reducible refine' g_ixUT ?obh ?obi ?_); (case obh => first | exact sqt_enc (by walk_at "obd") | walk_at "obt"); (case obi => rfl))
  | refine use_prest (by walk_at "obat19") (by assumption) ?_
  | refine use_ppaid (by walk_at "obat19") (by assumption) ?_
  | refine use_pdays (by walk_at "obat19") (by assumption) ?_)
theorem rows_get : ∀ {ps : List Int} {j : Nat} {q : Int} (r : Int), ps[j]? = some q → (rows ps r)[j]? = some ((endR (ps.take j) r + q) / 133590000000, (endR (ps.take j) r + q) % 133590000000)
  | [], _, _, _, h => nomatch h
  | p :: ps, 0, q, r, h => by
    cases (show some p = some q from h)
    rfl
  | p :: ps, j + 1, q, r, h => by
    show (rows ps _)[j]? = _
    rw [rows_get _ (show ps[j]? = some q from h)]
    rfl
def sp_law_is_accrual_right (K : Frag) : Sp := fun vs H Q E => vs.length = 2 ∧ ∃ (F : List (Addr × HO)) (G : List Ft) (p : Addr) (r : Int) (ss : List Str4), vs = [.ref p, .int r] ∧ Sy K F G H ∧ Dp K H (.ref p) (encs ss) ∧ (∀ s ∈ ss, Ok4 s) ∧ ss.length ≤ 1000 ∧ 0 ≤ r ∧ r ≤ 133589999999 ∧
  ∀ H', Sy K F G H' → Q (.bl true) H'
abbrev names_law_is_accrual_right : List Str := ["spans", "rest", "accrual", "days", "paid", "one", "units", "left", "whole"]
theorem sc_law_is_accrual_right : FnScope names_law_is_accrual_right ["spans", "rest"] (defScope (top 46)) := ⟨rfl, rfl, rfl, by decide +kernel, rfl, by decide +kernel, by decide +kernel⟩
set_option maxHeartbeats 4000000 in
theorem ok_law_is_accrual_right (T : Tx K mg) : FG P w K mg base CX0 6 T.a_law_is_accrual_right T.d_law_is_accrual_right ["spans", "rest"] (sp_law_is_accrual_right K) := by
  refine OB.Fun.fg T.F_law_is_accrual_right sc_law_is_accrual_right (fun vs H Q E h => h.1) (fun cdv A out s H vs Q E g h => ?_)
  obtain ⟨_, F, G, p, r, ss, rfl, S, hd, ok, hl, r0, r1, k⟩ := h
  refine ⟨_, (pss_cons (ps_par3 (i := 2) (j := 3) (l := 4) rfl sc_law_is_accrual_right.nd rfl rfl rfl (by decide) (by decide) (by decide) rfl rfl rfl (pa_cons (pe_kg0 T.mk_Accrual (ok_Accrual___init__ T) (g.mono (by decide : 5 ≤ 5)) (by rfl) T.m_Accrual (OB.Fun.bd T.F_Accrual___init__ (ps := ["self", "rest"]) (n := 1) (ks := ["rest"]) (ix := [0, 1]) (fun _ _ _ _ _ _ us ws h1 h2 => match us, ws, h1, h2 with | [_], [_], _, _ => rfl)) pass0 (pk_cons (pv 1) pk_nil)) (pa_cons pe_int (pa_cons pe_int pa_nil))) (by rfl))
      (pss_cons (ps_if (pt_cmpR op_ne (pe_callB (toK (r := rRepr) (K := K) rfl (call_repr g)) (by rfl) T.n_repr (by decide +kernel) (pa_cons (pe_tup (pa_cons (pe_pg (pv 2) T.c_Accrual T.pr_Accrual_rest (ok_Accrual_rest T) (g.mono (by decide : 2 ≤ 5)) (OB.Fun.bd T.F_Accrual_rest (fun _ _ _ _ _ _ us ws h1 h2 => match us, ws, h1, h2 with | [_], [], _, _ => rfl)) pass0) (pa_cons (pe_pg (pv 2) T.c_Accrual T.pr_Accrual_paid (ok_Accrual_paid T) (g.mono (by decide : 2 ≤ 5)) (OB.Fun.bd T.F_Accrual_paid (fun _ _ _ _ _ _ us ws h1 h2 => match us, ws, h1, h2 with | [_], [], _, _ => rfl)) pass0) (pa_cons (pe_pg (pv 2) T.c_Accrual T.pr_Accrual_days (ok_Accrual_days T) (g.mono (by decide : 2 ≤ 5)) (OB.Fun.bd T.F_Accrual_days (fun _ _ _ _ _ _ us ws h1 h2 => match us, ws, h1, h2 with | [_], [], _, _ => rfl)) pass0) pa_nil)))) pa_nil)) (pe_callB (toK (r := rRepr) (K := K) rfl (call_repr g)) (by rfl) T.n_repr (by decide +kernel) (pa_cons (pe_tup (pa_cons (pv 1) (pa_cons pe_int (pa_cons pe_int pa_nil)))) pa_nil)) (nomark _)) (pss_one (ps_ret pe_bl)) pss_nil)
      (pss_cons (ps_for PassesOwn.never rfl (pi_zipK (by rfl) T.n_zip (pa_cons (pv 0) (pa_cons (pe_cg (ok_law_paid_rows T) (g.mono (by decide : 3 ≤ 5)) (by rfl) T.m_law_paid_rows T.F_law_paid_rows.kp (OB.Fun.bd T.F_law_paid_rows (ps := ["spans", "rest"]) (n := 2) (ks := []) (ix := [0, 1]) (fun _ _ _ _ _ _ us ws h1 h2 => match us, ws, h1, h2 with | [_, _], [], _, _ => rfl)) pass0 (pa_cons (pv 0) (pa_cons (pv 1) pa_nil)) pk_nil) pa_nil))) (pg_tupK (K := K) rfl (n := 2) rfl (pgs_cons (pg_name (i := 5) sc_law_is_accrual_right.nd rfl (by first | exact Or.inl rfl | exact Or.inr rfl)) (pgs_cons (pg_tupK (K := K) rfl (n := 2) rfl (pgs_cons (pg_name (i := 6) sc_law_is_accrual_right.nd rfl (by first | exact Or.inl rfl | exact Or.inr rfl)) (pgs_cons (pg_name (i := 7) sc_law_is_accrual_right.nd rfl (by first | exact Or.inl rfl | exact Or.inr rfl)) pgs_nil))) pgs_nil)))
      (pss_cons (ps_par (i := 3) (j := 4) rfl sc_law_is_accrual_right.nd rfl rfl (by decide) rfl rfl (pa_cons (pe_op op_add (pv 3) (pe_ix (ix_UK (K := K) rfl) (pv 5) pe_int (fun _ _ => rfl))) (pa_cons (pe_op op_add (pv 4) (pv 6)) pa_nil)) (by rfl))
      (pss_cons (ps_if (pt_cmpR op_ne (pe_callB (toK (r := rRepr) (K := K) rfl (call_repr g)) (by rfl) T.n_repr (by decide +kernel) (pa_cons (pe_mg0 (pv 2) T.c_Accrual T.me_Accrual_go_on (ok_Accrual_go_on T) (g.mono (by decide : 5 ≤ 5)) (OB.Fun.bd T.F_Accrual_go_on (ps := ["self", "stretch"]) (n := 1) (ks := ["stretch"]) (ix := [0, 1]) (fun _ _ _ _ _ _ us ws h1 h2 => match us, ws, h1, h2 with | [_], [_], _, _ => rfl)) pass0 (pk_cons (pv 5) pk_nil)) pa_nil)) (pe_callB (toK (r := rRepr) (K := K) rfl (call_repr g)) (by rfl) T.n_repr (by decide +kernel) (pa_cons (pv 6) pa_nil)) (nomark _)) (pss_one (ps_ret pe_bl)) pss_nil)
      (pss_one (ps_if (pt_cmpR op_ne (pe_callB (toK (r := rRepr) (K := K) rfl (call_repr g)) (by rfl) T.n_repr (by decide +kernel) (pa_cons (pe_tup (pa_cons (pe_pg (pv 2) T.c_Accrual T.pr_Accrual_rest (ok_Accrual_rest T) (g.mono (by decide : 2 ≤ 5)) (OB.Fun.bd T.F_Accrual_rest (fun _ _ _ _ _ _ us ws h1 h2 => match us, ws, h1, h2 with | [_], [], _, _ => rfl)) pass0) (pa_cons (pe_pg (pv 2) T.c_Accrual T.pr_Accrual_paid (ok_Accrual_paid T) (g.mono (by decide : 2 ≤ 5)) (OB.Fun.bd T.F_Accrual_paid (fun _ _ _ _ _ _ us ws h1 h2 => match us, ws, h1, h2 with | [_], [], _, _ => rfl)) pass0) (pa_cons (pe_pg (pv 2) T.c_Accrual T.pr_Accrual_days (ok_Accrual_days T) (g.mono (by decide : 2 ≤ 5)) (OB.Fun.bd T.F_Accrual_days (fun _ _ _ _ _ _ us ws h1 h2 => match us, ws, h1, h2 with | [_], [], _, _ => rfl)) pass0) pa_nil)))) pa_nil)) (pe_callB (toK (r := rRepr) (K := K) rfl (call_repr g)) (by rfl) T.n_repr (by decide +kernel) (pa_cons (pe_tup (pa_cons (pv 7) (pa_cons (pe_callTy c_int (by rfl) T.n_int (by decide +kernel) (pa_cons (pv 4) pa_nil)) (pa_cons (pe_callTy c_int (by rfl) T.n_int (by decide +kernel) (pa_cons (pv 3) pa_nil)) pa_nil)))) pa_nil)) (nomark _)) (pss_one (ps_ret pe_bl)) pss_nil)))))
      (pss_cons (ps_set (i := 8) sc_law_is_accrual_right.nd rfl (by first | exact Or.inl rfl | exact Or.inr rfl) (pe_op op_add (pv 1) (pe_cg (ok_law_parts_in T) (g.mono (by decide : 2 ≤ 5)) (by rfl) T.m_law_parts_in T.F_law_parts_in.kp (OB.Fun.bd T.F_law_parts_in (ps := ["spans"]) (n := 1) (ks := []) (ix := [0]) (fun _ _ _ _ _ _ us ws h1 h2 => match us, ws, h1, h2 with | [_], [], _, _ => rfl)) pass0 (pa_cons (pv 0) pa_nil) pk_nil)))
      (pss_one (ps_ret (pe_and (pe_cmpR op_eq (pe_pg (pv 2) T.c_Accrual T.pr_Accrual_paid (ok_Accrual_paid T) (g.mono (by decide : 2 ≤ 5)) (OB.Fun.bd T.F_Accrual_paid (fun _ _ _ _ _ _ us ws h1 h2 => match us, ws, h1, h2 with | [_], [], _, _ => rfl)) pass0) (pe_op op_fdivW (pv 8) (pe_cg0 (ok_law_unit T) (g.mono (by decide : 1 ≤ 5)) (by rfl) T.m_law_unit T.F_law_unit.kp (OB.Fun.bd T.F_law_unit (ps := []) (n := 0) (ks := []) (ix := []) (fun _ _ _ _ _ _ us ws h1 h2 => match us, ws, h1, h2 with | [], [], _, _ => rfl)) pass0 pk_nil)) (nomark _)) (pe_one (pe_cmpR op_eq (pe_pg (pv 2) T.c_Accrual T.pr_Accrual_rest (ok_Accrual_rest T) (g.mono (by decide : 2 ≤ 5)) (OB.Fun.bd T.F_Accrual_rest (fun _ _ _ _ _ _ us ws h1 h2 => match us, ws, h1, h2 with | [_], [], _, _ => rfl)) pass0) (pe_op op_mod (pv 8) (pe_cg0 (ok_law_unit T) (g.mono (by decide : 1 ≤ 5)) (by rfl) T.m_law_unit T.F_law_unit.kp (OB.Fun.bd T.F_law_unit (ps := []) (n := 0) (ks := []) (ix := []) (fun _ _ _ _ _ _ us ws h1 h2 => match us, ws, h1, h2 with | [], [], _, _ => rfl)) pass0 pk_nil)) (nomark _)))))))))), ?_⟩
  refine g_start (σ := [some _, some _, none, none, none, none, none, none, none]) rfl ?_
  obtain ⟨a, xs, e, S0⟩ := S.opn hd (enc_imm ss)
  cases e
  have hlen : xs.length = ss.length := by rw [dps_length (S0.dps 1 rfl), List.length_map]
  have S1 := S0.add (.dat [.ref p] [encs ss]) ⟨dps_one hd, by show (imm (.tuple (ss.map enc)) && true) = true; rw [Bool.and_true]; exact enc_imm ss⟩
  clear S0
  repeat walk_at "ob"
  refine ⟨rfl, rfl, fun x dx h1 h2 hne => ?_⟩
  refine ⟨rfl, _, _, 0, x, _, dx, r, rfl, Sy.make S1 h1 h2 hne, rfl, T.acc, r0, r1, fun H1 S2 => ⟨rfl, ?_⟩⟩
  have S2 : Sy K ((x, accO T.a_Accrual dx r 0 0) :: F) (.dat [.ref p] [encs ss] :: .tq p xs :: .dat xs (ss.map enc) :: G) H1 := S2
  have ac := T.acc
  repeat walk_at "ob"
  rename_i t1 H2 _ S3
  refine g_reprS (S3.dp 0 rfl) (small3 (by omega) (by omega) (by omega)) (by decide) (by decide) ?_
  repeat walk_at "ob"
  rename_i t2 H3 _ S4
  refine g_reprS (S4.dp 0 rfl) (small3 (by omega) (by omega) (by omega)) (by decide) (by decide) ?_
  have S5 := S4.drop.drop
  clear S4 S3
  repeat walk_at "ob"
  refine g_forZ ?_
  repeat walk_at "ob"
  refine use_paid_rows S5 (S5.dp 0 rfl) ok (by omega) r0 r1 fun q ys H4 S6 => ?_
  clear S5
  repeat walk_at "ob"
  have hly := dps_length (S6.dps 0 rfl)
  rw [rowsD_length, List.length_map] at hly
  refine ⟨false, true, p, q, xs, ys, rfl, S6.tqs 2 rfl, SqL.of (S6.at 0 rfl), ?_⟩
  refine for_zipK (hlen.trans hly.symm) (fun j σ' H' => ∃ v5 v6 v7 pd dd, σ' = [some (.ref p), some (.int r), some (.ref x), some (.int dd), some (.int pd), v5, v6, v7, none] ∧ j ≤ ss.length ∧ 0 ≤ pd ∧ 0 ≤ dd ∧ dd ≤ 100000 * j ∧
    pd * 133590000000 + endR ((ss.take j).map parts) r = r + sumP (ss.take j) ∧
    Sy K ((q, .lst ys) :: (x, accO T.a_Accrual dx (endR ((ss.take j).map parts) r) pd dd) :: F) (.dat ys (rowsD (ss.map parts) r) :: .dat [.ref p] [encs ss] :: .tq p xs :: .dat xs (ss.map enc) :: G) H')
    ⟨none, none, none, 0, 0, rfl, Nat.zero_le _, Int.le_refl _, Int.le_refl _, Int.le_refl _, by show 0 * 133590000000 + r = r + 0; omega, S6⟩ (fun j σ' H' ⟨_, _, _, _, _, _, _, _, _, _, _, S7⟩ => ⟨S7.tqs 2 rfl, SqL.of (S7.at 0 rfl)⟩) ?_ ?_
  · rintro j u v T1 σ' H' hx hy ⟨v5, v6, v7, pd, dd, rfl, hj, pd0, dd0, dd1, hm, S7⟩ hT
    obtain ⟨st, hst, hds⟩ := dps_map (S7.dps 3 rfl) hx
    obtain ⟨q3, ys3, rfl, _⟩ := dp_at hds
    have o := ok _ (List.mem_of_getElem? hst)
    have hj1 := (List.getElem?_eq_some_iff.mp hst).1
    have p0 := parts_nn o
    have p1 := parts_le o
    have d0 := o.d0
    have d1 := o.d1
    obtain ⟨e1, e2⟩ := endR_in ((ss.take j).map parts) r0 r1
    have sl := sumP_le (ss := ss.take j) fun s hs => ok s (List.mem_of_mem_take hs)
    rw [List.length_take] at sl
    obtain ⟨d, hdj, hdv⟩ := dps_get (S7.dps 0 rfl) hy
    have hr := rows_get r (show (ss.map parts)[j]? = some (parts st) by rw [List.getElem?_map, hst]; rfl)
    rw [← List.map_take] at hr
    generalize er : endR ((ss.take j).map parts) r = rj at *
    have hd2 : d = .tuple [.int ((rj + parts st) / 133590000000), .int ((rj + parts st) % 133590000000)] := by
      unfold rowsD at hdj
      rw [List.getElem?_map, hr] at hdj
      exact (Option.some.inj hdj).symm
    subst hd2
    obtain ⟨q4, ys4, rfl, _⟩ := dp_at hdv
    have S8 := (S7.add (.dat [.ref q4] [_]) ⟨dps_one hdv, rfl⟩).add (.dat [.ref q3] [enc st]) ⟨dps_one hds, rfl⟩
    clear S7
    refine g_pair S8 hT fun H5 S9 => ?_
    clear S8
    repeat walk_at "ob"
    refine ⟨x, dx, _, rfl, S9.at 1 rfl, rfl, ?_⟩
    repeat walk_at "ob"
    refine ⟨rfl, _, _, 1, x, q3, T.a_Accrual, dx, rj, pd, dd, st, rfl, S9, rfl, ac, S9.dp 1 rfl, o, e1, e2, fun H6 S10 => ?_⟩
    have S11 : Sy K ((q, .lst ys) :: (x, accO T.a_Accrual dx ((rj + parts st) % 133590000000) (pd + (rj + parts st) / 133590000000) (dd + st.d)) :: F) _ H6 := S10
    clear S10
    repeat walk_at "ob"
    refine g_reprS (Dp.int _) (Small.int (by omega)) (by decide) (by decide) ?_
    repeat walk_at "ob"
    refine g_reprS (Dp.int _) (Small.int (by omega)) (by decide) (by decide) ?_
    repeat walk_at "ob"
    rename_i t3 H7 _ S12
    refine g_reprS (S12.dp 0 rfl) (small3 (by omega) (by omega) (by omega)) (by decide) (by decide) ?_
    repeat walk_at "ob"
    rename_i t4 H8 _ S13
    refine g_reprS (S13.dp 0 rfl) (small3 (by omega) (by omega) (by omega)) (by decide) (by decide) ?_
    repeat walk_at "ob"
    have em : (ss.take (j + 1)).map parts = (ss.take j).map parts ++ [parts st] := by
      rw [List.take_add_one, hst, List.map_append]
      rfl
    rw [em, endR_snoc, er, sumP_take hst]
    exact ⟨_, _, _, _, _, rfl, hj1, by omega, by omega, by omega, by omega, S13.drop.drop.drop.drop.drop⟩
  · rintro σ' H' ⟨v5, v6, v7, pd, dd, rfl, hj, pd0, dd0, dd1, hm, S7⟩
    rw [hlen, List.take_length] at S7 hm
    obtain ⟨e1, e2⟩ := endR_in (ss.map parts) r0 r1
    have sn := sumP_nn ok
    repeat walk_at "ob"
    refine use_parts_in S7 (S7.dp 1 rfl) ok hl fun H5 S8 => ?_
    clear S7
    repeat walk_at "ob"
    have e3 : decide (endR (ss.map parts) r = (r + sumP ss) % 133590000000) = true := decide_eq_true (by omega)
    rw [e3]
    exact k _ S8.less.less.drop.drop.drop.drop
end
end LAW

set_option Elab.async false
set_option linter.all false
set_option maxRecDepth 100000
namespace LAW
open PySem PySem.Spec PyProof.Rows L2 PySem.W OB
local macro_rules | `(tactic| walk_at "obc") => `(tactic| first
  | exact Or.inl ⟨by omega, by omega⟩
  | exact Or.inr ⟨by omega, by omega⟩
  | exact cdiv_ok (by omega) (by omega)
  | (show (0 : Int) < _; omega)
  | exact ⟨by omega, by decide⟩
  | exact ⟨by decide, by decide⟩)
local macro_rules | `(tactic| walk_at "obat") => `(tactic| first
  | exact Sy.at (by assumption) 0 rfl | exact Sy.at (by assumption) 1 rfl | exact Sy.at (by assumption) 2 rfl | exact Sy.at (by assumption) 3 rfl
  | exact Sy.at (by assumption) 4 rfl | exact Sy.at (by assumption) 5 rfl | exact Sy.at (by assumption) 6 rfl | exact Sy.at (by assumption) _ (by assumption) | exact Sy.at (by assumption) (_ + 1) (by assumption) | exact Sy.at (by assumption) (_ + 2) (by assumption))
local macro_rules | `(tactic| walk_at "obt") => `(tactic| first
  | exact Sy.tqs (by assumption) 0 rfl | exact Sy.tqs (by assumption) 1 rfl | exact Sy.tqs (by assumption) 2 rfl | exact Sy.tqs (by assumption) 3 rfl | exact Sy.tqs (by assumption) 4 rfl | exact Sy.tqs (by assumption) 5 rfl
  | exact Sy.tqs (by assumption) 6 rfl | exact Sy.tqs (by assumption) 7 rfl | assumption)
local macro_rules | `(tactic| walk_at "obl") => `(tactic| first
  | exact SqL.of (by walk_at "obat")
  | exact Sy.sq (by assumption) 0 rfl | exact Sy.sq (by assumption) 1 rfl | exact Sy.sq (by assumption) 2 rfl | exact Sy.sq (by assumption) 3 rfl | exact Sy.sq (by assumption) _ (by assumption))
local macro_rules | `(tactic| walk_at "obd") => `(tactic| first
  | exact Dp.int _ | exact Dp.bl _ | exact Dp.str _ | exact Dp.non
  | exact Sy.dp (by assumption) 0 rfl | exact Sy.dp (by assumption) 1 rfl | exact Sy.dp (by assumption) 2 rfl | exact Sy.dp (by assumption) 3 rfl
  | exact Sy.dp (by assumption) 4 rfl | exact Sy.dp (by assumption) 5 rfl | exact Sy.dp (by assumption) 6 rfl | exact Sy.dp (by assumption) 7 rfl
  | exact Sy.dp (by assumption) 8 rfl | exact Sy.dp (by assumption) 9 rfl | exact Sy.dp (by assumption) _ (by assumption) | assumption)
local macro_rules | `(tactic| walk_at "obds") => `(tactic| first
  | exact DpAll.nil
  | (refine' DpAll.cons ?ob1 ?ob2; (case ob1 => walk_at "obd"); (case ob2 => walk_at "obds"))
  | exact Sy.dps (by assumption) 0 rfl | exact Sy.dps (by assumption) 1 rfl | exact Sy.dps (by assumption) 2 rfl | exact Sy.dps (by assumption) 3 rfl | assumption)
local macro_rules | `(tactic| walk_at "obsc") => `(tactic| first
  | exact ScL.nil
  | ((first | refine' ScL.int ?obz | refine' ScL.str ?obz | refine' ScL.bl ?obz | refine' ScL.non ?obz); (case obz => walk_at "obsc")))
local macro_rules | `(tactic| walk_at "ob1") => `(tactic| first
  | ((with_reducible refine' g_var ?obh ?_); (case obh => rfl))
  | with_reducible refine g_c ?_
  | with_reducible refine g_nx ?_
  | with_reducible refine g_rt ?_
  | with_reducible refine g_bk ?_
  | with_reducible refine g_ct ?_
  | with_reducible refine g_op ?_
  | with_reducible refine g_I0 ?_
  | with_reducible refine g_test ?_
  | with_reducible refine g_bl ?_
  | with_reducible refine g_blx ?_
  | with_reducible refine g_B ?_
  | with_reducible refine g_seq ?_
  | with_reducible refine g_asg ?_
  | with_reducible refine g_name ?_
  | with_reducible refine g_ifS ?_
  | with_reducible refine g_ret ?_
  | with_reducible refine g_cb ?_
  | with_reducible refine g_cons ?_
  | with_reducible refine g_nil ?_
  | with_reducible refine g_int ?_
  | with_reducible refine g_intB ?_
  | with_reducible refine g_abs ?_
  | with_reducible refine g_max ?_
  | with_reducible refine g_min ?_
  | with_reducible refine g_un ?_
  | with_reducible refine g_U ?_
  | with_reducible refine g_eqI ?_
  | with_reducible refine g_neI ?_
  | with_reducible refine g_eqS ?_
  | with_reducible refine g_neS ?_
  | with_reducible refine g_tt ?_
  | with_reducible refine g_ff ?_
  | with_reducible refine g_next ?_
  | with_reducible refine g_drop ?_
  | with_reducible refine g_if ?_
  | with_reducible refine g_andV ?_
  | with_reducible refine g_orV ?_
  | with_reducible refine g_notV ?_
  | with_reducible refine g_and ?_
  | with_reducible refine g_or ?_
  | with_reducible refine g_not ?_
  | with_reducible refine g_yes ?_
  | with_reducible refine g_chain ?_
  | with_reducible refine g_cg ?_
  | with_reducible refine g_mg ?_
  | with_reducible refine g_kg ?_
  | with_reducible refine g_pg ?_
  | ((with_reducible refine' g_call ?obh ?obj ?_); (case obh => rfl); (case obj => rfl))
  | with_reducible refine g_par ?_
  | with_reducible refine g_par2 ?_
  | with_reducible refine g_par3 ?_
  | with_reducible refine g_par33 ?_
  | with_reducible refine g_gnil ?_
  | with_reducible refine g_gcons ?_
  | with_reducible refine g_gsub ?_
  | with_reducible refine g_ipI ?_
  | with_reducible refine g_rAdd ?_
  | with_reducible refine g_rSub ?_
  | ((with_reducible refine' g_aug ?obh ?_); (case obh => rfl))
  | with_reducible refine g_tup ?_
  | with_reducible refine g_lst ?_
  | with_reducible refine g_bm ?_
  | with_reducible refine g_bm0 ?_
  | with_reducible refine g_sl ?_
  | with_reducible refine g_nopart ?_
  | with_reducible refine g_part ?_
  | with_reducible refine g_pint ?_
  | with_reducible refine isi_int ?_
  | with_reducible refine isi_intB ?_
  | ((with_reducible refine' g_I ?obh ?_); (case obh => walk_at "obc"))
  | ((with_reducible refine' g_tyl ?obh ?_); (case obh => walk_at "obl"))
  | ((with_reducible refine' g_lenL ?obh ?_); (case obh => walk_at "obl"))
  | with_reducible refine g_ne ?_
  | ((with_reducible refine' g_neN' ?obh ?_); (case obh => rfl))
  | with_reducible refine g_ntt ?_
  | with_reducible refine g_nff ?_
  | with_reducible refine g_star ?_
  | with_reducible refine g_att ?_
  | with_reducible refine g_sfld ?_
  | with_reducible refine g_faug ?_
  | with_reducible refine g_fld ?_
  | ((with_reducible refine' g_nF ?obh ?_); (case obh => omega))
  | ((with_reducible refine' g_nT ?obh ?_); (case obh => omega))
  | ((with_reducible refine' g_TD ?obh ?_); (case obh => omega))
  | ((with_reducible refine' g_FD ?obh ?_); (case obh => omega))
  | ((with_reducible refine' g_ixUL ?obh ?obi ?_); (case obh => walk_at "obl"); (case obi => exact atI_nn (by omega) (by rfl)))
  | ((with_reducible refine' g_setLS ?obs ?obh ?obi ?_); (case obs => assumption); (case obh => assumption); (case obi => rfl); intro _ _ _)
  | ((with_reducible refine' g_newT ?obs ?obh ?obi ?obj ?_); (case obs => assumption); (case obh => walk_at "obds"); (case obi => rfl); (case obj => exact Nat.le_of_ble_eq_true rfl); intro _ _ _ _)
  | ((with_reducible refine' g_newL ?obs ?obj ?_); (case obs => assumption); (case obj => exact Nat.le_of_ble_eq_true rfl); intro _ _ _ _)
  | ((with_reducible refine' isi_tup ?obh ?_); (case obh => walk_at "obt"))
  | ((with_reducible refine' g_lenT ?obh ?_); (case obh => walk_at "obt"))
  | ((with_reducible refine' g_unpT ?obh ?obi ?_); (case obh => walk_at "obt"); (case obi => rfl))
  | ((with_reducible refine' g_divmod ?obs ?obh ?_); (case obs => assumption); (case obh => exact cdivp_ok (by omega) (by omega) (by omega)); intro _ _ _ _)
  | ((with_reducible refine' g_unpD ?obh ?obi ?obj ?_); (case obh => walk_at "obd"); (case obi => walk_at "obsc"); (case obj => rfl))
  | with_reducible refine g_att ?_)
local macro_rules | `(tactic| walk_at "obat19") => `(tactic| first | assumption | walk_at "obat")
local macro_rules | `(tactic| walk_at "ob") => `(tactic| first
  | walk_at "ob1"
  | refine use_is_integer ?_
  | refine use_is_within ?_
  | refine use_balance ?_
  | refine use_rate ?_
  | refine use_year (by assumption) ?_
  | refine use_unit ?_
  | refine use_rest (by omega) (by omega) ?_
  | refine use_parts (by walk_at "obd") (by assumption) ?_
  | refine use_is_stretch (by walk_at "obd") (by assumption) ?_
  | refine g_unpT (sqt_enc (by walk_at "obd")) rfl ?_
  | ((with_reducible refine' g_fldS ?obh ?obc ?obn ?obe ?_); (case obh => walk_at "obat19"); (case obc => exact AccC.c (by assumption)); (case obn => first | exact AccC.n1 (by assumption) | exact AccC.n2 (by assumption) | exact AccC.n3 (by assumption)); (case obe => rfl))
  | ((with_reducible refine' g_attS ?obs ?obh ?obc ?obn ?obl ?_); (case obs => assumption); (case obh => assumption); (case obc => exact AccC.c (by assumption)); (case obn => first | exact AccC.n1 (by assumption) | exact AccC.n2 (by assumption) | exact AccC.n3 (by assumption)); (case obl => exact Nat.le_of_ble_eq_true rfl); intro _ _ _)
  | ((with_reducible refine' g_augS ?obh ?obc ?obn ?obe ?_); (case obh => walk_at "obat19"); (case obc => exact AccC.c (by assumption)); (case obn => first | exact AccC.n1 (by assumption) | exact AccC.n2 (by assumption) | exact AccC.n3 (by assumption)); (case obe => rfl))
  | ((with_reducible refine' g_augE ?obs ?obh ?obl ?_); (case obs => assumption); (case obh => assumption); (case obl => exact Nat.le_of_ble_eq_true rfl); intro _ _ _)
  | ((with_reducible refine' g_ixUT ?obh ?obi ?_); (case obh => first | exact sqt_enc (by walk_at "obd") | walk_at "obt"); (case obi => rfl))
  | refine use_prest (by walk_at "obat19") (by assumption) ?_
  | refine use_ppaid (by walk_at "obat19") (by assumption) ?_
  | refine use_pdays (by walk_at "obat19") (by assumption) ?_
  | with_reducible refine g_lstRg ?_
  | with_reducible refine g_rg1 ?_
  | with_reducible refine g_rg2 ?_)
section
variable {P : Program} {w : World} {K : Frag} {mg : Str → Option Value} {base : Heap}
theorem g_slL {F : List (Addr × HO)} {G : List Ft} {H : Hp} {Q : VK} {l : Addr} {vs : List V} {lo hi : Option Int} (S : Sy K F G H) (h : SqL K H l vs) (k : ∀ p H', Sy K ((p, .lst (cutV vs lo hi)) :: F) G H' → Q (.ref p) H') : rSlU K (.ref l) lo hi H Q :=
  .inr ⟨l, vs, rfl, h, fun p hp => k p _ (S.push hp)⟩
theorem cut_ints (ns : List Int) (lo hi : Option Int) : ∃ ms : List Int, cutV (ns.map V.int) lo hi = ms.map V.int :=
  ⟨(ns.drop (HT.sIx (ns.map V.int).length 0 lo)).take (HT.sIx (ns.map V.int).length (ns.map V.int).length hi - HT.sIx (ns.map V.int).length 0 lo), by
    unfold cutV
    rw [List.map_take, List.map_drop]⟩
theorem big_ok : (((10 : Int) ^ Int.toNat 60) ^ Int.toNat 5).natAbs < 2 ^ 1000 := by decide +kernel
theorem own_ok (x : Int) (t : Bool) : 0 ≤ x % ((10 ^ Int.toNat 60) ^ Int.toNat 5) * (if t = true then 1 else 0) ∧ (x % ((10 ^ Int.toNat 60) ^ Int.toNat 5) * (if t = true then 1 else 0)).natAbs < 2 ^ 1000 := by
  have h0 : (0 : Int) < (10 ^ Int.toNat 60) ^ Int.toNat 5 := by decide +kernel
  have h1 := Int.emod_nonneg x (Int.ne_of_gt h0)
  have h2 := Int.emod_lt_of_pos x h0
  have h3 := big_ok
  generalize ((10 : Int) ^ Int.toNat 60) ^ Int.toNat 5 = m at *
  cases t with
  | true =>
    rw [if_pos rfl, Int.mul_one]
    exact ⟨h1, by omega⟩
  | false =>
    rw [if_neg (by decide), Int.mul_zero]
    exact ⟨Int.le_refl _, by decide⟩
def sp_law_pot (K : Frag) : Sp := fun vs H Q E => vs.length = 2 ∧ ∃ (F : List (Addr × HO)) (G : List Ft) (a : Addr) (ns : List Int) (i : Int), vs = [.ref a, .int i] ∧ Sy K F (.sq a (ns.map V.int) :: G) H ∧ ns.length ≤ 63 ∧ 0 ≤ i ∧ i ≤ 2 ∧
  ∀ (x y z : Int) (p : Addr) H', PotOk 0 x y z → Sy K ((p, potO x y z) :: F) (.sq a (ns.map V.int) :: G) H' → Q (.ref p) H'
abbrev names_law_pot : List Str := ["script", "place", "cell", "own", "small"]
theorem sc_law_pot : FnScope names_law_pot ["script", "place"] (defScope (top 32)) := ⟨rfl, rfl, rfl, by decide +kernel, rfl, by decide +kernel, by decide +kernel⟩
set_option maxHeartbeats 4000000 in
theorem ok_law_pot (T : Tx K mg) : FG P w K mg base CX0 1 T.a_law_pot T.d_law_pot ["script", "place"] (sp_law_pot K) := by
  refine OB.Fun.fg T.F_law_pot sc_law_pot (fun vs H Q E h => h.1) (fun cdv A out s H vs Q E g h => ?_)
  obtain ⟨_, F, G, a, ns, i, rfl, S, hn, i0, i1, k⟩ := h
  refine ⟨_, (pss_cons (ps_set (i := 2) sc_law_pot.nd rfl (by first | exact Or.inl rfl | exact Or.inr rfl) (pe_ifExp (pt_cmpR op_lt (pv 1) (pe_callB (toK (r := OB.rLen) (K := K) rfl c_len) (by rfl) T.n_len PySem.boot_len (pa_cons (pv 0) pa_nil)) (nomark _)) (pe_ix (ix_UK (K := K) rfl) (pv 0) (pv 1) (fun _ _ => rfl)) (pe_op op_add (pe_op op_add (pe_op op_mod (pe_callB (toK (r := rSum) (K := K) rfl (cr_sum rfl)) (by rfl) T.n_sum (by decide +kernel) (pa_cons (pe_slice (sl_UK (K := K) rfl) (pv 0) po_none (po_some pe_int)) pa_nil)) pe_int) (pe_op op_mul pe_int (pv 1))) pe_int)))
      (pss_cons (ps_set (i := 3) sc_law_pot.nd rfl (by first | exact Or.inl rfl | exact Or.inr rfl) (pe_op op_mul (pe_op op_mod (pe_callTy c_int (by rfl) T.n_int (by decide +kernel) (pa_cons (pe_callB c_abs (by rfl) T.n_abs (by decide +kernel) (pa_cons (pv 2) pa_nil)) pa_nil)) (pe_op op_powX (pe_op op_powX pe_int pe_int) pe_int)) (pe_callTy c_int (by rfl) T.n_int (by decide +kernel) (pa_cons (pe_cmpR op_ge (pe_callB c_abs (by rfl) T.n_abs (by decide +kernel) (pa_cons (pv 2) pa_nil)) (pe_op op_powX pe_int pe_int) (nomark _)) pa_nil))))
      (pss_cons (ps_set (i := 4) sc_law_pot.nd rfl (by first | exact Or.inl rfl | exact Or.inr rfl) (pe_op op_mod (pe_callTy c_int (by rfl) T.n_int (by decide +kernel) (pa_cons (pv 2) pa_nil)) pe_int))
      (pss_one (ps_ret (pe_lst (pa_cons (pv 3) (pa_cons (pe_op op_mod (pe_callTy c_int (by rfl) T.n_int (by decide +kernel) (pa_cons (pe_op op_add (pe_op op_add (pe_op op_mul (pv 4) pe_int) (pe_op op_mul (pe_op op_mul pe_int (pv 1)) (pv 1))) pe_int) pa_nil)) pe_int) (pa_cons pe_int pa_nil))))))))), ?_⟩
  refine g_start (σ := [some _, some _, none, none, none]) rfl ?_
  have hl : (((ns.map V.int).length : Nat) : Int) = ns.length := by rw [List.length_map]
  repeat walk_at "ob"
  refine g_iteD (fun h1 => ?_) (fun h1 => ?_)
  · obtain ⟨c, _, hc⟩ := atI_ints (ns := ns) i0 (by omega)
    repeat walk_at "ob"
    refine g_ixUL (by walk_at "obl") hc ?_
    repeat walk_at "ob"
    refine g_I (show (0 : Int) < _ by decide) ?_
    repeat walk_at "ob"
    rename_i q H2 _ S2
    obtain ⟨w1, w2⟩ := own_ok (if c < 0 then -c else c) (decide ((10 : Int) ^ Int.toNat 18 ≤ (if c < 0 then -c else c)))
    exact k _ _ _ q H2 ⟨w1, w2, by omega, by omega, Int.le_refl _, Int.le_refl _⟩ S2
  · repeat walk_at "ob"
    refine g_slL S (by walk_at "obl") fun l H1 S1 => ?_
    obtain ⟨ms, hms⟩ := cut_ints ns none (some 1)
    rw [hms] at S1
    repeat walk_at "ob"
    refine g_sum (ns := ms) (by walk_at "obl") ?_
    repeat walk_at "ob"
    have S3 := S1.less
    clear S1 S
    generalize ms.sum % 1000003 + 1125 * i + 540 = c
    refine g_I (show (0 : Int) < _ by decide) ?_
    repeat walk_at "ob"
    rename_i q H2 _ S2
    obtain ⟨w1, w2⟩ := own_ok (if c < 0 then -c else c) (decide ((10 : Int) ^ Int.toNat 18 ≤ (if c < 0 then -c else c)))
    exact k _ _ _ q H2 ⟨w1, w2, by omega, by omega, Int.le_refl _, Int.le_refl _⟩ S2
def sp_law_cells (K : Frag) : Sp := fun vs H Q E => vs.length = 2 ∧ ∃ (F : List (Addr × HO)) (G : List Ft) (a : Addr) (ns : List Int), vs = [.ref a, .int 3] ∧ Sy K F (.sq a (ns.map V.int) :: G) H ∧ ns.length ≤ 63 ∧
  ∀ (ms : List Int) (p : Addr) H', (∀ m ∈ ms, 0 ≤ m ∧ m ≤ 2) → ms.length ≤ 3 → Sy K ((p, .lst (ms.map V.int)) :: F) (.sq a (ns.map V.int) :: G) H' → Q (.ref p) H'
abbrev names_law_cells : List Str := ["script", "most"]
theorem sc_law_cells : FnScope names_law_cells ["script", "most"] (defScope (top 35)) := ⟨rfl, rfl, rfl, by decide +kernel, rfl, by decide +kernel, by decide +kernel⟩
set_option maxHeartbeats 4000000 in
theorem ok_law_cells (T : Tx K mg) : FG P w K mg base CX0 1 T.a_law_cells T.d_law_cells ["script", "most"] (sp_law_cells K) := by
  refine OB.Fun.fg T.F_law_cells sc_law_cells (fun vs H Q E h => h.1) (fun cdv A out s H vs Q E g h => ?_)
  obtain ⟨_, F, G, a, ns, rfl, S, hn, k⟩ := h
  refine ⟨_, (pss_one (ps_ret (pe_listRg rfl (by rfl) T.n_list (prg_1 (by rfl) T.n_range (pe_callB (c_max rfl) (by rfl) T.n_max (by decide +kernel) (pa_cons pe_int (pa_cons (pe_callB (c_min rfl) (by rfl) T.n_min (by decide +kernel) (pa_cons (pv 1) (pa_cons (pe_callB (toK (r := OB.rLen) (K := K) rfl c_len) (by rfl) T.n_len PySem.boot_len (pa_cons (pv 0) pa_nil)) pa_nil))) pa_nil))))))), ?_⟩
  refine g_start (σ := [some _, some _]) rfl ?_
  have hl : (((ns.map V.int).length : Nat) : Int) = ns.length := by rw [List.length_map]
  repeat walk_at "ob"
  generalize hm : (if (if ((ns.map V.int).length : Int) < 3 then ((ns.map V.int).length : Int) else 3) > 1 then (if ((ns.map V.int).length : Int) < 3 then ((ns.map V.int).length : Int) else 3) else 1) = M
  have hM : 0 ≤ M ∧ M ≤ 3 := by
    subst hm
    constructor <;> (repeat' split) <;> omega
  refine g_newRg S ⟨by omega, by omega, by omega, by omega, by omega⟩ fun p H1 S1 => ?_
  rw [rgV0] at S1
  refine k _ p H1 (fun m hm => ?_) (by rw [List.length_map, List.length_range]; omega) S1
  obtain ⟨j, hj, rfl⟩ := List.mem_map.mp hm
  have := List.mem_range.mp hj
  omega
end
end LAW

set_option Elab.async false
set_option linter.all false
set_option maxRecDepth 100000
namespace LAW
open PySem PySem.Spec PyProof.Rows L2 PySem.W OB
local macro_rules | `(tactic| walk_at "obc") => `(tactic| first
  | exact Or.inl ⟨by omega, by omega⟩
  | exact Or.inr ⟨by omega, by omega⟩
  | exact cdiv_ok (by omega) (by omega)
  | (show (0 : Int) < _; omega)
  | exact ⟨by omega, by decide⟩
  | exact ⟨by decide, by decide⟩)
local macro_rules | `(tactic| walk_at "obat") => `(tactic| first
  | exact Sy.at (by assumption) 0 rfl | exact Sy.at (by assumption) 1 rfl | exact Sy.at (by assumption) 2 rfl | exact Sy.at (by assumption) 3 rfl
  | exact Sy.at (by assumption) 4 rfl | exact Sy.at (by assumption) 5 rfl | exact Sy.at (by assumption) 6 rfl | exact Sy.at (by assumption) _ (by assumption) | exact Sy.at (by assumption) (_ + 1) (by assumption) | exact Sy.at (by assumption) (_ + 2) (by assumption))
local macro_rules | `(tactic| walk_at "obt") => `(tactic| first
  | exact Sy.tqs (by assumption) 0 rfl | exact Sy.tqs (by assumption) 1 rfl | exact Sy.tqs (by assumption) 2 rfl | exact Sy.tqs (by assumption) 3 rfl | exact Sy.tqs (by assumption) 4 rfl | exact Sy.tqs (by assumption) 5 rfl
  | exact Sy.tqs (by assumption) 6 rfl | exact Sy.tqs (by assumption) 7 rfl | assumption)
local macro_rules | `(tactic| walk_at "obl") => `(tactic| first
  | exact SqL.of (by walk_at "obat")
  | exact Sy.sq (by assumption) 0 rfl | exact Sy.sq (by assumption) 1 rfl | exact Sy.sq (by assumption) 2 rfl | exact Sy.sq (by assumption) 3 rfl | exact Sy.sq (by assumption) _ (by assumption))
local macro_rules | `(tactic| walk_at "obd") => `(tactic| first
  | exact Dp.int _ | exact Dp.bl _ | exact Dp.str _ | exact Dp.non
  | exact Sy.dp (by assumption) 0 rfl | exact Sy.dp (by assumption) 1 rfl | exact Sy.dp (by assumption) 2 rfl | exact Sy.dp (by assumption) 3 rfl
  | exact Sy.dp (by assumption) 4 rfl | exact Sy.dp (by assumption) 5 rfl | exact Sy.dp (by assumption) 6 rfl | exact Sy.dp (by assumption) 7 rfl
  | exact Sy.dp (by assumption) 8 rfl | exact Sy.dp (by assumption) 9 rfl | exact Sy.dp (by assumption) _ (by assumption) | assumption)
local macro_rules | `(tactic| walk_at "obds") => `(tactic| first
  | exact DpAll.nil
  | (refine' DpAll.cons ?ob1 ?ob2; (case ob1 => walk_at "obd"); (case ob2 => walk_at "obds"))
  | exact Sy.dps (by assumption) 0 rfl | exact Sy.dps (by assumption) 1 rfl | exact Sy.dps (by assumption) 2 rfl | exact Sy.dps (by assumption) 3 rfl | assumption)
local macro_rules | `(tactic| walk_at "obsc") => `(tactic| first
  | exact ScL.nil
  | ((first | refine' ScL.int ?obz | refine' ScL.str ?obz | refine' ScL.bl ?obz | refine' ScL.non ?obz); (case obz => walk_at "obsc")))
local macro_rules | `(tactic| walk_at "ob1") => `(tactic| first
  | ((with_reducible refine' g_var ?obh ?_); (case obh => rfl))
  | with_reducible refine g_c ?_
  | with_reducible refine g_nx ?_
  | with_reducible refine g_rt ?_
  | with_reducible refine g_bk ?_
  | with_reducible refine g_ct ?_
  | with_reducible refine g_op ?_
  | with_reducible refine g_I0 ?_
  | with_reducible refine g_test ?_
  | with_reducible refine g_bl ?_
  | with_reducible refine g_blx ?_
  | with_reducible refine g_B ?_
  | with_reducible refine g_seq ?_
  | with_reducible refine g_asg ?_
  | with_reducible refine g_name ?_
  | with_reducible refine g_ifS ?_
  | with_reducible refine g_ret ?_
  | with_reducible refine g_cb ?_
  | with_reducible refine g_cons ?_
  | with_reducible refine g_nil ?_
  | with_reducible refine g_int ?_
  | with_reducible refine g_intB ?_
  | with_reducible refine g_abs ?_
  | with_reducible refine g_max ?_
  | with_reducible refine g_min ?_
  | with_reducible refine g_un ?_
  | with_reducible refine g_U ?_
  | with_reducible refine g_eqI ?_
  | with_reducible refine g_neI ?_
  | with_reducible refine g_eqS ?_
  | with_reducible refine g_neS ?_
  | with_reducible refine g_tt ?_
  | with_reducible refine g_ff ?_
  | with_reducible refine g_next ?_
  | with_reducible refine g_drop ?_
  | with_reducible refine g_if ?_
  | with_reducible refine g_andV ?_
  | with_reducible refine g_orV ?_
  | with_reducible refine g_notV ?_
  | with_reducible refine g_and ?_
  | with_reducible refine g_or ?_
  | with_reducible refine g_not ?_
  | with_reducible refine g_yes ?_
  | with_reducible refine g_chain ?_
  | with_reducible refine g_cg ?_
  | with_reducible refine g_mg ?_
  | with_reducible refine g_kg ?_
  | with_reducible refine g_pg ?_
  | ((with_reducible refine' g_call ?obh ?obj ?_); (case obh => rfl); (case obj => rfl))
  | with_reducible refine g_par ?_
  | with_reducible refine g_par2 ?_
  | with_reducible refine g_par3 ?_
  | with_reducible refine g_par33 ?_
  | with_reducible refine g_gnil ?_
  | with_reducible refine g_gcons ?_
  | with_reducible refine g_gsub ?_
  | with_reducible refine g_ipI ?_
  | with_reducible refine g_rAdd ?_
  | with_reducible refine g_rSub ?_
  | ((with_reducible refine' g_aug ?obh ?_); (case obh => rfl))
  | with_reducible refine g_tup ?_
  | with_reducible refine g_lst ?_
  | with_reducible refine g_bm ?_
  | with_reducible refine g_bm0 ?_
  | with_reducible refine g_sl ?_
  | with_reducible refine g_nopart ?_
  | with_reducible refine g_part ?_
  | with_reducible refine g_pint ?_
  | with_reducible refine isi_int ?_
  | with_reducible refine isi_intB ?_
  | ((with_reducible refine' g_I ?obh ?_); (case obh => walk_at "obc"))
  | ((with_reducible refine' g_tyl ?obh ?_); (case obh => walk_at "obl"))
  | ((with_reducible refine' g_lenL ?obh ?_); (case obh => walk_at "obl"))
  | with_reducible refine g_ne ?_
  | ((with_reducible refine' g_neN' ?obh ?_); (case obh => rfl))
  | with_reducible refine g_ntt ?_
  | with_reducible refine g_nff ?_
  | with_reducible refine g_star ?_
  | with_reducible refine g_att ?_
  | with_reducible refine g_sfld ?_
  | with_reducible refine g_faug ?_
  | with_reducible refine g_fld ?_
  | ((with_reducible refine' g_nF ?obh ?_); (case obh => omega))
  | ((with_reducible refine' g_nT ?obh ?_); (case obh => omega))
  | ((with_reducible refine' g_TD ?obh ?_); (case obh => omega))
  | ((with_reducible refine' g_FD ?obh ?_); (case obh => omega))
  | ((with_reducible refine' g_ixUL ?obh ?obi ?_); (case obh => walk_at "obl"); (case obi => exact atI_nn (by omega) (by rfl)))
  | ((with_reducible refine' g_setLS ?obs ?obh ?obi ?_); (case obs => assumption); (case obh => assumption); (case obi => rfl); intro _ _ _)
  | ((with_reducible refine' g_newT ?obs ?obh ?obi ?obj ?_); (case obs => assumption); (case obh => walk_at "obds"); (case obi => rfl); (case obj => exact Nat.le_of_ble_eq_true rfl); intro _ _ _ _)
  | ((with_reducible refine' g_newL ?obs ?obj ?_); (case obs => assumption); (case obj => exact Nat.le_of_ble_eq_true rfl); intro _ _ _ _)
  | ((with_reducible refine' isi_tup ?obh ?_); (case obh => walk_at "obt"))
  | ((with_reducible refine' g_lenT ?obh ?_); (case obh => walk_at "obt"))
  | ((with_reducible refine' g_unpT ?obh ?obi ?_); (case obh => walk_at "obt"); (case obi => rfl))
  | ((with_reducible refine' g_divmod ?obs ?obh ?_); (case obs => assumption); (case obh => exact cdivp_ok (by omega) (by omega) (by omega)); intro _ _ _ _)
  | ((with_reducible refine' g_unpD ?obh ?obi ?obj ?_); (case obh => walk_at "obd"); (case obi => walk_at "obsc"); (case obj => rfl))
  | with_reducible refine g_att ?_)
local macro_rules | `(tactic| walk_at "obat19") => `(tactic| first | assumption | walk_at "obat")
local macro_rules | `(tactic| walk_at "ob") => `(tactic| first
  | walk_at "ob1"
  | refine use_is_integer ?_
  | refine use_is_within ?_
  | refine use_balance ?_
  | refine use_rate ?_
  | refine use_year (by assumption) ?_
  | refine use_unit ?_
  | refine use_rest (by omega) (by omega) ?_
  | refine use_parts (by walk_at "obd") (by assumption) ?_
  | refine use_is_stretch (by walk_at "obd") (by assumption) ?_
  | refine g_unpT (sqt_enc (by walk_at "obd")) rfl ?_
  | ((with_reducible refine' g_fldS ?obh ?obc ?obn ?obe ?_); (case obh => walk_at "obat19"); (case obc => exact AccC.c (by assumption)); (case obn => first | exact AccC.n1 (by assumption) | exact AccC.n2 (by assumption) | exact AccC.n3 (by assumption)); (case obe => rfl))
  | ((with_reducible refine' g_attS ?obs ?obh ?obc ?obn ?obl ?_); (case obs => assumption); (case obh => assumption); (case obc => exact AccC.c (by assumption)); (case obn => first | exact AccC.n1 (by assumption) | exact AccC.n2 (by assumption) | exact AccC.n3 (by assumption)); (case obl => exact Nat.le_of_ble_eq_true rfl); intro _ _ _)
  | ((with_reducible refine' g_augS ?obh ?obc ?obn ?obe ?_); (case obh => walk_at "obat19"); (case obc => exact AccC.c (by assumption)); (case obn => first | exact AccC.n1 (by assumption) | exact AccC.n2 (by assumption) | exact AccC.n3 (by assumption)); (case obe => rfl))
  | ((with_reducible refine' g_augE ?obs ?obh ?obl ?_); (case obs => assumption); (case obh => assumption); (case obl => exact Nat.le_of_ble_eq_true rfl); intro _ _ _)
  | ((with_reducible refine' g_ixUT ?obh ?obi ?_); (case obh => first | exact sqt_enc (by walk_at "obd") | walk_at "obt"); (case obi => rfl))
  | refine use_prest (by walk_at "obat19") (by assumption) ?_
  | refine use_ppaid (by walk_at "obat19") (by assumption) ?_
  | refine use_pdays (by walk_at "obat19") (by assumption) ?_
  | with_reducible refine g_lstRg ?_
  | with_reducible refine g_rg1 ?_
  | with_reducible refine g_rg2 ?_)
section
variable {P : Program} {w : World} {K : Frag} {mg : Str → Option Value} {base : Heap}
theorem flat_le {m : Nat} : ∀ {ss : List Str4}, (∀ s ∈ ss, s.d ≤ m) → (flat ss).length ≤ m * ss.length
  | [], _ => Nat.zero_le _
  | s :: ss, h => by
    have e := flat_le (ss := ss) fun x hx => h x (List.mem_cons_of_mem _ hx)
    have q := h s (List.mem_cons_self ..)
    unfold flat at e ⊢
    rw [List.flatMap_cons, List.length_append, List.length_replicate, List.length_cons, Nat.mul_add]
    omega
theorem flat_in {ss : List Str4} (ok : ∀ s ∈ ss, Ok4 s) : ∀ p ∈ flat ss, 0 ≤ p ∧ p ≤ 36600000000000000000000000 := by
  intro p hp
  obtain ⟨t, ht, h⟩ := List.mem_flatMap.mp hp
  obtain ⟨_, rfl⟩ := List.mem_replicate.mp h
  rw [← dayP_eq]
  exact ⟨parts_nn (ok t ht).one, parts_le (ok t ht).one⟩
theorem rows_in : ∀ {ps : List Int} {r : Int}, (∀ p ∈ ps, 0 ≤ p ∧ p ≤ 36600000000000000000000000) → 0 ≤ r → r ≤ 133589999999 → ∀ x ∈ rows ps r, (0 ≤ x.1 ∧ x.1 ≤ 36600000000000000000000000) ∧ 0 ≤ x.2 ∧ x.2 ≤ 133589999999
  | [], _, _, _, _, _, hx => nomatch hx
  | p :: ps, r, h, r0, r1, x, hx => by
    have q := h p (List.mem_cons_self ..)
    rcases List.mem_cons.mp (show x ∈ ((r + p) / 133590000000, (r + p) % 133590000000) :: rows ps _ from hx) with rfl | hx
    · exact ⟨⟨by show 0 ≤ (r + p) / 133590000000; omega, by show (r + p) / 133590000000 ≤ _; omega⟩, by show 0 ≤ (r + p) % 133590000000; omega, by show (r + p) % 133590000000 ≤ _; omega⟩
    · exact rows_in (fun y hy => h y (List.mem_cons_of_mem _ hy)) (by omega) (by omega) x hx
theorem small2 {a b : Int} (ha : a.natAbs < 10 ^ 60) (hb : b.natAbs < 10 ^ 60) : Small 1000 1 (.tuple [.int a, .int b]) :=
  (Small.tup (SmallL.cons (Small.int ha) (SmallL.cons (Small.int hb) SmallL.nil))).mono (by decide) (by decide)
theorem rows_small {ss : List Str4} (ok : ∀ s ∈ ss, Ok4 s) {r : Int} (r0 : 0 ≤ r) (r1 : r ≤ 133589999999) (hl : (flat ss).length ≤ 10000) : Small 16000000 2 (.tuple (rowsD (flat ss) r)) := by
  have h : SmallL ((1000 + 2) * (rowsD (flat ss) r).length) 1 (rowsD (flat ss) r) := SmallL.all fun x hx => by
    obtain ⟨y, hy, rfl⟩ := List.mem_map.mp hx
    have q := rows_in (flat_in ok) r0 r1 y hy
    exact small2 (by omega) (by omega)
  rw [rowsD_length] at h
  exact (Small.tup h).mono (by omega) (by decide)
theorem lowest_small {a : Int} (h0 : 0 ≤ a) (h1 : a ≤ 10 ^ 40) : Small 1000 1 (lowest a) := by
  have e1 : a / gU a ≤ a := Int.ediv_le_self _ h0
  have e2 : 0 ≤ a / gU a := Int.ediv_nonneg h0 (by omega)
  have e3 : (133590000000 : Int) / gU a ≤ 133590000000 := Int.ediv_le_self _ (by decide)
  have e4 : 0 ≤ (133590000000 : Int) / gU a := Int.ediv_nonneg (by decide) (by omega)
  exact small2 (by omega) (by omega)
theorem use_right {F : List (Addr × HO)} {G : List Ft} {H : Hp} {Q : VK} {E : XK} {p : Addr} {r : Int} {ss : List Str4} (S : Sy K F G H) (hd : Dp K H (.ref p) (encs ss)) (ok : ∀ s ∈ ss, Ok4 s) (hl : ss.length ≤ 1000) (r0 : 0 ≤ r) (r1 : r ≤ 133589999999)
    (k : ∀ H', Sy K F G H' → Q (.bl true) H') : sp_law_is_accrual_right K [.ref p, .int r] H Q E := ⟨rfl, F, G, p, r, ss, rfl, S, hd, ok, hl, r0, r1, k⟩
theorem g_forE2 {σ : L2.St} {H : Hp} {D : Ends} {g : TG} {tl : TE} {tb : TS} (k : tl σ H fun x H1 => tFor (iSeq K (tC x)) g tb D σ H1) : tFor (iSeq K tl) g tb D σ H := k
def sp_law_right (K : Frag) : Sp := fun vs H Q E => vs.length = 1 ∧ ∃ (F : List (Addr × HO)) (G : List Ft) (p : Addr) (a b c : Int), vs = [.ref p] ∧ Sy K ((p, potO a b c) :: F) G H ∧ PotOk 0 a b c ∧ ∀ H', Sy K F G H' → Q (.bl true) H'
abbrev names_law_right : List Str := ["pot", "spans", "rest", "parts", "least", "single", "some"]
theorem sc_law_right : FnScope names_law_right ["pot"] (defScope (top 47)) := ⟨rfl, rfl, rfl, by decide +kernel, rfl, by decide +kernel, by decide +kernel⟩
set_option maxHeartbeats 4000000 in
theorem ok_law_right (T : Tx K mg) : FG P w K mg base CX0 8 T.a_law_right T.d_law_right ["pot"] (sp_law_right K) := by
  refine OB.Fun.fg T.F_law_right sc_law_right (fun vs H Q E h => h.1) (fun cdv A out s H vs Q E g h => ?_)
  obtain ⟨_, F, G, p, a, b, c, rfl, S, ok, k⟩ := h
  refine ⟨_, (pss_cons (ps_par (i := 1) (j := 2) rfl sc_law_right.nd rfl rfl (by decide) rfl rfl (pa_cons (pe_cg (ok_law_stretches T) (g.mono (by decide : 4 ≤ 7)) (by rfl) T.m_law_stretches T.F_law_stretches.kp (OB.Fun.bd T.F_law_stretches (ps := ["pot", "amount", "most"]) (n := 3) (ks := []) (ix := [0, 1, 2]) (fun _ _ _ _ _ _ us ws h1 h2 => match us, ws, h1, h2 with | [_, _, _], [], _, _ => rfl)) pass0 (pa_cons (pv 0) (pa_cons pe_int (pa_cons pe_int pa_nil))) pk_nil) (pa_cons (pe_cg (ok_law_rest T) (g.mono (by decide : 3 ≤ 7)) (by rfl) T.m_law_rest T.F_law_rest.kp (OB.Fun.bd T.F_law_rest (ps := ["pot"]) (n := 1) (ks := []) (ix := [0]) (fun _ _ _ _ _ _ us ws h1 h2 => match us, ws, h1, h2 with | [_], [], _, _ => rfl)) pass0 (pa_cons (pv 0) pa_nil) pk_nil) pa_nil)) (by rfl))
      (pss_cons (ps_set (i := 3) sc_law_right.nd rfl (by first | exact Or.inl rfl | exact Or.inr rfl) (pe_cg (ok_law_parts_in T) (g.mono (by decide : 2 ≤ 7)) (by rfl) T.m_law_parts_in T.F_law_parts_in.kp (OB.Fun.bd T.F_law_parts_in (ps := ["spans"]) (n := 1) (ks := []) (ix := [0]) (fun _ _ _ _ _ _ us ws h1 h2 => match us, ws, h1, h2 with | [_], [], _, _ => rfl)) pass0 (pa_cons (pv 1) pa_nil) pk_nil))
      (pss_cons (ps_if (pt_cmpR op_ne (pe_callB (toK (r := rRepr) (K := K) rfl (call_repr g)) (by rfl) T.n_repr (by decide +kernel) (pa_cons (pe_cg0 (ok_parts_of T) (g.mono (by decide : 6 ≤ 7)) (by rfl) T.m_parts_of T.F_parts_of.kp (OB.Fun.bd T.F_parts_of (ps := ["stretches"]) (n := 0) (ks := ["stretches"]) (ix := [0]) (fun _ _ _ _ _ _ us ws h1 h2 => match us, ws, h1, h2 with | [], [_], _, _ => rfl)) pass0 (pk_cons (pv 1) pk_nil)) pa_nil)) (pe_callB (toK (r := rRepr) (K := K) rfl (call_repr g)) (by rfl) T.n_repr (by decide +kernel) (pa_cons (pv 3) pa_nil)) (nomark _)) (pss_one (ps_ret pe_bl)) pss_nil)
      (pss_cons (ps_set (i := 4) sc_law_right.nd rfl (by first | exact Or.inl rfl | exact Or.inr rfl) (pe_cg (ok_law_divisor T) (g.mono (by decide : 1 ≤ 7)) (by rfl) T.m_law_divisor T.F_law_divisor.kp (OB.Fun.bd T.F_law_divisor (ps := ["one", "other"]) (n := 2) (ks := []) (ix := [0, 1]) (fun _ _ _ _ _ _ us ws h1 h2 => match us, ws, h1, h2 with | [_, _], [], _, _ => rfl)) pass0 (pa_cons (pv 3) (pa_cons (pe_cg0 (ok_law_unit T) (g.mono (by decide : 1 ≤ 7)) (by rfl) T.m_law_unit T.F_law_unit.kp (OB.Fun.bd T.F_law_unit (ps := []) (n := 0) (ks := []) (ix := []) (fun _ _ _ _ _ _ us ws h1 h2 => match us, ws, h1, h2 with | [], [], _, _ => rfl)) pass0 pk_nil) pa_nil)) pk_nil))
      (pss_cons (ps_if (pt_cmpR op_ne (pe_callB (toK (r := rRepr) (K := K) rfl (call_repr g)) (by rfl) T.n_repr (by decide +kernel) (pa_cons (pe_cg0 (ok_true_interest T) (g.mono (by decide : 7 ≤ 7)) (by rfl) T.m_true_interest T.F_true_interest.kp (OB.Fun.bd T.F_true_interest (ps := ["stretches"]) (n := 0) (ks := ["stretches"]) (ix := [0]) (fun _ _ _ _ _ _ us ws h1 h2 => match us, ws, h1, h2 with | [], [_], _, _ => rfl)) pass0 (pk_cons (pv 1) pk_nil)) pa_nil)) (pe_callB (toK (r := rRepr) (K := K) rfl (call_repr g)) (by rfl) T.n_repr (by decide +kernel) (pa_cons (pe_tup (pa_cons (pe_callTy c_int (by rfl) T.n_int (by decide +kernel) (pa_cons (pe_op op_fdivW (pv 3) (pv 4)) pa_nil)) (pa_cons (pe_callTy c_int (by rfl) T.n_int (by decide +kernel) (pa_cons (pe_op op_fdivW (pe_cg0 (ok_law_unit T) (g.mono (by decide : 1 ≤ 7)) (by rfl) T.m_law_unit T.F_law_unit.kp (OB.Fun.bd T.F_law_unit (ps := []) (n := 0) (ks := []) (ix := []) (fun _ _ _ _ _ _ us ws h1 h2 => match us, ws, h1, h2 with | [], [], _, _ => rfl)) pass0 pk_nil) (pv 4)) pa_nil)) pa_nil))) pa_nil)) (nomark _)) (pss_one (ps_ret pe_bl)) pss_nil)
      (pss_cons (ps_set (i := 5) sc_law_right.nd rfl (by first | exact Or.inl rfl | exact Or.inr rfl) (pe_cg (ok_law_days_of T) (g.mono (by decide : 1 ≤ 7)) (by rfl) T.m_law_days_of T.F_law_days_of.kp (OB.Fun.bd T.F_law_days_of (ps := ["spans"]) (n := 1) (ks := []) (ix := [0]) (fun _ _ _ _ _ _ us ws h1 h2 => match us, ws, h1, h2 with | [_], [], _, _ => rfl)) pass0 (pa_cons (pv 1) pa_nil) pk_nil))
      (pss_cons (ps_if (pt_cmpR op_ne (pe_callB (toK (r := rRepr) (K := K) rfl (call_repr g)) (by rfl) T.n_repr (by decide +kernel) (pa_cons (pe_cg0 (ok_daily T) (g.mono (by decide : 6 ≤ 7)) (by rfl) T.m_daily T.F_daily.kp (OB.Fun.bd T.F_daily (ps := ["stretches", "rest"]) (n := 0) (ks := ["rest", "stretches"]) (ix := [1, 0]) (fun _ _ _ _ _ _ us ws h1 h2 => match us, ws, h1, h2 with | [], [_, _], _, _ => rfl)) pass0 (pk_cons (pv 2) (pk_cons (pv 1) pk_nil))) pa_nil)) (pe_callB (toK (r := rRepr) (K := K) rfl (call_repr g)) (by rfl) T.n_repr (by decide +kernel) (pa_cons (pe_callTy (toK (r := rTuple) (K := K) rfl c_tuple) (by rfl) T.n_tuple (by decide +kernel) (pa_cons (pe_cg (ok_law_paid_rows T) (g.mono (by decide : 3 ≤ 7)) (by rfl) T.m_law_paid_rows T.F_law_paid_rows.kp (OB.Fun.bd T.F_law_paid_rows (ps := ["spans", "rest"]) (n := 2) (ks := []) (ix := [0, 1]) (fun _ _ _ _ _ _ us ws h1 h2 => match us, ws, h1, h2 with | [_, _], [], _, _ => rfl)) pass0 (pa_cons (pv 5) (pa_cons (pv 2) pa_nil)) pk_nil) pa_nil)) pa_nil)) (nomark _)) (pss_one (ps_ret pe_bl)) pss_nil)
      (pss_cons (ps_for PassesOwn.never rfl (pi_seq (pe_tup (pa_cons (pv 1) (pa_cons (pv 5) (pa_cons (pe_cg (ok_law_cut_up T) (g.mono (by decide : 2 ≤ 7)) (by rfl) T.m_law_cut_up T.F_law_cut_up.kp (OB.Fun.bd T.F_law_cut_up (ps := ["pot", "spans"]) (n := 2) (ks := []) (ix := [0, 1]) (fun _ _ _ _ _ _ us ws h1 h2 => match us, ws, h1, h2 with | [_, _], [], _, _ => rfl)) pass0 (pa_cons (pv 0) (pa_cons (pv 1) pa_nil)) pk_nil) pa_nil))))) (pg_name (i := 6) sc_law_right.nd rfl (by first | exact Or.inl rfl | exact Or.inr rfl))
      (pss_one (ps_if (pt_not (pt_val (pe_cg (ok_law_is_accrual_right T) (g.mono (by decide : 6 ≤ 7)) (by rfl) T.m_law_is_accrual_right T.F_law_is_accrual_right.kp (OB.Fun.bd T.F_law_is_accrual_right (ps := ["spans", "rest"]) (n := 2) (ks := []) (ix := [0, 1]) (fun _ _ _ _ _ _ us ws h1 h2 => match us, ws, h1, h2 with | [_, _], [], _, _ => rfl)) pass0 (pa_cons (pv 6) (pa_cons (pv 2) pa_nil)) pk_nil))) (pss_one (ps_ret pe_bl)) pss_nil)))
      (pss_one (ps_ret pe_bl)))))))))), ?_⟩
  refine g_start (σ := [some _, none, none, none, none, none, none]) rfl ?_
  repeat walk_at "ob"
  refine ⟨rfl, _, G, 0, p, 0, 5, 40, a, b, c, rfl, S, rfl, ok, by decide, by decide, by decide, by decide, by decide, fun ss q hl hs a1 b1 c1 H1 o1 S1 _ => ?_⟩
  have S1 : Sy K ((p, potO a1 b1 c1) :: F) (.dat [.ref q] [encs ss] :: G) H1 := S1
  have hok : ∀ s ∈ ss, Ok4 s := fun s h => (hs s h).1
  have hfl := flat_le (m := 40) fun s h => (hs s h).2
  have sn := sumP_nn hok
  have sl := sumP_le hok
  have g1 := gU_pos (sumP ss)
  have g2 := gU_le (sumP ss)
  repeat walk_at "ob"
  refine use_rest_draw (i := 0) S1 rfl o1 (by omega) fun r r0 r1 a2 b2 c2 H2 o2 S2 _ => ?_
  have S2 : Sy K ((p, potO a2 b2 c2) :: F) (.dat [.ref q] [encs ss] :: G) H2 := S2
  clear S1
  repeat walk_at "ob"
  refine use_parts_in S2 (S2.dp 0 rfl) hok (by omega) fun H3 S3 => ?_
  repeat walk_at "ob"
  refine use_parts_of S3 (S3.dp 0 rfl) hok (by omega) fun H4 S4 => ?_
  clear S2 S3
  repeat walk_at "ob"
  refine g_reprS (Dp.int _) (Small.int (by omega)) (by decide) (by decide) ?_
  repeat walk_at "ob"
  refine g_reprS (Dp.int _) (Small.int (by omega)) (by decide) (by decide) ?_
  repeat walk_at "ob"
  refine ⟨rfl, sumP ss, rfl, sn, ?_⟩
  repeat walk_at "ob"
  refine ⟨rfl, _, _, q, ss, rfl, S4, S4.dp 0 rfl, hok, by omega, fun q2 H5 S5 => ?_⟩
  clear S4
  repeat walk_at "ob"
  refine g_reprS (S5.dp 0 rfl) (lowest_small sn (by omega)) (by decide) (by decide) ?_
  repeat walk_at "ob"
  rename_i q3 H6 _ S6
  refine g_reprS (d := lowest (sumP ss)) (S6.dp 0 rfl) (lowest_small sn (by omega)) (by decide) (by decide) ?_
  have S7 := S6.drop.drop
  clear S5 S6
  repeat walk_at "ob"
  refine ⟨rfl, _, _, q, ss, rfl, S7, S7.dp 0 rfl, hok, by omega, fun q4 H7 S8 => ?_⟩
  clear S7
  repeat walk_at "ob"
  refine ⟨rfl, _, _, q, ss, r, rfl, S8, S8.dp 1 rfl, hok, by omega, r0, r1, by omega, fun q5 H8 S9 => ?_⟩
  clear S8
  repeat walk_at "ob"
  have rs := rows_small hok r0 r1 (by omega)
  refine g_reprS (S9.dp 0 rfl) rs (by decide) (by decide) ?_
  repeat walk_at "ob"
  refine use_paid_rows S9 (S9.dp 1 rfl) (singles_ok hok) (by rw [singles_length]; omega) r0 r1 fun q6 ys H9 S10 => ?_
  clear S9
  rw [singles_parts] at S10
  repeat walk_at "ob"
  refine g_tup0 S10 (by walk_at "obl") (S10.dps 0 rfl) (rowsD_imm ..) fun q7 H10 _ S11 => ?_
  clear S10
  repeat walk_at "ob"
  refine g_reprS (S11.dp 0 rfl) rs (by decide) (by decide) ?_
  have S12 := S11.less.drop.drop.drop
  clear S11
  repeat walk_at "ob"
  refine g_forE2 ?_
  repeat walk_at "ob"
  refine ⟨rfl, _, _, 0, p, q, _, a2, b2, c2, ss, rfl, S12, rfl, o2, by omega, S12.dp 1 rfl, hok, by omega, fun t q8 sm a3 b3 c3 H11 o3 S13 _ => ?_⟩
  have S13 : Sy K ((p, potO a3 b3 c3) :: F) (.dat [.ref q8] [encs t] :: .dat [.ref q4] [encs (singles ss)] :: .dat [.ref q] [encs ss] :: G) H11 := S13
  clear S12
  repeat walk_at "ob"
  have im : immAll ([ss, singles ss, t].map encs) = true := immAll_of fun x hx => by
    obtain ⟨y, _, rfl⟩ := List.mem_map.mp hx
    exact enc_imm y
  refine g_newT (ds := [ss, singles ss, t].map encs) S13 (.cons (S13.dp 2 rfl) (.cons (S13.dp 1 rfl) (.cons (S13.dp 0 rfl) .nil))) im (Nat.le_of_ble_eq_true rfl) fun q9 H12 _ S14 => ?_
  obtain ⟨_, xs, e, S15⟩ := S14.opn (S14.dp 0 rfl) im
  cases e
  clear S13 S14
  have S16 := S15.less
  clear S15
  refine g_forS (a := q9) (xs := xs) false (fun j σ' H' => ∃ v6, σ' = [some (.ref p), some (.ref q), some (.int r), some (.int (sumP ss)), some (.int (gU (sumP ss))), some (.ref q4), v6] ∧ Sy K F (.tq q9 xs :: .dat xs ([ss, singles ss, t].map encs) :: G) H') (fun Q' q => q)
    ⟨none, rfl, S16.drop3.drop3.drop3.drop3⟩ (fun j σ' H' ⟨_, _, S17⟩ => S17.tqs 0 rfl) ?_ ?_
  · rintro j x σ' H' hx ⟨v6, rfl, S17⟩
    obtain ⟨st, hst, hds⟩ := dps_map (S17.dps 1 rfl) hx
    have ho : (∀ s ∈ st, Ok4 s) ∧ st.length ≤ 1000 := by
      have e1 : (singles ss).length ≤ 1000 := by rw [singles_length]; omega
      have e2 := sm.2.2
      have hm := List.mem_of_getElem? hst
      simp only [List.mem_cons, List.not_mem_nil, or_false] at hm
      rcases hm with rfl | rfl | rfl
      · exact ⟨hok, by omega⟩
      · exact ⟨singles_ok hok, e1⟩
      · exact ⟨sm.1, by omega⟩
    obtain ⟨u, ys3, rfl, _⟩ := dp_at hds
    repeat walk_at "ob"
    refine use_right S17 hds ho.1 ho.2 r0 r1 fun H13 S18 => ?_
    repeat walk_at "ob"
    exact ⟨_, rfl, S18⟩
  · rintro σ' H' ⟨v6, rfl, S17⟩
    repeat walk_at "ob"
    exact k _ S17.drop.drop
end
end LAW

set_option Elab.async false
set_option linter.all false
set_option maxRecDepth 100000
namespace LAW
open PySem PySem.Spec PyProof.Rows L2 PySem.W OB
local macro_rules | `(tactic| walk_at "obc") => `(tactic| first
  | exact Or.inl ⟨by omega, by omega⟩
  | exact Or.inr ⟨by omega, by omega⟩
  | exact cdiv_ok (by omega) (by omega)
  | (show (0 : Int) < _; omega)
  | exact ⟨by omega, by decide⟩
  | exact ⟨by decide, by decide⟩)
local macro_rules | `(tactic| walk_at "obat") => `(tactic| first
  | exact Sy.at (by assumption) 0 rfl | exact Sy.at (by assumption) 1 rfl | exact Sy.at (by assumption) 2 rfl | exact Sy.at (by assumption) 3 rfl
  | exact Sy.at (by assumption) 4 rfl | exact Sy.at (by assumption) 5 rfl | exact Sy.at (by assumption) 6 rfl | exact Sy.at (by assumption) _ (by assumption) | exact Sy.at (by assumption) (_ + 1) (by assumption) | exact Sy.at (by assumption) (_ + 2) (by assumption))
local macro_rules | `(tactic| walk_at "obt") => `(tactic| first
  | exact Sy.tqs (by assumption) 0 rfl | exact Sy.tqs (by assumption) 1 rfl | exact Sy.tqs (by assumption) 2 rfl | exact Sy.tqs (by assumption) 3 rfl | exact Sy.tqs (by assumption) 4 rfl | exact Sy.tqs (by assumption) 5 rfl
  | exact Sy.tqs (by assumption) 6 rfl | exact Sy.tqs (by assumption) 7 rfl | assumption)
local macro_rules | `(tactic| walk_at "obl") => `(tactic| first
  | exact SqL.of (by walk_at "obat")
  | exact Sy.sq (by assumption) 0 rfl | exact Sy.sq (by assumption) 1 rfl | exact Sy.sq (by assumption) 2 rfl | exact Sy.sq (by assumption) 3 rfl | exact Sy.sq (by assumption) _ (by assumption))
local macro_rules | `(tactic| walk_at "obd") => `(tactic| first
  | exact Dp.int _ | exact Dp.bl _ | exact Dp.str _ | exact Dp.non
  | exact Sy.dp (by assumption) 0 rfl | exact Sy.dp (by assumption) 1 rfl | exact Sy.dp (by assumption) 2 rfl | exact Sy.dp (by assumption) 3 rfl
  | exact Sy.dp (by assumption) 4 rfl | exact Sy.dp (by assumption) 5 rfl | exact Sy.dp (by assumption) 6 rfl | exact Sy.dp (by assumption) 7 rfl
  | exact Sy.dp (by assumption) 8 rfl | exact Sy.dp (by assumption) 9 rfl | exact Sy.dp (by assumption) _ (by assumption) | assumption)
local macro_rules | `(tactic| walk_at "obds") => `(tactic| first
  | exact DpAll.nil
  | (refine' DpAll.cons ?ob1 ?ob2; (case ob1 => walk_at "obd"); (case ob2 => walk_at "obds"))
  | exact Sy.dps (by assumption) 0 rfl | exact Sy.dps (by assumption) 1 rfl | exact Sy.dps (by assumption) 2 rfl | exact Sy.dps (by assumption) 3 rfl | assumption)
local macro_rules | `(tactic| walk_at "obsc") => `(tactic| first
  | exact ScL.nil
  | ((first | refine' ScL.int ?obz | refine' ScL.str ?obz | refine' ScL.bl ?obz | refine' ScL.non ?obz); (case obz => walk_at "obsc")))
local macro_rules | `(tactic| walk_at "ob1") => `(tactic| first
  | ((with_reducible refine' g_var ?obh ?_); (case obh => rfl))
  | with_reducible refine g_c ?_
  | with_reducible refine g_nx ?_
  | with_reducible refine g_rt ?_
  | with_reducible refine g_bk ?_
  | with_reducible refine g_ct ?_
  | with_reducible refine g_op ?_
  | with_reducible refine g_I0 ?_
  | with_reducible refine g_test ?_
  | with_reducible refine g_bl ?_
  | with_reducible refine g_blx ?_
  | with_reducible refine g_B ?_
  | with_reducible refine g_seq ?_
  | with_reducible refine g_asg ?_
  | with_reducible refine g_name ?_
  | with_reducible refine g_ifS ?_
  | with_reducible refine g_ret ?_
  | with_reducible refine g_cb ?_
  | with_reducible refine g_cons ?_
  | with_reducible refine g_nil ?_
  | with_reducible refine g_int ?_
  | with_reducible refine g_intB ?_
  | with_reducible refine g_abs ?_
  | with_reducible refine g_max ?_
  | with_reducible refine g_min ?_
  | with_reducible refine g_un ?_
  | with_reducible refine g_U ?_
  | with_reducible refine g_eqI ?_
  | with_reducible refine g_neI ?_
  | with_reducible refine g_eqS ?_
  | with_reducible refine g_neS ?_
  | with_reducible refine g_tt ?_
  | with_reducible refine g_ff ?_
  | with_reducible refine g_next ?_
  | with_reducible refine g_drop ?_
  | with_reducible refine g_if ?_
  | with_reducible refine g_andV ?_
  | with_reducible refine g_orV ?_
  | with_reducible refine g_notV ?_
  | with_reducible refine g_and ?_
  | with_reducible refine g_or ?_
  | with_reducible refine g_not ?_
  | with_reducible refine g_yes ?_
  | with_reducible refine g_chain ?_
  | with_reducible refine g_cg ?_
  | with_reducible refine g_mg ?_
  | with_reducible refine g_kg ?_
  | with_reducible refine g_pg ?_
  | ((with_reducible refine' g_call ?obh ?obj ?_); (case obh => rfl); (case obj => rfl))
  | with_reducible refine g_par ?_
  | with_reducible refine g_par2 ?_
  | with_reducible refine g_par3 ?_
  | with_reducible refine g_par33 ?_
  | with_reducible refine g_gnil ?_
  | with_reducible refine g_gcons ?_
  | with_reducible refine g_gsub ?_
  | with_reducible refine g_ipI ?_
  | with_reducible refine g_rAdd ?_
  | with_reducible refine g_rSub ?_
  | ((with_reducible refine' g_aug ?obh ?_); (case obh => rfl))
  | with_reducible refine g_tup ?_
  | with_reducible refine g_lst ?_
  | with_reducible refine g_bm ?_
  | with_reducible refine g_bm0 ?_
  | with_reducible refine g_sl ?_
  | with_reducible refine g_nopart ?_
  | with_reducible refine g_part ?_
  | with_reducible refine g_pint ?_
  | with_reducible refine isi_int ?_
  | with_reducible refine isi_intB ?_
  | ((with_reducible refine' g_I ?obh ?_); (case obh => walk_at "obc"))
  | ((with_reducible refine' g_tyl ?obh ?_); (case obh => walk_at "obl"))
  | ((with_reducible refine' g_lenL ?obh ?_); (case obh => walk_at "obl"))
  | with_reducible refine g_ne ?_
  | ((with_reducible refine' g_neN' ?obh ?_); (case obh => rfl))
  | with_reducible refine g_ntt ?_
  | with_reducible refine g_nff ?_
  | with_reducible refine g_star ?_
  | with_reducible refine g_att ?_
  | with_reducible refine g_sfld ?_
  | with_reducible refine g_faug ?_
  | with_reducible refine g_fld ?_
  | ((with_reducible refine' g_nF ?obh ?_); (case obh => omega))
  | ((with_reducible refine' g_nT ?obh ?_); (case obh => omega))
  | ((with_reducible refine' g_TD ?obh ?_); (case obh => omega))
  | ((with_reducible refine' g_FD ?obh ?_); (case obh => omega))
  | ((with_reducible refine' g_ixUL ?obh ?obi ?_); (case obh => walk_at "obl"); (case obi => exact atI_nn (by omega) (by rfl)))
  | ((with_reducible refine' g_setLS ?obs ?obh ?obi ?_); (case obs => assumption); (case obh => assumption); (case obi => rfl); intro _ _ _)
  | ((with_reducible refine' g_newT ?obs ?obh ?obi ?obj ?_); (case obs => assumption); (case obh => walk_at "obds"); (case obi => rfl); (case obj => exact Nat.le_of_ble_eq_true rfl); intro _ _ _ _)
  | ((with_reducible refine' g_newL ?obs ?obj ?_); (case obs => assumption); (case obj => exact Nat.le_of_ble_eq_true rfl); intro _ _ _ _)
  | ((with_reducible refine' isi_tup ?obh ?_); (case obh => walk_at "obt"))
  | ((with_reducible refine' g_lenT ?obh ?_); (case obh => walk_at "obt"))
  | ((with_reducible refine' g_unpT ?obh ?obi ?_); (case obh => walk_at "obt"); (case obi => rfl))
  | ((with_reducible refine' g_divmod ?obs ?obh ?_); (case obs => assumption); (case obh => exact cdivp_ok (by omega) (by omega) (by omega)); intro _ _ _ _)
  | ((with_reducible refine' g_unpD ?obh ?obi ?obj ?_); (case obh => walk_at "obd"); (case obi => walk_at "obsc"); (case obj => rfl))
  | with_reducible refine g_att ?_)
local macro_rules | `(tactic| walk_at "obat19") => `(tactic| first | assumption | walk_at "obat")
local macro_rules | `(tactic| walk_at "ob") => `(tactic| first
  | walk_at "ob1"
  | refine use_is_integer ?_
  | refine use_is_within ?_
  | refine use_balance ?_
  | refine use_rate ?_
  | refine use_year (by assumption) ?_
  | refine use_unit ?_
  | refine use_rest (by omega) (by omega) ?_
  | refine use_parts (by walk_at "obd") (by assumption) ?_
  | refine use_is_stretch (by walk_at "obd") (by assumption) ?_
  | refine g_unpT (sqt_enc (by walk_at "obd")) rfl ?_
  | ((with_reducible refine' g_fldS ?obh ?obc ?obn ?obe ?_); (case obh => walk_at "obat19"); (case obc => exact AccC.c (by assumption)); (case obn => first | exact AccC.n1 (by assumption) | exact AccC.n2 (by assumption) | exact AccC.n3 (by assumption)); (case obe => rfl))
  | ((with_reducible refine' g_attS ?obs ?obh ?obc ?obn ?obl ?_); (case obs => assumption); (case obh => assumption); (case obc => exact AccC.c (by assumption)); (case obn => first | exact AccC.n1 (by assumption) | exact AccC.n2 (by assumption) | exact AccC.n3 (by assumption)); (case obl => exact Nat.le_of_ble_eq_true rfl); intro _ _ _)
  | ((with_reducible refine' g_augS ?obh ?obc ?obn ?obe ?_); (case obh => walk_at "obat19"); (case obc => exact AccC.c (by assumption)); (case obn => first | exact AccC.n1 (by assumption) | exact AccC.n2 (by assumption) | exact AccC.n3 (by assumption)); (case obe => rfl))
  | ((with_reducible refine' g_augE ?obs ?obh ?obl ?_); (case obs => assumption); (case obh => assumption); (case obl => exact Nat.le_of_ble_eq_true rfl); intro _ _ _)
  | ((with_reducible refine' g_ixUT ?obh ?obi ?_); (case obh => first | exact sqt_enc (by walk_at "obd") | walk_at "obt"); (case obi => rfl))
  | refine use_prest (by walk_at "obat19") (by assumption) ?_
  | refine use_ppaid (by walk_at "obat19") (by assumption) ?_
  | refine use_pdays (by walk_at "obat19") (by assumption) ?_
  | with_reducible refine g_lstRg ?_
  | with_reducible refine g_rg1 ?_
  | with_reducible refine g_rg2 ?_)
section
variable {P : Program} {w : World} {K : Frag} {mg : Str → Option Value} {base : Heap}
theorem g_lcE2 {σ : L2.St} {H : Hp} {Q : VK} {g : TG} {tl te : TE} {tt : TT} {own : List Nat} (k : tl σ H fun x H1 => tLc (iSeq K (tC x)) g tt te own σ H1 Q) : tLc (iSeq K tl) g tt te own σ H Q := k
def sp_law (K : Frag) : Sp := fun vs H Q E => vs.length = 1 ∧ ∃ (a : Addr) (ns : List Int), vs = [.ref a] ∧ Sy K [] [.sq a (ns.map V.int)] H ∧ ns.length ≤ 63 ∧ ∀ H', Q (.bl true) H'
abbrev names_law : List Str := ["script", "place"]
theorem sc_law : FnScope names_law ["script"] (defScope (top 48)) := ⟨rfl, rfl, rfl, by decide +kernel, rfl, by decide +kernel, by decide +kernel⟩
set_option maxHeartbeats 4000000 in
theorem ok_law (T : Tx K mg) : FG P w K mg base CX0 9 T.a_law T.d_law ["script"] (sp_law K) := by
  refine OB.Fun.fg T.F_law sc_law (fun vs H Q E h => h.1) (fun cdv A out s H vs Q E g h => ?_)
  obtain ⟨_, a, ns, rfl, S, hn, k⟩ := h
  refine ⟨_, (pss_one (ps_ret (pe_callB (toK (r := rAll) (K := K) rfl (cr_all rfl)) (by rfl) T.n_all (by decide +kernel) (pa_cons (pe_lc (own := [("place", 1)]) (tt := tYes) rfl sc_law.nd (pi_seq (pe_cg (ok_law_cells T) (g.mono (by decide : 1 ≤ 8)) (by rfl) T.m_law_cells T.F_law_cells.kp (OB.Fun.bd T.F_law_cells (ps := ["script", "most"]) (n := 2) (ks := []) (ix := [0, 1]) (fun _ _ _ _ _ _ us ws h1 h2 => match us, ws, h1, h2 with | [_, _], [], _, _ => rfl)) pass0 (pa_cons (pv 0) (pa_cons pe_int pa_nil)) pk_nil)) (blkOk_by (N := names_law) (sc := defScope (top 48)) (own := [("place", 1)]) (by decide +kernel)) (fun _ _ _ _ _ => (pg_name (i := 1) sc_law.nd rfl (by first | exact Or.inl rfl | exact Or.inr rfl))) (fun _ _ _ _ _ => pts_nil) (fun _ _ _ _ _ => (pe_cg (ok_law_right T) (g.mono (by decide : 8 ≤ 8)) (by rfl) T.m_law_right T.F_law_right.kp (OB.Fun.bd T.F_law_right (ps := ["pot"]) (n := 1) (ks := []) (ix := [0]) (fun _ _ _ _ _ _ us ws h1 h2 => match us, ws, h1, h2 with | [_], [], _, _ => rfl)) pass0 (pa_cons (pe_cg (ok_law_pot T) (g.mono (by decide : 1 ≤ 8)) (by rfl) T.m_law_pot T.F_law_pot.kp (OB.Fun.bd T.F_law_pot (ps := ["script", "place"]) (n := 2) (ks := []) (ix := [0, 1]) (fun _ _ _ _ _ _ us ws h1 h2 => match us, ws, h1, h2 with | [_, _], [], _, _ => rfl)) pass0 (pa_cons (pv 0) (pa_cons (pv 1) pa_nil)) pk_nil) pa_nil) pk_nil))) pa_nil)))), ?_⟩
  refine g_start (σ := [some _, none]) rfl ?_
  repeat walk_at "ob"
  refine g_lcE2 ?_
  repeat walk_at "ob"
  refine ⟨rfl, [], [], a, ns, rfl, S, hn, fun ms p H1 hms hml S1 => ?_⟩
  repeat walk_at "ob"
  refine g_lcS (a := p) (xs := ms.map V.int) true (fun i F' ds => F' = [(p, .lst (ms.map V.int))] ∧ ds = List.replicate i (.bool true) ∧ i ≤ ms.length) S1 (fun Q' q => q) ⟨rfl, rfl, Nat.zero_le _⟩ (fun i F' ds H' hi S3 => SqL.of ((hi.1 ▸ S3).at 0 rfl)) (fun i F' ds hi => by
      rw [hi.2.1, List.length_replicate]
      omega) ?_ ?_
  · intro i x hx Dp H2 F2 vs ds QE QR hi S3 kE kR
    obtain ⟨rfl, rfl, hi2⟩ := hi
    have hi3 : i < ms.length := by
      have := (List.getElem?_eq_some_iff.mp hx).1
      rw [List.length_map] at this
      exact this
    rw [List.getElem?_map] at hx
    obtain ⟨m, hm, rfl⟩ := Option.map_eq_some_iff.mp hx
    obtain ⟨m0, m1⟩ := hms m (List.mem_of_getElem? hm)
    repeat walk_at "ob"
    refine ⟨rfl, ?_⟩
    repeat walk_at "ob"
    refine ⟨rfl, _, _, a, ns, m, rfl, S3.add (.sq a (ns.map V.int)) (S3.ft _ (by simp)), hn, m0, m1, fun x y z q H4 o S4 => ?_⟩
    repeat walk_at "ob"
    refine ⟨rfl, _, _, q, x, y, z, rfl, S4, o, fun H5 S5 => ?_⟩
    repeat walk_at "ob"
    exact kE _ (.bool true) _ _ ⟨rfl, by rw [List.replicate_succ'], hi3⟩ (S5.drop.fact (dps_one (L2.Dp.bl true)) rfl)
  · rintro Dp H2 F2 vs ds hD ⟨rfl, rfl, _⟩ S3
    have hv : vs = (List.replicate (ms.map V.int).length true).map V.bl := by
      rw [dps_scal (S3.dps 0 rfl) fun d hd => by rw [(List.mem_replicate.mp hd).2]; rfl, List.map_replicate, List.map_replicate]
      rfl
    subst hv
    repeat walk_at "ob"
    refine g_all (by walk_at "obl") ?_
    have e : ((List.replicate (ms.map V.int).length true).all id) = true := List.all_eq_true.mpr fun b hb => (List.mem_replicate.mp hb).2
    rw [e]
    exact k H2
end
theorem sy_script {K : Frag} {H : Hp} {a : Addr} {xs : List V} (o : Only H) (h : SqL K H a xs) : Sy K [] [.sq a xs] H := by
  refine Sy.nil.add _ ?_
  rcases h with (h | h) | h
  · rcases o a with e | ⟨ob, ys, e⟩
    · rw [e] at h; cases h
    · rw [e] at h; cases h
  · exact .inl h
  · exact .inr h
theorem law_in (K : Frag) (H : Hp) (a : Addr) (ns : List Int) (hn : ns.length ≤ 63) (o : Only H) (h : SqL K H a (ns.map V.int)) : sp_law K [.ref a] H (fun v _ => v = .bl true) fun _ _ _ => False :=
  ⟨rfl, a, ns, rfl, sy_script o h, hn, fun _ => rfl⟩
theorem fin {l : PySem.W.OpenLaw} {w : World} {K : Frag} {h : Heap} {mg : Str → Option Value} {fa : Addr} (X : K.In h) (G : h.Ns mainGlobals mg) (hfa : mg "law" = some (.ref fa)) (T : Tx K mg) :
    ∃ fd : FuncData, (∀ (s : Shared) (u : Value), BindsTo s fd ⟨[u], []⟩ [("script", u)]) ∧ ∀ base : Heap, K.In base → base.Ns mainGlobals mg → FG l.prog w K mg base CX0 9 fa fd ["script"] (sp_law K) := by
  have e := hfa.symm.trans T.m_law
  cases e
  refine ⟨T.d_law, fun s u => ?_, fun base _ _ => ok_law T⟩
  exact .of_eq ((OB.Fun.bd T.F_law (ps := ["script"]) (n := 1) (ks := []) (ix := [0]) (fun _ _ _ _ _ _ us ws h1 h2 => match us, ws, h1, h2 with | [_], [], _, _ => rfl)).to [u] [] rfl rfl)
end LAW

set_option Elab.async false
set_option linter.all false
set_option maxRecDepth 100000
namespace LAW
open PySem PySem.Spec PyProof.Rows L2 PySem.W OB
theorem walk {l : PySem.W.OpenLaw} {q : Program} {loose : List Str} {XP : (Str → Option Value) → Heap → Prop} {YP : World → Heap → Prop} {d : DefRec} {K : Params → PySem.W.Frag} (hn : l.most = some 63) (hdf : d.params.defaults = [])
    (hY : ∀ (w : World) (h : Heap), YP w h → (K w.params).In h)
    (F : ∀ (w : World) (mg : Str → Option Value) (fa : Addr) (h : Heap), (K w.params).In h → h.Ns mainGlobals mg → mg d.name = some (.ref fa) →
      ∃ fd : FuncData, (∀ (s : Shared) (u : Value), BindsTo s fd ⟨[u], []⟩ [("script", u)]) ∧ ∀ base : Heap, (K w.params).In base → base.Ns mainGlobals mg → FG l.prog w (K w.params) mg base CX0 9 fa fd ["script"] (sp_law (K w.params))) :
    PySem.W.WalkO q loose XP YP l.row.toRowW d [] (fun f vs => PySem.call f vs) :=
  walk_g (n := 63) (k := 9) (x := "script") (sp := sp_law) hn (by decide) hdf ⟨⟨rfl, by decide, by decide⟩, rfl⟩ hY F law_in
end LAW
open PySem PySem.W PyProof.Rows
set_option maxRecDepth 100000 in
set_option maxHeartbeats 0 in
theorem PySem.Challenge.cw_oncebooked_k19_whole_interest_however_da_holds : PySem.Challenge.rw_oncebooked_k19_whole_interest_however_da.Holds := by
  w_on; o_law; k_head; (case hw => w_witness2)
  k_fill
  refine LAW.walk (l := PySem.Challenge.rw_oncebooked_k19_whole_interest_however_da) rfl rfl (fun w h Y => PySem.W.kIn_of Y) ?F
  case F =>
    intro w mg fa h KX G hmg
    refine' LAW.fin KX G hmg (LAW.mkTx KX G ?x_n_Accrual ?x_pg_Accrual ?x_hd_Accrual ?x_po_Accrual ?x_sa_Accrual ?x_na_Accrual_own_days ?x_na_Accrual_own_paid ?x_na_Accrual_own_rest ?x_n_stretch_parts ?x_l_stretch_parts ?x_c_stretch_parts ?x_k_stretch_parts ?x_n_is_integer ?x_l_is_integer ?x_c_is_integer ?x_k_is_integer ?x_n_law_unit ?x_l_law_unit ?x_c_law_unit ?x_k_law_unit ?x_n_law_take ?x_l_law_take ?x_c_law_take ?x_k_law_take ?x_n_law_day_parts ?x_l_law_day_parts ?x_c_law_day_parts ?x_k_law_day_parts ?x_f_Accrual_rest ?x_g_Accrual_rest ?x_t_Accrual_rest ?x_r_Accrual_rest_ ?x_l_Accrual_rest ?x_c_Accrual_rest ?x_k_Accrual_rest ?x_f_Accrual_paid ?x_g_Accrual_paid ?x_t_Accrual_paid ?x_r_Accrual_paid_ ?x_l_Accrual_paid ?x_c_Accrual_paid ?x_k_Accrual_paid ?x_f_Accrual_days ?x_g_Accrual_days ?x_t_Accrual_days ?x_r_Accrual_days_ ?x_l_Accrual_days ?x_c_Accrual_days ?x_k_Accrual_days ?x_n_law_divisor ?x_l_law_divisor ?x_c_law_divisor ?x_k_law_divisor ?x_n_law_days_of ?x_l_law_days_of ?x_c_law_days_of ?x_k_law_days_of ?x_n_law_pot ?x_l_law_pot ?x_c_law_pot ?x_k_law_pot ?x_n_law_cells ?x_l_law_cells ?x_c_law_cells ?x_k_law_cells ?x_n_is_year ?x_l_is_year ?x_c_is_year ?x_k_is_year ?x_n_is_within ?x_l_is_within ?x_c_is_within ?x_k_is_within ?x_n_law_of ?x_l_law_of ?x_c_law_of ?x_k_law_of ?x_n_law_parts_in ?x_l_law_parts_in ?x_c_law_parts_in ?x_k_law_parts_in ?x_n_law_cut_up ?x_l_law_cut_up ?x_c_law_cut_up ?x_k_law_cut_up ?x_n_is_rate ?x_l_is_rate ?x_c_is_rate ?x_k_is_rate ?x_n_is_balance ?x_l_is_balance ?x_c_is_balance ?x_k_is_balance ?x_n_check_rest ?x_l_check_rest ?x_c_check_rest ?x_k_check_rest ?x_n_law_stretch ?x_l_law_stretch ?x_c_law_stretch ?x_k_law_stretch ?x_n_law_rest ?x_l_law_rest ?x_c_law_rest ?x_k_law_rest ?x_n_law_paid_rows ?x_l_law_paid_rows ?x_c_law_paid_rows ?x_k_law_paid_rows ?x_n_is_stretch ?x_l_is_stretch ?x_c_is_stretch ?x_k_is_stretch ?x_n_law_stretches ?x_l_law_stretches ?x_c_law_stretches ?x_k_law_stretches ?x_f_Accrual___init__ ?x_i_Accrual___init__ ?x_l_Accrual___init__ ?x_c_Accrual___init__ ?x_k_Accrual___init__ ?x_mk_Accrual ?x_kc_Accrual ?x_n_check_stretches ?x_l_check_stretches ?x_c_check_stretches ?x_k_check_stretches ?x_f_Accrual_go_on ?x_i_Accrual_go_on ?x_l_Accrual_go_on ?x_c_Accrual_go_on ?x_k_Accrual_go_on ?x_n_parts_of ?x_l_parts_of ?x_c_parts_of ?x_k_parts_of ?x_n_daily ?x_l_daily ?x_c_daily ?x_k_daily ?x_n_law_is_accrual_right ?x_l_law_is_accrual_right ?x_c_law_is_accrual_right ?x_k_law_is_accrual_right ?x_n_true_interest ?x_l_true_interest ?x_c_true_interest ?x_k_true_interest ?x_n_law_right ?x_l_law_right ?x_c_law_right ?x_k_law_right ?x_n_law ?x_l_law ?x_c_law ?x_k_law ?x_g_PARTS ?x_g_MOST_RATE ?x_g_MOST_BALANCE ?x_g_MOST_DAYS ?x_g_MOST_STRETCHES ?x_g_MOST_DAILY ?x_g_FACTORS ?x_kd_FACTORS ?x_g_STRETCH_PARTS ?x_n_abs ?x_n_all ?x_n_bool ?x_n_divmod ?x_n_enumerate ?x_n_int ?x_n_isinstance ?x_n_len ?x_n_list ?x_n_max ?x_n_min ?x_n_range ?x_n_repr ?x_n_sum ?x_n_tuple ?x_n_zip)
    (case x_n_Accrual => k_is)
    (case x_pg_Accrual => k_is)
    (case x_hd_Accrual => k_is)
    (case x_po_Accrual => k_is)
    (case x_sa_Accrual => k_is)
    (case x_na_Accrual_own_days => k_is)
    (case x_na_Accrual_own_paid => k_is)
    (case x_na_Accrual_own_rest => k_is)
    (case x_n_stretch_parts => k_is)
    (case x_l_stretch_parts => k_is)
    (case x_c_stretch_parts => k_is)
    (case x_k_stretch_parts => k_is)
    (case x_n_is_integer => k_is)
    (case x_l_is_integer => k_is)
    (case x_c_is_integer => k_is)
    (case x_k_is_integer => k_is)
    (case x_n_law_unit => k_is)
    (case x_l_law_unit => k_is)
    (case x_c_law_unit => k_is)
    (case x_k_law_unit => k_is)
    (case x_n_law_take => k_is)
    (case x_l_law_take => k_is)
    (case x_c_law_take => k_is)
    (case x_k_law_take => k_is)
    (case x_n_law_day_parts => k_is)
    (case x_l_law_day_parts => k_is)
    (case x_c_law_day_parts => k_is)
    (case x_k_law_day_parts => k_is)
    (case x_f_Accrual_rest => k_is)
    (case x_g_Accrual_rest => k_is)
    (case x_t_Accrual_rest => k_is)
    (case x_r_Accrual_rest_ => k_is)
    (case x_l_Accrual_rest => k_is)
    (case x_c_Accrual_rest => k_is)
    (case x_k_Accrual_rest => k_is)
    (case x_f_Accrual_paid => k_is)
    (case x_g_Accrual_paid => k_is)
    (case x_t_Accrual_paid => k_is)
    (case x_r_Accrual_paid_ => k_is)
    (case x_l_Accrual_paid => k_is)
    (case x_c_Accrual_paid => k_is)
    (case x_k_Accrual_paid => k_is)
    (case x_f_Accrual_days => k_is)
    (case x_g_Accrual_days => k_is)
    (case x_t_Accrual_days => k_is)
    (case x_r_Accrual_days_ => k_is)
    (case x_l_Accrual_days => k_is)
    (case x_c_Accrual_days => k_is)
    (case x_k_Accrual_days => k_is)
    (case x_n_law_divisor => k_is)
    (case x_l_law_divisor => k_is)
    (case x_c_law_divisor => k_is)
    (case x_k_law_divisor => k_is)
    (case x_n_law_days_of => k_is)
    (case x_l_law_days_of => k_is)
    (case x_c_law_days_of => k_is)
    (case x_k_law_days_of => k_is)
    (case x_n_law_pot => k_is)
    (case x_l_law_pot => k_is)
    (case x_c_law_pot => k_is)
    (case x_k_law_pot => k_is)
    (case x_n_law_cells => k_is)
    (case x_l_law_cells => k_is)
    (case x_c_law_cells => k_is)
    (case x_k_law_cells => k_is)
    (case x_n_is_year => k_is)
    (case x_l_is_year => k_is)
    (case x_c_is_year => k_is)
    (case x_k_is_year => k_is)
    (case x_n_is_within => k_is)
    (case x_l_is_within => k_is)
    (case x_c_is_within => k_is)
    (case x_k_is_within => k_is)
    (case x_n_law_of => k_is)
    (case x_l_law_of => k_is)
    (case x_c_law_of => k_is)
    (case x_k_law_of => k_is)
    (case x_n_law_parts_in => k_is)
    (case x_l_law_parts_in => k_is)
    (case x_c_law_parts_in => k_is)
    (case x_k_law_parts_in => k_is)
    (case x_n_law_cut_up => k_is)
    (case x_l_law_cut_up => k_is)
    (case x_c_law_cut_up => k_is)
    (case x_k_law_cut_up => k_is)
    (case x_n_is_rate => k_is)
    (case x_l_is_rate => k_is)
    (case x_c_is_rate => k_is)
    (case x_k_is_rate => k_is)
    (case x_n_is_balance => k_is)
    (case x_l_is_balance => k_is)
    (case x_c_is_balance => k_is)
    (case x_k_is_balance => k_is)
    (case x_n_check_rest => k_is)
    (case x_l_check_rest => k_is)
    (case x_c_check_rest => k_is)
    (case x_k_check_rest => k_is)
    (case x_n_law_stretch => k_is)
    (case x_l_law_stretch => k_is)
    (case x_c_law_stretch => k_is)
    (case x_k_law_stretch => k_is)
    (case x_n_law_rest => k_is)
    (case x_l_law_rest => k_is)
    (case x_c_law_rest => k_is)
    (case x_k_law_rest => k_is)
    (case x_n_law_paid_rows => k_is)
    (case x_l_law_paid_rows => k_is)
    (case x_c_law_paid_rows => k_is)
    (case x_k_law_paid_rows => k_is)
    (case x_n_is_stretch => k_is)
    (case x_l_is_stretch => k_is)
    (case x_c_is_stretch => k_is)
    (case x_k_is_stretch => k_is)
    (case x_n_law_stretches => k_is)
    (case x_l_law_stretches => k_is)
    (case x_c_law_stretches => k_is)
    (case x_k_law_stretches => k_is)
    (case x_f_Accrual___init__ => k_is)
    (case x_i_Accrual___init__ => k_is)
    (case x_l_Accrual___init__ => k_is)
    (case x_c_Accrual___init__ => k_is)
    (case x_k_Accrual___init__ => k_is)
    (case x_mk_Accrual => k_is)
    (case x_kc_Accrual => k_is)
    (case x_n_check_stretches => k_is)
    (case x_l_check_stretches => k_is)
    (case x_c_check_stretches => k_is)
    (case x_k_check_stretches => k_is)
    (case x_f_Accrual_go_on => k_is)
    (case x_i_Accrual_go_on => k_is)
    (case x_l_Accrual_go_on => k_is)
    (case x_c_Accrual_go_on => k_is)
    (case x_k_Accrual_go_on => k_is)
    (case x_n_parts_of => k_is)
    (case x_l_parts_of => k_is)
    (case x_c_parts_of => k_is)
    (case x_k_parts_of => k_is)
    (case x_n_daily => k_is)
    (case x_l_daily => k_is)
    (case x_c_daily => k_is)
    (case x_k_daily => k_is)
    (case x_n_law_is_accrual_right => k_is)
    (case x_l_law_is_accrual_right => k_is)
    (case x_c_law_is_accrual_right => k_is)
    (case x_k_law_is_accrual_right => k_is)
    (case x_n_true_interest => k_is)
    (case x_l_true_interest => k_is)
    (case x_c_true_interest => k_is)
    (case x_k_true_interest => k_is)
    (case x_n_law_right => k_is)
    (case x_l_law_right => k_is)
    (case x_c_law_right => k_is)
    (case x_k_law_right => k_is)
    (case x_n_law => k_is)
    (case x_l_law => k_is)
    (case x_c_law => k_is)
    (case x_k_law => k_is)
    (case x_g_PARTS => k_is)
    (case x_g_MOST_RATE => k_is)
    (case x_g_MOST_BALANCE => k_is)
    (case x_g_MOST_DAYS => k_is)
    (case x_g_MOST_STRETCHES => k_is)
    (case x_g_MOST_DAILY => k_is)
    (case x_g_FACTORS => k_is)
    (case x_kd_FACTORS => exact ⟨_, _, by k_is, by decide, .cons ⟨rfl, rfl, ⟨_, rfl⟩⟩ (.cons ⟨rfl, rfl, ⟨_, rfl⟩⟩ .nil)⟩)
    (case x_g_STRETCH_PARTS => k_is)
    (case x_n_abs => k_is)
    (case x_n_all => k_is)
    (case x_n_bool => k_is)
    (case x_n_divmod => k_is)
    (case x_n_enumerate => k_is)
    (case x_n_int => k_is)
    (case x_n_isinstance => k_is)
    (case x_n_len => k_is)
    (case x_n_list => k_is)
    (case x_n_max => k_is)
    (case x_n_min => k_is)
    (case x_n_range => k_is)
    (case x_n_repr => k_is)
    (case x_n_sum => k_is)
    (case x_n_tuple => k_is)
    (case x_n_zip => k_is)
#print axioms PySem.Challenge.cw_oncebooked_k19_whole_interest_however_da_holds

