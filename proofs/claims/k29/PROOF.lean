import PyProof.Rows.All
import Wide.All
import OpenK.AllK
import Wide.FinOn
import PyProof.ReprRoads
import HandS.ForMost
import HandS.Exc
import HandS.Wide
import HandS.WideBits
import HandS.Star
import HandS.Defaults
import HandS.Property
import HandS.IsInst
import HandS.Deep
import KE.GoesMore
import KE.GoesZip
import KE.GoesEnum
import PyProof.NoPylong
import PyProof.EnumMake
import HandS.TupAny
import HandS.Style
import PyProof.ReprLen
import HandS.Conv
import HandS.Dict
import HandS.DictComp
import HandS.More
import HandS.Walk
import PyProof.DictUpdate
import KE.KTupSum
import HandS.SetFor
import PyProof.Rows.SetFrom
import KE.DataMinMax
import PyProof.P3Eq
import KE.SortData
import HandS.Small
import KE.KIntText
import PySem.Challenge.RW_oncebooked_k29_what_may_be_told_of_marks
set_option Elab.async false
set_option linter.all false
set_option maxRecDepth 100000
set_option maxHeartbeats 4000000
/-! OB, part a: calls where no repr is under way (so that repr of any data may be asked), by position and by name. -/
namespace OB
open PySem PySem.Spec PyProof.Rows L2 PySem.W

/-- room, and no guard around -/
structure RG (k : Nat) (A : Around) : Prop where
  rm : Room k A
  gd : A.guards = some []
theorem RG.mono {j k : Nat} {A : Around} (g : RG k A) (h : j ≤ k) : RG j A := ⟨g.rm.mono h, g.gd⟩
theorem RG.deeper {k : Nat} {A : Around} (g : RG (k + 1) A) (en : Env) : RG k (A.deeper en) := ⟨g.rm.deeper en, g.gd⟩
theorem RG.in1 {k : Nat} {A : Around} (g : RG (k + 1) A) : RG k A.in1 := ⟨g.rm.in1, g.gd⟩
theorem RG.make {k : Nat} {A : Around} (g : RG (k + 1) A) (C : Addr) (us : List Value) (kw : List (Str × Value)) :
    RG k (A.under (.builtin "type.__call__" ⟨.ref C :: us, kw⟩)) := by
  refine ⟨g.rm.make C us kw, ?_⟩
  have e : Code.guards (.builtin "type.__call__" ⟨.ref C :: us, kw⟩) = [] := by
    unfold Code.guards
    rw [if_neg]
    intro z
    have z2 : guardIds.contains "type.__call__" = true := by simpa [Code.isGuard] using z
    exact absurd z2 (by decide +kernel)
  show pushGuards (Code.guards (.builtin "type.__call__" ⟨.ref C :: us, kw⟩)) A.guards = some []
  rw [e]
  exact g.gd

/-- a def's promise where no guard is around -/
structure FG (P : Program) (w : World) (K : PySem.W.Frag) (mg : Str → Option Value) (base : Heap) (CX : CXT) (k : Nat) (f : Addr) (fd : FuncData) (ps : List Str) (sp : Sp) : Prop where
  len : ∀ vs H Q E, sp vs H Q E → vs.length = ps.length
  go : ∀ (A : Around) (out : List Env) (s : Shared) (H : Hp) (ar : Args) (us : List Value) (vs : List V) (Q : VK) (E : XK), RG k A → Env0 P w K mg base A out s H →
    BindsTo s fd ar (ps.zip us) → Vals vs us → sp vs H Q E → codeAny (model P w) A (.call (.ref f) ar) (CR CX out P w H s Q E) s
section
variable {P : Program} {w : World} {K : PySem.W.Frag} {mg : Str → Option Value} {base : Heap} {CX : CXT} {f : Addr} {fd : FuncData} {ps : List Str} {sp : Sp}
theorem FG.mono {j k : Nat} (F : FG P w K mg base CX j f fd ps sp) (h : j ≤ k) : FG P w K mg base CX k f fd ps sp :=
  ⟨F.len, fun A out s H ar us vs Q E g => F.go A out s H ar us vs Q E (g.mono h)⟩
theorem FG.imp {k : Nat} {sp' : Sp} (F : FG P w K mg base CX k f fd ps sp) (h : ∀ vs H Q E, sp' vs H Q E → sp vs H Q E) : FG P w K mg base CX k f fd ps sp' :=
  ⟨fun vs H Q E q => F.len vs H Q E (h _ _ _ _ q), fun A out s H ar us vs Q E g e0 hb hv q => F.go A out s H ar us vs Q E g e0 hb hv (h _ _ _ _ q)⟩
/-- the rule for a def: as L2.fn_of, the room without guards handed on -/
theorem fg_of {k : Nat} {name qual : Str} {params : Arguments} {body : List Stmt} {sc : Scope} {dV kV doc pm cdv ct oc : Value} {an od : Option Addr}
    {osl : Array (Option Value)} {N : List Str} (lk : K.lookup f = some ⟨oc, od, .func (PySem.W.fnOf name qual params body sc dV kV doc pm an cdv ct), osl⟩)
    (hcd : PySem.W.codeIn K cdv qual = true) (S : FnScope N ps sc) (len : ∀ vs H Q E, sp vs H Q E → vs.length = ps.length)
    (hbody : ∀ (A : Around) (out : List Env) (s : Shared) (H : Hp) (vs : List V) (Q : VK) (E : XK), RG k (A.deeper (envOfC qual sc s.heap.objs.size f cdv)) → sp vs H Q E →
      ∃ t, PSs (cxOf CX P w K mg base N qual sc f cdv A out s H E) body t ∧ t { nx := fun _ H' => Q .non H', rt := Q } (start N vs) H) :
    FG P w K mg base CX (k + 1) f (PySem.W.fnOf name qual params body sc dV kV doc pm an cdv ct) ps sp := by
  refine ⟨len, fun A out s H ar us vs Q E g e0 hb r hsp => ?_⟩
  have hlen := len _ _ _ _ hsp
  have KI : K.In s.heap := e0.mod.kin.keeps fun b o e => (e0.bs b o e).1
  have nl : s.heap.NoLimit := e0.mod.nolimit.keeps fun b o e => (e0.bs b o e).1
  have kinds : ∀ y ∈ ps.zip us, sc.names.lookup y.1 = some .local ∨ (sc.names.lookup y.1 = some .cell ∧ ((cellsFrom (s.heap.objs.size + 1) sc.names []).lookup y.1).isSome = true) := fun ⟨n, v⟩ hy => by
    rcases S.par n (List.of_mem_zip hy).1 with q | q
    · exact .inl q
    · exact .inr ⟨q, PySem.W.cellsFrom_some _ _ _ (.inl q)⟩
  refine codeAny_call_function g.rm.depth (KI _ _ lk) rfl S.co S.gen rfl (PySem.W.codeRec_of KI hcd) (hb _ _ _ _ ?_)
  refine wpAny_newFunctionEnv_cells S.kind kinds fun env he s1 x => ?_
  subst he
  refine ⟨nl.keeps x.toInCall.keep, codeAny_func ?_⟩
  obtain ⟨t, ht, hq⟩ := hbody A out s H vs Q E (g.deeper _) hsp
  have I : Inv (cxOf CX P w K mg base N qual sc f cdv A out s H E) [] (start N vs) H s1 := inv_start S g.rm.hd e0 hlen r x
  refine wpAny_mono (ht.run [] s1 (start N vs) H _ I hq) (fun fl s' hs => ?_) fun e s' hs => hs
  have fin : ∀ {σ' : L2.St} {H' : Hp} {v : V} {u : Value}, Inv (cxOf CX P w K mg base N qual sc f cdv A out s H E) [] σ' H' s' → RelV v u → Q v H' → CE out P w H s Q u s' :=
    fun {σ' H' v u} J rv q => ⟨v, H', J.os, J.bare, J.base, J.hok, rv, q⟩
  match fl, hs with
  | .ret u, ⟨v, σ', H', J, rv, q⟩ => exact fin J rv q
  | .next, ⟨σ', H', J, q⟩ => exact fin (v := V.non) (u := Value.none) J rfl q
  | .brk, ⟨_, _, _, q⟩ => exact False.elim q
  | .cont, ⟨_, _, _, q⟩ => exact False.elim q
/-- .. of a def of the text, no exception leaving -/
theorem Fun.fg {x qual : Str} {st : Stmt} {N : List Str} {k : Nat} (F : Fun K x qual st f fd) (S : FnScope N ps (defScope st)) (len : ∀ vs H Q E, sp vs H Q E → vs.length = ps.length)
    (hbody : ∀ (cdv : Value) (A : Around) (out : List Env) (s : Shared) (H : Hp) (vs : List V) (Q : VK) (E : XK), RG k (A.deeper (envOfC qual (defScope st) s.heap.objs.size f cdv)) → sp vs H Q E →
      ∃ t, PSs (cxOf CX0 P w K mg base N qual (defScope st) f cdv A out s H E).nox (defBody st) t ∧ t { nx := fun _ H' => Q .non H', rt := Q } (start N vs) H) : FG P w K mg base CX0 (k + 1) f fd ps sp := by
  obtain ⟨oc, od, kV, doc, pm, an, cdv, ct, osl, rfl, lk, hcd⟩ := F.ex
  refine fg_of lk hcd S len fun A out s H vs Q E g hsp => ?_
  obtain ⟨t, h, q⟩ := hbody cdv A out s H vs Q E g hsp
  exact ⟨t, h.nox, q⟩
end

/-! ### how arguments bind -/
def pick {α : Type} (ix : List Nat) (l : List α) : List α := ix.filterMap (l[·]?)
theorem vals_pick {vs : List V} {us : List Value} (r : Vals vs us) : ∀ ix : List Nat, Vals (pick ix vs) (pick ix us)
  | [] => .nil
  | i :: ix => by
    unfold pick
    rw [List.filterMap_cons, List.filterMap_cons]
    cases e : vs[i]? with
    | none =>
      rw [r.none_of e]
      exact vals_pick r ix
    | some v =>
      obtain ⟨u, e2, r2⟩ := r.get e
      rw [e2]
      exact .cons r2 (vals_pick r ix)
/-- n values by position, those named ks by name; ix: the parameters' places among all of them -/
structure Bd (K : PySem.W.Frag) (fd : FuncData) (ps : List Str) (n : Nat) (ks : List Str) (ix : List Nat) : Prop where
  to : ∀ (us ws : List Value), us.length = n → ws.length = ks.length → bindArgs fd ⟨us, ks.zip ws⟩ = pure (ps.zip (pick ix (us ++ ws)))
theorem Fun.bd {K : PySem.W.Frag} {x qual : Str} {st : Stmt} {f : Addr} {fd : FuncData} {ps : List Str} {n : Nat} {ks : List Str} {ix : List Nat} (F : Fun K x qual st f fd)
    (h : ∀ (kV doc pm : Value) (an : Option Addr) (cdv ct : Value) (us ws : List Value), us.length = n → ws.length = ks.length →
      bindArgs (PySem.W.fnOf x qual (defArgs st) (defBody st) (defScope st) .none kV doc pm an cdv ct) ⟨us, ks.zip ws⟩ = pure (ps.zip (pick ix (us ++ ws)))) : Bd K fd ps n ks ix := by
  obtain ⟨oc, od, kV, doc, pm, an, cdv, ct, osl, rfl, lk, hcd⟩ := F.ex
  exact ⟨h kV doc pm an cdv ct⟩

/-! ### calls -/
def tCg (n m : Nat) (ix : List Nat) (sp : Sp) (E : XK) (t tk : TA) : TE := fun σ H Q => t σ H fun vs H1 => tk σ H1 fun zs H2 => vs.length = n ∧ zs.length = m ∧ sp (pick ix (vs ++ zs)) H2 Q E
def tMg (C : Addr) (mn : Str) (n m : Nat) (ix : List Nat) (sp : Sp) (E : XK) (ta : TE) (t tk : TA) : TE := fun σ H Q => ta σ H fun x H1 => ∃ a dx fs, x = .ref a ∧ H1 a = some (.ins C dx fs) ∧ fs.lookup mn = none ∧
  t σ H1 fun vs H2 => tk σ H2 fun zs H3 => (x :: vs).length = n ∧ zs.length = m ∧ sp (pick ix ((x :: vs) ++ zs)) H3 Q E
def tKg (C : Addr) (n m : Nat) (ix : List Nat) (sp : Sp) (E : XK) (t tk : TA) : TE := fun σ H Q => t σ H fun vs H1 => tk σ H1 fun zs H2 => vs.length + 1 = n ∧ zs.length = m ∧
  ∀ x dx, H2 x = none → H2 dx = none → dx ≠ x → sp (pick ix ((.ref x :: vs) ++ zs)) (upd (upd H2 dx (.own x)) x (.ins C dx [])) (fun v H3 => v = .non ∧ Q (.ref x) H3) E
section
variable {X : Cx} {CX : CXT} {k n : Nat} {f C : Addr} {fd : FuncData} {ps ks : List Str} {ix : List Nat} {sp : Sp} {E : XK} {x mn : Str} {p pos apos : Pos} {e o : Expr} {es : List Expr} {kws : List Keyword} {ta : TE} {t tk : TA}
theorem run_g {pins : List (Addr × Obj)} {σ : L2.St} {H : Hp} {s : Shared} {Q : VK} {us ws : List Value} {vs zs : List V} (F : FG X.prog X.w X.K X.mg X.base CX k f fd ps sp) (g : RG k X.A) (hb : Bd X.K fd ps n ks ix) (hx : Passes CX X E)
    (I : Inv X pins σ H s) (r : Vals vs us) (rz : Vals zs ws) (l1 : vs.length = n) (l2 : zs.length = ks.length) (h : sp (pick ix (vs ++ zs)) H Q E) :
    wpAny (model X.prog X.w) X.A (call (.ref f) us (ks.zip ws)) (EP X pins σ Q) X.xe s := by
  refine wpAny_call (codeAny_mono (F.go X.A X.stack s H ⟨us, ks.zip ws⟩ (pick ix (us ++ ws)) (pick ix (vs ++ zs)) Q E g I.env0 (.of_eq (hb.to us ws (r.length.symm.trans l1) (rz.length.symm.trans l2))) (vals_pick (r.append rz) ix) h) fun r s' hq => ?_)
  match r, hq with
  | .error e, hq => exact hx pins σ H s e s' I hq
  | .ok (.ret u), hq => exact I.after hq
  | .ok .next, hq => exact False.elim hq
  | .ok .brk, hq => exact False.elim hq
  | .ok .cont, hq => exact False.elim hq
/-- f(e, .., k = v, ..) -/
theorem pe_cg (F : FG X.prog X.w X.K X.mg X.base CX k f fd ps sp) (g : RG k X.A) (hg : Gl X x) (hm : X.mg x = some (.ref f)) (hk : PySem.W.keepIn X.K (.ref f) = true) (hb : Bd X.K fd ps n ks ix) (hx : Passes CX X E)
    (ha : PA X (e :: es) t) (hkw : PK X kws tk) (hall : (backToKw pos (keywordEach kws X.env)).all (·.1.isSome) = true := by rfl) (hks : (backToKw pos (keywordEach kws X.env)).filterMap (·.1) = ks := by rfl)
    (hdb : (x == ("__debug__" : Str)) = false := by decide) (he : starEach (e :: es) X.env = (false, eval e X.env) :: starEach es X.env := by rfl)
    (hpl : ((backTo pos (starEach (e :: es) X.env)).any (·.1) || (backToKw pos (keywordEach kws X.env)).any (·.1.isNone)) = false := by rfl) : PE X (.Call (.Name x p) (e :: es) kws pos) (tCg n ks.length ix sp E t tk) := by
  refine ⟨fun pins s σ H Q I h => wpAny_Call_Name_kw (ld_glob I hg hm ?_ hdb)⟩
  refine PySem.W.callWith_KW (h₀ := X.base) I.ok.mod.kin hk hall (thn (ha.run pos pins s σ H _ I h) fun us s1 ⟨vs, H1, I1, r, q⟩ => ?_) hpl he
  refine thn (hkw.run pos pins s1 σ H1 _ I1 q) fun ws s2 ⟨zs, H2, I2, rz, l1, l2, q2⟩ => ⟨I2.kIn, ?_⟩
  rw [hks]
  exact run_g F g hb hx I2 r rz l1 l2 q2
/-- f(k = v, ..), f() -/
theorem pe_cg0 (F : FG X.prog X.w X.K X.mg X.base CX k f fd ps sp) (g : RG k X.A) (hg : Gl X x) (hm : X.mg x = some (.ref f)) (hk : PySem.W.keepIn X.K (.ref f) = true) (hb : Bd X.K fd ps 0 ks ix) (hx : Passes CX X E)
    (hkw : PK X kws tk) (hall : (backToKw pos (keywordEach kws X.env)).all (·.1.isSome) = true := by rfl) (hks : (backToKw pos (keywordEach kws X.env)).filterMap (·.1) = ks := by rfl)
    (hdb : (x == ("__debug__" : Str)) = false := by decide)
    (hpl : ((backTo pos (starEach [] X.env)).any (·.1) || (backToKw pos (keywordEach kws X.env)).any (·.1.isNone)) = false := by rfl) : PE X (.Call (.Name x p) [] kws pos) (tCg 0 ks.length ix sp E tNil tk) := by
  refine ⟨fun pins s σ H Q I h => wpAny_Call_Name_kw (ld_glob I hg hm ?_ hdb)⟩
  refine PySem.W.callWith_KW0 (h₀ := X.base) I.ok.mod.kin hk hall ?_ hpl
  refine thn (hkw.run pos pins s σ H _ I h) fun ws s2 ⟨zs, H2, I2, rz, l1, l2, q2⟩ => ⟨I2.kIn, ?_⟩
  rw [hks]
  exact run_g (us := []) (vs := []) F g hb hx I2 .nil rz l1 l2 q2
/-- o.m(e, .., k = v, ..) -/
theorem pe_mg {pl : Sem Bool} (ho : PE X o ta) (c : Cls X.K C) (hm : Meth X.K C mn f) (F : FG X.prog X.w X.K X.mg X.base CX k f fd ps sp) (g : RG k X.A) (hb : Bd X.K fd ps n ks ix) (hx : Passes CX X E) (ha : PA X (e :: es) t) (hkw : PK X kws tk)
    (hall : (backToKw pos (keywordEach kws X.env)).all (·.1.isSome) = true := by rfl) (hks : (backToKw pos (keywordEach kws X.env)).filterMap (·.1) = ks := by rfl)
    (he : starEach (e :: es) X.env = (false, eval e X.env) :: starEach es X.env := by rfl) (hpl : ((backTo pos (starEach (e :: es) X.env)).any (·.1) || (backToKw pos (keywordEach kws X.env)).any (·.1.isNone)) = false := by rfl)
    (ht : eval (.Call (.Attribute o mn apos) (e :: es) kws pos) X.env = (do
      let ov ← eval o X.env
      standAt apos.atName
      let (fv, first) ← holding [ov] (getMethod ov mn pl)
      callWith pos fv first (backTo pos (starEach (e :: es) X.env)) (backToKw pos (keywordEach kws X.env))) := by rfl) : PE X (.Call (.Attribute o mn apos) (e :: es) kws pos) (tMg C mn n ks.length ix sp E ta t tk) := by
  refine ⟨fun pins s σ H Q I h => ?_⟩
  refine PySem.W.methodCall_KW (pl := pl) (thn (ho.run pins s σ H _ I h) fun u s1 ⟨y, H1, I1, ry, a, dx, fs, ey, ea, l, q⟩ => ?_) ht
  subst ey
  obtain rfl : u = Value.ref a := ry
  refine getmeth_ok I1 ea c hm l ?_
  refine PySem.W.callWith_KW (first := [.ref a]) (h₀ := X.base) I.ok.mod.kin hm.kp hall (thn (ha.run pos pins s1 σ H1 _ I1 q) fun us s2 ⟨vs, H2, I2, r, q2⟩ => ?_) hpl he
  refine thn (hkw.run pos pins s2 σ H2 _ I2 q2) fun ws s3 ⟨zs, H3, I3, rz, l1, l2, q3⟩ => ⟨I3.kIn, ?_⟩
  rw [hks]
  exact run_g (us := .ref a :: us) (vs := .ref a :: vs) F g hb hx I3 (.cons rfl r) rz l1 l2 q3
/-- o.m(k = v, ..), o.m() -/
theorem pe_mg0 {pl : Sem Bool} (ho : PE X o ta) (c : Cls X.K C) (hm : Meth X.K C mn f) (F : FG X.prog X.w X.K X.mg X.base CX k f fd ps sp) (g : RG k X.A) (hb : Bd X.K fd ps 1 ks ix) (hx : Passes CX X E) (hkw : PK X kws tk)
    (hall : (backToKw pos (keywordEach kws X.env)).all (·.1.isSome) = true := by rfl) (hks : (backToKw pos (keywordEach kws X.env)).filterMap (·.1) = ks := by rfl)
    (hpl : ((backTo pos (starEach [] X.env)).any (·.1) || (backToKw pos (keywordEach kws X.env)).any (·.1.isNone)) = false := by rfl)
    (ht : eval (.Call (.Attribute o mn apos) [] kws pos) X.env = (do
      let ov ← eval o X.env
      standAt apos.atName
      let (fv, first) ← holding [ov] (getMethod ov mn pl)
      callWith pos fv first (backTo pos (starEach [] X.env)) (backToKw pos (keywordEach kws X.env))) := by rfl) : PE X (.Call (.Attribute o mn apos) [] kws pos) (tMg C mn 1 ks.length ix sp E ta tNil tk) := by
  refine ⟨fun pins s σ H Q I h => ?_⟩
  refine PySem.W.methodCall_KW (pl := pl) (thn (ho.run pins s σ H _ I h) fun u s1 ⟨y, H1, I1, ry, a, dx, fs, ey, ea, l, q⟩ => ?_) ht
  subst ey
  obtain rfl : u = Value.ref a := ry
  refine getmeth_ok I1 ea c hm l ?_
  refine PySem.W.callWith_KW0 (first := [.ref a]) (h₀ := X.base) I.ok.mod.kin hm.kp hall ?_ hpl
  refine thn (hkw.run pos pins s1 σ H1 _ I1 q) fun ws s3 ⟨zs, H3, I3, rz, l1, l2, q3⟩ => ⟨I3.kIn, ?_⟩
  rw [hks]
  exact run_g (us := [.ref a]) (vs := [.ref a]) F g hb hx I3 (.cons rfl .nil) rz l1 l2 q3

theorem run_kg {pins : List (Addr × Obj)} {σ : L2.St} {H : Hp} {s : Shared} {Q : VK} {us ws : List Value} {vs zs : List V} (M : Mk X.K C f) (F : FG X.prog X.w X.K X.mg X.base CX k f fd ps sp) (g : RG (k + 1) X.A) (hb : Bd X.K fd ps n ks ix) (hx : Passes CX X E)
    (I : Inv X pins σ H s) (r : Vals vs us) (rz : Vals zs ws) (l1 : vs.length + 1 = n) (l2 : zs.length = ks.length)
    (h : ∀ x dx, H x = none → H dx = none → dx ≠ x → sp (pick ix ((.ref x :: vs) ++ zs)) (upd (upd H dx (.own x)) x (.ins C dx [])) (fun v H2 => v = .non ∧ Q (.ref x) H2) E) :
    wpAny (model X.prog X.w) X.A (call (.ref C) us (ks.zip ws)) (EP X pins σ Q) X.xe s := by
  have hq := h (s.heap.objs.size + 1) s.heap.objs.size (I.hok.fresh (Nat.le_succ _)) (I.hok.fresh (Nat.le_refl _)) (Nat.ne_of_lt (Nat.lt_succ_self _))
  have I2 := Inv.made (C := C) I
  have r1 : Vals (V.ref (s.heap.objs.size + 1) :: vs) (Value.ref (s.heap.objs.size + 1) :: us) := .cons rfl r
  have e1 : (Value.ref (s.heap.objs.size + 1) :: us).length = n := by
    rw [← r1.length]
    exact l1
  refine wpAny_call (make_map (f := f) I.kIn M.makes M.init (beq_iff_eq.mp M.fn) (codeAny_mono (F.go _ X.stack _ _ ⟨Value.ref (s.heap.objs.size + 1) :: us, ks.zip ws⟩ (pick ix ((Value.ref (s.heap.objs.size + 1) :: us) ++ ws)) _ _ E (g.make C us (ks.zip ws))
    (I2.env0.make C us (ks.zip ws)) (.of_eq (hb.to _ _ e1 (rz.length.symm.trans l2))) (vals_pick (r1.append rz) ix) hq) fun r s' hq' => ?_))
  match r, hq' with
  | .error e, hq' => exact hx pins σ _ _ e s' I2 hq'
  | .ok (.ret u), hq' =>
    obtain ⟨v, H', I3, rv, ev, q3⟩ := I2.after hq'
    subst ev
    exact ⟨rv, ⟨V.ref (s.heap.objs.size + 1), H', I3, rfl, q3⟩⟩
  | .ok .next, hq' => exact False.elim hq'
  | .ok .brk, hq' => exact False.elim hq'
  | .ok .cont, hq' => exact False.elim hq'
/-- C(e, .., k = v, ..) -/
theorem pe_kg (M : Mk X.K C f) (F : FG X.prog X.w X.K X.mg X.base CX k f fd ps sp) (g : RG (k + 1) X.A) (hg : Gl X x) (hm : X.mg x = some (.ref C)) (hb : Bd X.K fd ps n ks ix) (hx : Passes CX X E) (ha : PA X (e :: es) t) (hkw : PK X kws tk)
    (hall : (backToKw pos (keywordEach kws X.env)).all (·.1.isSome) = true := by rfl) (hks : (backToKw pos (keywordEach kws X.env)).filterMap (·.1) = ks := by rfl)
    (hdb : (x == ("__debug__" : Str)) = false := by decide) (he : starEach (e :: es) X.env = (false, eval e X.env) :: starEach es X.env := by rfl)
    (hpl : ((backTo pos (starEach (e :: es) X.env)).any (·.1) || (backToKw pos (keywordEach kws X.env)).any (·.1.isNone)) = false := by rfl) : PE X (.Call (.Name x p) (e :: es) kws pos) (tKg C n ks.length ix sp E t tk) := by
  refine ⟨fun pins s σ H Q I h => wpAny_Call_Name_kw (ld_glob I hg hm ?_ hdb)⟩
  refine PySem.W.callWith_KW (h₀ := X.base) I.ok.mod.kin M.kp hall (thn (ha.run pos pins s σ H _ I h) fun us s1 ⟨vs, H1, I1, r, q⟩ => ?_) hpl he
  refine thn (hkw.run pos pins s1 σ H1 _ I1 q) fun ws s2 ⟨zs, H2, I2, rz, l1, l2, q2⟩ => ⟨I2.kIn, ?_⟩
  rw [hks]
  exact run_kg M F g hb hx I2 r rz l1 l2 q2
/-- C(k = v, ..), C() -/
theorem pe_kg0 (M : Mk X.K C f) (F : FG X.prog X.w X.K X.mg X.base CX k f fd ps sp) (g : RG (k + 1) X.A) (hg : Gl X x) (hm : X.mg x = some (.ref C)) (hb : Bd X.K fd ps 1 ks ix) (hx : Passes CX X E) (hkw : PK X kws tk)
    (hall : (backToKw pos (keywordEach kws X.env)).all (·.1.isSome) = true := by rfl) (hks : (backToKw pos (keywordEach kws X.env)).filterMap (·.1) = ks := by rfl)
    (hdb : (x == ("__debug__" : Str)) = false := by decide)
    (hpl : ((backTo pos (starEach [] X.env)).any (·.1) || (backToKw pos (keywordEach kws X.env)).any (·.1.isNone)) = false := by rfl) : PE X (.Call (.Name x p) [] kws pos) (tKg C 1 ks.length ix sp E tNil tk) := by
  refine ⟨fun pins s σ H Q I h => wpAny_Call_Name_kw (ld_glob I hg hm ?_ hdb)⟩
  refine PySem.W.callWith_KW0 (h₀ := X.base) I.ok.mod.kin M.kp hall ?_ hpl
  refine thn (hkw.run pos pins s σ H _ I h) fun ws s2 ⟨zs, H2, I2, rz, l1, l2, q2⟩ => ⟨I2.kIn, ?_⟩
  rw [hks]
  exact run_kg (us := []) (vs := []) M F g hb hx I2 .nil rz l1 l2 q2

/-- e.f, a property -/
def tPg (C : Addr) (sp : Sp) (E : XK) (ta : TE) : TE := fun σ H Q => ta σ H fun y H1 => ∃ a dx fs, y = .ref a ∧ H1 a = some (.ins C dx fs) ∧ sp [.ref a] H1 Q E
theorem pe_pg {pa : Addr} {nm : Str} (ho : PE X o ta) (c : Cls X.K C) (hp : PropOf X.K C nm pa f) (F : FG X.prog X.w X.K X.mg X.base CX k f fd ["self"] sp) (g : RG (k + 1) X.A) (hb : Bd X.K fd ["self"] 1 [] [0]) (hx : Passes CX X.nox E)
    (hab : attributeBase o nm X.env (eval o X.env) = eval o X.env := by rfl) : PE X (.Attribute o nm pos) (tPg C sp E ta) := by
  refine ⟨fun pins s σ H Q I h => ?_⟩
  refine attr_of hab (thn (ho.run pins s σ H _ I h) fun u s1 ⟨y, H1, I1, ry, a, dx, fs, ey, ea, q⟩ => ?_)
  subst ey
  obtain rfl : u = Value.ref a := ry
  obtain ⟨mA, O, _, _, _, _⟩ := ins_get I1.hok ea
  obtain ⟨od, J, _⟩ := O.look
  obtain ⟨more, hrec⟩ := hp.rec_
  have I2 := I1.tok (s1.toks + 1)
  have hc : (PySem.W.clsIn X.K C).isSome = true := by
    obtain ⟨cd, hc, _⟩ := PySem.W.any_some c.hd
    rw [hc]
    rfl
  refine PySem.W.get_bind I1.kIn J (PySem.W.plainGet_of (c.get nm)).1 (PySem.W.findObj_data hc hp.at_ hp.get hp.tak) (PySem.W.plainGet_of (c.get nm)).2 (wpAny_call (PySem.W.prop_get (s := { s1 with toks := s1.toks + 1 }) I1.kIn hrec ?_))
  refine codeAny_mono (F.go X.A.in1 X.stack { s1 with toks := s1.toks + 1 } H1 ⟨[.ref a], []⟩ [.ref a] [.ref a] Q E g.in1 I2.env0.in1 (.of_eq (hb.to [.ref a] [] rfl rfl)) (.cons rfl .nil) q) fun r s' hq => ?_
  match r, hq with
  | .error er, hq => exact False.elim (hx pins σ H1 { s1 with toks := s1.toks + 1 } er s' (I2.wish _) hq)
  | .ok (.ret u), hq =>
    obtain ⟨v, H', I3, rv, q3⟩ := I2.after hq
    show wpAny _ _ (handedOut u) _ _ _
    rw [PySem.W.handedOut_of (handed_of rv)]
    exact wpAny_pure ⟨v, H', I3, rv, q3⟩
  | .ok .next, hq => exact False.elim hq
  | .ok .brk, hq => exact False.elim hq
  | .ok .cont, hq => exact False.elim hq
end

/-! ### repr of data -/
def rRepr (K : PySem.W.Frag) : List V → Hp → VK → Prop := fun xs H Q => ∃ v d, xs = [v] ∧ Dp K H v d ∧ d.showable = true ∧ d.hasDict = false ∧ d.depth ≤ 60 ∧ d.shown.length ≤ sizeLine ∧ Q (.str d.shown) H
section
variable {X : Cx}
theorem call_repr {k : Nat} (g : RG k X.A) : CallR X (.builtin "repr") (rRepr X.K) := by
  intro pins s σ H xs us Q I r h
  obtain ⟨v, d, rfl, hd, hs, hn, hdep, hsz, q⟩ := h
  obtain ⟨u, rfl, ru⟩ := vals1 r
  have hun := g.rm.un
  obtain ⟨as, rd⟩ := Dp.reads I d v u hd ru
  cases hd with
  | non =>
    cases ru
    exact PySem.P.repr_of_none ⟨.str _, H, I.tok _, ⟨_, rfl⟩, q⟩
  | bl b =>
    cases ru
    exact PySem.P.repr_of_bool ⟨.str _, H, I.tok _, ⟨_, rfl⟩, q⟩
  | int i =>
    obtain ⟨t, rfl⟩ := ru
    exact PySem.P.repr_of_int (of_decide_eq_true hs) ⟨.str _, H, I.tok _, ⟨_, rfl⟩, q⟩
  | str x =>
    obtain ⟨t, rfl⟩ := ru
    exact PySem.P.repr_of_str ⟨.str _, H, I.tok _, ⟨_, rfl⟩, q⟩ hsz
  | lst h1 h2 =>
    cases ru
    exact repr_of_reads' rd hs (PyData.noDict_hsm hn) g.gd (by omega) (fun _ _ e => e) (fun h' u tk hk => ⟨.str _, H, I.kept hk, ⟨_, rfl⟩, q⟩) hsz
  | tup h1 h2 =>
    cases ru
    exact repr_of_reads' rd hs (PyData.noDict_hsm hn) g.gd (by omega) (fun _ _ e => e) (fun h' u tk hk => ⟨.str _, H, I.kept hk, ⟨_, rfl⟩, q⟩) hsz
end

/-! ### the end of a law -/
theorem law_cg {P : Program} {w : World} {s₁ : Shared} {K : PySem.W.Frag} {mg mb : Str → Option Value} {a : Addr} {vs : List Value} {ns : List Int} {fa : Addr} {fd : FuncData} {x : Str} {k : Nat} {sp : Sp}
    (KX : K.In s₁.heap) (hns : s₁.heap.Ns mainGlobals mg) (hbl : s₁.heap.Ns builtinsNs mb) (hbb : ∀ x : Str, x ≠ "__name__" → mb x = bootBuiltins x) (lim : s₁.heap.NoLimit) (gn : s₁.gens = #[])
    (ha : s₁.heap.get? a = some { cls := .type "list", data := .seq vs.toArray }) (hi : IntsAre vs ns) (hl : ns.length ≤ sizeLine)
    (hr : RG k callerA) (F : ∀ base : Heap, K.In base → base.Ns mainGlobals mg → FG P w K mg base CX0 k fa fd [x] sp) (hbind : ∀ (s : Shared) (u : Value), BindsTo s fd ⟨[u], []⟩ [(x, u)])
    (hsp : ∀ H : Hp, Only H → SqL K H a (ns.map V.int) → sp [.ref a] H (fun v _ => v = .bl true) fun _ _ _ => False) :
    codeAny (model P w) callerA (.call (.ref fa) ⟨[.ref a], []⟩) (fun r s' => r = .ok (.ret (.bool true)) ∧ OldK s₁.heap s'.heap ∧ s'.os = s₁.os ∧ AllBare s'.gens) s₁ := by
  have rv := vals_ints hi
  have lv := hi.length
  -- whatever abstract heap tells of the script alone
  have main : ∀ H : Hp, (∀ b, H b ≠ none → b = a) → (H a ≠ none → K.lookup a = none) → Only H → HOk P w H s₁.heap → SqL K H a (ns.map V.int) →
      codeAny (model P w) callerA (.call (.ref fa) ⟨[.ref a], []⟩) (fun r s' => r = .ok (.ret (.bool true)) ∧ OldK s₁.heap s'.heap ∧ s'.os = s₁.os ∧ AllBare s'.gens) s₁ := by
    intro H alone apart only hok hS
    have free : ∀ {b : Addr} {o : Obj}, s₁.heap.get? b = some o → (b = a → False) → H b = none := fun {b o} e ne => by
      cases q : H b with
      | none => rfl
      | some u => exact (ne (alone b (by rw [q]; exact fun z => nomatch z))).elim
    have keepNs : ∀ {b : Addr} {m : Str → Option Value}, s₁.heap.Ns b m → (hidT s₁.heap H).Ns b m := by
      rintro b m ⟨o, es, ep, e, d, r⟩
      refine ⟨o, es, ep, hidT_get e (free e ?_), d, r⟩
      rintro rfl
      rw [ha] at e
      cases e
      exact nomatch d
    have keepK : K.In (hidT s₁.heap H) := fun b o e => by
      refine hidT_get (KX b o e) ?_
      cases q : H b with
      | none => rfl
      | some u =>
        have hb : H b ≠ none := by rw [q]; exact fun z => nomatch z
        have eb := alone b hb
        rw [eb] at hb e
        rw [apart hb] at e
        cases e
    have hM : Mod K mg (hidT s₁.heap H) := by
      obtain ⟨mc, c1, c2⟩ := lim
      exact ⟨keepK, keepNs hns, ⟨mb, keepNs hbl, hbb⟩, ⟨mc, keepNs c1, c2⟩⟩
    have e0 : Env0 P w K mg (hidT s₁.heap H) callerA [] s₁ H := ⟨rfl, hM, fun b o e => of_hidT e, Nat.le_of_eq (hidT_size _ _), trivial, (fun b hb => (nomatch hb)), hok, .of_eq gn⟩
    have fin := (F _ keepK (keepNs hns)).go callerA [] s₁ H ⟨[.ref a], []⟩ [.ref a] [.ref a] _ _ hr e0 (hbind s₁ (.ref a)) (.cons rfl .nil) (hsp H only hS)
    refine codeAny_mono fin fun r s' h => ?_
    match r, h with
    | .error e, h => exact False.elim h
    | .ok .next, h => exact False.elim h
    | .ok .brk, h => exact False.elim h
    | .ok .cont, h => exact False.elim h
    | .ok (.ret u), ⟨v, H', os, bare, un, hok', ru, q⟩ =>
      have qv : v = .bl true := q
      subst qv
      obtain rfl : u = Value.bool true := ru
      refine ⟨rfl, OldK.of_keep fun b o e => ?_, os, bare⟩
      rcases only b with z | ⟨ob, xs, z⟩
      · exact un.keep b o e z (fun y => nomatch y) (fun y => nomatch y)
      · obtain ⟨e1, _⟩ := hok b _ z
        obtain ⟨e2, _⟩ := hok' b _ (un.frzs b ob _ z)
        rw [e] at e1
        cases e1
        exact e2
  cases hk : K.lookup a with
  | some o =>
    have e := KX a o hk
    rw [ha] at e
    cases e
    refine main (fun _ => none) (fun b z => absurd rfl z) (fun z => absurd rfl z) (fun _ => .inl rfl) (fun b u z => nomatch z) (.inr ⟨_, vs.toArray, _, hk, rfl, rfl, rfl, ?_, by simpa using rv⟩)
    rw [List.size_toArray, lv]
    exact hl
  | none =>
    have one : ∀ b u, (if b = a then some (HO.frz { cls := .type "list", data := .seq vs.toArray } (.lst (ns.map V.int))) else none) = some u → b = a ∧ u = .frz { cls := .type "list", data := .seq vs.toArray } (.lst (ns.map V.int)) := fun b u z => by
      by_cases hb : b = a
      · rw [if_pos hb] at z
        exact ⟨hb, (Option.some.inj z).symm⟩
      · rw [if_neg hb] at z
        cases z
    refine main (fun b => if b = a then some (.frz { cls := .type "list", data := .seq vs.toArray } (.lst (ns.map V.int))) else none) (fun b z => ?_) (fun _ => hk) (fun b => ?_) (fun b u z => ?_) (.inl (.inr ⟨_, if_pos rfl⟩))
    · by_cases hb : b = a
      · exact hb
      · exact (z (if_neg hb)).elim
    · by_cases hb : b = a
      · exact .inr ⟨_, _, if_pos hb⟩
      · exact .inl (if_neg hb)
    · obtain ⟨hb, hu⟩ := one b u z
      subst hb hu
      exact ⟨ha, by rw [List.length_map]; exact hl, vs, _, rv, ha⟩
theorem walk_g {l : PySem.W.OpenLaw} {n k : Nat} {q : Program} {loose : List Str} {XP : (Str → Option Value) → Heap → Prop} {YP : World → Heap → Prop} {d : DefRec} {K : Params → PySem.W.Frag} {sp : PySem.W.Frag → Sp} {x : Str}
    (hn : l.most = some n) (hn2 : n ≤ sizeLine) (hdf : d.params.defaults = []) (hr : RG k callerA) (hY : ∀ (w : World) (h : Heap), YP w h → (K w.params).In h)
    (F : ∀ (w : World) (mg : Str → Option Value) (fa : Addr) (h : Heap), (K w.params).In h → h.Ns mainGlobals mg → mg d.name = some (.ref fa) → ∃ fd : FuncData,
      (∀ (s : Shared) (u : Value), BindsTo s fd ⟨[u], []⟩ [(x, u)]) ∧ ∀ base : Heap, (K w.params).In base → base.Ns mainGlobals mg → FG l.prog w (K w.params) mg base CX0 k fa fd [x] (sp (K w.params)))
    (hsp : ∀ (K : PySem.W.Frag) (H : Hp) (a : Addr) (ns : List Int), ns.length ≤ n → Only H → SqL K H a (ns.map V.int) → sp K [.ref a] H (fun v _ => v = .bl true) fun _ _ _ => False) :
    PySem.W.WalkO q loose XP YP l.row.toRowW d [] (fun f vs => PySem.call f vs) := by
  refine Att.attach_call hn hdf fun w s₀ s₁ mg mb fa o pm cd doc a vs ns G Y ho hd hcd hmg hobj hints hlen hg => ?_
  have KX := hY w _ Y
  obtain ⟨fd, hb, hF⟩ := F w mg fa _ KX G.T.g hmg
  exact law_cg KX G.T.g G.T.b G.T.builtins G.T.nolimit hg hobj hints (Nat.le_trans hlen hn2) hr hF hb fun H hO hS => hsp (K w.params) H a ns hlen hO hS
end OB

set_option Elab.async false
set_option linter.all false
set_option maxRecDepth 100000
set_option maxHeartbeats 4000000
/-! OB, part b: what is known of the heap (Sy): objects that stand exactly so (F), data that lasts (G); the steps of a reading. -/
namespace OB
open PySem PySem.Spec PyProof.Rows L2 PySem.W

/-! ### data that lasts: no list, no dict in it -/
mutual
def imm : PyData → Bool
  | .none | .bool _ | .int _ | .str _ => true
  | .tuple xs => immAll xs
  | .list _ | .dict _ => false
def immAll : List PyData → Bool
  | [] => true
  | x :: xs => imm x && immAll xs
end
/-- what stays for good where it is locked: lists and tuples -/
def isFix : HO → Bool
  | .lst _ | .tup _ => true
  | _ => false
/-- tuples and what is locked for good stay -/
def Tx (H H' : Hp) : Prop := (∀ a xs, H a = some (.tup xs) → H' a = some (.tup xs)) ∧ ∀ a o u, isFix u = true → H a = some (.frz o u) → H' a = some (.frz o u)
theorem Tx.refl (H : Hp) : Tx H H := ⟨fun _ _ h => h, fun _ _ _ _ h => h⟩
theorem Tx.trans {H H1 H2 : Hp} (a : Tx H H1) (b : Tx H1 H2) : Tx H H2 := ⟨fun c xs h => b.1 c xs (a.1 c xs h), fun c o u f h => b.2 c o u f (a.2 c o u f h)⟩
theorem Tx.new {H : Hp} {p : Addr} {o : HO} (h : H p = none) : Tx H (upd H p o) := by
  refine ⟨fun a xs e => ?_, fun a o u _ e => ?_⟩
  · rw [upd_ne (ne_of_none e h)]
    exact e
  · rw [upd_ne (ne_of_none e h)]
    exact e
def isMut : HO → Bool
  | .tup _ => false
  | .frz _ u => !isFix u
  | _ => true
theorem Tx.put {H : Hp} {p : Addr} {o o' : HO} (h : H p = some o) (m : isMut o = true) : Tx H (upd H p o') := by
  refine ⟨fun a xs e => ?_, fun a ob u f e => ?_⟩
  · rw [upd_ne]
    · exact e
    · rintro rfl
      rw [h] at e
      cases e
      cases m
  · rw [upd_ne]
    · exact e
    · rintro rfl
      rw [h] at e
      cases e
      have m2 : (!isFix u) = true := m
      rw [f] at m2
      cases m2
theorem sqt_keep {K : Frag} {H H' : Hp} (t : Tx H H') {a : Addr} {xs : List V} (h : SqT K H a xs) : SqT K H' a xs := by
  rcases h with (h | ⟨o, h⟩) | h
  · exact .inl (.inl (t.1 _ _ h))
  · exact .inl (.inr ⟨o, t.2 _ _ _ rfl h⟩)
  · exact .inr h
mutual
theorem dp_keep {K : Frag} {H H' : Hp} (t : Tx H H') : ∀ (d : PyData) (v : V), imm d = true → Dp K H v d → Dp K H' v d
  | .none, _, _, h => by cases h; exact .non
  | .bool b, _, _, h => by cases h; exact .bl b
  | .int i, _, _, h => by cases h; exact .int i
  | .str x, _, _, h => by cases h; exact .str x
  | .tuple ds, _, m, h => by
    cases h with
    | tup h1 h2 => exact .tup (sqt_keep t h1) (dps_keep t ds _ (by simpa [imm] using m) h2)
  | .list _, _, m, _ => by simp [imm] at m
  | .dict _, _, m, _ => by simp [imm] at m
theorem dps_keep {K : Frag} {H H' : Hp} (t : Tx H H') : ∀ (ds : List PyData) (vs : List V), immAll ds = true → DpAll K H vs ds → DpAll K H' vs ds
  | [], _, _, h => by cases h; exact .nil
  | d :: ds, _, m, h => by
    have m2 : imm d = true ∧ immAll ds = true := by simpa [immAll] using m
    cases h with
    | cons h1 h2 => exact .cons (dp_keep t d _ m2.1 h1) (dps_keep t ds _ m2.2 h2)
end
theorem immAll_append {xs ys : List PyData} : immAll (xs ++ ys) = (immAll xs && immAll ys) := by
  induction xs with
  | nil => rfl
  | cons x xs ih =>
    show (imm x && immAll (xs ++ ys)) = (imm x && immAll xs && immAll ys)
    rw [ih, Bool.and_assoc]
theorem immAll_of {xs : List PyData} (h : ∀ x ∈ xs, imm x = true) : immAll xs = true := by
  induction xs with
  | nil => rfl
  | cons x xs ih =>
    show (imm x && immAll xs) = true
    rw [h x (List.mem_cons_self ..), ih fun y hy => h y (List.mem_cons_of_mem _ hy)]
    rfl
theorem immAll_mem {xs : List PyData} (h : immAll xs = true) : ∀ x ∈ xs, imm x = true := by
  induction xs with
  | nil => intro x hx; cases hx
  | cons y xs ih =>
    have m2 : imm y = true ∧ immAll xs = true := by simpa [immAll] using h
    intro x hx
    rcases List.mem_cons.mp hx with rfl | hx
    · exact m2.1
    · exact ih m2.2 x hx

/-! ### DpAll -/
section
variable {K : Frag} {H : Hp}
theorem dps_length {vs : List V} {ds : List PyData} (h : DpAll K H vs ds) : vs.length = ds.length := by
  induction ds generalizing vs with
  | nil => cases h; rfl
  | cons d ds ih =>
    cases h with
    | cons h1 h2 => simp [ih h2]
theorem dps_get : ∀ {ds : List PyData} {vs : List V} {i : Nat} {v : V}, DpAll K H vs ds → vs[i]? = some v → ∃ d, ds[i]? = some d ∧ Dp K H v d
  | [], _, _, _, .nil, e => by simp at e
  | d :: ds, _, 0, v, .cons h1 h2, e => by
    simp at e
    subst e
    exact ⟨d, rfl, h1⟩
  | d :: ds, _, i + 1, v, .cons h1 h2, e => by
    obtain ⟨d', e1, e2⟩ := dps_get (i := i) h2 (by simpa using e)
    exact ⟨d', by simpa using e1, e2⟩
theorem dps_getD : ∀ {ds : List PyData} {vs : List V} {i : Nat} {d : PyData}, DpAll K H vs ds → ds[i]? = some d → ∃ v, vs[i]? = some v ∧ Dp K H v d
  | [], _, _, _, .nil, e => by simp at e
  | d :: ds, _, 0, v, .cons h1 h2, e => by
    simp at e
    subst e
    exact ⟨_, rfl, h1⟩
  | d :: ds, _, i + 1, v, .cons h1 h2, e => by
    obtain ⟨d', e1, e2⟩ := dps_getD (i := i) h2 (by simpa using e)
    exact ⟨d', by simpa using e1, e2⟩
theorem dps_append : ∀ {ds : List PyData} {vs : List V} {es : List PyData} {ws : List V}, DpAll K H vs ds → DpAll K H ws es → DpAll K H (vs ++ ws) (ds ++ es)
  | [], _, _, _, .nil, h => h
  | _ :: _, _, _, _, .cons h1 h2, h => .cons h1 (dps_append h2 h)
theorem dps_drop : ∀ (n : Nat) {ds : List PyData} {vs : List V}, DpAll K H vs ds → DpAll K H (vs.drop n) (ds.drop n)
  | 0, _, _, h => h
  | _ + 1, [], _, .nil => .nil
  | n + 1, _ :: _, _, .cons _ h2 => dps_drop n h2
theorem dps_take : ∀ (n : Nat) {ds : List PyData} {vs : List V}, DpAll K H vs ds → DpAll K H (vs.take n) (ds.take n)
  | 0, _, _, _ => .nil
  | _ + 1, [], _, .nil => .nil
  | n + 1, _ :: _, _, .cons h1 h2 => .cons h1 (dps_take n h2)
theorem dps_one {v : V} {d : PyData} (h : Dp K H v d) : DpAll K H [v] [d] := .cons h .nil
theorem dps_un {v : V} {d : PyData} (h : DpAll K H [v] [d]) : Dp K H v d := by
  cases h with
  | cons h1 _ => exact h1
theorem dps_ints : ∀ (ns : List Int), DpAll K H (ns.map V.int) (ns.map PyData.int)
  | [] => .nil
  | n :: ns => .cons (.int n) (dps_ints ns)
theorem dps_map {α : Type} {f : α → PyData} {ss : List α} {xs : List V} {i : Nat} {x : V} (h : DpAll K H xs (ss.map f)) (e : xs[i]? = some x) : ∃ s, ss[i]? = some s ∧ Dp K H x (f s) := by
  obtain ⟨d, e2, h2⟩ := dps_get h e
  rw [List.getElem?_map] at e2
  cases q : ss[i]? with
  | none => rw [q] at e2; cases e2
  | some s =>
    rw [q] at e2
    cases e2
    exact ⟨s, rfl, h2⟩
theorem dp_tuple {v : V} {ds : List PyData} (h : Dp K H v (.tuple ds)) : ∃ a xs, v = .ref a ∧ SqT K H a xs ∧ DpAll K H xs ds := by
  cases h with
  | tup h1 h2 => exact ⟨_, _, rfl, h1, h2⟩
theorem dp_int {v : V} {i : Int} (h : Dp K H v (.int i)) : v = .int i := by cases h; rfl
theorem dp_str {v : V} {i : Str} (h : Dp K H v (.str i)) : v = .str i := by cases h; rfl
end

/-! ### what is known -/
/-- the script: locked, or the module's own -/
def Scr (K : Frag) (H : Hp) (a : Addr) (xs : List V) : Prop := SqL K H a xs ∧ ∀ o, H a = some o → ∃ ob, o = .frz ob (.lst xs)
theorem scr_keep {K : Frag} {H H' : Hp} (t : Tx H H') {a : Addr} {xs : List V} (h : Scr K H a xs) (hn : H a = none → H' a = none) : Scr K H' a xs := by
  obtain ⟨h1, h2⟩ := h
  cases e : H a with
  | none =>
    refine ⟨?_, fun o q => by rw [hn e] at q; cases q⟩
    rcases h1 with (h1 | ⟨o, h1⟩) | h1
    · rw [e] at h1; cases h1
    · rw [e] at h1; cases h1
    · exact .inr h1
  | some o =>
    obtain ⟨ob, rfl⟩ := h2 o e
    have e2 := t.2 _ _ _ rfl e
    exact ⟨.inl (.inr ⟨ob, e2⟩), fun o q => by rw [e2] at q; cases q; exact ⟨ob, rfl⟩⟩
inductive Ft where
  | dat (vs : List V) (ds : List PyData)
  | sq (a : Addr) (xs : List V)
  | tq (a : Addr) (xs : List V)
def Ft.ok (K : Frag) (H : Hp) : Ft → Prop
  | .dat vs ds => DpAll K H vs ds ∧ immAll ds = true
  | .sq a xs => (∃ o, H a = some (.frz o (.lst xs))) ∨ ∃ (o : Obj) (its : Array Value) (n : Nat), K.lookup a = some o ∧ o.cls = .type "list" ∧ o.dict = none ∧ o.data = .seq its n ∧ its.size ≤ sizeLine ∧ Vals xs its.toList
  | .tq a xs => SqT K H a xs
theorem Ft.keep {K : Frag} {H H' : Hp} (t : Tx H H') : ∀ g : Ft, g.ok K H → g.ok K H'
  | .dat vs ds, ⟨h, m⟩ => ⟨dps_keep t ds vs m h, m⟩
  | .sq a xs, .inl ⟨o, h⟩ => .inl ⟨o, t.2 _ _ _ rfl h⟩
  | .sq a xs, .inr h => .inr h
  | .tq a xs, h => sqt_keep t h
structure Sy (K : Frag) (F : List (Addr × HO)) (G : List Ft) (H : Hp) : Prop where
  st : ∀ p ∈ F, H p.1 = some p.2
  nd : (F.map (·.1)).Nodup
  ft : ∀ g ∈ G, g.ok K H
section
variable {K : Frag} {F : List (Addr × HO)} {G : List Ft} {H H' : Hp} {p : Addr} {o o' : HO} {i : Nat} {v : V} {vs : List V} {d : PyData} {ds : List PyData}
theorem Sy.nil : Sy K [] [] H := ⟨fun _ h => (nomatch h), .nil, fun _ h => (nomatch h)⟩
theorem Sy.at (S : Sy K F G H) (i : Nat) (h : F[i]? = some (p, o)) : H p = some o := S.st _ (List.mem_of_getElem? h)
theorem Sy.dps (S : Sy K F G H) (i : Nat) (h : G[i]? = some (.dat vs ds)) : DpAll K H vs ds := (S.ft _ (List.mem_of_getElem? h)).1
theorem Sy.dpi (S : Sy K F G H) (i : Nat) (h : G[i]? = some (.dat vs ds)) : immAll ds = true := (S.ft _ (List.mem_of_getElem? h)).2
theorem Sy.dp (S : Sy K F G H) (i : Nat) (h : G[i]? = some (.dat [v] [d])) : Dp K H v d := dps_un (S.dps i h)
theorem Sy.sq {xs : List V} (S : Sy K F G H) (i : Nat) (h : G[i]? = some (.sq p xs)) : SqL K H p xs := by
  rcases S.ft _ (List.mem_of_getElem? h) with ⟨o, q⟩ | q
  · exact .inl (.inr ⟨o, q⟩)
  · exact .inr q
theorem Sy.tqs {xs : List V} (S : Sy K F G H) (i : Nat) (h : G[i]? = some (.tq p xs)) : SqT K H p xs := S.ft _ (List.mem_of_getElem? h)
/-- a new object -/
theorem Sy.push (S : Sy K F G H) (h : H p = none) : Sy K ((p, o) :: F) G (upd H p o) := by
  refine ⟨fun q hq => ?_, ?_, fun g hg => Ft.keep (Tx.new h) g (S.ft g hg)⟩
  · rcases List.mem_cons.mp hq with rfl | hq
    · exact upd_same
    · have e := S.st q hq
      rw [upd_ne (ne_of_none e h)]
      exact e
  · show (p :: F.map (·.1)).Nodup
    refine List.nodup_cons.mpr ⟨fun hm => ?_, S.nd⟩
    obtain ⟨q, hq, e⟩ := List.mem_map.mp hm
    have e2 := S.st q hq
    rw [e, h] at e2
    cases e2
/-- a new object that is not kept in mind -/
theorem Sy.over (S : Sy K F G H) (h : H p = none) : Sy K F G (upd H p o) := by
  obtain ⟨a, b, c⟩ := S.push (o := o) h
  exact ⟨fun q hq => a q (List.mem_cons_of_mem _ hq), S.nd, c⟩
theorem Sy.fact (S : Sy K F G H) (h : DpAll K H vs ds) (m : immAll ds = true) : Sy K F (.dat vs ds :: G) H :=
  ⟨S.st, S.nd, fun g hg => (List.mem_cons.mp hg).elim (fun e => by rw [e]; exact ⟨h, m⟩) (S.ft g)⟩
theorem Sy.add (S : Sy K F G H) (g : Ft) (h : g.ok K H) : Sy K F (g :: G) H :=
  ⟨S.st, S.nd, fun f hf => (List.mem_cons.mp hf).elim (fun e => by rw [e]; exact h) (S.ft f)⟩
/-- a tuple of data opened -/
theorem Sy.opn (S : Sy K F G H) (h : Dp K H v (.tuple ds)) (m : immAll ds = true) : ∃ a xs, v = .ref a ∧ Sy K F (.tq a xs :: .dat xs ds :: G) H := by
  obtain ⟨a, xs, e, h1, h2⟩ := dp_tuple h
  exact ⟨a, xs, e, (S.fact h2 m).add _ h1⟩
theorem Sy.lay (S : Sy K F G H) (h : H p = none) (hd : DpAll K H vs ds) (m : immAll ds = true) : Sy K F (.dat [.ref p] [.tuple ds] :: G) (upd H p (.tup vs)) := by
  refine (S.over h).fact (dps_one (.tup (.inl (.inl upd_same)) (dps_keep (Tx.new h) ds vs m hd))) ?_
  show (imm (.tuple ds) && true) = true
  rw [Bool.and_true]
  exact m
/-- an object changed -/
theorem Sy.put (S : Sy K F G H) (i : Nat) (h : F[i]? = some (p, o)) (m : isMut o = true) : Sy K (F.set i (p, o')) G (upd H p o') := by
  have hp := S.at i h
  have hi : i < F.length := (List.getElem?_eq_some_iff.mp h).1
  refine ⟨fun q hq => ?_, ?_, fun g hg => Ft.keep (Tx.put hp m) g (S.ft g hg)⟩
  · obtain ⟨j, hj⟩ := List.mem_iff_getElem?.mp hq
    by_cases e : i = j
    · subst e
      rw [List.getElem?_set_self hi] at hj
      cases hj
      exact upd_same
    · rw [List.getElem?_set_ne e] at hj
      have e2 := S.st q (List.mem_of_getElem? hj)
      rw [upd_ne]
      · exact e2
      · intro z
        have n := S.nd
        have h1 : (F.map (·.1))[i]? = some p := by rw [List.getElem?_map, h]; rfl
        have h2 : (F.map (·.1))[j]? = some p := by rw [List.getElem?_map, hj, ← z]; rfl
        exact e ((List.getElem_inj n).mp ((List.getElem?_eq_some_iff.mp h1).2.trans (List.getElem?_eq_some_iff.mp h2).2.symm))
  · have e : (F.set i (p, o')).map (·.1) = F.map (·.1) := by
      rw [List.map_set]
      refine List.ext_getElem? fun j => ?_
      by_cases e : i = j
      · subst e
        rw [List.getElem?_set_self (by simpa using hi), List.getElem?_map, h]
        rfl
      · rw [List.getElem?_set_ne e]
    rw [e]
    exact S.nd
theorem Sy.less {x : Addr × HO} (S : Sy K (x :: F) G H) : Sy K F G H := ⟨fun q hq => S.st q (List.mem_cons_of_mem _ hq), (List.nodup_cons.mp (show (x.1 :: F.map (·.1)).Nodup from S.nd)).2, S.ft⟩
theorem Sy.drop {x : Ft} (S : Sy K F (x :: G) H) : Sy K F G H := ⟨S.st, S.nd, fun g hg => S.ft g (List.mem_cons_of_mem _ hg)⟩
/-- other facts, all of them among those known -/
theorem Sy.facts {G' : List Ft} (S : Sy K F G H) (h : ∀ g ∈ G', g ∈ G) : Sy K F G' H := ⟨S.st, S.nd, fun g hg => S.ft g (h g hg)⟩
theorem Sy.drop2 {x y : Ft} (S : Sy K F (x :: y :: G) H) : Sy K F (x :: G) H := S.facts fun g hg => by
  rcases List.mem_cons.mp hg with rfl | h
  · exact List.mem_cons_self ..
  · exact List.mem_cons_of_mem _ (List.mem_cons_of_mem _ h)
theorem Sy.drop3 {x y z : Ft} (S : Sy K F (x :: y :: z :: G) H) : Sy K F (x :: y :: G) H := S.facts fun g hg => by
  rcases List.mem_cons.mp hg with rfl | h
  · exact List.mem_cons_self ..
  · rcases List.mem_cons.mp h with rfl | h
    · exact List.mem_cons_of_mem _ (List.mem_cons_self ..)
    · exact List.mem_cons_of_mem _ (List.mem_cons_of_mem _ (List.mem_cons_of_mem _ h))
theorem Sy.swap {x y : Addr × HO} (S : Sy K (x :: y :: F) G H) : Sy K (y :: x :: F) G H := by
  refine ⟨fun q hq => S.st q ?_, ?_, S.ft⟩
  · rcases List.mem_cons.mp hq with rfl | hq
    · exact List.mem_cons_of_mem _ (List.mem_cons_self ..)
    · rcases List.mem_cons.mp hq with rfl | hq
      · exact List.mem_cons_self ..
      · exact List.mem_cons_of_mem _ (List.mem_cons_of_mem _ hq)
  · have n : (x.1 :: y.1 :: F.map (·.1)).Nodup := S.nd
    show (y.1 :: x.1 :: F.map (·.1)).Nodup
    obtain ⟨n1, n2⟩ := List.nodup_cons.mp n
    obtain ⟨n3, n4⟩ := List.nodup_cons.mp n2
    refine List.nodup_cons.mpr ⟨fun z => ?_, List.nodup_cons.mpr ⟨fun z => n1 (List.mem_cons_of_mem _ z), n4⟩⟩
    rcases List.mem_cons.mp z with e | z
    · exact n1 (by rw [e]; exact List.mem_cons_self ..)
    · exact n3 z
end
end OB

set_option Elab.async false
set_option linter.all false
set_option maxRecDepth 100000
set_option maxHeartbeats 4000000
/-! OB, part c: more rules: walks over lists and tuples alike, zip and enumerate of both, a written dict of ints, powers, attributes as targets. -/
namespace OB
open PySem PySem.Spec PyProof.Rows L2 PySem.W

/-! ### a list or a tuple -/
def SqA (K : Frag) (H : Hp) (a : Addr) (xs : List V) : Prop := SqL K H a xs ∨ SqT K H a xs
/-- k: it is a list -/
def SqK (K : Frag) (H : Hp) (k : Bool) (a : Addr) (xs : List V) : Prop := match k with
  | true => SqL K H a xs
  | false => SqT K H a xs
def IsK (h : Heap) (k : Bool) (a : Addr) (its : Array Value) : Prop := match k with
  | true => h.IsList a its
  | false => h.IsTuple a its
def ItK (h : Heap) (k : Bool) (it a : Addr) (i : Nat) : Prop := match k with
  | true => h.IsListIter it a i
  | false => h.IsTupleIter it a i
theorem ItK.at {h h' : Heap} {k : Bool} {it a : Addr} {i : Nat} (x : ItK h k it a i) (e : ∀ o, h.get? it = some o → h'.get? it = some o) : ItK h' k it a i := by
  cases k with
  | true => exact Heap.IsListIter.at x e
  | false => exact Heap.IsTupleIter.at x e
theorem ItK.obj {h : Heap} {k : Bool} {it a : Addr} {i : Nat} (x : ItK h k it a i) : ∃ o, h.get? it = some o ∧ ∀ v, o.data ≠ .cell v := by
  cases k with
  | true =>
    obtain ⟨o, e, c, d⟩ := x
    exact ⟨o, e, fun v z => by rw [d] at z; cases z⟩
  | false =>
    obtain ⟨o, e, c, d⟩ := x
    exact ⟨o, e, fun v z => by rw [d] at z; cases z⟩
def itObj (k : Bool) (a : Addr) : Obj := match k with
  | true => { cls := .type "list_iterator", data := .fields #[.ref a, .int 0 0] }
  | false => { cls := .type "tuple_iterator", data := .fields #[.ref a, .int 0 0] }
theorem beginsK (k : Bool) (a : Addr) (its : Array Value) : Begins (.ref a) (itObj k a) fun h => IsK h k a its := match k with
  | true => begins_list a its
  | false => begins_tuple a its
theorem itK_new {h : Heap} {k : Bool} {it a : Addr} (e : h.get? it = some (itObj k a)) : ItK h k it a 0 := match k, e with
  | true, e => ⟨_, e, rfl, rfl⟩
  | false, e => ⟨_, e, rfl, rfl⟩
theorem drawsK {prog : Program} {w : World} {A : Around} (hh : A.handled = none) (k : Bool) (it a : Addr) (hne : a ≠ it) (its : Array Value) :
    Draws prog w A it [it, a] its.size (fun i v => its[i]? = some v) (fun i h => ItK h k it a i ∧ IsK h k a its) := match k with
  | true => Draws.list hh it a hne its
  | false => Draws.tuple hh it a hne its
section
variable {X : Cx} {pins : List (Addr × Obj)} {σ : L2.St} {H : Hp} {s : Shared} {a : Addr} {xs ys : List V} {k : Bool}
theorem inv_sqk (I : Inv X pins σ H s) (h : SqK X.K H k a xs) : ∃ its : List Value, Vals xs its ∧ IsK s.heap k a its.toArray ∧ a < s.heap.objs.size := by
  cases k with
  | true =>
    obtain ⟨its, r, p, _⟩ := I.list h
    exact ⟨its, r, p.isList, p.lt⟩
  | false =>
    obtain ⟨its, r, p, _⟩ := I.tuple h
    exact ⟨its, r, p, p.lt⟩
theorem sqk_inj (I : Inv X pins σ H s) (h : SqK X.K H k a xs) (h' : SqK X.K H k a ys) : xs = ys := by
  cases k with
  | true => exact I.list_inj h h'
  | false => exact I.tuple_inj h h'
end
theorem isK_le {h : Heap} {k : Bool} {a : Addr} {its : Array Value} (x : IsK h k a its) : ∃ o, h.get? a = some o ∧ ∃ n, o.data = .seq its n := by
  cases k with
  | true =>
    obtain ⟨o, e, _, n, d⟩ := x
    exact ⟨o, e, n, d⟩
  | false =>
    obtain ⟨o, e, _, n, d⟩ := x
    exact ⟨o, e, n, d⟩

/-! ### zip of two, each a list or a tuple -/
def ItzK (K : Frag) (k l : Bool) (a b : Addr) : It :=
  ⟨fun i H => ∃ (xs ys : List V) (x y : V), SqK K H k a xs ∧ SqK K H l b ys ∧ xs[i]? = some x ∧ ys[i]? = some y,
    fun i H v H' => ∃ T x y, v = .ref T ∧ H T = none ∧ H' = upd H T (.tup [x, y]) ∧ (∀ xs, SqK K H k a xs → xs[i]? = some x) ∧ ∀ ys, SqK K H l b ys → ys[i]? = some y,
    fun i H => ∃ xs ys : List V, SqK K H k a xs ∧ SqK K H l b ys ∧ i ≤ xs.length ∧ i ≤ ys.length ∧ (i = xs.length ∨ i = ys.length)⟩
theorem turn_zipK {P : Program} {w : World} {K : Frag} {elts : List Expr} {kk : Nat} {tpos : Pos} {k l : Bool} {a b z TI TO i1 i2 : Addr} (D : ZipSep2 z TI TO i1 i2 [i1, a] [i2, b]) :
    Turn P w K (.Tuple elts kk tpos) (ItzK K k l a b) [z, TI, TO, i1, i2] z
      (fun i h => IsZip h z TI TO .none ∧ IsTupOf2 h TI (.ref i1) (.ref i2) ∧ (∃ x y, IsTupOf2 h TO x y) ∧ ItK h k i1 a i ∧ ItK h l i2 b i) where
  mem := List.mem_cons_self ..
  obj := fun i h st c hc => by
    obtain ⟨hz, hTI, ⟨x, y, hTO⟩, h1, h2⟩ := st
    have cs : c = z ∨ c = TI ∨ c = TO ∨ c = i1 ∨ c = i2 := by simpa using hc
    rcases cs with rfl | rfl | rfl | rfl | rfl
    · exact ⟨_, hz, fun v q => nomatch q⟩
    · exact ⟨_, hTI, fun v q => nomatch q⟩
    · exact ⟨_, hTO, fun v q => nomatch q⟩
    · exact h1.obj
    · exact h2.obj
  keep := fun i h h' st kp => by
    obtain ⟨hz, hTI, ⟨x, y, hTO⟩, h1, h2⟩ := st
    exact ⟨kp z (by simp) _ hz, kp TI (by simp) _ hTI, ⟨x, y, kp TO (by simp) _ hTO⟩, h1.at fun o q => kp i1 (by simp) o q, h2.at fun o q => kp i2 (by simp) o q⟩
  item := by
    intro X hP hw hK hc i pins s σ H E I hf st hg
    subst hP hw hK
    obtain ⟨hz, hTI, ⟨x0, y0, hTO⟩, h1, h2⟩ := st
    obtain ⟨xs, ys, x, y, qa, qb, hx, hy⟩ := hg
    obtain ⟨its, ra, pa, _⟩ := inv_sqk I qa
    obtain ⟨jts, rb, pb, _⟩ := inv_sqk I qb
    obtain ⟨u, hu, ru⟩ := ra.get hx
    obtain ⟨u2, hu2, ru2⟩ := rb.get hy
    have zlt : z < s.heap.objs.size := Heap.lt_size hz
    have hh : X.A.in1.handled = none := I.ok.hd hc
    have la : i < its.toArray.size := by
      rw [List.size_toArray]
      exact (List.getElem?_eq_some_iff.mp hu).1
    have lb : i < jts.toArray.size := by
      rw [List.size_toArray]
      exact (List.getElem?_eq_some_iff.mp hu2).1
    have nea : a ≠ i1 := fun e => by
      obtain ⟨o, e1, n, d1⟩ := isK_le pa
      rw [e] at e1
      cases k with
      | true => obtain ⟨o2, e2, _, d2⟩ := h1; rw [e1] at e2; cases e2; rw [d1] at d2; cases d2
      | false => obtain ⟨o2, e2, _, d2⟩ := h1; rw [e1] at e2; cases e2; rw [d1] at d2; cases d2
    have neb : b ≠ i2 := fun e => by
      obtain ⟨o, e1, n, d1⟩ := isK_le pb
      rw [e] at e1
      cases l with
      | true => obtain ⟨o2, e2, _, d2⟩ := h2; rw [e1] at e2; cases e2; rw [d1] at d2; cases d2
      | false => obtain ⟨o2, e2, _, d2⟩ := h2; rw [e1] at e2; cases e2; rw [d1] at d2; cases d2
    refine wpAny_pyNext_zipD2_item D (drawsK hh k i1 a nea its.toArray) (drawsK hh l i2 b neb jts.toArray) hz hTI hTO ⟨h1, pa⟩ ⟨h2, pb⟩ la lb fun v1 v2 h' tk e1 e2 z' TO' g1 g2 hT hsz kp => ?_
    have q1 : v1 = u := Option.some.inj (e1.symm.trans (by simpa using hu))
    have q2 : v2 = u2 := Option.some.inj (e2.symm.trans (by simpa using hu2))
    subst q1 q2
    refine ⟨_, rfl, wpAny_letOwnedTupleGo_zip (s := { s with heap := h', toks := tk }) z' fun h'' z'' sb => ?_⟩
    have hT2 : h''.get? s.heap.objs.size = some { cls := .type "tuple", data := .seq #[v1, v2] } := (sb.2 _ (Nat.ne_of_gt zlt)).trans hT
    have fresh : ObjOk X.prog X.w (upd H s.heap.objs.size (.tup [x, y])) h'' s.heap.objs.size (.tup [x, y]) :=
      ⟨by show 2 ≤ sizeLine; decide, [v1, v2], .cons ru (.cons ru2 .nil), ⟨_, hT2, rfl, _, rfl⟩⟩
    have kp2 : ∀ c o, c ∉ [z, TI, TO, i1, i2] → s.heap.get? c = some o → h''.get? c = some o := fun c o hb q =>
      (sb.2 c (fun e => hb (by simp [e]))).trans (kp c o (fun e => hb (by simp [e])) (fun e => hb (by simp [e])) (fun e => hb (by simp [e])) (fun e => hb (by simp [e])) q)
    have I1 : Inv X pins σ (upd H s.heap.objs.size (.tup [x, y])) { s with heap := h'', toks := tk } := I.turnedNew (ch := [z, TI, TO, i1, i2]) kp2 hf (Nat.le_refl _) fresh
    have neTI : TI ≠ z ∧ TI ≠ TO ∧ TI ≠ i1 ∧ TI ≠ i2 := ⟨D.TIz, D.TITO, D.TIi1, D.TIi2⟩
    refine ⟨.ref s.heap.objs.size, _, I1, rfl, ⟨_, x, y, rfl, I.hok.fresh (Nat.le_refl _), rfl, fun m hm => by rw [sqk_inj I hm qa]; exact hx, fun m hm => by rw [sqk_inj I hm qb]; exact hy⟩, ⟨z'', ?_, ⟨v1, v2, ?_⟩, ?_, ?_⟩, fun c hcm => ?_⟩
    · exact (sb.2 _ D.TIz).trans (kp _ _ D.TIz D.TITO D.TIi1 D.TIi2 hTI)
    · exact (sb.2 _ D.TOz).trans TO'
    · exact g1.1.at fun o q => (sb.2 _ (Ne.symm D.zi1)).trans q
    · exact g2.1.at fun o q => (sb.2 _ (Ne.symm D.zi2)).trans q
    · have lt : c < s.heap.objs.size := by
        have cs : c = z ∨ c = TI ∨ c = TO ∨ c = i1 ∨ c = i2 := by simpa using hcm
        rcases cs with rfl | rfl | rfl | rfl | rfl
        · exact zlt
        · exact Heap.lt_size hTI
        · exact Heap.lt_size hTO
        · obtain ⟨o, q, _⟩ := h1.obj; exact Heap.lt_size q
        · obtain ⟨o, q, _⟩ := h2.obj; exact Heap.lt_size q
      rw [upd_ne (Nat.ne_of_lt lt)]
      exact (hf c hcm).1
  done := by
    intro X hP hw hK hc i pins s σ H E I hf st hg
    subst hP hw hK
    obtain ⟨hz, hTI, ⟨x0, y0, hTO⟩, h1, h2⟩ := st
    obtain ⟨xs, ys, qa, qb, l1, l2, le⟩ := hg
    obtain ⟨its, ra, pa, _⟩ := inv_sqk I qa
    obtain ⟨jts, rb, pb, _⟩ := inv_sqk I qb
    have hh : X.A.in1.handled = none := I.ok.hd hc
    have e1 := ra.length
    have e2 := rb.length
    have nea : a ≠ i1 := fun e => by
      obtain ⟨o, e1, n, d1⟩ := isK_le pa
      rw [e] at e1
      cases k with
      | true => obtain ⟨o2, e2, _, d2⟩ := h1; rw [e1] at e2; cases e2; rw [d1] at d2; cases d2
      | false => obtain ⟨o2, e2, _, d2⟩ := h1; rw [e1] at e2; cases e2; rw [d1] at d2; cases d2
    have neb : b ≠ i2 := fun e => by
      obtain ⟨o, e1, n, d1⟩ := isK_le pb
      rw [e] at e1
      cases l with
      | true => obtain ⟨o2, e2, _, d2⟩ := h2; rw [e1] at e2; cases e2; rw [d1] at d2; cases d2
      | false => obtain ⟨o2, e2, _, d2⟩ := h2; rw [e1] at e2; cases e2; rw [d1] at d2; cases d2
    refine wpAny_pyNext_zipD2_end D (drawsK hh k i1 a nea its.toArray) (drawsK hh l i2 b neb jts.toArray) hz hTI hTO ⟨h1, pa⟩ ⟨h2, pb⟩ (by rw [List.size_toArray]; omega) (by rw [List.size_toArray]; omega) (by rw [List.size_toArray, List.size_toArray]; omega) fun h' tk kp => ?_
    exact ⟨rfl, I.turnedL (t' := tk) (ch := [z, TI, TO, i1, i2]) (fun c o hb q => kp c o (fun e => hb (by simp [e])) (fun e => hb (by simp [e])) (fun e => hb (by simp [e])) (fun e => hb (by simp [e])) q) hf⟩
  self := fun A i s Q E st h => wpAny_pyIter_zip st.1 h
def iZipK (K : Frag) (ta : TA) : TI := fun σ H R => ta σ H fun vs H1 => ∃ k l a b xs ys, vs = [.ref a, .ref b] ∧ SqK K H1 k a xs ∧ SqK K H1 l b ys ∧ R (ItzK K k l a b) H1
theorem pi_zipK {X : Cx} {e e2 : Expr} {ta : TA} {p pos tpos : Pos} {elts : List Expr} {kk : Nat} (hg : Gl X "zip") (hm : X.mg "zip" = none) (ha : PA X [e, e2] ta)
    (hs : starEach [e, e2] X.env = (false, eval e X.env) :: starEach [e2] X.env := by rfl) (hpl : (backTo pos (starEach [e2] X.env)).any (·.1) = false := by rfl) :
    PI X (.Tuple elts kk tpos) (.Call (.Name "zip" p) [e, e2] [] pos) (iZipK X.K ta) := by
  refine ⟨fun pins s σ H R I h => Call_ (ld_blt I hg hm PyProof.Rows.boot_zip (PyProof.Rows.callWith_type1 (thn (ha.run pos pins s σ H _ I h) fun us s1 ⟨vs, H1, I1, r1, q1⟩ => ?_) hs hpl))⟩
  obtain ⟨k, l, a, b, xs, ys, rfl, qa, qb, q⟩ := q1
  cases r1 with
  | cons r rr =>
    cases rr with
    | cons r' rr =>
      cases rr
      cases r
      cases r'
      obtain ⟨its, ra, pa, la⟩ := inv_sqk I1 qa
      obtain ⟨jts, rb, pb, lb⟩ := inv_sqk I1 qb
      refine zip_begins2 (beginsK k a its.toArray) (beginsK l b jts.toArray) pa pb fun h' hz hTI hTO g1 g2 hsz kp => wpAny_pyIter_zip hz ?_
      have I2 : Inv X pins σ H1 { s1 with heap := h' } := I1.kept (t' := s1.toks) kp
      refine ⟨s1.heap.objs.size + 4, [s1.heap.objs.size + 4, s1.heap.objs.size + 2, s1.heap.objs.size + 3, s1.heap.objs.size, s1.heap.objs.size + 1], _, _, H1, rfl, I2,
        turn_zipK (zip_sep2 (fp1 := [a]) (fp2 := [b]) (fun c hc => by rw [List.mem_singleton.mp hc]; exact la) (fun c hc => by rw [List.mem_singleton.mp hc]; exact lb)), ⟨hz, hTI, ⟨_, _, hTO⟩, itK_new g1, itK_new g2⟩, fun c hcm => ?_, q⟩
      have cs : c = s1.heap.objs.size + 4 ∨ c = s1.heap.objs.size + 2 ∨ c = s1.heap.objs.size + 3 ∨ c = s1.heap.objs.size ∨ c = s1.heap.objs.size + 1 := by simpa using hcm
      have le : s1.heap.objs.size ≤ c := by
        rcases cs with rfl | rfl | rfl | rfl | rfl
        · exact Nat.le_add_right _ _
        · exact Nat.le_add_right _ _
        · exact Nat.le_add_right _ _
        · exact Nat.le_refl _
        · exact Nat.le_add_right _ _
      exact I1.fpOk le (I1.hok.fresh le)
theorem for_zipK {K : Frag} {k l : Bool} {a b : Addr} {xs ys : List V} {g : TG} {tb : TS} {D : Ends} {σ : L2.St} {H : Hp} (hl : xs.length = ys.length) (Pv : Nat → L2.St → Hp → Prop) (h0 : Pv 0 σ H) (hq : ∀ i σ H, Pv i σ H → SqK K H k a xs ∧ SqK K H l b ys)
    (hs : ∀ i x y T σ H, xs[i]? = some x → ys[i]? = some y → Pv i σ H → H T = none → g (.ref T) σ (upd H T (.tup [x, y])) fun σ2 H2 => tb { D with nx := Pv (i + 1), ct := Pv (i + 1), bk := D.nx } σ2 H2) (hd : ∀ σ H, Pv xs.length σ H → D.nx σ H) :
    ∃ W : Nat → Nat → L2.St → Hp → Prop, (∃ m, W 0 m σ H) ∧ ∀ i m σ H, W i m σ H →
      ((ItzK K k l a b).stop i H ∧ D.nx σ H) ∨ ((ItzK K k l a b).go i H ∧ ∃ N : L2.St → Hp → Prop, (∀ σ' H', N σ' H' → ∃ m', m' < m ∧ W (i + 1) m' σ' H') ∧ ∀ x H', (ItzK K k l a b).yld i H x H' → g x σ H' fun σ2 H2 => tb { D with nx := N, ct := N, bk := D.nx } σ2 H2) := by
  refine ⟨fun i m σ H => m = xs.length - i ∧ i ≤ xs.length ∧ Pv i σ H, ⟨_, rfl, Nat.zero_le _, h0⟩, ?_⟩
  rintro i m σ H ⟨rfl, hi, p⟩
  obtain ⟨qa, qb⟩ := hq i σ H p
  by_cases lt : i < xs.length
  · have hx : xs[i]? = some xs[i] := List.getElem?_eq_getElem lt
    have hy : ys[i]? = some (ys[i]'(hl ▸ lt)) := List.getElem?_eq_getElem _
    refine .inr ⟨⟨xs, ys, _, _, qa, qb, hx, hy⟩, Pv (i + 1), fun σ' H' p' => ⟨xs.length - (i + 1), by omega, rfl, lt, p'⟩, fun v H' yl => ?_⟩
    obtain ⟨T, x, y, rfl, hT, rfl, e1, e2⟩ := yl
    exact hs i x y T σ H (e1 xs qa) (e2 ys qb) p hT
  · have e : i = xs.length := by omega
    subst e
    exact .inl ⟨⟨xs, ys, qa, qb, hi, by omega, .inl rfl⟩, hd σ H p⟩

/-! ### for over a list or a tuple -/
def iSeq (K : Frag) (tl : TE) : TI := fun σ H R => tl σ H fun x H1 => ∃ a, x = .ref a ∧ (((∃ xs, SqL K H1 a xs) ∧ R (Itl K a) H1) ∨ ((∃ xs, SqT K H1 a xs) ∧ R (Itt K a) H1))
theorem pi_seq {X : Cx} {tg l : Expr} {tl : TE} (hl : PE X l tl) : PI X tg l (iSeq X.K tl) := by
  refine ⟨fun pins s σ H R I h => thn (hl.run pins s σ H _ I h) fun v s1 ⟨x, H1, I1, r1, a, ex, q⟩ => ?_⟩
  subst ex
  cases r1
  have fresh : ∀ b ∈ [s1.heap.objs.size], FpOk X pins H1 b := fun b hb => by
    rw [List.mem_singleton.mp hb]
    exact I1.fpOk (Nat.le_refl _) (I1.hok.fresh (Nat.le_refl _))
  rcases q with ⟨⟨xs, hq⟩, q⟩ | ⟨⟨xs, hq⟩, q⟩
  · obtain ⟨its, rv, p, _⟩ := I1.list hq
    exact wpAny_pyIter_list p.isList ⟨s1.heap.objs.size, [s1.heap.objs.size], _, _, H1, rfl, I1.kept (t' := s1.toks) fun b o e => Heap.get?_push_of_some _ e, turn_list a _, ⟨_, Heap.get?_push_size _ rfl, rfl, rfl⟩, fresh, q⟩
  · obtain ⟨its, rv, p, _⟩ := I1.tuple hq
    exact wpAny_pyIter_tuple (show s1.heap.IsTuple a its.toArray from p) ⟨s1.heap.objs.size, [s1.heap.objs.size], _, _, H1, rfl, I1.kept (t' := s1.toks) fun b o e => Heap.get?_push_of_some _ e, turn_tuple a _, ⟨_, Heap.get?_push_size _ rfl, rfl, rfl⟩, fresh, q⟩
end OB

set_option Elab.async false
set_option linter.all false
set_option maxRecDepth 100000
set_option maxHeartbeats 4000000
/-! OB, part d: enumerate of lists and tuples alike, a written dict of ints, powers, attributes as targets. -/
namespace OB
open PySem PySem.Spec PyProof.Rows L2 PySem.W

/-! ### enumerate -/
theorem meets_enum1 {v : Value} {o : Obj} {B : Heap → Prop} (bg : Begins v o B) :
    Meets (Builtin.«enumerate.__new__» ⟨[.type "enumerate", v], []⟩) (fun _ R s => B s.heap ∧
      R (.ok (.ret (.ref (s.heap.push o).objs.size))) { s with heap := (s.heap.push o).push { cls := .type "enumerate", data := .fields #[.none, .bool false, .ref s.heap.objs.size, rawInt 0, .none, .none] } }) :=
  .of_wp fun prog w A R s h => by
    obtain ⟨hp, gn, dr, tk, os⟩ := s
    obtain ⟨hb, h⟩ := h
    have hsub := sub_enumerate
    have walk : ∀ {A' : Around} {E : Value → Shared → Prop} {Q : Value → Shared → Prop}, Q (.ref hp.objs.size) ⟨hp.push o, gn, dr, tk, os⟩ → wpAny (model prog w) A' (pyIter v) Q E ⟨hp, gn, dr, tk, os⟩ :=
      fun q => bg.iter prog w _ _ ⟨hp, gn, dr, tk, os⟩ _ hb q
    wp_walk using walk
    refine wpAny_stack_any fun st => wpAny_pure ?_
    split
    · rename_i c _ _ _ _ _
      cases (c == Value.type "enumerate")
      · wp_walk using walk
        exact ⟨_, rfl, h⟩
      · wp_walk using walk
        exact ⟨_, rfl, h⟩
    · wp_walk using walk
      exact ⟨_, rfl, h⟩
theorem call_enum1 {prog : Program} {w : World} {A : Around} {E : Value → Shared → Prop} {s : Shared} {v : Value} {o : Obj} {B : Heap → Prop} {Q : Value → Shared → Prop} (bg : Begins v o B) (hb : B s.heap)
    (h : ∀ h', IsEnum h' (s.heap.objs.size + 1) s.heap.objs.size 0 .none → h'.get? s.heap.objs.size = some o → (∀ b o, s.heap.get? b = some o → h'.get? b = some o) → Q (.ref (s.heap.objs.size + 1)) { s with heap := h' }) :
    wpAny (model prog w) A (call (.type "enumerate") [v]) Q E s := by
  refine callType_new F.called_enumerate (by decide) (F.typeCall_enumerate_1 _) (F.newCall_enumerate_1 _) (fun obj => F.args_object_init_2 obj _) F.entry_enumerate_new (meets_enum1 bg) ⟨hb, ?_⟩
  have hz : (s.heap.push o).objs.size = s.heap.objs.size + 1 := Heap.size_push ..
  show _ ∧ _
  rw [hz]
  have he : IsEnum ((s.heap.push o).push { cls := .type "enumerate", data := .fields #[.none, .bool false, .ref s.heap.objs.size, rawInt 0, .none, .none] }) (s.heap.objs.size + 1) s.heap.objs.size 0 .none := by
    have q := Heap.get?_push_size (s.heap.push o) (o := { cls := .type "enumerate", data := .fields #[.none, .bool false, .ref s.heap.objs.size, rawInt 0, .none, .none] }) rfl
    rw [hz] at q
    exact q
  exact ⟨⟨_, he, rfl⟩, h _ he (Heap.get?_push_of_some _ (Heap.get?_push_size _ bg.free)) fun b o x => Heap.get?_push_of_some _ (Heap.get?_push_of_some _ x)⟩
def IteK (K : Frag) (k : Bool) (a : Addr) : It :=
  ⟨fun i H => ∃ (xs : List V) (x : V), SqK K H k a xs ∧ xs[i]? = some x,
    fun i H v H' => ∃ T x, v = .ref T ∧ H T = none ∧ H' = upd H T (.tup [.int (i : Nat), x]) ∧ ∀ xs, SqK K H k a xs → xs[i]? = some x,
    fun i H => ∃ xs : List V, SqK K H k a xs ∧ i = xs.length⟩
theorem turn_enumK {P : Program} {w : World} {K : Frag} {elts : List Expr} {kk : Nat} {tpos : Pos} {k : Bool} {a e it : Addr} (hea : e ≠ a) :
    Turn P w K (.Tuple elts kk tpos) (IteK K k a) [e, it] e (fun i h => (∃ old, IsEnum h e it ((i : Nat) : Int) old) ∧ ItK h k it a i ∧ e ≠ it) where
  mem := List.mem_cons_self ..
  obj := fun i h st b hb => by
    obtain ⟨⟨old, he⟩, h1, _⟩ := st
    have cs : b = e ∨ b = it := by simpa using hb
    rcases cs with rfl | rfl
    · exact ⟨_, he, fun v q => nomatch q⟩
    · exact h1.obj
  keep := fun i h h' st kp => by
    obtain ⟨⟨old, he⟩, h1, ne⟩ := st
    exact ⟨⟨old, kp e (by simp) _ he⟩, h1.at fun o q => kp it (by simp) o q, ne⟩
  item := by
    intro X hP hw hK hc i pins s σ H E I hf st hg
    subst hP hw hK
    obtain ⟨⟨old, he⟩, h1, ne⟩ := st
    obtain ⟨xs, x, qa, hx⟩ := hg
    obtain ⟨its, ra, pa, _⟩ := inv_sqk I qa
    obtain ⟨u, hu, ru⟩ := ra.get hx
    have elt : e < s.heap.objs.size := Heap.lt_size he
    have hh : X.A.in1.handled = none := I.ok.hd hc
    have la : i < its.toArray.size := by
      rw [List.size_toArray]
      exact (List.getElem?_eq_some_iff.mp hu).1
    have nea : a ≠ it := fun z => by
      obtain ⟨o, e1, n, d1⟩ := isK_le pa
      rw [z] at e1
      cases k with
      | true => obtain ⟨o2, e2, _, d2⟩ := h1; rw [e1] at e2; cases e2; rw [d1] at d2; cases d2
      | false => obtain ⟨o2, e2, _, d2⟩ := h1; rw [e1] at e2; cases e2; rw [d1] at d2; cases d2
    have nin : e ∉ [it, a] := fun z => by
      have cs : e = it ∨ e = a := by simpa using z
      exact cs.elim ne hea
    refine wpAny_pyNext_enum_itemD (drawsK hh k it a nea its.toArray) he ⟨h1, pa⟩ la ne nin fun v1 h' tk e1 he' g1 hT hsz kp => ?_
    have q1 : v1 = u := Option.some.inj (e1.symm.trans (by simpa using hu))
    subst q1
    refine ⟨_, rfl, wpAny_letOwnedTupleGo_enum (s := { s with heap := h', toks := tk + 1 }) he' fun h'' he'' sb => ?_⟩
    have hT2 : h''.get? s.heap.objs.size = some { cls := .type "tuple", data := .seq #[.int i tk, v1] } := (sb.2 _ (Nat.ne_of_gt elt)).trans hT
    have fresh : ObjOk X.prog X.w (upd H s.heap.objs.size (.tup [.int (i : Nat), x])) h'' s.heap.objs.size (.tup [.int (i : Nat), x]) :=
      ⟨by show 2 ≤ sizeLine; decide, [.int i tk, v1], .cons ⟨_, rfl⟩ (.cons ru .nil), ⟨_, hT2, rfl, _, rfl⟩⟩
    have I1 : Inv X pins σ (upd H s.heap.objs.size (.tup [.int (i : Nat), x])) { s with heap := h'', toks := tk + 1 } :=
      I.turnedNew (ch := [e, it]) (fun c o hb q => (sb.2 c (fun z => hb (by simp [z]))).trans (kp c o (fun z => hb (by simp [z])) (fun z => hb (by simp [z])) q)) hf (Nat.le_refl _) fresh
    refine ⟨.ref s.heap.objs.size, _, I1, rfl, ⟨_, x, rfl, I.hok.fresh (Nat.le_refl _), rfl, fun m hm => by rw [sqk_inj I hm qa]; exact hx⟩, ⟨⟨v1, ?_⟩, g1.1.at fun o q => (sb.2 _ (Ne.symm ne)).trans q, ne⟩, fun c hcm => ?_⟩
    · have ei : ((i + 1 : Nat) : Int) = (i : Int) + 1 := by omega
      rw [ei]
      exact he''
    · have lt : c < s.heap.objs.size := by
        have cs : c = e ∨ c = it := by simpa using hcm
        rcases cs with rfl | rfl
        · exact elt
        · obtain ⟨o, q, _⟩ := h1.obj; exact Heap.lt_size q
      rw [upd_ne (Nat.ne_of_lt lt)]
      exact (hf c hcm).1
  done := by
    intro X hP hw hK hc i pins s σ H E I hf st hg
    subst hP hw hK
    obtain ⟨⟨old, he⟩, h1, ne⟩ := st
    obtain ⟨xs, qa, le⟩ := hg
    obtain ⟨its, ra, pa, _⟩ := inv_sqk I qa
    have hh : X.A.in1.handled = none := I.ok.hd hc
    have e1 := ra.length
    have nea : a ≠ it := fun z => by
      obtain ⟨o, e1, n, d1⟩ := isK_le pa
      rw [z] at e1
      cases k with
      | true => obtain ⟨o2, e2, _, d2⟩ := h1; rw [e1] at e2; cases e2; rw [d1] at d2; cases d2
      | false => obtain ⟨o2, e2, _, d2⟩ := h1; rw [e1] at e2; cases e2; rw [d1] at d2; cases d2
    have ei : i = its.toArray.size := by
      rw [List.size_toArray]
      omega
    subst ei
    obtain ⟨f0, f1, f2, f3, f4, f5⟩ := hf it (by simp)
    exact wpAny_pyNext_enum_endD (drawsK hh k it a nea its.toArray) he ⟨h1, pa⟩ fun h' eb => ⟨rfl, I.turned (t' := s.toks) (fun b o hb q => eb b o hb q) f0 f1 f3 f4 f5⟩
  self := fun A i s Q E st h => by
    obtain ⟨⟨_, he⟩, _⟩ := st
    exact wpAny_pyIter_enum he h
def iEnumK (K : Frag) (ta : TA) : TI := fun σ H R => ta σ H fun vs H1 => ∃ k a xs, vs = [.ref a] ∧ SqK K H1 k a xs ∧ R (IteK K k a) H1
theorem pi_enumK {X : Cx} {e : Expr} {ta : TA} {p pos tpos : Pos} {elts : List Expr} {kk : Nat} (hg : Gl X "enumerate") (hm : X.mg "enumerate" = none) (ha : PA X [e] ta)
    (hs : starEach [e] X.env = [(false, eval e X.env)] := by rfl) : PI X (.Tuple elts kk tpos) (.Call (.Name "enumerate" p) [e] [] pos) (iEnumK X.K ta) := by
  refine ⟨fun pins s σ H R I h => Call_ (ld_blt I hg hm boot_enumerate (PyProof.Rows.callWith_type1 (thn (ha.run pos pins s σ H _ I h) fun us s1 ⟨vs, H1, I1, r1, q1⟩ => ?_) hs rfl))⟩
  obtain ⟨k, a, xs, rfl, qa, q⟩ := q1
  cases r1 with
  | cons r rr =>
    cases rr
    cases r
    obtain ⟨its, ra, pa, la⟩ := inv_sqk I1 qa
    refine call_enum1 (beginsK k a its.toArray) pa fun h' he g1 kp => wpAny_pyIter_enum he ?_
    have I2 : Inv X pins σ H1 { s1 with heap := h' } := I1.kept (t' := s1.toks) kp
    refine ⟨s1.heap.objs.size + 1, [s1.heap.objs.size + 1, s1.heap.objs.size], _, _, H1, rfl, I2, turn_enumK (Nat.ne_of_gt (Nat.lt_succ_of_lt la)), ⟨⟨_, he⟩, itK_new g1, Nat.succ_ne_self _⟩, fun c hcm => ?_, q⟩
    have cs : c = s1.heap.objs.size + 1 ∨ c = s1.heap.objs.size := by simpa using hcm
    have le : s1.heap.objs.size ≤ c := by
      rcases cs with rfl | rfl
      · exact Nat.le_add_right _ _
      · exact Nat.le_refl _
    exact I1.fpOk le (I1.hok.fresh le)
theorem for_enumK {K : Frag} {k : Bool} {a : Addr} {xs : List V} {g : TG} {tb : TS} {D : Ends} {σ : L2.St} {H : Hp} (Pv : Nat → L2.St → Hp → Prop) (h0 : Pv 0 σ H) (hq : ∀ i σ H, Pv i σ H → SqK K H k a xs)
    (hs : ∀ i x T σ H, xs[i]? = some x → Pv i σ H → H T = none → g (.ref T) σ (upd H T (.tup [.int (i : Nat), x])) fun σ2 H2 => tb { D with nx := Pv (i + 1), ct := Pv (i + 1), bk := D.nx } σ2 H2) (hd : ∀ σ H, Pv xs.length σ H → D.nx σ H) :
    ∃ W : Nat → Nat → L2.St → Hp → Prop, (∃ m, W 0 m σ H) ∧ ∀ i m σ H, W i m σ H →
      ((IteK K k a).stop i H ∧ D.nx σ H) ∨ ((IteK K k a).go i H ∧ ∃ N : L2.St → Hp → Prop, (∀ σ' H', N σ' H' → ∃ m', m' < m ∧ W (i + 1) m' σ' H') ∧ ∀ x H', (IteK K k a).yld i H x H' → g x σ H' fun σ2 H2 => tb { D with nx := N, ct := N, bk := D.nx } σ2 H2) := by
  refine ⟨fun i m σ H => m = xs.length - i ∧ i ≤ xs.length ∧ Pv i σ H, ⟨_, rfl, Nat.zero_le _, h0⟩, ?_⟩
  rintro i m σ H ⟨rfl, hi, p⟩
  have qa := hq i σ H p
  by_cases lt : i < xs.length
  · have hx : xs[i]? = some xs[i] := List.getElem?_eq_getElem lt
    refine .inr ⟨⟨xs, _, qa, hx⟩, Pv (i + 1), fun σ' H' p' => ⟨xs.length - (i + 1), by omega, rfl, lt, p'⟩, fun v H' yl => ?_⟩
    obtain ⟨T, x, rfl, hT, rfl, e1⟩ := yl
    exact hs i x T σ H (e1 xs qa) p hT
  · have e : i = xs.length := by omega
    subst e
    exact .inl ⟨⟨xs, qa, rfl⟩, hd σ H p⟩

/-! ### powers -/
def CPowX (i j : Int) : Prop := 0 ≤ j ∧ (Builtin.Int.intBits i : Int) * j ≤ 2 ^ 27
theorem op_powX {X : Cx} : OpR X (binaryOp .Pow) (rI CPowX fun i j => .int (i ^ j.toNat)) := opI fun _ _ _ _ _ _ _ hc q => pow_int hc.1 hc.2 q

/-! ### a written dict of ints -/
def KDi (K : Frag) (a : Addr) (kvs : List (Int × V)) : Prop := ∃ (es : Array DictEntry) (n : Nat), K.lookup a = some ⟨.type "dict", none, .dict es n, #[]⟩ ∧ (a == sysModules) = false ∧
  Paired (fun (p : Int × V) (e : DictEntry) => Value.isInt p.1 e.key = true ∧ e.hash = hashInt p.1 ∧ RelV p.2 e.val) kvs es.toList
theorem kdi_find {kvs : List (Int × V)} : ∀ {es : List DictEntry}, Paired (fun (p : Int × V) (e : DictEntry) => Value.isInt p.1 e.key = true ∧ e.hash = hashInt p.1 ∧ RelV p.2 e.val) kvs es → ∀ i : Int,
    match kvs.lookup i with
    | some v => ∃ u, (es.find? fun d => Value.isInt i d.key).map (·.val) = some u ∧ RelV v u
    | none => (es.find? fun d => Value.isInt i d.key).map (·.val) = none := by
  induction kvs with
  | nil =>
    intro es h i
    cases h
    rfl
  | cons p kvs ih =>
    intro es h i
    cases h with
    | cons h1 h2 =>
      rename_i e es
      obtain ⟨k1, _, k3⟩ := h1
      obtain ⟨t, ek⟩ := Value.isInt_shape k1
      rw [List.lookup_cons, List.find?_cons, ek]
      by_cases q : i = p.1
      · subst q
        rw [beq_self_eq_true]
        have z : Value.isInt p.1 (.int p.1 t) = true := by rw [← ek]; exact k1
        rw [z]
        exact ⟨_, rfl, k3⟩
      · have z : Value.isInt i (.int p.1 t) = false := by
          cases hz : Value.isInt i (.int p.1 t) with
          | false => rfl
          | true =>
            obtain ⟨t2, e2⟩ := Value.isInt_shape hz
            injection e2 with e3 _
            exact absurd e3.symm q
        have z2 : (i == p.1) = false := beq_eq_false_iff_ne.mpr q
        rw [z, z2]
        exact ih h2 i
theorem kdi_keys {kvs : List (Int × V)} : ∀ {es : List DictEntry}, Paired (fun (p : Int × V) (e : DictEntry) => Value.isInt p.1 e.key = true ∧ e.hash = hashInt p.1 ∧ RelV p.2 e.val) kvs es → ∀ e ∈ es, ∃ i, Value.isInt i e.key = true ∧ e.hash = hashInt i := by
  induction kvs with
  | nil =>
    intro es h e he
    cases h
    cases he
  | cons p kvs ih =>
    intro es h e he
    cases h with
    | cons h1 h2 =>
      rcases List.mem_cons.mp he with rfl | he
      · exact ⟨p.1, h1.1, h1.2.1⟩
      · exact ih h2 e he
section
variable {X : Cx}
theorem kdi_map {kvs : List (Int × V)} {a : Addr} {h : Heap} (kin : X.K.In h) (d : KDi X.K a kvs) : ∃ f : Int → Option Value, h.MapOf (PySem.intKind X.prog X.w) a f ∧ (a == sysModules) = false ∧
    ∀ i, match kvs.lookup i with
      | some v => ∃ u, f i = some u ∧ RelV v u
      | none => f i = none := by
  obtain ⟨es, n, lk, low, pr⟩ := d
  refine ⟨fun i => findBy Value.isInt es i, ⟨_, es, n, kin _ _ lk, ⟨rfl, rfl, rfl⟩, rfl, fun e he => kdi_keys pr e (Array.mem_toList_iff.mpr he), fun _ => rfl⟩, low, fun i => ?_⟩
  have q := kdi_find pr i
  obtain ⟨l⟩ := es
  unfold findBy
  have key : ∀ g : DictEntry → Bool, Array.find? g (⟨l⟩ : Array DictEntry) = l.find? g := fun g => List.find?_toArray ..
  simp only [key]
  exact q
def rIxI (K : Frag) : R2 := fun x y H Q => ∃ p i v kvs, x = .ref p ∧ y = .int i ∧ KDi K p kvs ∧ kvs.lookup i = some v ∧ Q v H
theorem ix_kdi : IxR X (rIxI X.K) := by
  intro value slice pins s σ H x y v u Q I rx ry h hs
  obtain ⟨p, i, r, kvs, rfl, rfl, kd, lk, q⟩ := h
  obtain rfl : v = Value.ref p := rx
  obtain ⟨t, rfl⟩ := ry
  obtain ⟨f, hm, low, hf⟩ := kdi_map I.kIn kd
  have hi := hf i
  rw [lk] at hi
  obtain ⟨w, e, rw'⟩ := hi
  exact tail_any hm.typeIs slot_dict_getitem.lookup (wpAny_getItem_of (show (PySem.intKind X.prog X.w).is i (.int i t) = true by simp [PySem.intKind, Value.isInt]) hm e ⟨r, H, I.tok _, rw', q⟩) hs
def rInI (K : Frag) : R2 := fun x y H Q => ∃ p i kvs, x = .int i ∧ y = .ref p ∧ KDi K p kvs ∧ Q (.bl (kvs.lookup i).isSome) H
theorem op_inI : OpR X (compareOp .In) (rInI X.K) := by
  intro pins s σ H x y v u Q I rx ry h
  obtain ⟨p, i, kvs, rfl, rfl, kd, q⟩ := h
  obtain rfl : u = Value.ref p := ry
  obtain ⟨t, rfl⟩ := rx
  obtain ⟨f, hm, low, hf⟩ := kdi_map I.kIn kd
  have hi := hf i
  refine wpAny_in_of (show (PySem.intKind X.prog X.w).is i (.int i t) = true by simp [PySem.intKind, Value.isInt]) low hm ?_
  cases e : kvs.lookup i with
  | none =>
    rw [e] at hi q
    rw [hi]
    exact ⟨.bl _, H, I.tok _, rfl, q⟩
  | some r =>
    rw [e] at hi q
    obtain ⟨z, e2, _⟩ := hi
    rw [e2]
    exact ⟨.bl _, H, I.tok _, rfl, q⟩

/-! ### o.f as a target -/
def gAtt (K : Frag) (ta : TE) (f : Str) : TG := fun v σ H Q => ta σ H fun x H1 => ∃ a C dx fs, x = .ref a ∧ H1 a = some (.ins C dx fs) ∧ Cls K C ∧ NoAttr K C f ∧ fs.length < 1000 ∧ Q σ (upd H1 a (.ins C dx (putF f v fs)))
theorem pg_att {o : Expr} {ta : TE} {f : Str} {pos : Pos} (ho : PE X o ta)
    (ha : ∀ v, assign (.Attribute o f pos) X.env v = (do
      let ov ← holding [v] (eval o X.env)
      standAt pos
      holding [v, ov] (setAttr ov f v)
      release [v, ov] []) := by intro _; rfl) : PG X (.Attribute o f pos) (gAtt X.K ta f) := by
  refine ⟨fun pins s σ H v u Q I r h => ?_⟩
  rw [ha]
  refine wpAny_bind (wpAny_holding (thn (ho.run pins s σ H _ I h) fun ov s1 ⟨x, H1, I1, r1, a, C, dx, fs, ex, ea, c, n, l, q⟩ => ?_))
  subst ex
  obtain rfl : ov = Value.ref a := r1
  refine wpAny_bind (wpAny_standAt (wpAny_bind (wpAny_holding (setattr_ok I1 ea c n l r fun s2 I2 => ?_))))
  exact wpAny_release ⟨σ, _, I2, q⟩
end
end OB

set_option Elab.async false
set_option linter.all false
set_option maxRecDepth 100000
set_option maxHeartbeats 4000000
/-! OB, part e: a reading gone through step by step. -/
namespace OB
open PySem PySem.Spec PyProof.Rows L2 PySem.W
def rInt : List V → Hp → VK → Prop := fun xs H Q => (∃ i, xs = [.int i] ∧ Q (.int i) H) ∨ ∃ k, xs = [.bl k] ∧ Q (.int (if k then 1 else 0)) H
def rAbs : List V → Hp → VK → Prop := fun xs H Q => ∃ i, xs = [.int i] ∧ Q (.int (if i < 0 then -i else i)) H
def rMax2 : List V → Hp → VK → Prop := fun xs H Q => ∃ i j, xs = [.int i, .int j] ∧ Q (.int (if j > i then j else i)) H
def rMin2 : List V → Hp → VK → Prop := fun xs H Q => ∃ i j, xs = [.int i, .int j] ∧ Q (.int (if j < i then j else i)) H
def rLen (K : Frag) : List V → Hp → VK → Prop := fun xs H Q => ∃ p ys, xs = [.ref p] ∧ (SqL K H p ys ∨ SqT K H p ys) ∧ Q (.int ys.length) H
def rTuple (K : Frag) : List V → Hp → VK → Prop := fun xs H Q => ∃ p ys, xs = [.ref p] ∧ ((SqL K H p ys ∧ ∀ l, H l = none → Q (.ref l) (upd H l (.tup ys))) ∨ (SqT K H p ys ∧ Q (.ref p) H))
def rList (K : Frag) : List V → Hp → VK → Prop := fun xs H Q => ∃ p ys, xs = [.ref p] ∧ (SqL K H p ys ∨ SqT K H p ys) ∧ ∀ l, H l = none → Q (.ref l) (upd H l (.lst ys))
def rDivmod : List V → Hp → VK → Prop := fun xs H Q => ∃ i j, xs = [.int i, .int j] ∧ CDivP i j ∧ ∀ p, H p = none → Q (.ref p) (upd H p (.tup [.int (i / j), .int (i % j)]))
def rNewT (xs : List V) (H : Hp) (Q : VK) : Prop := xs.length ≤ sizeLine ∧ ∀ p, H p = none → Q (.ref p) (upd H p (.tup xs))
def rNewL (xs : List V) (H : Hp) (Q : VK) : Prop := xs.length ≤ sizeLine ∧ ∀ p, H p = none → Q (.ref p) (upd H p (.lst xs))
def rFld (K : Frag) (f : Str) (x : V) (H : Hp) (Q : VK) : Prop := ∃ a C dx fs v, x = .ref a ∧ H a = some (.ins C dx fs) ∧ Cls K C ∧ NoAttr K C f ∧ fs.lookup f = some v ∧ Q v H
def rPut (K : Frag) (f : Str) (v x : V) (H : Hp) (QH : Hp → Prop) : Prop := ∃ a C dx fs, x = .ref a ∧ H a = some (.ins C dx fs) ∧ Cls K C ∧ NoAttr K C f ∧ fs.length < 1000 ∧ QH (upd H a (.ins C dx (putF f v fs)))
section
variable {X : Cx}
theorem c_int : CallR X (.type "int") rInt := call_int1
theorem c_abs : CallR X (.builtin "abs") rAbs := call_abs
theorem c_max (hc : X.calm = true) : CallR X (.builtin "max") rMax2 := call_max2 hc
theorem c_min (hc : X.calm = true) : CallR X (.builtin "min") rMin2 := call_min2 hc
theorem c_len : CallR X (.builtin "len") (OB.rLen X.K) := call_len_seq
theorem c_tuple : CallR X (.type "tuple") (rTuple X.K) := call_tuple_of
theorem c_list : CallR X (.type "list") (rList X.K) := call_list_of
theorem c_divmod : CallR X (.builtin "divmod") rDivmod := call_divmodW
end
section
variable {K : Frag} {F : List (Addr × HO)} {G : List Ft} {σ : L2.St} {H : Hp} {Q : VK} {D : Ends} {v x y : V} {vs ws zs : List V} {i j n m : Nat} {a b c : Int} {p q : Bool} {P R : Prop}
  {ta tb tc te tv : TE} {t tk : TA} {tt u : TT} {t1 t2 : TS} {r r' : R2} {rc : List V → Hp → VK → Prop} {ru : V → Hp → VK → Prop} {rm : V → List V → Hp → VK → Prop} {sp : Sp} {E : XK} {ix : List Nat} {ad : Addr} {mn : Str} {T : String}
  {QB : Bool → Hp → Prop} {QL : List V → Hp → Prop} {QS : L2.St → Hp → Prop} {tg : TG} {tgs : TGs} {QI : It → Hp → Prop} {g : Int → Int → V} {C : Int → Int → Prop} {ds : List PyData} {d e : PyData}
/-! expressions -/
theorem g_start {ts : TS} {τ : L2.St} (e : τ = σ) (k : ts D σ H) : ts D τ H := e ▸ k
theorem g_var (h : σ[i]? = some (some v)) (k : Q v H) : tVar i σ H Q := ⟨v, h, k⟩
theorem g_c (k : Q v H) : tC v σ H Q := k
theorem g_op (k : ta σ H fun x H1 => tb σ H1 fun y H2 => r x y H2 Q) : tOp r ta tb σ H Q := k
theorem g_un (k : ta σ H fun x H1 => ru x H1 Q) : tUn ru ta σ H Q := k
theorem g_nil (k : QL [] H) : tNil σ H QL := k
theorem g_cons (k : ta σ H fun x H1 => t σ H1 fun xs H2 => QL (x :: xs) H2) : tCons ta t σ H QL := k
theorem g_cb (k : t σ H fun vs H1 => rc vs H1 Q) : tCB rc t σ H Q := k
theorem g_if (k : tt σ H fun c H1 => if c = true then ta σ H1 Q else tb σ H1 Q) : tIf tt ta tb σ H Q := k
theorem g_andV (k : ta σ H fun x H1 => ∃ c, x = .bl c ∧ if c = true then tb σ H1 Q else Q (.bl false) H1) : tAndV ta tb σ H Q := k
theorem g_orV (k : ta σ H fun x H1 => ∃ c, x = .bl c ∧ if c = true then Q (.bl true) H1 else tb σ H1 Q) : tOrV ta tb σ H Q := k
theorem g_notV (k : ta σ H fun x H1 => ∃ c, x = .bl c ∧ Q (.bl (!c)) H1) : tNotV ta σ H Q := k
theorem g_chain (k : ta σ H fun x H1 => tb σ H1 fun y H2 => r x y H2 fun z H3 => ∃ k, z = .bl k ∧ (if k = true then tc σ H3 fun w H4 => r' y w H4 Q else Q (.bl false) H3)) : tChain r r' ta tb tc σ H Q := k
theorem g_tup (k : t σ H fun xs H1 => rNewT xs H1 Q) : tTup t σ H Q := k
theorem g_lst (k : t σ H fun xs H1 => rNewL xs H1 Q) : tLst t σ H Q := k
theorem g_cg (k : t σ H fun vs H1 => tk σ H1 fun zs H2 => vs.length = n ∧ zs.length = m ∧ sp (pick ix (vs ++ zs)) H2 Q E) : tCg n m ix sp E t tk σ H Q := k
theorem g_mg (k : ta σ H fun x H1 => ∃ a dx fs, x = .ref a ∧ H1 a = some (.ins ad dx fs) ∧ fs.lookup mn = none ∧
  t σ H1 fun vs H2 => tk σ H2 fun zs H3 => (x :: vs).length = n ∧ zs.length = m ∧ sp (pick ix ((x :: vs) ++ zs)) H3 Q E) : tMg ad mn n m ix sp E ta t tk σ H Q := k
theorem g_kg (k : t σ H fun vs H1 => tk σ H1 fun zs H2 => vs.length + 1 = n ∧ zs.length = m ∧
  ∀ x dx, H2 x = none → H2 dx = none → dx ≠ x → sp (pick ix ((.ref x :: vs) ++ zs)) (upd (upd H2 dx (.own x)) x (.ins ad dx [])) (fun v H3 => v = .non ∧ Q (.ref x) H3) E) : tKg ad n m ix sp E t tk σ H Q := k
theorem g_pg (k : ta σ H fun y H1 => ∃ a dx fs, y = .ref a ∧ H1 a = some (.ins ad dx fs) ∧ sp [.ref a] H1 Q E) : tPg ad sp E ta σ H Q := k
theorem g_bm (k : ta σ H fun x H1 => tyV K T x H1 ∧ t σ H1 fun xs H2 => rm x xs H2 Q) : tBM K T rm ta t σ H Q := k
theorem g_bm0 (k : ta σ H fun x H1 => tyV K T x H1 ∧ rm x [] H1 Q) : tBM0 K T rm ta σ H Q := k
theorem g_fld {f : Str} (k : ta σ H fun x H1 => rFld K f x H1 Q) : tFld K ta f σ H Q := k
theorem g_sl {rs : V → Option Int → Option Int → Hp → VK → Prop} {tl th : TO} (k : te σ H fun x H1 => tl σ H1 fun l H2 => th σ H2 fun u H3 => rs x l u H3 Q) : tSl rs te tl th σ H Q := k
theorem g_nopart {QO : Option Int → Hp → Prop} (k : QO none H) : tNoPart σ H QO := k
theorem g_part {QO : Option Int → Hp → Prop} (k : te σ H fun x H1 => ∃ i, x = .int i ∧ QO (some i) H1) : tPart te σ H QO := k
theorem g_pint {a : Int} {f : Int → Prop} (k : f a) : ∃ i, V.int a = .int i ∧ f i := ⟨a, rfl, k⟩
theorem g_star (k : te σ H fun x H1 => ∃ p xs, x = V.ref p ∧ (SqT K H1 p xs ∨ SqL K H1 p xs) ∧ t σ H1 fun ys H2 => QL (xs ++ ys) H2) : StX.tStar K te t σ H QL := k
/-! tests -/
theorem g_test (k : te σ H fun x H' => ∃ k, x = .bl k ∧ QB k H') : tTest te σ H QB := k
theorem g_B (k : te σ H fun x H' => ∃ k, x = .bl k ∧ QB k H') : tB te σ H QB := k
theorem g_and (k : tt σ H fun c H1 => if c = true then u σ H1 QB else QB false H1) : tAnd tt u σ H QB := k
theorem g_or (k : tt σ H fun c H1 => if c = true then QB true H1 else u σ H1 QB) : tOr tt u σ H QB := k
theorem g_not (k : tt σ H fun c H1 => QB (!c) H1) : tNot tt σ H QB := k
theorem g_yes (k : QB true H) : tYes σ H QB := k
theorem g_bl (k : QB p H) : ∃ c, V.bl p = .bl c ∧ QB c H := ⟨p, rfl, k⟩
theorem g_blx {f : Bool → Prop} (k : f p) : ∃ c, V.bl p = .bl c ∧ f c := ⟨p, rfl, k⟩
/-! statements -/
theorem g_seq (k : t1 { D with nx := t2 D } σ H) : tSeq t1 t2 D σ H := k
theorem g_asg (k : te σ H fun x H1 => tg x σ H1 D.nx) : tAsg te tg D σ H := k
theorem g_name (k : QS (σ.set i (some v)) H) : gName i v σ H QS := k
theorem g_drop (k : te σ H fun _ H1 => D.nx σ H1) : tDrop te D σ H := k
theorem g_ret (k : te σ H D.rt) : tRet te D σ H := k
theorem g_retN (k : D.rt .non H) : tRetN D σ H := k
theorem g_ifS (k : tt σ H fun b H1 => if b = true then t1 D σ H1 else t2 D σ H1) : tIfS tt t1 t2 D σ H := k
theorem g_next (k : D.nx σ H) : tNext D σ H := k
theorem g_cont (k : D.ct σ H) : tCont D σ H := k
theorem g_break (k : D.bk σ H) : tBreak D σ H := k
theorem g_par (k : t σ H fun vs H1 => ∃ v w, vs = [v, w] ∧ D.nx ((σ.set i (some v)).set j (some w)) H1) : tPar i j t D σ H := k
theorem g_par2 {N : V → V → Prop} (k : N x y) : ∃ v w, [x, y] = [v, w] ∧ N v w := ⟨x, y, rfl, k⟩
theorem g_par3 {l : Nat} (k : t σ H fun vs H1 => ∃ u v w, vs = [u, v, w] ∧ D.nx (((σ.set i (some u)).set j (some v)).set l (some w)) H1) : tPar3 i j l t D σ H := k
theorem g_par33 {z : V} {N : V → V → V → Prop} (k : N x y z) : ∃ u v w, [x, y, z] = [u, v, w] ∧ N u v w := ⟨x, y, z, rfl, k⟩
theorem g_aug {ti : TIp} (h : σ[i]? = some (some v)) (k : te σ H fun y H1 => ti v y H1 fun z H2 => D.nx (σ.set i (some z)) H2) : tAug i te ti D σ H := ⟨v, h, k⟩
theorem g_gnil (k : QS σ H) : gNil [] σ H QS := ⟨rfl, k⟩
theorem g_gcons (k : tg v σ H fun σ' H' => tgs vs σ' H' QS) : gCons tg tgs (v :: vs) σ H QS := ⟨v, vs, rfl, k⟩
theorem g_nx {A B C : L2.St → Hp → Prop} {R : VK} (k : A σ H) : Ends.nx ⟨A, R, B, C⟩ σ H := k
theorem g_rt {A B C : L2.St → Hp → Prop} {R : VK} (k : R v H) : Ends.rt ⟨A, R, B, C⟩ v H := k
theorem g_bk {A B C : L2.St → Hp → Prop} {R : VK} (k : B σ H) : Ends.bk ⟨A, R, B, C⟩ σ H := k
theorem g_ct {A B C : L2.St → Hp → Prop} {R : VK} (k : C σ H) : Ends.ct ⟨A, R, B, C⟩ σ H := k
/-! operators by values -/
theorem g_I0 (k : Q (g a b) H) : rI0 g (.int a) (.int b) H Q := ⟨a, b, rfl, rfl, k⟩
theorem g_I (h : C a b) (k : Q (g a b) H) : rI C g (.int a) (.int b) H Q := ⟨a, b, rfl, rfl, h, k⟩
theorem g_U {f : Int → V} (k : Q (f a) H) : rU f (.int a) H Q := ⟨a, rfl, k⟩
theorem g_ipI {f : Int → Int → Int} (k : Q (.int (f a b)) H) : ipI f (.int a) (.int b) H Q := ⟨a, b, rfl, rfl, k⟩
theorem g_rAdd (k : Q (.int (a + b)) H) : L2.rAdd (.int a) (.int b) H Q := ⟨a, b, rfl, rfl, k⟩
theorem g_rSub (k : Q (.int (a - b)) H) : L2.rSub (.int a) (.int b) H Q := ⟨a, b, rfl, rfl, k⟩
theorem g_eqI (k : Q (.bl (decide (a = b))) H) : rEq (.int a) (.int b) H Q := ⟨rfl, by
  have e : decide (V.int a = V.int b) = decide (a = b) := by simp
  rw [e]
  exact k⟩
theorem g_neI (k : Q (.bl (decide (a ≠ b))) H) : rNe (.int a) (.int b) H Q := ⟨rfl, by
  have e : (!decide (V.int a = V.int b)) = decide (a ≠ b) := by simp
  rw [e]
  exact k⟩
theorem g_eqS {s z : Str} (k : Q (.bl (decide (s = z))) H) : rEq (.str s) (.str z) H Q := ⟨rfl, by
  have e : decide (V.str s = V.str z) = decide (s = z) := by simp
  rw [e]
  exact k⟩
theorem g_neS {s z : Str} (k : Q (.bl (decide (s ≠ z))) H) : rNe (.str s) (.str z) H Q := ⟨rfl, by
  have e : (!decide (V.str s = V.str z)) = decide (s ≠ z) := by simp
  rw [e]
  exact k⟩
theorem g_ite (h1 : p = true → P) (h2 : p = false → R) : if p = true then P else R := by
  cases p with
  | true => rw [if_pos rfl]; exact h1 rfl
  | false => rw [if_neg Bool.false_ne_true]; exact h2 rfl
theorem g_iteD {A : Prop} [Decidable A] (h1 : A → P) (h2 : ¬ A → R) : if decide A = true then P else R := by
  by_cases h : A
  · rw [if_pos (decide_eq_true h)]; exact h1 h
  · rw [if_neg (by rw [decide_eq_false h]; exact Bool.false_ne_true)]; exact h2 h
theorem g_T (h : p = true) (k : P) : if p = true then P else R := by rw [if_pos h]; exact k
theorem g_F (h : p = false) (k : R) : if p = true then P else R := by rw [if_neg (by rw [h]; exact Bool.false_ne_true)]; exact k
theorem g_TD {A : Prop} [Decidable A] (h : A) (k : P) : if decide A = true then P else R := g_T (decide_eq_true h) k
theorem g_FD {A : Prop} [Decidable A] (h : ¬ A) (k : R) : if decide A = true then P else R := g_F (decide_eq_false h) k
theorem g_tt (k : P) : if true = true then P else R := g_T rfl k
theorem g_ff (k : R) : if false = true then P else R := g_F rfl k
/-! built-in functions by values -/
theorem g_int (k : Q (.int a) H) : rInt [.int a] H Q := .inl ⟨a, rfl, k⟩
theorem g_intB (k : Q (.int (if p then 1 else 0)) H) : rInt [.bl p] H Q := .inr ⟨p, rfl, k⟩
theorem g_abs (k : Q (.int (if a < 0 then -a else a)) H) : rAbs [.int a] H Q := ⟨a, rfl, k⟩
theorem g_max (k : Q (.int (if b > a then b else a)) H) : rMax2 [.int a, .int b] H Q := ⟨a, b, rfl, k⟩
theorem g_min (k : Q (.int (if b < a then b else a)) H) : rMin2 [.int a, .int b] H Q := ⟨a, b, rfl, k⟩
theorem g_lenL {l : Addr} (h : SqL K H l vs) (k : Q (.int vs.length) H) : OB.rLen K [.ref l] H Q := ⟨l, vs, rfl, .inl h, k⟩
theorem g_lenT {l : Addr} (h : SqT K H l vs) (k : Q (.int vs.length) H) : OB.rLen K [.ref l] H Q := ⟨l, vs, rfl, .inr h, k⟩
theorem g_divmod (S : Sy K F G H) (h : CDivP a b) (k : ∀ p H', H p = none → Sy K F (.dat [.ref p] [.tuple [.int (a / b), .int (a % b)]] :: G) H' → Q (.ref p) H') : rDivmod [.int a, .int b] H Q :=
  ⟨a, b, rfl, h, fun p hp => k p _ hp (S.lay hp (.cons (.int _) (.cons (.int _) .nil)) rfl)⟩
/-! what stands -/
theorem g_ixL {l : Addr} (h : SqL K H l vs) (e : atI vs a = some v) (k : Q v H) : rIxL K (.ref l) (.int a) H Q := ⟨l, vs, a, v, rfl, rfl, h, e, k⟩
theorem g_ixT {l : Addr} (h : SqT K H l vs) (e : atI vs a = some v) (k : Q v H) : rIxT K (.ref l) (.int a) H Q := ⟨l, vs, a, v, rfl, rfl, h, e, k⟩
theorem g_setL {l : Addr} {QH : Hp → Prop} (h : H l = some (.lst vs)) (e : ixN vs.length a = some j) (k : QH (upd H l (.lst (vs.set j v)))) : rSetL (.ref l) (.int a) v H QH := ⟨l, vs, a, j, rfl, rfl, h, e, k⟩
theorem g_gsub {ts : TSet} {to ti : TE} (k : to σ H fun o H1 => ti σ H1 fun i H2 => ts o i v H2 fun H3 => QS σ H3) : gSub to ti ts v σ H QS := k
/-- a new tuple of data -/
theorem g_newT (S : Sy K F G H) (hd : DpAll K H vs ds) (hi : immAll ds = true) (hl : vs.length ≤ 100000) (k : ∀ p H', H p = none → Sy K F (.dat [.ref p] [.tuple ds] :: G) H' → Q (.ref p) H') :
    rNewT vs H Q :=
  ⟨Nat.le_trans hl (by decide), fun p hp => k p _ hp (S.lay hp hd hi)⟩
/-- a new list -/
theorem g_newL (S : Sy K F G H) (hl : vs.length ≤ 100000) (k : ∀ p H', H p = none → Sy K ((p, .lst vs) :: F) G H' → Q (.ref p) H') :
    rNewL vs H Q :=
  ⟨Nat.le_trans hl (by decide), fun p hp => k p _ hp (S.push hp)⟩
/-- a call -/
theorem g_call (h1 : vs.length = n) (h2 : zs.length = m) (k : sp (pick ix (vs ++ zs)) H Q E) : vs.length = n ∧ zs.length = m ∧ sp (pick ix (vs ++ zs)) H Q E := ⟨h1, h2, k⟩
/-- data unpacked -/
theorem g_unp {l : Addr} (S : Sy K F G H) (h : Dp K H (.ref l) (.tuple ds)) (m : immAll ds = true) (hl : ds.length = n) (k : ∀ xs, DpAll K H xs ds → Sy K F (.dat xs ds :: G) H → tgs xs σ H QS) : gTup K n tgs (.ref l) σ H QS := by
  obtain ⟨a, xs, e, h1, h2⟩ := dp_tuple h
  cases e
  exact ⟨l, xs, rfl, h1, (dps_length h2).trans hl, k xs h2 (S.fact h2 m)⟩
theorem g_unpT {l : Addr} (h : SqT K H l vs) (hl : vs.length = n) (k : tgs vs σ H QS) : gTup K n tgs (.ref l) σ H QS := ⟨l, vs, rfl, h, hl, k⟩
/-- a pair that an iterator has just made -/
theorem g_pair {l : Addr} (S : Sy K F G H) (hl : H l = none) (k : ∀ H', Sy K F (.tq l [x, y] :: G) H' → tgs [x, y] σ H' QS) : gTup K 2 tgs (.ref l) σ (upd H l (.tup [x, y])) QS :=
  g_unpT (.inl (.inl upd_same)) rfl (k _ ((S.over hl).add (.tq l [x, y]) (.inl (.inl upd_same))))
theorem g_neN {a b : Nat} (h : a = b) (k : R) : if decide ((a : Int) ≠ (b : Int)) = true then P else R := g_FD (fun z => z (by rw [h])) k
theorem g_neN' {a : Nat} {c : Int} (h : (a : Int) = c) (k : R) : if decide ((a : Int) ≠ c) = true then P else R := g_FD (fun z => z h) k
/-- append, extend -/
theorem g_app {l : Addr} (h : H l = some (.lst vs)) (hl : vs.length < 100000) (k : Q .non (upd H l (.lst (vs ++ [v])))) : rAppend (.ref l) [v] H Q := ⟨l, vs, v, rfl, rfl, h, Nat.lt_of_lt_of_le hl (by decide), k⟩
theorem g_ext {l o : Addr} (h : H l = some (.lst vs)) (h2 : H o = some (.lst ws)) (hl : vs.length + ws.length ≤ 100000) (k : Q .non (upd H l (.lst (vs ++ ws)))) : rExtend (.ref l) [.ref o] H Q := ⟨l, o, vs, ws, rfl, rfl, h, h2, Nat.le_trans hl (by decide), k⟩
/-- the same, what stands carried on -/
theorem g_setLS {l : Addr} {QH : Hp → Prop} {f : Nat} (S : Sy K F G H) (h : F[f]? = some (l, .lst vs)) (e : ixN vs.length a = some j) (k : ∀ H', Sy K (F.set f (l, .lst (vs.set j v))) G H' → (F.set f (l, .lst (vs.set j v)))[f]? = some (l, .lst (vs.set j v)) → QH H') : rSetL (.ref l) (.int a) v H QH :=
  g_setL (S.at f h) e (k _ (S.put f h rfl) (List.getElem?_set_self (List.getElem?_eq_some_iff.mp h).1))
theorem g_appS {l : Addr} {f : Nat} (S : Sy K F G H) (h : F[f]? = some (l, .lst vs)) (hl : vs.length < 100000) (k : ∀ H', Sy K (F.set f (l, .lst (vs ++ [v]))) G H' → Q .non H') : rAppend (.ref l) [v] H Q :=
  g_app (S.at f h) hl (k _ (S.put f h rfl))
theorem g_extS {l o : Addr} {f : Nat} (S : Sy K F G H) (h : F[f]? = some (l, .lst vs)) (h2 : H o = some (.lst ws)) (hl : vs.length + ws.length ≤ 100000) (k : ∀ H', Sy K (F.set f (l, .lst (vs ++ ws))) G H' → Q .non H') : rExtend (.ref l) [.ref o] H Q :=
  g_ext (S.at f h) h2 hl (k _ (S.put f h rfl))
theorem g_fldS {l : Addr} {f : Str} {C dx : Addr} {fs : List (Str × V)} (h : H l = some (.ins C dx fs)) (c : Cls K C) (n : NoAttr K C f) (e : fs.lookup f = some v) (k : Q v H) :
    rFld K f (.ref l) H Q := ⟨l, C, dx, fs, v, rfl, h, c, n, e, k⟩
theorem g_att {f : Str} (k : ta σ H fun x H1 => rPut K f v x H1 fun H2 => QS σ H2) : gAtt K ta f v σ H QS := k
theorem g_sfld {f : Str} (k : tv σ H fun y H1 => ta σ H1 fun x H2 => rPut K f y x H2 fun H3 => D.nx σ H3) : sFld K ta tv f D σ H := k
theorem g_attS {l : Addr} {f : Str} {C dx : Addr} {fs : List (Str × V)} {i : Nat} {QH : Hp → Prop} (S : Sy K F G H) (h : F[i]? = some (l, .ins C dx fs)) (c : Cls K C) (n : NoAttr K C f) (hl : fs.length < 1000) (k : ∀ H', Sy K (F.set i (l, .ins C dx (putF f v fs))) G H' → (F.set i (l, .ins C dx (putF f v fs)))[i]? = some (l, .ins C dx (putF f v fs)) → QH H') :
    rPut K f v (.ref l) H QH :=
  ⟨l, C, dx, fs, rfl, S.at i h, c, n, hl, k _ (S.put i h rfl) (List.getElem?_set_self (List.getElem?_eq_some_iff.mp h).1)⟩
def rAugE (C a : Addr) (f : Str) (z : V) (H : Hp) (QH : Hp → Prop) : Prop := ∃ dx' fs', H a = some (.ins C dx' fs') ∧ fs'.length < 1000 ∧ QH (upd H a (.ins C dx' (putF f z fs')))
def rAugF (K : Frag) (f : Str) (x : V) (H : Hp) (R : Addr → Addr → V → Prop) : Prop := ∃ a C dx fs v, x = .ref a ∧ H a = some (.ins C dx fs) ∧ Cls K C ∧ NoAttr K C f ∧ fs.lookup f = some v ∧ R C a v
theorem g_faug {f : Str} {ta tv : TE} {rd : V → V → Hp → VK → Prop} (k : ta σ H fun x H1 => rAugF K f x H1 fun C a v => tv σ H1 fun y H2 => rd v y H2 fun z H3 => rAugE C a f z H3 fun H4 => D.nx σ H4) : sFldAug K ta tv rd f D σ H := k
theorem g_augS {l : Addr} {f : Str} {C dx : Addr} {fs : List (Str × V)} {R : Addr → Addr → V → Prop} (h : H l = some (.ins C dx fs)) (c : Cls K C) (n : NoAttr K C f) (e : fs.lookup f = some v) (k : R C l v) : rAugF K f (.ref l) H R := ⟨l, C, dx, fs, v, rfl, h, c, n, e, k⟩
theorem g_augE {l : Addr} {f : Str} {C dx : Addr} {fs : List (Str × V)} {i : Nat} {QH : Hp → Prop} (S : Sy K F G H) (h : F[i]? = some (l, .ins C dx fs)) (hl : fs.length < 1000) (k : ∀ H', Sy K (F.set i (l, .ins C dx (putF f v fs))) G H' → (F.set i (l, .ins C dx (putF f v fs)))[i]? = some (l, .ins C dx (putF f v fs)) → QH H') : rAugE C l f v H QH :=
  ⟨dx, fs, S.at i h, hl, k _ (S.put i h rfl) (List.getElem?_set_self (List.getElem?_eq_some_iff.mp h).1)⟩
theorem g_tyl {l : Addr} (h : SqL K H l vs) (k : P) : tyV K "list" (.ref l) H ∧ P := ⟨.inl ⟨rfl, _, h⟩, k⟩
theorem g_tup0 {l : Addr} (S : Sy K F G H) (h : SqL K H l vs) (hd : DpAll K H vs ds) (hi : immAll ds = true) (k : ∀ p H', H p = none → Sy K F (.dat [.ref p] [.tuple ds] :: G) H' → Q (.ref p) H') :
    rTuple K [.ref l] H Q :=
  ⟨l, vs, rfl, .inl ⟨h, fun p hp => k p _ hp (S.lay hp hd hi)⟩⟩
theorem g_sum {l : Addr} {ns : List Int} (h : SqL K H l (ns.map V.int)) (k : Q (.int ns.sum) H) : rSum K [.ref l] H Q := ⟨l, ns, rfl, h, k⟩
theorem g_all {l : Addr} {bs : List Bool} (h : SqL K H l (bs.map V.bl)) (k : Q (.bl (bs.all id)) H) : rAll K [.ref l] H Q := ⟨l, bs, rfl, h, k⟩
theorem g_repr (h : Dp K H v d) (s : d.showable = true) (hn : d.hasDict = false) (hd : d.depth ≤ 60) (hl : d.shown.length ≤ sizeLine) (k : Q (.str d.shown) H) : rRepr K [v] H Q := ⟨v, d, rfl, h, s, hn, hd, hl, k⟩
end
/-! any subscript -/
def rIxU (K : Frag) : R2 := fun x y H Q => rIxL K x y H Q ∨ rIxT K x y H Q ∨ rIxI K x y H Q ∨ rIxS x y H Q
theorem ix_U {X : Cx} : IxR X (rIxU X.K) := by
  intro value slice pins s σ H x y v u Q I rx ry h hs
  rcases h with h | h | h | h
  · exact ix_list value slice pins s σ H x y v u Q I rx ry h hs
  · exact ix_tup value slice pins s σ H x y v u Q I rx ry h hs
  · exact ix_kdi value slice pins s σ H x y v u Q I rx ry h hs
  · exact ix_str value slice pins s σ H x y v u Q I rx ry h hs
/-- any slice -/
def rSlU (K : Frag) : V → Option Int → Option Int → Hp → VK → Prop := fun x lo hi H Q => rSlA K x lo hi H Q ∨ rSlL K x lo hi H Q
theorem sl_U {X : Cx} : SlR X (rSlU X.K) := by
  intro pins s σ H x v vl vu lo hi sl Q I rx hs pl pu h
  rcases h with h | h
  · exact sl_tupA pins s σ H x v vl vu lo hi sl Q I rx hs pl pu h
  · exact sl_list pins s σ H x v vl vu lo hi sl Q I rx hs pl pu h
theorem pg_tupK {X : Cx} {K : Frag} (hK : X.K = K) {es : List Expr} {k pos : _} {t : TGs} {n : Nat} (hc : X.calm = true) (h : PGs X es t)
    (hn : (assignEach es X.env).length = n := by rfl) (hst : (assignEach es X.env).findIdx? (·.1) = none := by rfl) : PG X (.Tuple es k pos) (gTup K n t) := hK ▸ pg_tup hc h hn hst
theorem ix_UK {X : Cx} {K : Frag} (h : X.K = K) : IxR X (rIxU K) := h ▸ ix_U
theorem sl_UK {X : Cx} {K : Frag} (h : X.K = K) : SlR X (rSlU K) := h ▸ sl_U
theorem toK {X : Cx} {K : Frag} {f : Value} {r : Frag → List V → Hp → VK → Prop} (h : X.K = K) (c : CallR X f (r X.K)) : CallR X f (r K) := h ▸ c
section
variable {K : Frag} {F : List (Addr × HO)} {G : List Ft} {H : Hp} {Q : VK} {vs : List V} {v : V} {a : Int} {l : Addr}
theorem g_ixUL (h : SqL K H l vs) (e : atI vs a = some v) (k : Q v H) : rIxU K (.ref l) (.int a) H Q := .inl (g_ixL h e k)
theorem g_ixUT (h : SqT K H l vs) (e : atI vs a = some v) (k : Q v H) : rIxU K (.ref l) (.int a) H Q := .inr (.inl (g_ixT h e k))
theorem g_ixUI {kvs : List (Int × V)} (h : KDi K l kvs) (e : kvs.lookup a = some v) (k : Q v H) : rIxU K (.ref l) (.int a) H Q := .inr (.inr (.inl ⟨l, a, v, kvs, rfl, rfl, h, e, k⟩))
theorem g_slT {lo hi : Option Int} {ys : List V} (S : Sy K F G H) (h : SqT K H l vs) (hw : Nat.beq (HT.sIx vs.length 0 lo) 0 = false) (e : cutV vs lo hi = ys) (k : ∀ p H', Sy K F (.tq p ys :: G) H' → Q (.ref p) H') : rSlU K (.ref l) lo hi H Q := by
  subst e
  refine .inl ⟨l, vs, rfl, h, fun z => ?_, fun _ p hp => k p _ ((S.over hp).add (.tq p _) (.inl (.inl upd_same)))⟩
  rw [z.1] at hw
  exact Bool.noConfusion hw
theorem atI_nn {α : Type} {xs : List α} {i : Int} {x : α} (h0 : 0 ≤ i) (h : xs[i.toNat]? = some x) : atI xs i = some x := by
  have hl := (List.getElem?_eq_some_iff.mp h).1
  unfold atI ixN
  rw [if_pos h0, if_pos (by omega)]
  exact h
theorem atI_ints {ns : List Int} {i : Int} (h0 : 0 ≤ i) (h1 : i < ns.length) : ∃ n, n ∈ ns ∧ atI (ns.map V.int) i = some (.int n) := by
  have hl : i.toNat < ns.length := by omega
  refine ⟨ns[i.toNat], List.getElem_mem hl, atI_nn h0 ?_⟩
  rw [List.getElem?_map, List.getElem?_eq_getElem hl]
  rfl
theorem cpow_ok {i j : Int} {a : Nat} (h : i.natAbs < 2 ^ a) (h0 : 0 ≤ j) (h1 : (a : Int) * j ≤ 2 ^ 27) : CPowX i j :=
  ⟨h0, Int.le_trans (Int.mul_le_mul_of_nonneg_right (Int.ofNat_le.mpr (PyProof.Rows.intBits_le h)) h0) h1⟩
theorem cdiv_ok {i j : Int} (h : 0 < j) (h2 : j < 2 ^ 64) : CDivW i j := wide_div (b := 64) h (by omega) (by decide) (by decide)
end
/-! isinstance -/
section
variable {K : Frag} {H : Hp} {Q : VK}
theorem cdivp_ok {i j : Int} (h : 0 < j) (h0 : 0 ≤ i) (h1 : i < 2 ^ 200) : CDivP i j :=
  divp_ok h (Nat.le_trans (PyProof.Rows.intBits_le (k := 200) (by omega)) (by omega))
theorem isi_int {a : Int} (k : Q (.bl true) H) : rIsi K [.int a, .ty "int"] H Q := ⟨_, _, _, _, true, rfl, .ty "int", .base (.int a), kit_ty (by decide +kernel), k⟩
theorem isi_intB {a : Int} (k : Q (.bl false) H) : rIsi K [.int a, .ty "bool"] H Q := ⟨_, _, _, _, false, rfl, .ty "bool", .base (.int a), kit_ty (by decide +kernel), k⟩
theorem isi_tup {l : Addr} {xs : List V} (h : SqT K H l xs) (k : Q (.bl true) H) : rIsi K [.ref l, .ty "tuple"] H Q := by
  refine ⟨_, _, .type "tuple", _, true, rfl, .ty "tuple", ?_, kit_ty (by decide +kernel), k⟩
  rcases h with (h | ⟨o, h⟩) | ⟨o, its, n, e, c, _⟩
  · exact .base (.tup h)
  · exact .fTuple h
  · exact .kTuple e c
end
end OB

set_option Elab.async false
set_option linter.all false
set_option maxRecDepth 100000
set_option maxHeartbeats 4000000
/-! OB, part f: how long the text of data is. -/
namespace OB
open PySem PySem.Spec PyProof.Rows L2 PySem.W
/-- its text has at most n signs, it is at most k deep -/
structure Small (n k : Nat) (d : PyData) : Prop where
  sh : d.showable = true
  nd : d.hasDict = false
  dp : d.depth ≤ k
  ln : d.shown.length ≤ n
structure SmallL (n k : Nat) (xs : List PyData) : Prop where
  sh : PyData.showableAll xs = true
  nd : PyData.hasDictAll xs = false
  dp : PyData.depthAll xs ≤ k
  ln : ((PyData.shownAll xs).map (·.length)).sum + 2 * xs.length ≤ n
theorem Small.mono {n k m j : Nat} {d : PyData} (h : Small n k d) (h1 : n ≤ m) (h2 : k ≤ j) : Small m j d := ⟨h.sh, h.nd, Nat.le_trans h.dp h2, Nat.le_trans h.ln h1⟩
theorem SmallL.mono {n k m j : Nat} {d : List PyData} (h : SmallL n k d) (h1 : n ≤ m) (h2 : k ≤ j) : SmallL m j d := ⟨h.sh, h.nd, Nat.le_trans h.dp h2, Nat.le_trans h.ln h1⟩
theorem Small.int {i : Int} (h : i.natAbs < 10 ^ 60) : Small 61 0 (.int i) := by
  have h2 : i.natAbs < 2 ^ 200 := Nat.lt_of_lt_of_le h (by decide)
  refine ⟨decide_eq_true ?_, rfl, Nat.le_refl _, ?_⟩
  · have q := PySem.Flt.log2_lt_of (k := 200) (by decide) h2
    omega
  · show (Str.ofString (toString i)).length ≤ 61
    rw [PySem.ofString_length]
    exact int_text_length_le10 (k := 60) (by decide) h
theorem Small.non : Small 4 0 .none := ⟨rfl, rfl, Nat.le_refl _, by decide +kernel⟩
theorem Small.bl {b : Bool} : Small 5 0 (.bool b) := ⟨rfl, rfl, Nat.le_refl _, by cases b <;> decide +kernel⟩
theorem Small.str {x : Str} {n : Nat} (h : (reprText x).length ≤ n) : Small n 0 (.str x) := ⟨rfl, rfl, Nat.le_refl _, h⟩
theorem SmallL.nil {k : Nat} : SmallL 0 k [] := ⟨rfl, rfl, Nat.zero_le _, Nat.le_refl _⟩
theorem SmallL.cons {n m k : Nat} {x : PyData} {xs : List PyData} (h : Small n k x) (t : SmallL m k xs) : SmallL (n + 2 + m) k (x :: xs) := by
  refine ⟨?_, ?_, ?_, ?_⟩
  · show (PyData.showable x && PyData.showableAll xs) = true
    rw [h.sh, t.sh]; rfl
  · show (PyData.hasDict x || PyData.hasDictAll xs) = false
    rw [h.nd, t.nd]; rfl
  · exact Nat.max_le.mpr ⟨h.dp, t.dp⟩
  · have h1 := h.ln
    have h2 := t.ln
    show (x.shown.length + ((PyData.shownAll xs).map (·.length)).sum) + 2 * (xs.length + 1) ≤ _
    omega
theorem SmallL.all {n k : Nat} : ∀ {xs : List PyData}, (∀ x ∈ xs, Small n k x) → SmallL ((n + 2) * xs.length) k xs
  | [], _ => SmallL.nil
  | x :: xs, h => by
    have q := SmallL.cons (h x (List.mem_cons_self ..)) (SmallL.all fun y hy => h y (List.mem_cons_of_mem _ hy))
    refine q.mono ?_ (Nat.le_refl _)
    rw [List.length_cons, Nat.mul_succ]
    omega
theorem shownAll_length : ∀ xs : List PyData, (PyData.shownAll xs).length = xs.length
  | [] => rfl
  | x :: xs => by
    show (PyData.shownAll xs).length + 1 = xs.length + 1
    rw [shownAll_length xs]
theorem Small.tup {n k : Nat} {xs : List PyData} (h : SmallL n k xs) : Small (n + 3) (k + 1) (.tuple xs) := by
  refine ⟨h.sh, h.nd, Nat.succ_le_succ h.dp, ?_⟩
  have q := tupleText_len_le (PyData.shownAll xs)
  have l := h.ln
  rw [shownAll_length] at q
  show (tupleText (PyData.shownAll xs)).length ≤ _
  omega
theorem Small.lst {n k : Nat} {xs : List PyData} (h : SmallL n k xs) : Small (n + 3) (k + 1) (.list xs) := by
  refine ⟨h.sh, h.nd, Nat.succ_le_succ h.dp, ?_⟩
  have q := listText_len_le (PyData.shownAll xs)
  have l := h.ln
  rw [shownAll_length] at q
  show (listText (PyData.shownAll xs)).length ≤ _
  omega
theorem Small.up {n k : Nat} {d : PyData} (h : Small n k d) : Small n (k + 1) d := h.mono (Nat.le_refl _) (Nat.le_succ _)
theorem g_reprS {K : Frag} {H : Hp} {Q : VK} {v : V} {d : PyData} {n k : Nat} (h : Dp K H v d) (s : Small n k d) (hn : n ≤ 16777216) (hk : k ≤ 60) (q : Q (.str d.shown) H) : rRepr K [v] H Q :=
  g_repr h s.sh s.nd (Nat.le_trans s.dp hk) (Nat.le_trans s.ln hn) q
/-! ### scalars -/
def toV : PyData → V
  | .none => .non
  | .bool b => .bl b
  | .int i => .int i
  | .str x => .str x
  | _ => .non
def scal1 : PyData → Bool
  | .none | .bool _ | .int _ | .str _ => true
  | _ => false
theorem dp_scal {K : Frag} {H : Hp} {v : V} {d : PyData} (h : Dp K H v d) (s : scal1 d = true) : v = toV d := by
  cases h with
  | non => rfl
  | bl b => rfl
  | int i => rfl
  | str x => rfl
  | lst _ _ => cases s
  | tup _ _ => cases s
theorem dps_scal {K : Frag} {H : Hp} : ∀ {ds : List PyData} {vs : List V}, DpAll K H vs ds → (∀ d ∈ ds, scal1 d = true) → vs = ds.map toV
  | [], _, h, _ => by cases h; rfl
  | d :: ds, _, h, s => by
    cases h with
    | cons h1 h2 =>
      rw [dp_scal h1 (s d (List.mem_cons_self ..)), dps_scal h2 fun e he => s e (List.mem_cons_of_mem _ he)]
      rfl
theorem scal_dp {K : Frag} {H : Hp} {d : PyData} (s : scal1 d = true) : Dp K H (toV d) d := by
  cases d with
  | none => exact .non
  | bool b => exact .bl b
  | int i => exact .int i
  | str x => exact .str x
  | _ => cases s
theorem sqt_scal {K : Frag} {H : Hp} {p : Addr} {ds : List PyData} (h : Dp K H (.ref p) (.tuple ds)) (s : ∀ d ∈ ds, scal1 d = true) : SqT K H p (ds.map toV) := by
  obtain ⟨a, xs, e, h1, h2⟩ := dp_tuple h
  cases e
  rw [← dps_scal h2 s]
  exact h1
inductive ScL : List PyData → List V → Prop where
  | nil : ScL [] []
  | int {i : Int} {ds : List PyData} {vs : List V} : ScL ds vs → ScL (.int i :: ds) (.int i :: vs)
  | str {i : Str} {ds : List PyData} {vs : List V} : ScL ds vs → ScL (.str i :: ds) (.str i :: vs)
  | bl {i : Bool} {ds : List PyData} {vs : List V} : ScL ds vs → ScL (.bool i :: ds) (.bl i :: vs)
  | non {ds : List PyData} {vs : List V} : ScL ds vs → ScL (.none :: ds) (.non :: vs)
theorem ScL.sc {ds : List PyData} {vs : List V} (h : ScL ds vs) : (∀ d ∈ ds, scal1 d = true) ∧ vs = ds.map toV := by
  induction h with
  | nil => exact ⟨fun d hd => (nomatch hd), rfl⟩
  | int _ ih | str _ ih | bl _ ih | non _ ih =>
    refine ⟨fun d hd => ?_, by rw [ih.2]; rfl⟩
    rcases List.mem_cons.mp hd with rfl | hd
    · rfl
    · exact ih.1 d hd
theorem g_unpD {K : Frag} {H : Hp} {n : Nat} {tgs : TGs} {σ : L2.St} {QS : L2.St → Hp → Prop} {l : Addr} {ds : List PyData} {ws : List V} (h : Dp K H (.ref l) (.tuple ds)) (s : ScL ds ws) (hl : ds.length = n) (k : tgs ws σ H QS) : gTup K n tgs (.ref l) σ H QS := by
  obtain ⟨h1, rfl⟩ := s.sc
  exact g_unpT (sqt_scal h h1) (by rw [List.length_map]; exact hl) k
theorem g_ne {α : Type} {x : α} [Decidable (x ≠ x)] {P R : Prop} (k : R) : if decide (x ≠ x) = true then P else R := g_FD (fun h => h rfl) k
theorem dp_at {K : Frag} {H : Hp} {v : V} {ds : List PyData} (h : Dp K H v (.tuple ds)) : ∃ a xs, v = .ref a ∧ SqT K H a xs ∧ DpAll K H xs ds := dp_tuple h
end OB

set_option Elab.async false
set_option linter.all false
set_option maxRecDepth 100000
set_option maxHeartbeats 4000000
/-! OB, part g: comprehensions and loops by what is known. -/
namespace OB
open PySem PySem.Spec PyProof.Rows L2 PySem.W
section
variable {K : Frag} {G : List Ft} {σ : L2.St} {H : Hp} {Q : VK} {D : Ends} {P R : Prop} {A : Prop} [Decidable A]
theorem g_nT (h : ¬ A) (k : P) : if (!decide A) = true then P else R := g_T (by rw [decide_eq_false h]; rfl) k
theorem g_nF (h : A) (k : R) : if (!decide A) = true then P else R := g_F (by rw [decide_eq_true h]; rfl) k
theorem g_ntt (k : R) : if (!true) = true then P else R := g_F rfl k
theorem g_nff (k : P) : if (!false) = true then P else R := g_T rfl k
/-! a list comprehension: I tells of (turn, what stands, the data so far) -/
/-- one turn -/
abbrev Turn1 (K : Frag) (G : List Ft) (I : Nat → List (Addr × HO) → List PyData → Prop) (σ : L2.St) (own : List Nat) (g : TG) (tt : TT) (te : TE) (i : Nat) (x : V) : Prop :=
  ∀ (Dp : Addr) (H : Hp) (F : List (Addr × HO)) (vs : List V) (ds : List PyData) (QE : VK) (QR : Hp → Prop), I i F ds → Sy K ((Dp, .lst vs) :: F) (.dat vs ds :: G) H →
    (∀ y d F' H', I (i + 1) F' (ds ++ [d]) → Sy K ((Dp, .lst vs) :: F') (.dat [y] [d] :: .dat vs ds :: G) H' → QE y H') →
    (∀ F' H', I (i + 1) F' ds → Sy K ((Dp, .lst vs) :: F') (.dat vs ds :: G) H' → QR H') →
    g x (wipe σ own) H fun σ2 H2 => wipe σ2 own = wipe σ own ∧ tt σ2 H2 fun b H3 => if b = true then te σ2 H3 QE else QR H3
variable {I : Nat → List (Addr × HO) → List PyData → Prop} {F : List (Addr × HO)} {own : List Nat} {g : TG} {tt : TT} {te : TE}
/-- what is kept between the turns -/
def LcP (K : Frag) (G : List Ft) (I : Nat → List (Addr × HO) → List PyData → Prop) (Dp : Addr) (i : Nat) (H : Hp) : Prop :=
  ∃ (F : List (Addr × HO)) (vs : List V) (ds : List PyData), I i F ds ∧ Sy K ((Dp, .lst vs) :: F) (.dat vs ds :: G) H
theorem lcp_start {Dp : Addr} (S : Sy K F G H) (h0 : I 0 F []) (hD : H Dp = none) : LcP K G I Dp 0 (upd H Dp (.lst [])) :=
  ⟨F, [], [], h0, (S.push hD).fact .nil rfl⟩
theorem lcp_turn {Dp : Addr} {i : Nat} {x : V} (hl : ∀ i F ds, I i F ds → ds.length < 100000) (t : Turn1 K G I σ own g tt te i x) (p : LcP K G I Dp i H) :
    g x (wipe σ own) H fun σ2 H2 => wipe σ2 own = wipe σ own ∧ tt σ2 H2 fun b H3 =>
      if b = true then te σ2 H3 fun y H4 => ∃ acc, H4 Dp = some (.lst acc) ∧ acc.length < sizeLine ∧ LcP K G I Dp (i + 1) (upd H4 Dp (.lst (acc ++ [y]))) else LcP K G I Dp (i + 1) H3 := by
  obtain ⟨F, vs, ds, hi, S⟩ := p
  refine t Dp H F vs ds _ (LcP K G I Dp (i + 1)) hi S (fun y d F' H' hi' S' => ?_) fun F' H' hi' S' => ⟨F', vs, ds, hi', S'⟩
  have len := dps_length (S'.dps 1 rfl)
  have lt := hl _ _ _ hi'
  rw [List.length_append] at lt
  refine ⟨vs, S'.at 0 rfl, Nat.lt_of_lt_of_le (by omega) (show 100000 ≤ sizeLine by decide), F', vs ++ [y], ds ++ [d], hi', ?_⟩
  have S2 : Sy K ((Dp, .lst (vs ++ [y])) :: F') (.dat [y] [d] :: .dat vs ds :: G) (upd H' Dp (.lst (vs ++ [y]))) := S'.put (o' := .lst (vs ++ [y])) 0 rfl rfl
  have m1 := S'.dpi 1 rfl
  have m2 := S'.dpi 0 rfl
  exact (S2.drop.drop).fact (dps_append (S2.dps 1 rfl) (S2.dps 0 rfl)) (by rw [immAll_append, m1, m2]; rfl)
/-- over a list or a tuple -/
theorem g_lcS {tl : TE} {a : Addr} {xs : List V} (k : Bool) (I : Nat → List (Addr × HO) → List PyData → Prop) (S : Sy K F G H) (ht : ∀ Q' : VK, Q' (.ref a) H → tl σ H Q') (h0 : I 0 F [])
    (hq : ∀ i F' ds H', I i F' ds → Sy K F' G H' → SqK K H' k a xs) (hl : ∀ i F ds, I i F ds → ds.length < 100000)
    (turn : ∀ i x, xs[i]? = some x → Turn1 K G I σ own g tt te i x)
    (done : ∀ Dp H' F' vs ds, H Dp = none → I xs.length F' ds → Sy K ((Dp, .lst vs) :: F') (.dat vs ds :: G) H' → Q (.ref Dp) H') : tLc (iSeq K tl) g tt te own σ H Q := by
  refine ht _ ⟨a, rfl, ?_⟩
  have q0 := hq 0 F [] H h0 S
  have sub : ∀ {Dp i H'}, LcP K G I Dp i H' → SqK K H' k a xs := fun ⟨F', vs, ds, hi, S'⟩ => hq _ F' ds _ hi S'.drop.less
  cases k with
  | true =>
    refine .inl ⟨⟨xs, q0⟩, fun Dp hD => lc_list (K := K) (a := a) (xs := xs) (LcP K G I Dp) (lcp_start S h0 hD) (fun i H' _ p => sub p) (fun i x H' hx p => lcp_turn hl (turn i x hx) p) fun H' p => ?_⟩
    obtain ⟨F', vs, ds, hi, S'⟩ := p
    exact done Dp H' F' vs ds hD hi S'
  | false =>
    refine .inr ⟨⟨xs, q0⟩, fun Dp hD => lc_tup (K := K) (a := a) (xs := xs) (LcP K G I Dp) (lcp_start S h0 hD) (fun i H' _ p => sub p) (fun i x H' hx p => lcp_turn hl (turn i x hx) p) fun H' p => ?_⟩
    obtain ⟨F', vs, ds, hi, S'⟩ := p
    exact done Dp H' F' vs ds hD hi S'
/-- over range(n), behind what its argument does -/
def RgLc (K : Frag) (g : TG) (tt : TT) (te : TE) (own : List Nat) (σ : L2.St) (Q : VK) (n : Nat) (H : Hp) : Prop := ∀ Dp, H Dp = none → ∃ W : Nat → Nat → Hp → Prop, (∃ m, W 0 m (upd H Dp (.lst []))) ∧ ∀ i m H, W i m H →
  ((Itr 0 n).stop i H ∧ Q (.ref Dp) H) ∨ ((Itr 0 n).go i H ∧ ∃ Nx : Hp → Prop, (∀ H', Nx H' → ∃ m', m' < m ∧ W (i + 1) m' H') ∧ ∀ x H', (Itr 0 n).yld i H x H' → g x (wipe σ own) H' fun σ2 H2 => wipe σ2 own = wipe σ own ∧ tt σ2 H2 fun b H3 =>
    if b = true then te σ2 H3 fun y H4 => ∃ acc, H4 Dp = some (.lst acc) ∧ acc.length < sizeLine ∧ Nx (upd H4 Dp (.lst (acc ++ [y]))) else Nx H3)
theorem g_lcR {ta : TA} (k : ta σ H fun vs H1 => ∃ j : Int, vs = [.int j] ∧ -(2 ^ 62) ≤ j ∧ j < 2 ^ 62 ∧ RgLc K g tt te own σ Q j.toNat H1) : tLc (iRng1 ta) g tt te own σ H Q := k
theorem g_rgJ {a : Int} {f : Int → Prop} (h1 : -(2 ^ 62) ≤ a) (h2 : a < 2 ^ 62) (k : f a) : ∃ j : Int, [V.int a] = [.int j] ∧ -(2 ^ 62) ≤ j ∧ j < 2 ^ 62 ∧ f j := ⟨a, rfl, h1, h2, k⟩
theorem rglc_of {n : Nat} (I : Nat → List (Addr × HO) → List PyData → Prop) (S : Sy K F G H) (h0 : I 0 F []) (hl : ∀ i F ds, I i F ds → ds.length < 100000)
    (turn : ∀ i, i < n → Turn1 K G I σ own g tt te i (.int (0 + i)))
    (done : ∀ Dp H' F' vs ds, H Dp = none → I n F' ds → Sy K ((Dp, .lst vs) :: F') (.dat vs ds :: G) H' → Q (.ref Dp) H') : RgLc K g tt te own σ Q n H := fun Dp hD => by
  refine lc_range (lo := 0) (n := n) (LcP K G I Dp) (lcp_start S h0 hD) (fun i H' hi p => lcp_turn hl (turn i hi) p) fun H' p => ?_
  obtain ⟨F', vs, ds, hi, S'⟩ := p
  exact done Dp H' F' vs ds hD hi S'
/-! loops: W tells of (turn, slots, heap) -/
theorem g_forS {tl : TE} {tb : TS} {a : Addr} {xs : List V} (k : Bool) (Pv : Nat → L2.St → Hp → Prop) (ht : ∀ Q' : VK, Q' (.ref a) H → tl σ H Q') (h0 : Pv 0 σ H)
    (hq : ∀ i σ' H', Pv i σ' H' → SqK K H' k a xs)
    (turn : ∀ i x σ' H', xs[i]? = some x → Pv i σ' H' → g x σ' H' fun σ2 H2 => tb { D with nx := Pv (i + 1), ct := Pv (i + 1), bk := D.nx } σ2 H2)
    (done : ∀ σ' H', Pv xs.length σ' H' → D.nx σ' H') : tFor (iSeq K tl) g tb D σ H := by
  refine ht _ ⟨a, rfl, ?_⟩
  have q0 := hq 0 σ H h0
  cases k with
  | true => exact .inl ⟨⟨xs, q0⟩, for_list (K := K) (a := a) (xs := xs) Pv h0 (fun i σ' H' _ p => hq i σ' H' p) turn done⟩
  | false => exact .inr ⟨⟨xs, q0⟩, for_tup (K := K) (a := a) (xs := xs) Pv h0 (fun i σ' H' _ p => hq i σ' H' p) turn done⟩
def RgFor (g : TG) (tb : TS) (D : Ends) (σ : L2.St) (n : Nat) (H : Hp) : Prop := ∃ W : Nat → Nat → L2.St → Hp → Prop, (∃ m, W 0 m σ H) ∧ ∀ i m σ H, W i m σ H →
  ((Itr 0 n).stop i H ∧ D.nx σ H) ∨ ((Itr 0 n).go i H ∧ ∃ N : L2.St → Hp → Prop, (∀ σ' H', N σ' H' → ∃ m', m' < m ∧ W (i + 1) m' σ' H') ∧ ∀ x H', (Itr 0 n).yld i H x H' → g x σ H' fun σ2 H2 => tb { D with nx := N, ct := N, bk := D.nx } σ2 H2)
theorem g_forR {ta : TA} {tb : TS} (k : ta σ H fun vs H1 => ∃ j : Int, vs = [.int j] ∧ -(2 ^ 62) ≤ j ∧ j < 2 ^ 62 ∧ RgFor g tb D σ j.toNat H1) : tFor (iRng1 ta) g tb D σ H := k
theorem rgfor_of {tb : TS} {n : Nat} (Pv : Nat → L2.St → Hp → Prop) (h0 : Pv 0 σ H) (turn : ∀ i σ' H', i < n → Pv i σ' H' → g (.int (0 + i)) σ' H' fun σ2 H2 => tb { D with nx := Pv (i + 1), ct := Pv (i + 1), bk := D.nx } σ2 H2)
    (done : ∀ σ' H', Pv n σ' H' → D.nx σ' H') : RgFor g tb D σ n H := for_range (lo := 0) Pv h0 turn done
def rEnum (K : Frag) (vs : List V) (H : Hp) (R : It → Hp → Prop) : Prop := ∃ k a xs, vs = [.ref a] ∧ SqK K H k a xs ∧ R (IteK K k a) H
def rZip (K : Frag) (vs : List V) (H : Hp) (R : It → Hp → Prop) : Prop := ∃ k l a b xs ys, vs = [.ref a, .ref b] ∧ SqK K H k a xs ∧ SqK K H l b ys ∧ R (ItzK K k l a b) H
theorem g_forE {ta : TA} {tb : TS} (k : ta σ H fun vs H1 => rEnum K vs H1 fun J H1 => ∃ W : Nat → Nat → L2.St → Hp → Prop, (∃ m, W 0 m σ H1) ∧ ∀ i m σ H, W i m σ H →
  (J.stop i H ∧ D.nx σ H) ∨ (J.go i H ∧ ∃ N : L2.St → Hp → Prop, (∀ σ' H', N σ' H' → ∃ m', m' < m ∧ W (i + 1) m' σ' H') ∧ ∀ x H', J.yld i H x H' → g x σ H' fun σ2 H2 => tb { D with nx := N, ct := N, bk := D.nx } σ2 H2)) : tFor (iEnumK K ta) g tb D σ H := k
theorem g_forZ {ta : TA} {tb : TS} (k : ta σ H fun vs H1 => rZip K vs H1 fun J H1 => ∃ W : Nat → Nat → L2.St → Hp → Prop, (∃ m, W 0 m σ H1) ∧ ∀ i m σ H, W i m σ H →
  (J.stop i H ∧ D.nx σ H) ∨ (J.go i H ∧ ∃ N : L2.St → Hp → Prop, (∀ σ' H', N σ' H' → ∃ m', m' < m ∧ W (i + 1) m' σ' H') ∧ ∀ x H', J.yld i H x H' → g x σ H' fun σ2 H2 => tb { D with nx := N, ct := N, bk := D.nx } σ2 H2)) : tFor (iZipK K ta) g tb D σ H := k
/-- a loop without end in sight: m falls -/
theorem g_while {c : TT} {tb : TS} (W : Nat → L2.St → Hp → Prop) (m0 : Nat) (h0 : W m0 σ H)
    (turn : ∀ m σ' H', W m σ' H' → c σ' H' fun b H1 => if b = true then tb { D with nx := fun σ2 H2 => ∃ m', m' < m ∧ W m' σ2 H2, ct := fun σ2 H2 => ∃ m', m' < m ∧ W m' σ2 H2, bk := D.nx } σ' H1 else D.nx σ' H1)
    (mono : ∀ σ' H' (Q Q' : Bool → Hp → Prop), (∀ b H1, Q b H1 → Q' b H1) → c σ' H' Q → c σ' H' Q') : tWhile c tb D σ H := by
  refine ⟨W, ⟨m0, h0⟩, fun m σ' H' w => mono σ' H' _ _ (fun b H1 q => ?_) (turn m σ' H' w)⟩
  cases b with
  | true => exact ⟨_, fun _ _ h => h, q⟩
  | false => exact q
end
end OB

set_option Elab.async false
set_option linter.all false
set_option maxRecDepth 100000
set_option maxHeartbeats 4000000
/-! OB, part h: more steps. -/
namespace OB
open PySem PySem.Spec PyProof.Rows L2 PySem.W
section
variable {K : Frag} {G : List Ft} {σ : L2.St} {H : Hp} {Q : VK} {D : Ends} {P R : Prop}
/-- list(range(..)) -/
def rNewRg (a b : Int) (H : Hp) (Q : VK) : Prop := RgOk a b ∧ ∀ q, H q = none → Q (.ref q) (upd H q (.lst (rgV a b)))
theorem g_lstRg {te : L2.St → Hp → (Int → Int → Hp → Prop) → Prop} (k : te σ H fun a b H1 => rNewRg a b H1 Q) : tLstRg te σ H Q := k
theorem g_rg1 {ta : TE} {R : Int → Int → Hp → Prop} (k : ta σ H fun x H1 => ∃ n, x = .int n ∧ R 0 n H1) : tRg1 ta σ H R := k
theorem g_rg2 {ta tb : TE} {R : Int → Int → Hp → Prop} (k : ta σ H fun x H1 => tb σ H1 fun y H2 => ∃ i j, x = .int i ∧ y = .int j ∧ R i j H2) : tRg2 ta tb σ H R := k
theorem g_newRg {F : List (Addr × HO)} {a b : Int} (S : Sy K F G H) (h : RgOk a b) (k : ∀ p H', Sy K ((p, .lst (rgV a b)) :: F) G H' → Q (.ref p) H') : rNewRg a b H Q := ⟨h, fun p hp => k p _ (S.push hp)⟩
theorem rgV0 (b : Int) : rgV 0 b = ((List.range b.toNat).map fun i : Nat => (i : Int)).map V.int := by
  unfold rgV
  rw [List.map_map, Int.sub_zero]
  congr 1
  funext i
  show V.int (0 + (i : Int)) = V.int (i : Int)
  rw [Int.zero_add]
end
end OB

set_option Elab.async false
set_option linter.all false
set_option maxRecDepth 100000
set_option maxHeartbeats 4000000
/-! OB, part i: zip of unlike lengths, comprehensions over zip, dicts of ints updated and sorted, deep equality. -/
namespace OB
open PySem PySem.Spec PyProof.Rows L2 PySem.W
/-! ### zip: it ends with the shorter one -/
theorem walk_zipK {K : Frag} {k l : Bool} {a b : Addr} {xs ys : List V} : Walk (ItzK K k l a b) (min xs.length ys.length) (fun H => SqK K H k a xs ∧ SqK K H l b ys) (YPair (xs[·]?) (ys[·]?)) where
  goes := fun i H hi ⟨qa, qb⟩ => ⟨xs, ys, xs[i]'(by omega), ys[i]'(by omega), qa, qb, List.getElem?_eq_getElem _, List.getElem?_eq_getElem _⟩
  stops := fun H ⟨qa, qb⟩ => ⟨xs, ys, qa, qb, Nat.min_le_left .., Nat.min_le_right .., by omega⟩
  yields := fun i H x H' hi ⟨qa, qb⟩ ⟨T, u, v, e1, hT, e2, f1, f2⟩ => ⟨T, u, v, e1, hT, e2, f1 xs qa, f2 ys qb⟩
section
variable {K : Frag} {F : List (Addr × HO)} {G : List Ft} {σ : L2.St} {H : Hp} {Q : VK} {D : Ends} {g : TG} {tt : TT} {te : TE} {tb : TS} {own : List Nat}
def ZipLc (K : Frag) (g : TG) (tt : TT) (te : TE) (own : List Nat) (σ : L2.St) (Q : VK) (vs : List V) (H1 : Hp) : Prop := ∃ k l a b xs ys, vs = [.ref a, .ref b] ∧ SqK K H1 k a xs ∧ SqK K H1 l b ys ∧ ∀ Da, H1 Da = none → ∃ W : Nat → Nat → Hp → Prop, (∃ m, W 0 m (upd H1 Da (.lst []))) ∧ ∀ i m H, W i m H →
  ((ItzK K k l a b).stop i H ∧ Q (.ref Da) H) ∨ ((ItzK K k l a b).go i H ∧ ∃ Nx : Hp → Prop, (∀ H', Nx H' → ∃ m', m' < m ∧ W (i + 1) m' H') ∧ ∀ x H', (ItzK K k l a b).yld i H x H' → g x (wipe σ own) H' fun σ2 H2 => wipe σ2 own = wipe σ own ∧ tt σ2 H2 fun b H3 =>
    if b = true then te σ2 H3 fun y H4 => ∃ acc, H4 Da = some (.lst acc) ∧ acc.length < sizeLine ∧ Nx (upd H4 Da (.lst (acc ++ [y]))) else Nx H3)
theorem g_lcZ {ta : TA} (k : ta σ H fun vs H1 => ZipLc K g tt te own σ Q vs H1) : tLc (iZipK K ta) g tt te own σ H Q := k
/-- the pair at T was just made -/
def TurnZ (K : Frag) (G : List Ft) (I : Nat → List (Addr × HO) → List PyData → Prop) (σ : L2.St) (own : List Nat) (g : TG) (tt : TT) (te : TE) (i : Nat) (x y : V) : Prop :=
  ∀ (Da T : Addr) (H2 : Hp) (F2 : List (Addr × HO)) (vs : List V) (ds : List PyData) (QE : VK) (QR : Hp → Prop), I i F2 ds → H2 T = none → Sy K ((Da, .lst vs) :: F2) (.dat vs ds :: G) H2 →
    (∀ (z : V) (d : PyData) F' H', I (i + 1) F' (ds ++ [d]) → Sy K ((Da, .lst vs) :: F') (.dat [z] [d] :: .dat vs ds :: G) H' → QE z H') →
    (∀ F' H', I (i + 1) F' ds → Sy K ((Da, .lst vs) :: F') (.dat vs ds :: G) H' → QR H') →
    g (.ref T) (wipe σ own) (upd H2 T (.tup [x, y])) fun σ2 H2 => wipe σ2 own = wipe σ own ∧ tt σ2 H2 fun b H3 => if b = true then te σ2 H3 QE else QR H3
theorem ziplc_of {k l : Bool} {a b : Addr} {xs ys : List V} (I : Nat → List (Addr × HO) → List PyData → Prop) (S : Sy K F G H) (h0 : I 0 F [])
    (hq : ∀ i F' ds H', I i F' ds → Sy K F' G H' → SqK K H' k a xs ∧ SqK K H' l b ys) (hl : ∀ i F ds, I i F ds → ds.length < 100000)
    (turn : ∀ i x y, xs[i]? = some x → ys[i]? = some y → TurnZ K G I σ own g tt te i x y)
    (done : ∀ Da H' F' vs ds, H Da = none → I (min xs.length ys.length) F' ds → Sy K ((Da, .lst vs) :: F') (.dat vs ds :: G) H' → Q (.ref Da) H') : ZipLc K g tt te own σ Q [.ref a, .ref b] H := by
  obtain ⟨q1, q2⟩ := hq 0 F [] H h0 S
  refine ⟨k, l, a, b, xs, ys, rfl, q1, q2, fun Da hD => lc_it (walk_zipK (K := K) (xs := xs) (ys := ys)) (LcP K G I Da) (lcp_start S h0 hD) (fun i H' _ p => ?_) (fun i v H1 H' hi p y => ?_) fun H' p => ?_⟩
  · obtain ⟨F', vs, ds, hi, S'⟩ := p
    exact hq i F' ds _ hi S'.drop.less
  · obtain ⟨F', vs, ds, hI, S'⟩ := p
    obtain ⟨T, x, y, rfl, hT, rfl, e1, e2⟩ := y
    refine turn i x y e1 e2 Da T H1 F' vs ds _ (LcP K G I Da (i + 1)) hI hT S' (fun z d F2 H2 hi' S2 => ?_) fun F2 H2 hi' S2 => ⟨F2, vs, ds, hi', S2⟩
    have len := dps_length (S2.dps 1 rfl)
    have lt := hl _ _ _ hi'
    rw [List.length_append] at lt
    refine ⟨vs, S2.at 0 rfl, Nat.lt_of_lt_of_le (by omega) (show 100000 ≤ sizeLine by decide), F2, vs ++ [z], ds ++ [d], hi', ?_⟩
    have S3 : Sy K ((Da, .lst (vs ++ [z])) :: F2) (.dat [z] [d] :: .dat vs ds :: G) (upd H2 Da (.lst (vs ++ [z]))) := S2.put (o' := .lst (vs ++ [z])) 0 rfl rfl
    exact (S3.drop.drop).fact (dps_append (S3.dps 1 rfl) (S3.dps 0 rfl)) (by rw [immAll_append, S2.dpi 1 rfl, S2.dpi 0 rfl]; rfl)
  · obtain ⟨F', vs, ds, hI, S'⟩ := p
    exact done Da H' F' vs ds hD hI S'
/-- a for over zip -/
theorem for_zipM {k l : Bool} {a b : Addr} {xs ys : List V} (Pv : Nat → L2.St → Hp → Prop) (h0 : Pv 0 σ H) (hq : ∀ i σ H, Pv i σ H → SqK K H k a xs ∧ SqK K H l b ys)
    (hs : ∀ i x y T σ H, xs[i]? = some x → ys[i]? = some y → Pv i σ H → H T = none → g (.ref T) σ (upd H T (.tup [x, y])) fun σ2 H2 => tb { D with nx := Pv (i + 1), ct := Pv (i + 1), bk := D.nx } σ2 H2) (hd : ∀ σ H, Pv (min xs.length ys.length) σ H → D.nx σ H) :
    ∃ W : Nat → Nat → L2.St → Hp → Prop, (∃ m, W 0 m σ H) ∧ ∀ i m σ H, W i m σ H →
      ((ItzK K k l a b).stop i H ∧ D.nx σ H) ∨ ((ItzK K k l a b).go i H ∧ ∃ N : L2.St → Hp → Prop, (∀ σ' H', N σ' H' → ∃ m', m' < m ∧ W (i + 1) m' σ' H') ∧ ∀ x H', (ItzK K k l a b).yld i H x H' → g x σ H' fun σ2 H2 => tb { D with nx := N, ct := N, bk := D.nx } σ2 H2) :=
  for_it walk_zipK Pv h0 (fun i σ H _ p => hq i σ H p) (fun i v σ H H' hi p y => by
    obtain ⟨T, x, y, rfl, hT, rfl, e1, e2⟩ := y
    exact hs i x y T σ H e1 e2 p hT) hd
end
/-! ### dicts of ints -/
def rUpdD (x : V) (xs : List V) (H : Hp) (Q : VK) : Prop := ∃ a b kvs more, x = .ref a ∧ xs = [.ref b] ∧ a ≠ b ∧ H a = some (.dK kvs) ∧ H b = some (.dK more) ∧ kvs.length + more.length ≤ sizeLine ∧ Q .non (upd H a (.dK (mergeK kvs more)))
theorem mt_dupdate {X : Cx} : MtR X "dict.update" rUpdD := by
  intro pins s σ H x xs v us Q I rx rv h
  obtain ⟨a, b, kvs, more, rfl, rfl, hne, ha, hb, hz, q⟩ := h
  cases rx
  obtain ⟨u, rfl, ru⟩ := vals1 rv
  cases ru
  obtain ⟨z1, lo1, vs1, rel1, dd1⟩ := dk_of I.hok ha
  obtain ⟨z2, lo2, vs2, rel2, dd2⟩ := dk_of I.hok hb
  have e1 : vs1.length = kvs.length := rel1.length.symm
  have e2 : vs2.length = more.length := rel2.length.symm
  refine call_meetsIn PySem.F.slot_dict_update dd1.typeIs PySem.F.entry_dict_update (PySem.F.args_dict_update_2 _ _) (meets_dict_update (mixKind X.prog X.w) a b hne lo2) ⟨vs1, vs2, dd1, dd2, by omega, fun h' d1 d2 hs => ?_⟩
  have he : ∃ q, h'.get? a = some q := let ⟨q, _, _, hq, _⟩ := d1; ⟨q, hq⟩
  have hl : (mergeK kvs more).length ≤ sizeLine := Nat.le_trans (length_mergeK more kvs) hz
  exact ⟨.non, _, d_write I (by rw [ha]; exact True.intro) hs he (dk_new hl lo1 (rel2.merge rel1) d1), rfl, q⟩
end OB

set_option Elab.async false
set_option linter.all false
set_option maxRecDepth 100000
set_option maxHeartbeats 4000000
/-! OB, part j: steps for dicts of ints, deep equality of small tuples, truth of lists, last items. -/
namespace OB
open PySem PySem.Spec PyProof.Rows L2 PySem.W
section
variable {K : Frag} {F : List (Addr × HO)} {G : List Ft} {σ : L2.St} {H : Hp} {Q : VK} {D : Ends} {g : TG} {tt : TT} {te tk tv : TE} {tb : TS} {own : List Nat}
/-- {k: v} with a whole number and a value at hand -/
theorem g_disp1 {i : Int} {v : V} (S : Sy K F G H) (hk : ∀ H' (Q' : VK), Q' (.int i) H' → tk σ H' Q') (hv : ∀ H' (Q' : VK), Q' v H' → tv σ H' Q') (k : ∀ p H', Sy K ((p, .dK [(.inl i, v)]) :: F) G H' → Q (.ref p) H') : tDisp [(tk, tv)] σ H Q := by
  intro p hp
  refine hk _ _ (hv _ _ ⟨upd_same, [(.inl i, v)], rfl, Nat.le_of_ble_eq_true rfl, ?_⟩)
  rw [L2.upd_upd]
  exact k p _ (S.push hp)
/-- a dict comprehension over a tuple that stays, the objects around staying as they are -/
theorem g_dcT {tl : TE} {a : Addr} {xs : List V} (I : Nat → List (Key × V) → Prop) (S : Sy K F (.tq a xs :: G) H) (ht : ∀ Q' : VK, Q' (.ref a) H → tl σ H Q') (h0 : I 0 []) (hl : ∀ i kvs, I i kvs → kvs.length < 100000)
    (turn : ∀ i x, xs[i]? = some x → ∀ (Da : Addr) (H2 : Hp) (kvs : List (Key × V)) (QE : V → V → Hp → Prop) (QR : Hp → Prop), I i kvs → Sy K ((Da, .dK kvs) :: F) (.tq a xs :: G) H2 →
      (∀ (n : Int) z H', I (i + 1) (putK kvs (.inl n) z) → Sy K ((Da, .dK kvs) :: F) (.tq a xs :: G) H' → QE (.int n) z H') → (∀ H', I (i + 1) kvs → Sy K ((Da, .dK kvs) :: F) (.tq a xs :: G) H' → QR H') →
      g x (wipe σ own) H2 fun σ2 H3 => wipe σ2 own = wipe σ own ∧ tt σ2 H3 fun b H4 => if b = true then tk σ2 H4 fun y H5 => tv σ2 H5 fun z H6 => QE y z H6 else QR H4)
    (done : ∀ Da H' kvs, H Da = none → I xs.length kvs → Sy K ((Da, .dK kvs) :: F) (.tq a xs :: G) H' → Q (.ref Da) H') : tDc (iSeq K tl) g tt tk tv own σ H Q := by
  refine ht _ ⟨a, rfl, .inr ⟨⟨xs, S.tqs 0 rfl⟩, fun Da hD => ?_⟩⟩
  refine dc_tup (K := K) (a := a) (xs := xs) (fun i H' => ∃ kvs, I i kvs ∧ Sy K ((Da, .dK kvs) :: F) (.tq a xs :: G) H') ⟨[], h0, S.push hD⟩ (fun i H' _ ⟨kvs, _, S'⟩ => S'.tqs 0 rfl) (fun i x H' hx ⟨kvs, hi, S'⟩ => ?_) (fun H' ⟨kvs, hi, S'⟩ => done Da H' kvs hD hi S')
  have hz := hl i kvs hi
  refine turn i x hx Da H' kvs _ (fun H2 => ∃ kvs, I (i + 1) kvs ∧ Sy K ((Da, .dK kvs) :: F) (.tq a xs :: G) H2) hi S' (fun n z H2 hi2 S2 => ?_) fun H2 hi2 S2 => ⟨kvs, hi2, S2⟩
  exact ⟨kvs, .inl n, rfl, S2.at 0 rfl, Nat.lt_of_lt_of_le hz (by decide), _, hi2, S2.put (o' := .dK (putK kvs (.inl n) z)) 0 rfl rfl⟩
theorem Sy.ne {p q : Addr} {o u : HO} {i j : Nat} (S : Sy K F G H) (h1 : F[i]? = some (p, o)) (h2 : F[j]? = some (q, u)) (h : i ≠ j) : p ≠ q := by
  intro e
  subst e
  have nd := S.nd
  have g1 : (F.map (·.1))[i]? = some p := by rw [List.getElem?_map, h1]; rfl
  have g2 : (F.map (·.1))[j]? = some p := by rw [List.getElem?_map, h2]; rfl
  obtain ⟨l1, e1⟩ := List.getElem?_eq_some_iff.mp g1
  obtain ⟨l2, e2⟩ := List.getElem?_eq_some_iff.mp g2
  have pw := List.pairwise_iff_getElem.mp nd
  rcases Nat.lt_or_gt_of_ne h with c | c
  · exact pw i j l1 l2 c (e1.trans e2.symm)
  · exact pw j i l2 l1 c (e2.trans e1.symm)
theorem g_tyd {d : Addr} {kvs : List (Key × V)} {R : Prop} (h : H d = some (.dK kvs)) (k : R) : tyV K "dict" (.ref d) H ∧ R := ⟨.inr (.inr (.inl ⟨rfl, .inl ⟨kvs, h⟩⟩)), k⟩
theorem g_dupd {d o : Addr} {kvs more : List (Key × V)} {i j : Nat} (S : Sy K F G H) (h1 : F[i]? = some (d, .dK kvs)) (h2 : F[j]? = some (o, .dK more)) (hij : i ≠ j) (hl : kvs.length + more.length ≤ 100000)
    (k : ∀ H', Sy K (F.set i (d, .dK (mergeK kvs more))) G H' → Q .non H') : rUpdD (.ref d) [.ref o] H Q :=
  ⟨d, o, kvs, more, rfl, rfl, S.ne h1 h2 hij, S.at i h1, S.at j h2, Nat.le_trans hl (by decide), k _ (S.put i h1 rfl)⟩
/-- sorted of a dict of few ints -/
def rSortDI : List V → Hp → VK → Prop := fun xs H Q => ∃ (a : Addr) (kvs : List (Key × V)) (ks : List Int), xs = [.ref a] ∧ Rd H a (.dK kvs) ∧ kvs.map (·.1) = ks.map Sum.inl ∧ ks.length < 64 ∧
    ∀ (ys : List Int) (p : Addr), ys.Perm ks → ys.Pairwise (· ≤ ·) → H p = none → Q (.ref p) (upd H p (.lst (ys.map V.int)))
theorem c_sortDI {X : Cx} (hc : X.calm = true) : CallR X (.builtin "sorted") rSortDI := call_sortedDI hc
theorem g_sortDI {d : Addr} {kvs : List (Key × V)} {ks : List Int} {i : Nat} (S : Sy K F G H) (h : F[i]? = some (d, .dK kvs)) (hk : kvs.map (·.1) = ks.map Sum.inl) (hl : ks.length < 64)
    (k : ∀ (ys : List Int) p H', ys.Perm ks → ys.Pairwise (· ≤ ·) → Sy K ((p, .lst (ys.map V.int)) :: F) G H' → Q (.ref p) H') : rSortDI [.ref d] H Q :=
  ⟨d, kvs, ks, rfl, .inl (S.at i h), hk, hl, fun ys p e1 e2 hp => k ys p _ e1 e2 (S.push hp)⟩
/-- what keys a dict of ints has behind puts and merges -/
def KeysI (kvs : List (Key × V)) (ks : List Int) : Prop := kvs.map (·.1) = ks.map Sum.inl
theorem any_key {kvs : List (Key × V)} {ks : List Int} {n : Int} (h : KeysI kvs ks) : (kvs.any fun kv => decide (kv.1 = Sum.inl n)) = ks.contains n := by
  unfold KeysI at h
  induction ks generalizing kvs with
  | nil =>
    rw [List.map_nil, List.map_eq_nil_iff] at h
    subst h
    rfl
  | cons m ks ih =>
    cases kvs with
    | nil => cases h
    | cons p kvs =>
      rw [List.map_cons, List.map_cons] at h
      injection h with h1 h2
      rw [List.any_cons, List.contains_cons, ih h2, h1]
      congr 1
      by_cases e : m = n
      · subst e
        simp
      · have e2 : ¬ n = m := fun z => e z.symm
        have e3 : ¬ (Sum.inl m : Key) = Sum.inl n := fun z => e (Sum.inl.inj z)
        simp [e2, e3]
theorem keys_put {kvs : List (Key × V)} {ks : List Int} {n : Int} {z : V} (h : KeysI kvs ks) : KeysI (putK kvs (.inl n) z) (if ks.contains n then ks else ks ++ [n]) := by
  unfold putK
  rw [any_key h]
  by_cases e : ks.contains n = true
  · rw [if_pos e, if_pos e]
    show List.map _ (List.map _ _) = _
    rw [List.map_map, ← h]
    apply List.map_congr_left
    intro p _
    show (if p.1 = Sum.inl n then (p.1, z) else p).1 = p.1
    split <;> rfl
  · rw [if_neg e, if_neg e]
    show List.map _ (kvs ++ [(Sum.inl n, z)]) = _
    rw [List.map_append, h, List.map_append]
    rfl
/-- the keys of a merge: those of both, none twice -/
theorem keys_merge : ∀ {more kvs : List (Key × V)} {ms ks : List Int}, KeysI more ms → KeysI kvs ks → ∃ ls, KeysI (mergeK kvs more) ls ∧ (∀ x, x ∈ ls ↔ x ∈ ks ∨ x ∈ ms) ∧ (ks.Nodup → ls.Nodup) ∧ ls.length ≤ ks.length + ms.length
  | [], kvs, ms, ks, h1, h2 => by
    cases ms with
    | nil => exact ⟨ks, h2, fun x => by simp, id, by simp⟩
    | cons m ms => cases h1
  | p :: more, kvs, [], ks, h1, h2 => by cases h1
  | p :: more, kvs, m :: ms, ks, h1, h2 => by
    unfold KeysI at h1
    rw [List.map_cons, List.map_cons] at h1
    injection h1 with e1 e2
    obtain ⟨ls, f1, f2, f3, f4⟩ := keys_merge (more := more) (ms := ms) e2 (keys_put (n := m) (z := p.2) h2)
    refine ⟨ls, ?_, fun x => ?_, fun nd => f3 ?_, ?_⟩
    · have e3 : mergeK kvs (p :: more) = mergeK (putK kvs (.inl m) p.2) more := by
        show mergeK (putK kvs p.1 p.2) more = _
        rw [e1]
      rw [e3]
      exact f1
    · rw [f2]
      by_cases e : ks.contains m = true
      · rw [if_pos e]
        have hm : m ∈ ks := List.contains_iff_mem.mp e
        rw [List.mem_cons]
        constructor
        · rintro (h | h)
          · exact .inl h
          · exact .inr (.inr h)
        · rintro (h | h | h)
          · exact .inl h
          · subst h; exact .inl hm
          · exact .inr h
      · rw [if_neg e, List.mem_append, List.mem_singleton, List.mem_cons, or_assoc]
    · by_cases e : ks.contains m = true
      · rw [if_pos e]
        exact nd
      · rw [if_neg e]
        have hm : ¬ m ∈ ks := fun z => e (List.contains_iff_mem.mpr z)
        exact List.nodup_append.mpr ⟨nd, by simp, fun x hx y hy => by
          cases List.mem_singleton.mp hy
          exact fun z => hm (z ▸ hx)⟩
    · rw [List.length_cons]
      split at f4
      · omega
      · rw [List.length_append] at f4
        simp at f4
        omega
/-! truth and equality -/
def rTruK (K : Frag) (x : V) (H : Hp) (Q : Bool → Hp → Prop) : Prop := ∃ k, TruV K x H k ∧ Q k H
theorem g_tru {ta : TE} {QB : Bool → Hp → Prop} (k : ta σ H fun x H' => rTruK K x H' QB) : (fun σ H Q => ta σ H fun x H' => ∃ k, TruV K x H' k ∧ Q k H' : TT) σ H QB := k
def tTru (K : Frag) (ta : TE) : TT := fun σ H Q => ta σ H fun x H' => rTruK K x H' Q
theorem pt_tru {X : Cx} {K : Frag} {a : Expr} {ta : TE} (hK : X.K = K) (ha : PE X a ta) (he : ∀ whole, isTrue a X.env whole = (do let v ← whole; standAt a.pos; holding [v] (truthy v))) : PT X a (tTru K ta) := hK ▸ pt_truth ha he
theorem g_tTru {ta : TE} {QB : Bool → Hp → Prop} (k : ta σ H fun x H' => rTruK K x H' QB) : tTru K ta σ H QB := k
theorem g_truL {l : Addr} {vs : List V} {QB : Bool → Hp → Prop} (h : SqL K H l vs) (k : QB (!vs.isEmpty) H) : rTruK K (.ref l) H QB := ⟨_, .inl ⟨vs, h, rfl⟩, k⟩
theorem g_eqD {x y : V} {d e : PyData} (h1 : L2.Dp K H x d) (h2 : L2.Dp K H y e) (s1 : SeqAt.shaped d = true) (s2 : SeqAt.shaped e = true) (k : Q (.bl (PyData.eqv d e)) H) : rEqD K x y H Q := ⟨d, e, h1, h2, s1, s2, k⟩
theorem g_neD {x y : V} {d e : PyData} (h1 : L2.Dp K H x d) (h2 : L2.Dp K H y e) (s1 : SeqAt.shaped d = true) (s2 : SeqAt.shaped e = true) (k : Q (.bl (!PyData.eqv d e)) H) : rNeD K x y H Q := ⟨d, e, h1, h2, s1, s2, k⟩
theorem RG.hu64 {k : Nat} {A : Around} (g : RG k A) : A.units + 64 < cLine := by
  have := g.rm.un
  omega
/-- a tuple whose items need not last as data -/
theorem g_newTq {vs : List V} (S : Sy K F G H) (hl : vs.length ≤ 100000) (k : ∀ p H', H p = none → Sy K F (.tq p vs :: G) H' → Q (.ref p) H') : rNewT vs H Q :=
  ⟨Nat.le_trans hl (by decide), fun p hp => k p _ hp ((S.over hp).add (.tq p vs) (.inl (.inl upd_same)))⟩
/-- the last item -/
theorem atI_last {α : Type} {xs : List α} {x : α} : atI (xs ++ [x]) (-1) = some x := by
  have e : ixN (xs ++ [x]).length (-1) = some xs.length := by
    unfold ixN
    rw [List.length_append, List.length_singleton]
    rw [if_neg (by omega)]
    first
      | (rw [if_pos (by omega)]; congr 1; omega)
      | (simp; omega)
  unfold atI
  rw [e]
  show (xs ++ [x])[xs.length]? = some x
  rw [List.getElem?_append_right (Nat.le_refl _), Nat.sub_self]
  rfl
/-- for over range(a, b) -/
def Rg2For (g : TG) (tb : TS) (D : Ends) (σ : L2.St) (lo : Int) (n : Nat) (H : Hp) : Prop := ∃ W : Nat → Nat → L2.St → Hp → Prop, (∃ m, W 0 m σ H) ∧ ∀ i m σ H, W i m σ H →
  ((Itr lo n).stop i H ∧ D.nx σ H) ∨ ((Itr lo n).go i H ∧ ∃ N : L2.St → Hp → Prop, (∀ σ' H', N σ' H' → ∃ m', m' < m ∧ W (i + 1) m' σ' H') ∧ ∀ x H', (Itr lo n).yld i H x H' → g x σ H' fun σ2 H2 => tb { D with nx := N, ct := N, bk := D.nx } σ2 H2)
theorem g_forR2 {ta : TA} (k : ta σ H fun vs H1 => ∃ i j : Int, vs = [.int i, .int j] ∧ (-(2 ^ 62) ≤ i ∧ i < 2 ^ 62 ∧ -(2 ^ 62) ≤ j ∧ j < 2 ^ 62) ∧ Rg2For g tb D σ i (j - i).toNat H1) : tFor (iRng2 ta) g tb D σ H := k
theorem rg2for_of {lo : Int} {n : Nat} (Pv : Nat → L2.St → Hp → Prop) (h0 : Pv 0 σ H) (turn : ∀ i σ' H', i < n → Pv i σ' H' → g (.int (lo + i)) σ' H' fun σ2 H2 => tb { D with nx := Pv (i + 1), ct := Pv (i + 1), bk := D.nx } σ2 H2)
    (done : ∀ σ' H', Pv n σ' H' → D.nx σ' H') : Rg2For g tb D σ lo n H := for_range (lo := lo) Pv h0 turn done
end
end OB

set_option Elab.async false
set_option linter.all false
set_option maxRecDepth 100000
set_option maxHeartbeats 4000000
/-! OB, part k: sums of tuples, tuples turned round and joined, lists joined. -/
namespace OB
open PySem PySem.Spec PyProof.Rows L2 PySem.W
/-! sum of a list or a tuple of whole numbers -/
def rSumU (K : Frag) : List V → Hp → VK → Prop := fun vs H Q => ∃ (a : Addr) (ns : List Int), vs = [V.ref a] ∧ (SqL K H a (ns.map V.int) ∨ SqT K H a (ns.map V.int)) ∧ Q (.int ns.sum) H
section
variable {X : Cx}
theorem c_sumU (hc : X.calm = true) : CallR X (.builtin "sum") (rSumU X.K) := by
  intro pins s σ H vs us Q I r h
  obtain ⟨a, ns, rfl, hs | hs, q⟩ := h
  · exact cr_sum hc pins s σ H [.ref a] us Q I r ⟨a, ns, rfl, hs, q⟩
  · obtain ⟨its, rv, hl, _⟩ := I.tuple hs
    rw [Vals.ref1 r]
    obtain ⟨xs, hx⟩ := rv.ints.allInts.items
    have hn : numsOf its.toArray.toList = ns := by rw [show its.toArray.toList = its from rfl, rv.ints.numsOf]
    have hl2 : s.heap.IsTuple a (intItems xs) := hx ▸ hl
    rw [hx, nums_intItems] at hn
    refine ktm_sumG (I.ok.hd hc) hl2 fun h' tk t' hk => ?_
    rw [preSum_eq, List.take_of_length_le (by simp), hn]
    exact ⟨.int _, H, I.kept hk, ⟨_, rfl⟩, q⟩
end
section
variable {K : Frag} {F : List (Addr × HO)} {G : List Ft} {H : Hp} {Q : VK} {ns : List Int} {l : Addr}
theorem g_sumUL (h : SqL K H l (ns.map V.int)) (k : Q (.int ns.sum) H) : rSumU K [.ref l] H Q := ⟨l, ns, rfl, .inl h, k⟩
theorem g_sumUT (h : SqT K H l (ns.map V.int)) (k : Q (.int ns.sum) H) : rSumU K [.ref l] H Q := ⟨l, ns, rfl, .inr h, k⟩
end
/-! xs[::-1] of a tuple -/
section
open HT
theorem fm_congr {α β : Type} : ∀ {l : List α} {f g : α → Option β}, (∀ m ∈ l, f m = g m) → l.filterMap f = l.filterMap g
  | [], _, _, _ => rfl
  | x :: l, f, g, h => by
    rw [List.filterMap_cons, List.filterMap_cons, h x (List.mem_cons_self ..), fm_congr fun m hm => h m (List.mem_cons_of_mem _ hm)]
theorem pick_rev (items : Array Value) : ((List.range items.size).filterMap fun (m : Nat) => items[((items.size : Int) - 1 + (m : Int) * (-1)).toNat]?).toArray = items.toList.reverse.toArray := by
  have e : (List.range items.size).filterMap (fun (m : Nat) => items[((items.size : Int) - 1 + (m : Int) * (-1)).toNat]?) = items.toList.reverse := by
    have e1 : ∀ m ∈ List.range items.size, items[((items.size : Int) - 1 + (m : Int) * (-1)).toNat]? = (items.toList.reverse)[m]? := by
      intro m hm
      have hm := List.mem_range.mp hm
      rw [List.getElem?_reverse (by rw [Array.length_toList]; exact hm), Array.length_toList, Array.getElem?_toList]
      congr 1
      omega
    have e2 : (List.range items.size).filterMap (fun (m : Nat) => items[((items.size : Int) - 1 + (m : Int) * (-1)).toNat]?) = (List.range items.toList.reverse.length).filterMap fun m => (items.toList.reverse)[m]? := by
      rw [List.length_reverse, Array.length_toList]
      exact fm_congr e1
    rw [e2]
    generalize items.toList.reverse = l
    induction l with
    | nil => rfl
    | cons x l ih =>
      rw [List.length_cons, List.range_succ_eq_map, List.filterMap_cons]
      show x :: List.filterMap _ _ = _
      rw [List.filterMap_map]
      congr 1
  rw [e]
theorem adjust_rev (n : Nat) : Builtin.Slice.sliceAdjust none none (-1) (n : Int) = ((n : Int) - 1, -1) := rfl
theorem places_rev (n : Nat) : Builtin.Slice.slicePlaces ((n : Int) - 1) (-1) (-1) = n := by
  unfold Builtin.Slice.slicePlaces
  have h1 : ¬ ((-1 : Int) > 0) := by decide
  have h2 : (-(-1 : Int)) = 1 := by decide
  rw [if_neg h1, h2, Int.ediv_one]
  split <;> omega
variable {prog : Program} {w : World} {A : Around} {E : Value → Shared → Prop} {s : Shared}
theorem sliceApplied_rev {sl : Addr} {vl vu vk : Value} {n : Nat} {Q : Int × Int × Nat → Shared → Prop} (hs : s.heap.IsSliceOf sl vl vu vk) (pl : IsPart vl none) (pu : IsPart vu none) (pk : IsPart vk (some (-1)))
    (h : Q ((n : Int) - 1, -1, n) s) : wpAny (model prog w) A (Builtin.Slice.sliceApplied (.ref sl) (pure (n : Int))) Q E s := by
  obtain ⟨os, hos, hcs, hds⟩ := id hs
  unfold Builtin.Slice.sliceApplied Builtin.Slice.sliceFields
  refine wpAny_bind (wpAny_bind (wpAny_field hos hds (x := vl) rfl (wpAny_bind (wpAny_field hos hds (x := vu) rfl (wpAny_bind (wpAny_field hos hds (x := vk) rfl (wpAny_pure ?_)))))))
  refine wpAny_bind (slicePart_ pk ?_)
  show wpAny _ _ (if ((-1 : Int) == 0) = true then _ else _) _ _ s
  rw [if_neg (by decide)]
  refine wpAny_bind (slicePart_ pl (wpAny_bind (slicePart_ pu (wpAny_bind (wpAny_pure ?_)))))
  show wpAny _ _ (match Builtin.Slice.sliceAdjust none none (-1) (n : Int) with | (lo, hi) => pure (lo, (-1 : Int), Builtin.Slice.slicePlaces lo hi (-1))) _ _ s
  rw [adjust_rev n]
  show wpAny _ _ (pure ((n : Int) - 1, (-1 : Int), Builtin.Slice.slicePlaces ((n : Int) - 1) (-1) (-1))) _ _ s
  rw [places_rev]
  exact wpAny_pure h
theorem getItem_tuple_rev {t sl : Addr} {items : Array Value} {vl vu vk : Value} {Q : Value → Shared → Prop} (ht : IsTup s.heap t items) (hs : s.heap.IsSliceOf sl vl vu vk) (pl : IsPart vl none) (pu : IsPart vu none) (pk : IsPart vk (some (-1)))
    (h : Q (.ref s.heap.objs.size) { s with heap := s.heap.push { cls := .type "tuple", data := .seq items.toList.reverse.toArray } })
    (hsz : items.size ≤ sizeLine) : wpAny (model prog w) A (getItem (.ref t) (.ref sl)) Q E s := by
  have htake : sizeOk (.seq items.toList.reverse.toArray) := by
    show (items.toList.reverse.toArray).size ≤ sizeLine
    rw [List.size_toArray, List.length_reverse, Array.length_toList]
    omega
  obtain ⟨os, hos, hcs, hds⟩ := id hs
  have hTs : s.TypeIs (.ref sl) "slice" := ⟨os, hos, hcs⟩
  unfold getItem
  try with_reducible refine wpAny_holding ?_
  first | refine wpAny_bind (wpAny_pure ?_) | skip
  refine wpAny_bind (wpAny_sequenceKey ht.typeIs (by decide) ?_)
  refine wpAny_bind (wpAny_callSpecial?_slot (name := Str.ofString "__getitem__") ht.typeIs PyProof.Rows.slot_tuple_getitem
    (wpAny_call_entry PyProof.Rows.slot_tuple_getitem ht.typeIs entry_tuple_getitem ?_ (args_tuple_getitem _ _)))
  show wpAny _ _ (Builtin.Tuple.tupleItemsOf (.ref t) >>= _) _ _ s
  refine wpAny_bind (tupleItemsOf_ ht ?_)
  refine wpAny_bind (wpAny_typeOf hTs ?_)
  rw [if_pos (by decide)]
  refine wpAny_bind (sliceApplied_rev hs pl pu pk ?_)
  have hno : ¬ (((((items.size : Int) - 1) == 0) && (-1 : Int) == 1 && items.size == items.size) = true) := by
    intro q
    rw [Bool.and_eq_true, Bool.and_eq_true] at q
    exact absurd q.1.2 (by decide)
  show wpAny _ _ (if ((((items.size : Int) - 1) == 0) && (-1 : Int) == 1 && items.size == items.size) = true then _ else _) _ _ s
  rw [if_neg hno, pick_rev]
  first
    | exact wpAny_bind (m := Builtin.Tuple.tupleExact _) (wpAny_newObj_type (wpAny_pure ⟨_, rfl, wpAny_pure h⟩) htake)
    | exact wpAny_bind (m := Builtin.Tuple.tupleExact _) (wpAny_newObj_type (wpAny_bind (wpAny_pure (wpAny_pure ⟨_, rfl, wpAny_pure h⟩))) htake)
    | exact wpAny_bind (wpAny_bind (m := Builtin.Tuple.tupleExact _) (wpAny_newObj_type (wpAny_pure (wpAny_pure ⟨_, rfl, wpAny_pure h⟩)) htake))
    | exact wpAny_bind (wpAny_bind (m := Builtin.Tuple.tupleExact _) (wpAny_newObj_type (wpAny_pure ⟨_, rfl, wpAny_pure h⟩) htake))
end
def tRevT (K : Frag) (te : TE) : TE := fun σ H Q => te σ H fun x H1 => ∃ a xs, x = .ref a ∧ SqT K H1 a xs ∧ ∀ p, H1 p = none → Q (.ref p) (upd H1 p (.tup xs.reverse))
theorem pe_revT0 {X : Cx} {e : Expr} {te : TE} {k : Nat} {p1 p2 p3 pos : Pos} (he : PE X e te) : PE X (.Subscript e (.Slice none none (some (.UnaryOp .USub (.Constant (.int 1) k p1) p2)) p3) pos) (tRevT X.K te) := by
  refine ⟨fun pins s σ H Q I h => ?_⟩
  refine Subscript_ (thn (he.run pins s σ H _ I h) fun v s1 ⟨x, H1, I1, r1, q1⟩ => ?_)
  obtain ⟨a, xs, ex, hx, q⟩ := q1
  subst ex
  cases r1
  have hst : PO X (some (.UnaryOp .USub (.Constant (.int 1) k p1) p2)) (tPart (tUn (rU fun i => .int (-i)) (tC (.int 1)))) := po_some (pe_un un_neg pe_int)
  refine wpAny_Slice (thn (po_none.run pins s1 σ H1 (fun o H2 => o = none ∧ H2 = H1) I1 ⟨rfl, rfl⟩) fun vl s2 ⟨l, H2, I2, pl, el, e2⟩ => ?_)
  subst el e2
  refine thn (po_none.run pins s2 σ H2 (fun o H3 => o = none ∧ H3 = H2) I2 ⟨rfl, rfl⟩) fun vu s3 ⟨u, H3, I3, pu, eu, e3⟩ => ?_
  subst eu e3
  refine thn (hst.run pins s3 σ H3 (fun o H4 => o = some (-1) ∧ H4 = H3) I3 ⟨1, rfl, -1, rfl, rfl, rfl⟩) fun vs s4 ⟨o, H4, I4, ps, eo, e4⟩ => ?_
  subst eo e4
  have I5 : Inv X pins σ H4 { s4 with heap := s4.heap.push { cls := .type "slice", data := .fields #[vl, vu, vs] } } := I4.kept (t' := s4.toks) fun b ob q => Heap.get?_push_of_some _ q
  obtain ⟨its, r, ht, hz⟩ := I5.tuple hx
  have hlen := r.length
  show wpAny (model X.prog X.w) X.A (subscriptTail e (.Slice none none (some (.UnaryOp .USub (.Constant (.int 1) k p1) p2)) p3) (.ref a) (.ref s4.heap.objs.size)) (EP X pins σ Q) X.xe { s4 with heap := s4.heap.push { cls := .type "slice", data := .fields #[vl, vu, vs] } }
  refine tail_any (ops := [.ref a, .ref s4.heap.objs.size]) ht.typeIs (PyProof.Rows.slot_tuple_getitem.lookup) ?_ (by with_unfolding_all rfl)
  refine getItem_tuple_rev ht (Heap.IsSliceOf.new _ vl vu vs) pl pu ps ?_ (by rw [List.size_toArray]; omega)
  refine ⟨.ref _, _, I5.laid (t' := s4.toks) (o := .tup xs.reverse) (fun b ob q => Heap.get?_push_of_some _ q) (Nat.le_refl _) ?_, rfl, q _ (I5.hok.fresh (Nat.le_refl _))⟩
  exact ⟨by rw [List.length_reverse]; exact hz, _, r.reverse, IsTup.new _ _⟩
theorem pe_revT {X : Cx} {K : Frag} (h : X.K = K) {e : Expr} {te : TE} {k : Nat} {p1 p2 p3 pos : Pos} (he : PE X e te) : PE X (.Subscript e (.Slice none none (some (.UnaryOp .USub (.Constant (.int 1) k p1) p2)) p3) pos) (tRevT K te) := h ▸ pe_revT0 he
theorem op_catAK {X : Cx} {K : Frag} (h : X.K = K) : OpR X (binaryOp .Add) (rCatA K) := h ▸ op_catA
section
variable {K : Frag} {F : List (Addr × HO)} {G : List Ft} {σ : L2.St} {H : Hp} {Q : VK} {te : TE} {l b : Addr} {vs zs : List V} {ds : List PyData}
theorem g_revT (k : te σ H fun x H1 => ∃ a xs, x = .ref a ∧ SqT K H1 a xs ∧ ∀ p, H1 p = none → Q (.ref p) (upd H1 p (.tup xs.reverse))) : tRevT K te σ H Q := k
theorem g_rev1 (S : Sy K F G H) (h : SqT K H l vs) (hd : DpAll K H vs ds) (hi : immAll ds = true) (k : ∀ p H', Sy K F (.dat [.ref p] [.tuple ds.reverse] :: G) H' → Q (.ref p) H') : ∃ a xs, V.ref l = .ref a ∧ SqT K H a xs ∧ ∀ p, H p = none → Q (.ref p) (upd H p (.tup xs.reverse)) := by
  have rev : ∀ {vs : List V} {ds : List PyData}, DpAll K H vs ds → DpAll K H vs.reverse ds.reverse := by
    intro vs ds h
    induction vs generalizing ds with
    | nil =>
      cases h
      exact .nil
    | cons v vs ih =>
      cases h with
      | cons a b =>
        rw [List.reverse_cons, List.reverse_cons]
        exact dps_append (ih b) (dps_one a)
  have irev : immAll ds.reverse = true := immAll_of fun x hx => by
    have := List.mem_reverse.mp hx
    clear k hd rev
    induction ds with
    | nil => cases this
    | cons d ds ih =>
      have hi2 : (imm d && immAll ds) = true := hi
      rw [Bool.and_eq_true] at hi2
      rcases List.mem_cons.mp this with rfl | h3
      · exact hi2.1
      · exact ih hi2.2 (List.mem_reverse.mpr h3) h3
  exact ⟨l, vs, rfl, h, fun p hp => k p _ (S.lay hp (rev hd) irev)⟩
/-- two tuples joined: both of data, neither empty -/
theorem g_catA {d1 d2 : List PyData} (S : Sy K F G H) (h1 : SqT K H l vs) (h2 : SqT K H b zs) (e1 : DpAll K H vs d1) (e2 : DpAll K H zs d2) (i1 : immAll (d1 ++ d2) = true) (n1 : vs ≠ []) (n2 : zs ≠ []) (hl : vs.length + zs.length ≤ 100000)
    (k : ∀ p H', H p = none → Sy K F (.dat [.ref p] [.tuple (d1 ++ d2)] :: G) H' → Q (.ref p) H') : rCatA K (.ref l) (.ref b) H Q :=
  ⟨l, b, vs, zs, rfl, rfl, h1, h2, Nat.le_trans hl (by decide), fun z => absurd z n1, fun _ z => absurd z n2, fun _ _ p hp => k p _ hp (S.lay hp (dps_append e1 e2) i1)⟩
/-- two lists joined -/
theorem g_cat {i j : Nat} (S : Sy K F G H) (h1 : F[i]? = some (l, .lst vs)) (h2 : F[j]? = some (b, .lst zs)) (hl : vs.length + zs.length ≤ 100000)
    (k : ∀ p H', Sy K ((p, .lst (vs ++ zs)) :: F) G H' → Q (.ref p) H') : rCat (.ref l) (.ref b) H Q :=
  ⟨l, b, vs, zs, rfl, rfl, S.at i h1, S.at j h2, Nat.le_trans hl (by decide), fun p hp => k p _ (S.push hp)⟩
end
end OB

set_option Elab.async false
set_option linter.all false
set_option maxRecDepth 100000
set_option maxHeartbeats 4000000
/-! OB, part l: sets of whole numbers made of lists, sorted; max of a tuple; in, index, pop; comprehensions over range(a, b). -/
namespace OB
open PySem PySem.Spec PyProof.Rows L2 PySem.W
/-! ### max of a tuple of ints -/
def rMaxU (K : Frag) : List V → Hp → VK → Prop := fun vs H Q => ∃ (a : Addr) (ns : List Int), vs = [V.ref a] ∧ (SqL K H a (ns.map V.int) ∨ SqT K H a (ns.map V.int)) ∧ 0 < ns.length ∧ ∀ m, m ∈ ns → (∀ y, y ∈ ns → y ≤ m) → Q (.int m) H
section
variable {prog : Program} {w : World} {A : Around} {E : Value → Shared → Prop} {s : Shared} {t : Addr} {its : List Value} {ns : List Int}
theorem max_rawT {Q : Value → Shared → Prop} (hh : A.handled = none) (hl : s.heap.IsTuple t its.toArray) (hi : IntsAre its ns) (hne : 0 < ns.length)
    (h : ∀ h' tk M t', (∀ b o, s.heap.get? b = some o → h'.get? b = some o) → M ∈ ns → (∀ a, a ∈ ns → a ≤ M) → Q (.int M t') { s with heap := h', toks := tk }) : wpAny (model prog w) A (call (.builtin "max") [.ref t]) Q E s := by
  obtain ⟨xs, e⟩ := hi.allInts.items
  have hn : numsOf (intItems xs).toList = ns := e ▸ hi.numsOf
  rw [nums_intItems] at hn
  subst hn
  rw [e] at hl
  have n0 : 0 < xs.size := by simpa using hne
  obtain ⟨o, ho, hc, n, hd⟩ := id hl
  have ne : t ≠ s.heap.objs.size := Nat.ne_of_lt (Heap.lt_size ho)
  refine call_max_walk (wpAny_pyIter_tuple hl ⟨s.heap.objs.size, _, _, _, _, _, _, rfl, Walks.tuple (A := A.in1) hh _ t ne (intItems xs), ⟨⟨_, Heap.get?_push_size _ rfl, rfl, rfl⟩, hl.at fun o e => Heap.get?_push_of_some _ e⟩, fun b hb => ?_, by simpa [intItems] using n0, CmpOf.ints_gt (numAt xs) (fun _ _ => intItems_at), fun v h' tk hP hk => ?_⟩)
  · rcases List.mem_cons.mp hb with rfl | hb
    · exact Heap.lt_size (Heap.get?_push_size _ rfl)
    · cases List.mem_singleton.mp hb
      exact Heap.lt_size (Heap.get?_push_of_some _ ho)
  · obtain ⟨t', rfl⟩ := intItems_at (show (intItems xs)[_]? = some v from hP)
    obtain ⟨b1, b2⟩ := argBest_gt (numAt xs) ((intItems xs).size - 1)
    have es : (intItems xs).size = xs.size := by simp [intItems]
    rw [es] at b1 b2
    refine h h' tk _ t' (fun b o e => hk b o (fun hb => absurd (Heap.lt_size e) ((List.mem_singleton.mp hb) ▸ Nat.lt_irrefl _)) (Heap.get?_push_of_some _ e)) ?_ fun a ha => ?_
    · rw [numAt_eq, es]
      exact PySem.getD_mem (by rw [List.length_map, Array.length_toList]; omega)
    · obtain ⟨j, hj, rfl⟩ := mem_getD ha
      rw [List.length_map, Array.length_toList] at hj
      have := b2 j (by omega)
      rw [numAt_eq, numAt_eq] at this
      rw [numAt_eq, es]
      exact this
end
section
variable {X : Cx}
theorem c_maxU (hc : X.calm = true) : CallR X (.builtin "max") (rMaxU X.K) := by
  intro pins s σ H vs us Q I r h
  obtain ⟨a, ns, rfl, hs | hs, n0, q⟩ := h
  · exact cr_max hc pins s σ H [.ref a] us Q I r ⟨a, ns, rfl, hs, n0, q⟩
  · obtain ⟨its, rv, hl, _⟩ := I.tuple hs
    rw [Vals.ref1 r]
    exact max_rawT (I.ok.hd hc) hl rv.ints n0 fun h' tk m t' hk h1 h2 => ⟨.int _, H, I.kept hk, ⟨_, rfl⟩, q m h1 h2⟩
/-! ### x in a list or tuple of ints -/
theorem op_inK {K : Frag} (h : X.K = K) : OpR X (compareOp .In) (rIn K false) := h ▸ op_in_seq
end
theorem flat_ints (ns : List Int) : (ns.map V.int).all flatV = true := List.all_eq_true.mpr fun x hx => by
  obtain ⟨n, _, rfl⟩ := List.mem_map.mp hx
  rfl
theorem inV_ints (a : Int) : ∀ (ns : List Int), inV (.int a) (ns.map V.int) = decide (a ∈ ns)
  | [] => by simp [inV]
  | n :: ns => by
    have e := inV_ints a ns
    unfold inV at e ⊢
    rw [List.map_cons, List.any_cons, e]
    by_cases h : n = a
    · subst h
      simp [eqV]
    · have h2 : ¬ a = n := fun z => h z.symm
      have e3 : eqV (.int n) (.int a) = false := by simp [eqV, h]
      rw [e3]
      simp [h2]
section
variable {K : Frag} {F : List (Addr × HO)} {G : List Ft} {σ : L2.St} {H : Hp} {Q : VK} {ns : List Int} {l : Addr} {a : Int}
theorem g_inT (h : SqT K H l (ns.map V.int)) (k : Q (.bl (decide (a ∈ ns))) H) : rIn K false (.int a) (.ref l) H Q :=
  ⟨l, _, rfl, .inr h, rfl, flat_ints ns, by rw [if_neg Bool.false_ne_true, inV_ints]; exact k⟩
theorem g_inL (h : SqL K H l (ns.map V.int)) (k : Q (.bl (decide (a ∈ ns))) H) : rIn K false (.int a) (.ref l) H Q :=
  ⟨l, _, rfl, .inl h, rfl, flat_ints ns, by rw [if_neg Bool.false_ne_true, inV_ints]; exact k⟩
theorem g_maxUL (h : SqL K H l (ns.map V.int)) (n0 : 0 < ns.length) (k : ∀ m, m ∈ ns → (∀ y, y ∈ ns → y ≤ m) → Q (.int m) H) : rMaxU K [.ref l] H Q := ⟨l, ns, rfl, .inl h, n0, k⟩
theorem g_maxUT (h : SqT K H l (ns.map V.int)) (n0 : 0 < ns.length) (k : ∀ m, m ∈ ns → (∀ y, y ∈ ns → y ≤ m) → Q (.int m) H) : rMaxU K [.ref l] H Q := ⟨l, ns, rfl, .inr h, n0, k⟩
theorem seqIx0 {n : Nat} (h : 0 < n) : seqIndex? 0 n = some 0 := by
  unfold seqIndex?
  first
    | (rw [if_pos (by omega)]; simp; done)
    | (simp; omega)
/-- xs.pop(0) -/
theorem g_pop0 {f : Nat} {x : V} {xs : List V} (S : Sy K F G H) (h : F[f]? = some (l, .lst (x :: xs))) (k : ∀ H', Sy K (F.set f (l, .lst xs)) G H' → Q x H') : rPopAt (.ref l) [.int 0] H Q :=
  ⟨l, x :: xs, 0, 0, x, rfl, rfl, S.at f h, by decide, by decide, seqIx0 (Nat.succ_pos _), rfl, k _ (S.put f h rfl)⟩
/-- xs.index(n), n there -/
theorem g_indexI (h : SqL K H l (ns.map V.int)) {j : Nat} (e : ns[j]? = some a) (no : ∀ m z, m < j → ns[m]? = some z → z ≠ a) (k : Q (.int (j : Nat)) H) : rIndex K (.ref l) [.int a] H Q := by
  refine ⟨l, ns.map V.int, .int a, j, .int a, rfl, rfl, h, rfl, flat_ints ns, by rw [List.getElem?_map, e]; rfl, by simp [eqV], fun m z' hm hz => ?_, k⟩
  rw [List.getElem?_map] at hz
  obtain ⟨z, hz2, rfl⟩ := Option.map_eq_some_iff.mp hz
  have := no m z hm hz2
  simp [eqV, this]
end
/-! ### comprehensions over range(a, b) -/
section
variable {K : Frag} {F : List (Addr × HO)} {G : List Ft} {σ : L2.St} {H : Hp} {Q : VK} {own : List Nat} {g : TG} {tt : TT} {te : TE}
def Rg2Lc (K : Frag) (g : TG) (tt : TT) (te : TE) (own : List Nat) (σ : L2.St) (Q : VK) (lo : Int) (n : Nat) (H : Hp) : Prop := ∀ Dp, H Dp = none → ∃ W : Nat → Nat → Hp → Prop, (∃ m, W 0 m (upd H Dp (.lst []))) ∧ ∀ i m H, W i m H →
  ((Itr lo n).stop i H ∧ Q (.ref Dp) H) ∨ ((Itr lo n).go i H ∧ ∃ Nx : Hp → Prop, (∀ H', Nx H' → ∃ m', m' < m ∧ W (i + 1) m' H') ∧ ∀ x H', (Itr lo n).yld i H x H' → g x (wipe σ own) H' fun σ2 H2 => wipe σ2 own = wipe σ own ∧ tt σ2 H2 fun b H3 =>
    if b = true then te σ2 H3 fun y H4 => ∃ acc, H4 Dp = some (.lst acc) ∧ acc.length < sizeLine ∧ Nx (upd H4 Dp (.lst (acc ++ [y]))) else Nx H3)
theorem g_lcR2 {ta : TA} (k : ta σ H fun vs H1 => ∃ i j : Int, vs = [.int i, .int j] ∧ (-(2 ^ 62) ≤ i ∧ i < 2 ^ 62 ∧ -(2 ^ 62) ≤ j ∧ j < 2 ^ 62) ∧ Rg2Lc K g tt te own σ Q i (j - i).toNat H1) : tLc (iRng2 ta) g tt te own σ H Q := k
theorem rg2lc_of {lo : Int} {n : Nat} (I : Nat → List (Addr × HO) → List PyData → Prop) (S : Sy K F G H) (h0 : I 0 F []) (hl : ∀ i F ds, I i F ds → ds.length < 100000)
    (turn : ∀ i, i < n → Turn1 K G I σ own g tt te i (.int (lo + i)))
    (done : ∀ Dp H' F' vs ds, H Dp = none → I n F' ds → Sy K ((Dp, .lst vs) :: F') (.dat vs ds :: G) H' → Q (.ref Dp) H') : Rg2Lc K g tt te own σ Q lo n H := fun Dp hD => by
  refine lc_range (lo := lo) (n := n) (LcP K G I Dp) (lcp_start S h0 hD) (fun i H' hi p => lcp_turn hl (turn i hi) p) fun H' p => ?_
  obtain ⟨F', vs, ds, hi, S'⟩ := p
  exact done Dp H' F' vs ds hD hi S'
/-! tuples of data joined, either of them empty or not -/
theorem g_catU {l b : Addr} {d1 d2 : List PyData} (S : Sy K F G H) (h1 : L2.Dp K H (.ref l) (.tuple d1)) (h2 : L2.Dp K H (.ref b) (.tuple d2)) (i1 : immAll d1 = true) (i2 : immAll d2 = true) (hl : d1.length + d2.length ≤ 100000)
    (k : ∀ p H', Sy K F (.dat [.ref p] [.tuple (d1 ++ d2)] :: G) H' → Q (.ref p) H') : rCatA K (.ref l) (.ref b) H Q := by
  obtain ⟨l', vs, e, s1, e1⟩ := dp_at h1
  cases e
  obtain ⟨b', zs, e, s2, e2⟩ := dp_at h2
  cases e
  have n1 := dps_length e1
  have n2 := dps_length e2
  refine ⟨l, b, vs, zs, rfl, rfl, s1, s2, Nat.le_trans (by omega) (show 100000 ≤ sizeLine by decide), fun z => ?_, fun _ z => ?_, fun _ _ p hp => k p _ (S.lay hp (dps_append e1 e2) (by rw [immAll_append, i1, i2]; rfl))⟩
  · subst z
    have : d1 = [] := List.length_eq_zero_iff.mp n1.symm
    subst this
    exact k b H (S.fact (dps_one h2) (by show (imm (.tuple d2) && true) = true; rw [Bool.and_true]; exact i2))
  · subst z
    have : d2 = [] := List.length_eq_zero_iff.mp n2.symm
    subst this
    refine k l H (S.fact (dps_one ?_) ?_)
    · rw [List.append_nil]; exact h1
    · show (imm (.tuple (d1 ++ [])) && true) = true
      rw [List.append_nil, Bool.and_true]
      exact i1
end
/-! ### set(xs) of a list of ints, sorted(set) -/
abbrev sObj (w : World) : Obj := { cls := .type "set", dict := none, data := .set #[] 0 (.fresh 0 0 (!w.params.followText "set-order")) }
section
variable {P : Program} {w : World} {A : Around} {E : Value → Shared → Prop} {s : Shared}
set_option maxRecDepth 100000 in
set_option maxHeartbeats 3200000 in
theorem set_listI {l : Addr} {items : Array Value} (ns : List Int) {Q : Value → Shared → Prop} (hh : A.handled = none) (hl : s.heap.IsList l items) (hit : IntsAre items.toList ns) (hb : ns.length + 1 < scanBound)
    (h : ∀ (h' : Heap) (tk c : Nat), SetR w h' s.heap.objs.size (fun j => decide (j ∈ ns)) c → c ≤ ns.length → (∀ b o, s.heap.get? b = some o → h'.get? b = some o) → Q (.ref s.heap.objs.size) { s with heap := h', toks := tk }) :
    wpAny (model P w) A (call (.type "set") [.ref l]) Q E s := by
  have isz : items.size = ns.length := (Array.length_toList ▸ IntsAre.length hit : _)
  obtain ⟨_, _, hmro⟩ := F.called_set.mro
  have made := F.called_set.made
  have sub := F.called_set.sub
  refine wpAny_call (codeAny_of_tree (show wpAny _ _ (callAny (.type "set") _) _ _ _ from wpAny_pure ⟨Code.quiet_builtin _ (by decide +kernel), codeAny_builtin F.entry_type_call ?_⟩))
  rw [Around.under_plain (weight_type_call_type "set" [.ref l] []) rfl]
  have nt := F.called_set.notType
  have cc := F.called_set.canCreate
  have tc := F.typeCall_set_1 (.ref l)
  repeat (any_goals (first | assumption | wp_step))
  refine codeAny_mono (code_set_led1 (.ref l) (E := E) (Q₁ := fun obj s₁ => obj = .ref s.heap.objs.size ∧ s₁ = { s with heap := s.heap.push (sObj w) }) ⟨rfl, rfl⟩) fun r s₁ hr => ?_
  cases r with
  | error e => exact hr
  | ok fl =>
    cases fl with
    | ret obj =>
      obtain ⟨rfl, rfl⟩ := hr
      have hS : (s.heap.push (sObj w)).get? s.heap.objs.size = some (sObj w) := Heap.get?_push_size _ rfl
      have hT : Shared.TypeIs { s with heap := s.heap.push (sObj w) } (.ref s.heap.objs.size) "set" := ⟨_, hS, rfl⟩
      have li := F.called_set.init.lookup
      have bi := F.called_set.init.bind (.ref s.heap.objs.size)
      repeat (any_goals (first | assumption | wp_step))
      refine codeAny_mono (codeAny_call_builtin (R := wants (fun r s₂ => r = .none ∧ ∃ h' tk c, s₂ = { s with heap := h', toks := tk } ∧ SetR w h' s.heap.objs.size (fun j => decide (j ∈ ns)) c ∧ c ≤ ns.length ∧ (∀ b o, s.heap.get? b = some o → h'.get? b = some o)) E) F.called_set.init.plain F.entry_set_init (check_set_init_1 hT ?_)) fun r₂ s₂ hr₂ => ?_
      · obtain ⟨⟨oc, od, oda, osl⟩, hol, hcl, nl, hdl⟩ := hl
        simp only at hcl hdl
        subst hcl hdl
        have hol' : (s.heap.push (sObj w)).get? l = some { cls := .type "list", dict := od, data := .seq items nl, slots := osl } := Heap.get?_push_of_some _ hol
        have u1 := F.sub_list_set
        have u2 := F.sub_list_frozenset
        have u3 : (Value.type "list" == Value.type "dict") = false := by decide
        have hl1 : (s.heap.push (sObj w)).IsList l items := ⟨_, hol', rfl, nl, rfl⟩
        unfold Builtin.«set.__init__» noKeywords Builtin.Frozenset.updateFrom
        generalize hPI : pyIter = PI
        wp_walk
        subst hPI
        refine wpAny_pyIter_list hl1 (wpAny_bind (wpAny_runValue ?_))
        have lS : l < s.heap.objs.size := Heap.lt_size hol
        have z1 : (s.heap.push (sObj w)).objs.size = s.heap.objs.size + 1 := Heap.size_push ..
        have nI : l ≠ (s.heap.push (sObj w)).objs.size := fun z => by
          rw [Heap.size_push] at z
          exact Nat.lt_irrefl _ (Nat.lt_of_succ_lt (z ▸ lS))
        have Sf : s.heap.objs.size ∉ [(s.heap.push (sObj w)).objs.size, l] := by
          intro z
          rcases List.mem_cons.mp z with z | z
          · rw [Heap.size_push] at z
            exact Nat.succ_ne_self _ z.symm
          · exact absurd (List.mem_singleton.mp z) (Nat.ne_of_gt lS)
        have val : ∀ (i : Nat) (v : Value), items[i]? = some v → ∃ k t, ns[i]? = some k ∧ v = .int k t := fun i v hv => by
          have hi : i < ns.length := by rw [← isz]; exact (Array.getElem?_eq_some_iff.mp hv).1
          obtain ⟨t, e⟩ := PyProof.Rows.IntsAre.int_at hit i v (by rw [Array.getElem?_toList]; exact hv)
          exact ⟨ns[i], t, List.getElem?_eq_getElem hi, by rw [e, List.getD_eq_getElem?_getD, List.getElem?_eq_getElem hi] <;> rfl⟩
        refine set_update_ints ((Walks.list (by simp [hh]) _ l nI items).toS) s.heap.objs.size Sf ns isz hb val (items.size - 0) 0 _ (by omega) (Nat.zero_le _) ⟨⟨_, Heap.get?_push_size _ rfl, rfl, rfl⟩, (hl1.push _)⟩ ⟨0, Nat.le_refl 0, setR_new_at (Heap.get?_push_of_some _ hS)⟩ fun s' c' hm hc' hS' => ?_
        obtain ⟨h', g2, d', tk', os'⟩ := s'
        have eg : g2 = s.gens := hm.gens
        have ed : d' = s.drawn := hm.drawn
        have eo : os' = s.os := hm.os
        subst eg ed eo
        show wpAny _ _ _ _ _ _
        refine wpAny_pure (show wpAny _ _ (ret Value.none) _ _ _ from ?_)
        rw [isz] at hc'
        refine wpAny_pure ⟨rfl, h', tk', c', rfl, hS', hc', fun b o e => ?_⟩
        have b0 : b < s.heap.objs.size := Heap.lt_size e
        refine hm.heap b o (fun z => ?_) (Heap.get?_push_of_some _ (Heap.get?_push_of_some _ e))
        rcases List.mem_cons.mp z with z | z
        · exact absurd z (Nat.ne_of_lt b0)
        · have z := List.mem_singleton.mp z
          rw [Heap.size_push] at z
          exact absurd z (Nat.ne_of_lt (Nat.lt_succ_of_lt b0))
      · cases r₂ with
        | error e => exact hr₂
        | ok fl₂ =>
          cases fl₂ with
          | ret r =>
            obtain ⟨rfl, h', tk, c, rfl, q1, q2, q3⟩ := hr₂
            repeat (any_goals (first | assumption | wp_step))
            exact h _ _ _ q1 q2 q3
          | _ => exact hr₂.elim
    | _ => exact hr.elim
end
def SetIO (w : World) (a : Addr) (S : Int → Bool) (n : Nat) : HO := .ext fun h => SetR w h a S n
theorem setIO_new {P : Program} {w : World} {H : Hp} {h : Heap} {a : Addr} {S : Int → Bool} {n : Nat} (R : SetR w h a S n) : ObjOk P w H h a (SetIO w a S n) := by
  obtain ⟨o, _, _, _, ho, _⟩ := id R
  exact ⟨R, ⟨o, ho⟩, fun h1 h2 p k => p.at k⟩
def rSetI (K : Frag) (w : World) : List V → Hp → VK → Prop := fun vs H Q => ∃ (l : Addr) (ns : List Int), vs = [V.ref l] ∧ SqL K H l (ns.map V.int) ∧ ns.length < 1000 ∧ ∀ a n, H a = none → n ≤ ns.length → Q (.ref a) (upd H a (SetIO w a (fun j => decide (j ∈ ns)) n))
def rSortSI (w : World) : List V → Hp → VK → Prop := fun vs H Q => ∃ (a : Addr) (S : Int → Bool) (n : Nat), vs = [V.ref a] ∧ H a = some (SetIO w a S n) ∧ n < 64 ∧
  ∀ (ms : List Int) (p : Addr), ms.Pairwise (· < ·) → (∀ k, k ∈ ms ↔ S k = true) → ms.length = n → H p = none → Q (.ref p) (upd H p (.lst (ms.map V.int)))
section
variable {X : Cx}
theorem c_setI (hc : X.calm = true) : CallR X (.type "set") (rSetI X.K X.w) := by
  intro pins s σ H vs us Q I r h
  obtain ⟨l, ns, rfl, hs, hn, q⟩ := h
  rw [Vals.ref1 r]
  obtain ⟨its, rv, pl, _⟩ := I.list hs
  refine set_listI (P := X.prog) (w := X.w) ns (I.ok.hd hc) pl.isList rv.ints (by unfold scanBound; omega) fun h' tk c R hc' k => ?_
  exact ⟨.ref s.heap.objs.size, upd H s.heap.objs.size (SetIO X.w s.heap.objs.size _ c), I.laid (t' := tk) k (Nat.le_refl _) (setIO_new R), rfl, q _ c (I.hok.fresh (Nat.le_refl _)) hc'⟩
theorem c_sortSI (hc : X.calm = true) : CallR X (.builtin "sorted") (rSortSI X.w) := by
  intro pins s σ H vs us Q I r h
  obtain ⟨a, S, n, rfl, ha, h64, q⟩ := h
  have R : SetR X.w s.heap a S n := (I.hok a _ ha).1
  rw [Vals.ref1 r]
  refine sorted_set R (I.ok.hd hc) h64 fun s' p out c ms k g o hp hg hi pw hm hl => ?_
  have len : (ms.map V.int).length ≤ sizeLine := by rw [List.length_map, hl, sizeLine_eq]; omega
  have hn : H p = none := I.hok.fresh hp
  have J : Inv X pins σ (upd H p (.lst (ms.map V.int))) { s with heap := s'.heap, gens := s'.gens, drawn := s'.drawn, toks := s'.toks } :=
    I.call (ch := []) (Un.laid k hp hn) (I.hok.laid k hp ⟨len, out.toList, c, vals_of_ints hi, hg⟩) (by rw [g]; exact I.bare) (fun _ z => nomatch z)
  have e : s' = { s with heap := s'.heap, gens := s'.gens, drawn := s'.drawn, toks := s'.toks } := by
    obtain ⟨_, _, _, _, _⟩ := s'
    obtain ⟨_, _, _, _, _⟩ := s
    cases o
    rfl
  rw [e]
  exact ⟨.ref p, _, J, rfl, q ms p pw hm hl hn⟩
end
section
variable {K : Frag} {w : World} {F : List (Addr × HO)} {G : List Ft} {H : Hp} {Q : VK} {ns : List Int} {l : Addr}
theorem g_setI (S : Sy K F G H) (h : SqL K H l (ns.map V.int)) (hl : ns.length < 64) (k : ∀ a n H', n < 64 → H' a = some (SetIO w a (fun j => decide (j ∈ ns)) n) → Sy K F G H' → Q (.ref a) H') : rSetI K w [.ref l] H Q :=
  ⟨l, ns, rfl, h, by omega, fun a n ha hn => k a n _ (by omega) upd_same (S.over ha)⟩
theorem g_sortSI {a : Addr} {n : Nat} (S : Sy K F G H) (h : H a = some (SetIO w a (fun j => decide (j ∈ ns)) n)) (h64 : n < 64) (k : ∀ (ms : List Int) p H', ms.Pairwise (· < ·) → (∀ x, x ∈ ms ↔ x ∈ ns) → ms.length < 64 → Sy K ((p, .lst (ms.map V.int)) :: F) G H' → Q (.ref p) H') : rSortSI w [.ref a] H Q :=
  ⟨a, _, n, rfl, h, h64, fun ms p pw hm hl hp => k ms p _ pw (fun x => by rw [hm]; exact decide_eq_true_iff) (by omega) (S.push hp)⟩
end
end OB

set_option Elab.async false
set_option linter.all false
set_option maxRecDepth 100000
set_option maxHeartbeats 4000000
/-! OB, part m: dicts of ints read, written, gone through; min of a list of alike data; lists turned round. -/
namespace OB
open PySem PySem.Spec PyProof.Rows L2 PySem.W
section
variable {K : Frag} {F : List (Addr × HO)} {G : List Ft} {σ : L2.St} {H : Hp} {Q : VK} {d : Addr} {kvs : List (Key × V)} {i : Nat} {n : Int} {v x : V} {od : Obj} {u : HO}
/-! ### locked while a comprehension goes through it -/
theorem g_lockE {t : TE} (S : Sy K F G H) (h : F[i]? = some (d, .dK kvs)) (k : ∀ od H', Sy K (F.set i (d, .frz od (.dK kvs))) G H' → t σ H' fun v H2 => H2 d = some (.frz od (.dK kvs)) ∧ Q v (upd H2 d (.dK kvs))) : tLockE t σ H Q :=
  ⟨d, _, S.at i h, trivial, fun od => k od _ (S.put i h rfl)⟩
theorem Sy.unlock {y : Addr × HO} (S : Sy K (y :: F.set i (d, .frz od u)) G H) (h : F[i]? = some (d, u)) (m : isFix u = false) : H d = some (.frz od u) ∧ Sy K (y :: F) G (upd H d u) := by
  have hi := (List.getElem?_eq_some_iff.mp h).1
  have e : (y :: F.set i (d, .frz od u))[i + 1]? = some (d, .frz od u) := by
    show (F.set i (d, .frz od u))[i]? = _
    exact List.getElem?_set_self hi
  refine ⟨S.at (i + 1) e, ?_⟩
  have S2 := S.put (o' := u) (i + 1) e (by show (!isFix u) = true; rw [m]; rfl)
  have S3 : Sy K (y :: (F.set i (d, .frz od u)).set i (d, u)) G (upd H d u) := S2
  have e3 : F.set i (d, u) = F := by
    refine List.ext_getElem? fun j => ?_
    by_cases c : i = j
    · subst c
      rw [List.getElem?_set_self hi, h]
    · rw [List.getElem?_set_ne c]
  rw [List.set_set, e3] at S3
  exact S3
/-- a comprehension over the keys -/
theorem g_lcK {td : TE} {g : TG} {tt : TT} {te : TE} {own : List Nat} {ks : List Int} (I : Nat → List (Addr × HO) → List PyData → Prop) (S : Sy K F G H) (ht : ∀ Q' : VK, Q' (.ref d) H → td σ H Q') (h0 : I 0 F [])
    (hq : ∀ i F' ds H', I i F' ds → Sy K F' G H' → H' d = some (.frz od (.dK kvs))) (hl : ∀ i F ds, I i F ds → ds.length < 100000) (hk : KeysI kvs ks)
    (turn : ∀ i n, ks[i]? = some n → Turn1 K G I σ own g tt te i (.int n))
    (done : ∀ Dp H' F' vs ds, H Dp = none → I ks.length F' ds → Sy K ((Dp, .lst vs) :: F') (.dat vs ds :: G) H' → Q (.ref Dp) H') : tLc (iKeys td) g tt te own σ H Q := by
  have kl : kvs.length = ks.length := by
    have e := congrArg List.length hk
    rw [List.length_map, List.length_map] at e
    exact e
  refine ht _ ⟨d, od, rfl, .inl ⟨kvs, hq 0 F [] H h0 S, fun Dp hD => ?_⟩⟩
  refine lc_it (walk_keys (d := d) (o := od) (kvs := kvs)) (LcP K G I Dp) (lcp_start S h0 hD) (fun i H' _ p => ?_) (fun i v H1 H' hi p y => ?_) fun H' p => ?_
  · obtain ⟨F', vs, ds, hi, S'⟩ := p
    exact hq i F' ds _ hi S'.drop.less
  · obtain ⟨rfl, k, z, hz, rfl⟩ := y
    have hki : (kvs.map (·.1))[i]? = some k := by rw [List.getElem?_map, hz]; rfl
    rw [show kvs.map (·.1) = ks.map Sum.inl from hk, List.getElem?_map] at hki
    obtain ⟨n, hn, rfl⟩ := Option.map_eq_some_iff.mp hki
    exact lcp_turn hl (turn i n hn) p
  · obtain ⟨F', vs, ds, hi, S'⟩ := p
    rw [kl] at hi
    exact done Dp H' F' vs ds hD hi S'
/-! ### read and written -/
def rDGet (x y : V) (H : Hp) (Q : VK) : Prop := ∃ a v, x = .ref a ∧ DGet H a y (some v) ∧ Q v H
theorem g_dget {td ty : TE} (k : td σ H fun x H1 => ty σ H1 fun y H2 => rDGet x y H2 Q) : tDGet td ty σ H Q := k
theorem g_dgetI (h : Rd H d (.dK kvs)) (e : valV kvs (.inl n) = some v) (k : Q v H) : rDGet (.ref d) (.int n) H Q := ⟨d, v, rfl, .inl ⟨kvs, .inl n, h, rfl, e.symm⟩, k⟩
def rDNotIn (y x : V) (H : Hp) (Q : VK) : Prop := ∃ a o, x = .ref a ∧ DGet H a y o ∧ Q (.bl (!o.isSome)) H
theorem g_dnotin {td ty : TE} (k : ty σ H fun y H1 => td σ H1 fun x H2 => rDNotIn y x H2 Q) : tDNotIn ty td σ H Q := k
theorem g_dnotinI (h : Rd H d (.dK kvs)) (k : Q (.bl (!(valV kvs (.inl n)).isSome)) H) : rDNotIn (.int n) (.ref d) H Q := ⟨d, _, rfl, .inl ⟨kvs, .inl n, h, rfl, rfl⟩, k⟩
theorem g_setD {QH : Hp → Prop} (S : Sy K F G H) (h : F[i]? = some (d, .dK kvs)) (hl : kvs.length < 100000) (k : ∀ H', Sy K (F.set i (d, .dK (putK kvs (.inl n) v))) G H' → QH H') : rSetD (.ref d) (.int n) v H QH :=
  ⟨d, _, rfl, .inl ⟨kvs, .inl n, S.at i h, rfl, Nat.lt_of_lt_of_le hl (by decide), rfl⟩, k _ (S.put i h rfl)⟩
/-- {k: v}, the value made behind the dict -/
theorem g_disp2 {tk tv : TE} (k : ∀ p, H p = none → tk σ (upd H p (.dK [])) fun x H2 => tv σ H2 fun y H3 => H3 p = some (.dK []) ∧ ∃ n, x = .int n ∧ Q (.ref p) (upd H3 p (.dK [(.inl n, y)]))) (mono : ∀ H (Q Q' : VK), (∀ x H', Q x H' → Q' x H') → tk σ H Q → tk σ H Q')
    (mono2 : ∀ H (Q Q' : VK), (∀ x H', Q x H' → Q' x H') → tv σ H Q → tv σ H Q') : tDisp [(tk, tv)] σ H Q := by
  intro p hp
  refine mono _ _ _ (fun x H2 h2 => mono2 _ _ _ (fun y H3 h3 => ?_) h2) (k p hp)
  obtain ⟨e, n, rfl, q⟩ := h3
  exact ⟨e, [(.inl n, y)], rfl, Nat.le_of_ble_eq_true rfl, q⟩
end
/-! ### min of a list of alike data: the item itself -/
def rMinD (K : Frag) : List V → Hp → VK → Prop := fun vs H Q => ∃ (a : Addr) (xs : List V) (d : PyData) (ds : List PyData), vs = [.ref a] ∧ SqL K H a xs ∧ DpAll K H xs (d :: ds) ∧ AlikeAll (d :: ds) ∧ (∀ e ∈ d :: ds, e.canLay0 = true) ∧ PyData.depthAll (d :: ds) ≤ 60 ∧
  ∀ (i : Nat) (v : V), xs[i]? = some v → (d :: ds)[i]? = some (minD d ds) → Q v H
section
variable {X : Cx}
theorem c_minD (hc : X.calm = true) (hu : X.A.units + 64 < cLine) : CallR X (.builtin "min") (rMinD X.K) := by
  intro pins s σ H vs us Q I r h
  obtain ⟨a, xs, d, ds, rfl, hs, hd, ha, hcl, hdp, q⟩ := h
  rw [Vals.ref1 r]
  obtain ⟨its, rv, pl, _⟩ := I.list hs
  obtain ⟨as, hr⟩ := Dp.readsAll I (d :: ds) xs its hd rv
  refine min_list_data (I.ok.hd hc) pl.isList hr ha (by omega) fun i v h' tk bs hv hrd hk => ?_
  have I2 : Inv X pins σ H { s with heap := h', toks := tk } := I.kept hk
  have hv : its[i]? = some v := by
    rw [← hv]
    simp
  have hi : i < xs.length := by
    rw [rv.length]
    exact (List.getElem?_eq_some_iff.mp hv).1
  have hy : xs[i]? = some xs[i] := List.getElem?_eq_getElem hi
  generalize xs[i] = y at hy
  obtain ⟨u, hu2, ry⟩ := rv.get hy
  rw [hv] at hu2
  cases hu2
  obtain ⟨e, he, hye⟩ := dps_get hd hy
  obtain ⟨as2, r2⟩ := Dp.reads I2 e y v hye ry
  have eq := PySem.SeqAt.Reads.unique e (minD d ds) v as2 bs (hcl e (List.mem_of_getElem? he)) r2 hrd
  exact ⟨y, H, I2, ry, q i y hy (eq ▸ he)⟩
end
/-! ### a list turned round -/
def rRevL (K : Frag) (x : V) (H : Hp) (Q : VK) : Prop := ∃ a xs, x = .ref a ∧ SqL K H a xs ∧ ∀ p, H p = none → Q (.ref p) (upd H p (.lst xs.reverse))
theorem pe_revLK {X : Cx} {K : Frag} (h : X.K = K) {e : Expr} {te : TE} {k : Nat} {p1 p2 p3 pos : Pos} (he : PE X e te) : PE X (.Subscript e (.Slice none none (some (.UnaryOp .USub (.Constant (.int 1) k p1) p2)) p3) pos) (tRevL K te) := h ▸ pe_revL he
section
variable {K : Frag} {F : List (Addr × HO)} {G : List Ft} {σ : L2.St} {H : Hp} {Q : VK} {te : TE} {l : Addr} {xs : List V}
theorem g_revL (k : te σ H fun x H1 => rRevL K x H1 Q) : tRevL K te σ H Q := k
theorem g_revL1 (S : Sy K F G H) (h : SqL K H l xs) (k : ∀ p H', Sy K ((p, .lst xs.reverse) :: F) G H' → Q (.ref p) H') : rRevL K (.ref l) H Q := ⟨l, xs, rfl, h, fun p hp => k p _ (S.push hp)⟩
/-! truth of None and of whole numbers -/
theorem g_truN {QB : Bool → Hp → Prop} (k : QB false H) : rTruK K .non H QB := ⟨_, rfl, k⟩
theorem g_truI {n : Int} {QB : Bool → Hp → Prop} (k : QB (n != 0) H) : rTruK K (.int n) H QB := ⟨_, rfl, k⟩
end
end OB

set_option Elab.async false
set_option linter.all false
set_option maxRecDepth 100000
set_option maxHeartbeats 4000000
/-! OB, part n: a comprehension inside of one; items that are objects that may change. -/
namespace OB
open PySem PySem.Spec PyProof.Rows L2 PySem.W
theorem pi_seqK {X : Cx} {K : Frag} {tg l : Expr} {tl : TE} (h : X.K = K) (hl : PE X l tl) : PI X tg l (iSeq K tl) := h ▸ pi_seq hl
section
variable {K : Frag}
/-! ### a comprehension whose items are objects that may change -/
abbrev Turn3 (K : Frag) (G : List Ft) (I : Nat → List (Addr × HO) → List V → Prop) (σ : L2.St) (own : List Nat) (g : TG) (tt : TT) (te : TE) (i : Nat) (x : V) : Prop :=
  ∀ (Dp : Addr) (H : Hp) (F : List (Addr × HO)) (vs : List V) (QE : VK) (QR : Hp → Prop), I i F vs → Sy K ((Dp, .lst vs) :: F) G H →
    (∀ y F' H', I (i + 1) F' (vs ++ [y]) → Sy K ((Dp, .lst vs) :: F') G H' → QE y H') → (∀ F' H', I (i + 1) F' vs → Sy K ((Dp, .lst vs) :: F') G H' → QR H') →
    g x (wipe σ own) H fun σ2 H2 => wipe σ2 own = wipe σ own ∧ tt σ2 H2 fun b H3 => if b = true then te σ2 H3 QE else QR H3
def LcP3 (K : Frag) (G : List Ft) (I : Nat → List (Addr × HO) → List V → Prop) (Dp : Addr) (i : Nat) (H : Hp) : Prop :=
  ∃ (F : List (Addr × HO)) (vs : List V), I i F vs ∧ Sy K ((Dp, .lst vs) :: F) G H
theorem lcp_turn3 {G : List Ft} {σ : L2.St} {H : Hp} {I : Nat → List (Addr × HO) → List V → Prop} {own : List Nat} {g : TG} {tt : TT} {te : TE} {Dp : Addr} {i : Nat} {x : V} (hl : ∀ i F vs, I i F vs → vs.length < 100000) (t : Turn3 K G I σ own g tt te i x) (p : LcP3 K G I Dp i H) :
    g x (wipe σ own) H fun σ2 H2 => wipe σ2 own = wipe σ own ∧ tt σ2 H2 fun b H3 =>
      if b = true then te σ2 H3 fun y H4 => ∃ acc, H4 Dp = some (.lst acc) ∧ acc.length < sizeLine ∧ LcP3 K G I Dp (i + 1) (upd H4 Dp (.lst (acc ++ [y]))) else LcP3 K G I Dp (i + 1) H3 := by
  obtain ⟨F, vs, hi, S⟩ := p
  refine t Dp H F vs _ (LcP3 K G I Dp (i + 1)) hi S (fun y F' H' hi' S' => ?_) fun F' H' hi' S' => ⟨F', vs, hi', S'⟩
  have lt := hl _ _ _ hi'
  rw [List.length_append] at lt
  exact ⟨vs, S'.at 0 rfl, Nat.lt_of_lt_of_le (by omega) (show 100000 ≤ sizeLine by decide), F', vs ++ [y], hi', S'.put (o' := .lst (vs ++ [y])) 0 rfl rfl⟩
theorem g_lcV {F : List (Addr × HO)} {G : List Ft} {σ : L2.St} {H : Hp} {Q : VK} {own : List Nat} {g : TG} {tt : TT} {te tl : TE} {a : Addr} {xs : List V} (I : Nat → List (Addr × HO) → List V → Prop) (S : Sy K F G H) (ht : ∀ Q' : VK, Q' (.ref a) H → tl σ H Q') (h0 : I 0 F [])
    (hq : ∀ i F' vs H', I i F' vs → Sy K F' G H' → SqL K H' a xs) (hl : ∀ i F vs, I i F vs → vs.length < 100000)
    (turn : ∀ i x, xs[i]? = some x → Turn3 K G I σ own g tt te i x)
    (done : ∀ Dp H' F' vs, H Dp = none → I xs.length F' vs → Sy K ((Dp, .lst vs) :: F') G H' → Q (.ref Dp) H') : tLc (iSeq K tl) g tt te own σ H Q := by
  refine ht _ ⟨a, rfl, ?_⟩
  have q0 := hq 0 F [] H h0 S
  have sub : ∀ {Dp i H'}, LcP3 K G I Dp i H' → SqL K H' a xs := fun ⟨F', vs, hi, S'⟩ => hq _ F' vs _ hi S'.less
  refine .inl ⟨⟨xs, q0⟩, fun Dp hD => lc_list (K := K) (a := a) (xs := xs) (LcP3 K G I Dp) ⟨F, [], h0, S.push hD⟩ (fun i H' _ p => sub p) (fun i x H' hx p => lcp_turn3 hl (turn i x hx) p) fun H' p => ?_⟩
  obtain ⟨F', vs, hi, S'⟩ := p
  exact done Dp H' F' vs hD hi S'
theorem Sy.tail {G : List Ft} {H : Hp} : ∀ {A F : List (Addr × HO)}, Sy K (A ++ F) G H → Sy K F G H
  | [], _, S => S
  | _ :: A, _, S => Sy.tail (A := A) (Sy.less S)
end
end OB

set_option Elab.async false
set_option linter.all false
set_option maxRecDepth 100000
set_option maxHeartbeats 4000000
/-! OB, part o: a comprehension over enumerate; not in, of data in a list. -/
namespace OB
open PySem PySem.Spec PyProof.Rows L2 PySem.W
def YEn (xs : List V) : Nat → Hp → V → Hp → Prop := fun i H v H' => ∃ T x, v = .ref T ∧ H T = none ∧ H' = upd H T (.tup [.int (i : Nat), x]) ∧ xs[i]? = some x
theorem walk_enumK {K : Frag} {k : Bool} {a : Addr} {xs : List V} : Walk (IteK K k a) xs.length (fun H => SqK K H k a xs) (YEn xs) where
  goes := fun i H hi qa => ⟨xs, xs[i]'(by omega), qa, List.getElem?_eq_getElem _⟩
  stops := fun H qa => ⟨xs, qa, rfl⟩
  yields := fun i H x H' hi qa ⟨T, u, e1, hT, e2, f1⟩ => ⟨T, u, e1, hT, e2, f1 xs qa⟩
section
variable {K : Frag} {F : List (Addr × HO)} {G : List Ft} {σ : L2.St} {H : Hp} {Q : VK} {D : Ends} {g : TG} {tt : TT} {te : TE} {tb : TS} {own : List Nat}
def EnLc (K : Frag) (g : TG) (tt : TT) (te : TE) (own : List Nat) (σ : L2.St) (Q : VK) (vs : List V) (H1 : Hp) : Prop := ∃ k a xs, vs = [.ref a] ∧ SqK K H1 k a xs ∧ ∀ Da, H1 Da = none → ∃ W : Nat → Nat → Hp → Prop, (∃ m, W 0 m (upd H1 Da (.lst []))) ∧ ∀ i m H, W i m H →
  ((IteK K k a).stop i H ∧ Q (.ref Da) H) ∨ ((IteK K k a).go i H ∧ ∃ Nx : Hp → Prop, (∀ H', Nx H' → ∃ m', m' < m ∧ W (i + 1) m' H') ∧ ∀ x H', (IteK K k a).yld i H x H' → g x (wipe σ own) H' fun σ2 H2 => wipe σ2 own = wipe σ own ∧ tt σ2 H2 fun b H3 =>
    if b = true then te σ2 H3 fun y H4 => ∃ acc, H4 Da = some (.lst acc) ∧ acc.length < sizeLine ∧ Nx (upd H4 Da (.lst (acc ++ [y]))) else Nx H3)
theorem g_lcEn {ta : TA} (k : ta σ H fun vs H1 => EnLc K g tt te own σ Q vs H1) : tLc (iEnumK K ta) g tt te own σ H Q := k
theorem enlc_of {k : Bool} {a : Addr} {xs : List V} (I : Nat → List (Addr × HO) → List PyData → Prop) (S : Sy K F G H) (h0 : I 0 F [])
    (hq : ∀ i F' ds H', I i F' ds → Sy K F' G H' → SqK K H' k a xs) (hl : ∀ i F ds, I i F ds → ds.length < 100000)
    (turn : ∀ (i : Nat) x, xs[i]? = some x → TurnZ K G I σ own g tt te i (.int (i : Nat)) x)
    (done : ∀ Da H' F' vs ds, H Da = none → I xs.length F' ds → Sy K ((Da, .lst vs) :: F') (.dat vs ds :: G) H' → Q (.ref Da) H') : EnLc K g tt te own σ Q [.ref a] H := by
  have q1 := hq 0 F [] H h0 S
  refine ⟨k, a, xs, rfl, q1, fun Da hD => lc_it (walk_enumK (K := K) (xs := xs)) (LcP K G I Da) (lcp_start S h0 hD) (fun i H' _ p => ?_) (fun i v H1 H' hi p y => ?_) fun H' p => ?_⟩
  · obtain ⟨F', vs, ds, hi, S'⟩ := p
    exact hq i F' ds _ hi S'.drop.less
  · obtain ⟨F', vs, ds, hI, S'⟩ := p
    obtain ⟨T, x, rfl, hT, rfl, e1⟩ := y
    refine turn i x e1 Da T H1 F' vs ds _ (LcP K G I Da (i + 1)) hI hT S' (fun z d F2 H2 hi' S2 => ?_) fun F2 H2 hi' S2 => ⟨F2, vs, ds, hi', S2⟩
    have len := dps_length (S2.dps 1 rfl)
    have lt := hl _ _ _ hi'
    rw [List.length_append] at lt
    refine ⟨vs, S2.at 0 rfl, Nat.lt_of_lt_of_le (by omega) (show 100000 ≤ sizeLine by decide), F2, vs ++ [z], ds ++ [d], hi', ?_⟩
    have S3 : Sy K ((Da, .lst (vs ++ [z])) :: F2) (.dat [z] [d] :: .dat vs ds :: G) (upd H2 Da (.lst (vs ++ [z]))) := S2.put (o' := .lst (vs ++ [z])) 0 rfl rfl
    exact (S3.drop.drop).fact (dps_append (S3.dps 1 rfl) (S3.dps 0 rfl)) (by rw [immAll_append, S2.dpi 1 rfl, S2.dpi 0 rfl]; rfl)
  · obtain ⟨F', vs, ds, hI, S'⟩ := p
    exact done Da H' F' vs ds hD hI S'
/-! in, of data in a list -/
theorem g_notinD {x : V} {l : Addr} {vs : List V} {d : PyData} {ds : List PyData} (h1 : L2.Dp K H x d) (h2 : SqL K H l vs) (h3 : DpAll K H vs ds) (s1 : SeqAt.shaped d = true) (s2 : SeqAt.shaped (.list ds) = true) (k : Q (.bl (!ds.any fun z => PyData.eqv z d)) H) : rNotInD K x (.ref l) H Q := ⟨d, ds, h1, .lst h2 h3, s1, s2, k⟩
end
end OB

set_option Elab.async false
set_option linter.all false
set_option maxRecDepth 100000
set_option maxHeartbeats 4000000
/-! OB, part p: what repr writes of numbers differs where they differ; in, of data in a list. -/
namespace OB
open PySem PySem.Spec PyProof.Rows L2 PySem.W PySem.NumText
theorem sh_int {i : Int} : (PyData.int i).shown.cps.toList = (toString i).toList.map Char.toNat := by
  rw [PyData.shown_int]
  exact signs_ofString _
theorem nat_repr_inj {m n : Nat} (h : Nat.repr m = Nat.repr n) : m = n := by
  have h2 := congrArg String.toList h
  rw [Nat.toList_repr, Nat.toList_repr] at h2
  rw [← Nat.ofDigitChars_ten_toDigits (n := m), h2, Nat.ofDigitChars_ten_toDigits]
theorem no_dash {n : Nat} : '-' ∉ (Nat.repr n).toList := fun h => by
  rw [Nat.toList_repr] at h
  have := Nat.isDigit_of_mem_toDigits (by decide) (by decide) h
  exact absurd this (by decide)
theorem int_str_inj {i j : Int} (h : toString i = toString j) : i = j := by
  rw [Int.toString_eq_repr, Int.toString_eq_repr, Int.repr_eq_if, Int.repr_eq_if] at h
  split at h <;> split at h
  · have := nat_repr_inj h
    omega
  · exfalso
    exact no_dash (n := i.toNat) (by rw [h, String.toList_append]; exact List.mem_append_left _ (by decide))
  · exfalso
    exact no_dash (n := j.toNat) (by rw [← h, String.toList_append]; exact List.mem_append_left _ (by decide))
  · have h2 := congrArg String.toList h
    rw [String.toList_append, String.toList_append] at h2
    have h3 := List.append_cancel_left h2
    have := nat_repr_inj (String.toList_injective h3)
    omega
theorem int_sh_inj {i j : Int} (h : (PyData.int i).shown = (PyData.int j).shown) : i = j := by
  have h2 := congrArg (fun s : Str => s.cps.toList) h
  simp only [sh_int] at h2
  have h3 : (toString i).toList = (toString j).toList := by
    refine List.map_inj_right ?_ |>.mp h2
    intro a b e
    exact Char.toNat_inj.mp e
  exact int_str_inj (String.toList_injective h3)
theorem int_sh {i j : Int} : decide ((PyData.int i).shown = (PyData.int j).shown) = decide (i = j) := by
  by_cases h : i = j
  · subst h
    rw [decide_eq_true rfl, decide_eq_true rfl]
  · rw [decide_eq_false h, decide_eq_false fun z => h (int_sh_inj z)]
/-- the signs of a number's text -/
theorem int_sign {i : Int} {c : Nat} (h : c ∈ (PyData.int i).shown.cps.toList) : c ≤ 57 ∧ 45 ≤ c := by
  rw [sh_int] at h
  obtain ⟨ch, hc, rfl⟩ := List.mem_map.mp h
  have dig : ∀ n : Nat, ch ∈ (Nat.repr n).toList → ch.toNat ≤ 57 ∧ 45 ≤ ch.toNat := fun n hn => by
    rw [Nat.toList_repr] at hn
    have r := digit_range (Nat.isDigit_of_mem_toDigits (by decide) (by decide) hn)
    omega
  rw [Int.toString_eq_repr, Int.repr_eq_if] at hc
  split at hc
  · exact dig _ hc
  · rw [String.toList_append, List.mem_append] at hc
    rcases hc with hc | hc
    · have : ch = '-' := by simpa using hc
      subst this
      decide
    · exact dig _ hc
theorem bl_sh {b : Bool} {j : Int} : decide ((PyData.bool b).shown = (PyData.int j).shown) = false := decide_eq_false fun z => by
  cases b
  · have : 70 ∈ (PyData.int j).shown.cps.toList := by rw [← z]; decide +kernel
    have := int_sign this
    omega
  · have : 84 ∈ (PyData.int j).shown.cps.toList := by rw [← z]; decide +kernel
    have := int_sign this
    omega
theorem tup_sh {l : List PyData} {j : Int} : decide ((PyData.tuple l).shown = (PyData.int j).shown) = false := decide_eq_false fun z => by
  have : 40 ∈ (PyData.int j).shown.cps.toList := by
    rw [← z, PyData.shown_tuple]
    show 40 ∈ ((((("(" : String) : Str).cps ++ (Str.join ", " (PyData.shownAll l)).cps) ++ _ : Array Nat)).toList
    rw [Array.toList_append, Array.toList_append]
    exact List.mem_append_left _ (List.mem_append_left _ (by decide +kernel))
  have := int_sign this
  omega
section
variable {K : Frag} {H : Hp} {Q : VK}
theorem g_inD {x : V} {l : Addr} {vs : List V} {d : PyData} {ds : List PyData} (h1 : L2.Dp K H x d) (h2 : SqL K H l vs) (h3 : DpAll K H vs ds) (s1 : SeqAt.shaped d = true) (s2 : SeqAt.shaped (.list ds) = true) (k : Q (.bl (ds.any fun z => PyData.eqv z d)) H) : rInD K x (.ref l) H Q := ⟨d, ds, h1, .lst h2 h3, s1, s2, k⟩
end
end OB

set_option Elab.async false
set_option linter.all false
set_option maxRecDepth 100000
namespace LAW
open PySem PySem.Spec PyProof.Rows L2 PySem.W OB
local macro_rules | `(tactic| walk_at "obc") => `(tactic| first
  | exact Or.inl ⟨by omega, by omega⟩
  | exact Or.inr ⟨by omega, by omega⟩
  | exact cdiv_ok (by omega) (by omega)
  | (show (0 : Int) < _; omega)
  | exact ⟨by omega, by decide⟩
  | exact ⟨by decide, by decide⟩)
local macro_rules | `(tactic| walk_at "obat") => `(tactic| first
  | exact Sy.at (by assumption) 0 rfl | exact Sy.at (by assumption) 1 rfl | exact Sy.at (by assumption) 2 rfl | exact Sy.at (by assumption) 3 rfl
  | exact Sy.at (by assumption) 4 rfl | exact Sy.at (by assumption) 5 rfl | exact Sy.at (by assumption) 6 rfl | exact Sy.at (by assumption) _ (by assumption) | exact Sy.at (by assumption) (_ + 1) (by assumption) | exact Sy.at (by assumption) (_ + 2) (by assumption))
local macro_rules | `(tactic| walk_at "obt") => `(tactic| first
  | exact Sy.tqs (by assumption) 0 rfl | exact Sy.tqs (by assumption) 1 rfl | exact Sy.tqs (by assumption) 2 rfl | exact Sy.tqs (by assumption) 3 rfl | exact Sy.tqs (by assumption) 4 rfl | exact Sy.tqs (by assumption) 5 rfl
  | exact Sy.tqs (by assumption) 6 rfl | exact Sy.tqs (by assumption) 7 rfl | assumption)
local macro_rules | `(tactic| walk_at "obl") => `(tactic| first
  | exact SqL.of (by walk_at "obat")
  | exact Sy.sq (by assumption) 0 rfl | exact Sy.sq (by assumption) 1 rfl | exact Sy.sq (by assumption) 2 rfl | exact Sy.sq (by assumption) 3 rfl | exact Sy.sq (by assumption) _ (by assumption))
local macro_rules | `(tactic| walk_at "obd") => `(tactic| first
  | exact Dp.int _ | exact Dp.bl _ | exact Dp.str _ | exact Dp.non
  | exact Sy.dp (by assumption) 0 rfl | exact Sy.dp (by assumption) 1 rfl | exact Sy.dp (by assumption) 2 rfl | exact Sy.dp (by assumption) 3 rfl
  | exact Sy.dp (by assumption) 4 rfl | exact Sy.dp (by assumption) 5 rfl | exact Sy.dp (by assumption) 6 rfl | exact Sy.dp (by assumption) 7 rfl
  | exact Sy.dp (by assumption) 8 rfl | exact Sy.dp (by assumption) 9 rfl | exact Sy.dp (by assumption) _ (by assumption) | assumption)
local macro_rules | `(tactic| walk_at "obds") => `(tactic| first
  | exact DpAll.nil
  | (refine' DpAll.cons ?ob1 ?ob2; (case ob1 => walk_at "obd"); (case ob2 => walk_at "obds"))
  | exact Sy.dps (by assumption) 0 rfl | exact Sy.dps (by assumption) 1 rfl | exact Sy.dps (by assumption) 2 rfl | exact Sy.dps (by assumption) 3 rfl | assumption)
local macro_rules | `(tactic| walk_at "obsc") => `(tactic| first
  | exact ScL.nil
  | ((first | refine' ScL.int ?obz | refine' ScL.str ?obz | refine' ScL.bl ?obz | refine' ScL.non ?obz); (case obz => walk_at "obsc")))
local macro_rules | `(tactic| walk_at "ob1") => `(tactic| first
  | ((with_reducible refine' g_var ?obh ?_); (case obh => rfl))
  | with_reducible refine g_c ?_
  | with_reducible refine g_nx ?_
  | with_reducible refine g_rt ?_
  | with_reducible refine g_bk ?_
  | with_reducible refine g_ct ?_
  | with_reducible refine g_op ?_
  | with_reducible refine g_I0 ?_
  | with_reducible refine g_test ?_
  | with_reducible refine g_bl ?_
  | with_reducible refine g_blx ?_
  | with_reducible refine g_B ?_
  | with_reducible refine g_seq ?_
  | with_reducible refine g_asg ?_
  | with_reducible refine g_name ?_
  | with_reducible refine g_ifS ?_
  | with_reducible refine g_ret ?_
  | with_reducible refine g_cb ?_
  | with_reducible refine g_cons ?_
  | with_reducible refine g_nil ?_
  | with_reducible refine g_int ?_
  | with_reducible refine g_intB ?_
  | with_reducible refine g_abs ?_
  | with_reducible refine g_max ?_
  | with_reducible refine g_min ?_
  | with_reducible refine g_un ?_
  | with_reducible refine g_U ?_
  | with_reducible refine g_eqI ?_
  | with_reducible refine g_neI ?_
  | with_reducible refine g_eqS ?_
  | with_reducible refine g_neS ?_
  | with_reducible refine g_tt ?_
  | with_reducible refine g_ff ?_
  | with_reducible refine g_next ?_
  | with_reducible refine g_drop ?_
  | with_reducible refine g_if ?_
  | with_reducible refine g_andV ?_
  | with_reducible refine g_orV ?_
  | with_reducible refine g_notV ?_
  | with_reducible refine g_and ?_
  | with_reducible refine g_or ?_
  | with_reducible refine g_not ?_
  | with_reducible refine g_yes ?_
  | with_reducible refine g_chain ?_
  | with_reducible refine g_cg ?_
  | with_reducible refine g_mg ?_
  | with_reducible refine g_kg ?_
  | with_reducible refine g_pg ?_
  | ((with_reducible refine' g_call ?obh ?obj ?_); (case obh => rfl); (case obj => rfl))
  | with_reducible refine g_par ?_
  | with_reducible refine g_par2 ?_
  | with_reducible refine g_par3 ?_
  | with_reducible refine g_par33 ?_
  | with_reducible refine g_gnil ?_
  | with_reducible refine g_gcons ?_
  | with_reducible refine g_gsub ?_
  | with_reducible refine g_ipI ?_
  | with_reducible refine g_rAdd ?_
  | with_reducible refine g_rSub ?_
  | ((with_reducible refine' g_aug ?obh ?_); (case obh => rfl))
  | with_reducible refine g_tup ?_
  | with_reducible refine g_lst ?_
  | with_reducible refine g_bm ?_
  | with_reducible refine g_bm0 ?_
  | with_reducible refine g_sl ?_
  | with_reducible refine g_nopart ?_
  | with_reducible refine g_part ?_
  | with_reducible refine g_pint ?_
  | with_reducible refine isi_int ?_
  | with_reducible refine isi_intB ?_
  | ((with_reducible refine' g_I ?obh ?_); (case obh => walk_at "obc"))
  | ((with_reducible refine' g_tyl ?obh ?_); (case obh => walk_at "obl"))
  | ((with_reducible refine' g_lenL ?obh ?_); (case obh => walk_at "obl"))
  | with_reducible refine g_ne ?_
  | ((with_reducible refine' g_neN' ?obh ?_); (case obh => rfl))
  | with_reducible refine g_ntt ?_
  | with_reducible refine g_nff ?_
  | with_reducible refine g_star ?_
  | with_reducible refine g_att ?_
  | with_reducible refine g_sfld ?_
  | with_reducible refine g_faug ?_
  | with_reducible refine g_fld ?_
  | ((with_reducible refine' g_nF ?obh ?_); (case obh => omega))
  | ((with_reducible refine' g_nT ?obh ?_); (case obh => omega))
  | ((with_reducible refine' g_TD ?obh ?_); (case obh => omega))
  | ((with_reducible refine' g_FD ?obh ?_); (case obh => omega))
  | ((with_reducible refine' g_ixUL ?obh ?obi ?_); (case obh => walk_at "obl"); (case obi => exact atI_nn (by omega) (by rfl)))
  | ((with_reducible refine' g_setLS ?obs ?obh ?obi ?_); (case obs => assumption); (case obh => assumption); (case obi => rfl); intro _ _ _)
  | ((with_reducible refine' g_newT ?obs ?obh ?obi ?obj ?_); (case obs => assumption); (case obh => walk_at "obds"); (case obi => rfl); (case obj => exact Nat.le_of_ble_eq_true rfl); intro _ _ _ _)
  | ((with_reducible refine' g_newL ?obs ?obj ?_); (case obs => assumption); (case obj => exact Nat.le_of_ble_eq_true rfl); intro _ _ _ _)
  | ((with_reducible refine' isi_tup ?obh ?_); (case obh => walk_at "obt"))
  | ((with_reducible refine' g_lenT ?obh ?_); (case obh => walk_at "obt"))
  | ((with_reducible refine' g_unpT ?obh ?obi ?_); (case obh => walk_at "obt"); (case obi => rfl))
  | ((with_reducible refine' g_divmod ?obs ?obh ?_); (case obs => assumption); (case obh => exact cdivp_ok (by omega) (by omega) (by omega)); intro _ _ _ _)
  | ((with_reducible refine' g_unpD ?obh ?obi ?obj ?_); (case obh => walk_at "obd"); (case obi => walk_at "obsc"); (case obj => rfl))
  | with_reducible refine g_att ?_)
def top (i : Nat) : Stmt := PySem.Challenge.pw_oncebooked_k29_what_may_be_told_of_marks.main.body.getD i (.Pass ⟨0, 0, 0, 0⟩)
structure Tx (K : Frag) (mg : Str → Option Value) where
  a_worst_by : Addr
  d_worst_by : FuncData
  F_worst_by : Fun K "worst_by" "worst_by" (top 21) a_worst_by d_worst_by
  m_worst_by : mg "worst_by" = some (.ref a_worst_by)
  a_lengths_of : Addr
  d_lengths_of : FuncData
  F_lengths_of : Fun K "lengths_of" "lengths_of" (top 20) a_lengths_of d_lengths_of
  m_lengths_of : mg "lengths_of" = some (.ref a_lengths_of)
  a_cost_of : Addr
  d_cost_of : FuncData
  F_cost_of : Fun K "cost_of" "cost_of" (top 29) a_cost_of d_cost_of
  m_cost_of : mg "cost_of" = some (.ref a_cost_of)
  a_is_integer : Addr
  d_is_integer : FuncData
  F_is_integer : Fun K "is_integer" "is_integer" (top 5) a_is_integer d_is_integer
  m_is_integer : mg "is_integer" = some (.ref a_is_integer)
  a_sums_of : Addr
  d_sums_of : FuncData
  F_sums_of : Fun K "sums_of" "sums_of" (top 23) a_sums_of d_sums_of
  m_sums_of : mg "sums_of" = some (.ref a_sums_of)
  a_law_lengths : Addr
  d_law_lengths : FuncData
  F_law_lengths : Fun K "_law_lengths" "_law_lengths" (top 43) a_law_lengths d_law_lengths
  m_law_lengths : mg "_law_lengths" = some (.ref a_law_lengths)
  a_law_take : Addr
  d_law_take : FuncData
  F_law_take : Fun K "_law_take" "_law_take" (top 38) a_law_take d_law_take
  m_law_take : mg "_law_take" = some (.ref a_law_take)
  a_law_all_marks : Addr
  d_law_all_marks : FuncData
  F_law_all_marks : Fun K "_law_all_marks" "_law_all_marks" (top 42) a_law_all_marks d_law_all_marks
  m_law_all_marks : mg "_law_all_marks" = some (.ref a_law_all_marks)
  a_law_is_pair : Addr
  d_law_is_pair : FuncData
  F_law_is_pair : Fun K "_law_is_pair" "_law_is_pair" (top 49) a_law_is_pair d_law_is_pair
  m_law_is_pair : mg "_law_is_pair" = some (.ref a_law_is_pair)
  a_law_cost : Addr
  d_law_cost : FuncData
  F_law_cost : Fun K "_law_cost" "_law_cost" (top 45) a_law_cost d_law_cost
  m_law_cost : mg "_law_cost" = some (.ref a_law_cost)
  a_law_are_marks : Addr
  d_law_are_marks : FuncData
  F_law_are_marks : Fun K "_law_are_marks" "_law_are_marks" (top 48) a_law_are_marks d_law_are_marks
  m_law_are_marks : mg "_law_are_marks" = some (.ref a_law_are_marks)
  a_law_pot : Addr
  d_law_pot : FuncData
  F_law_pot : Fun K "_law_pot" "_law_pot" (top 37) a_law_pot d_law_pot
  m_law_pot : mg "_law_pot" = some (.ref a_law_pot)
  a_law_cells : Addr
  d_law_cells : FuncData
  F_law_cells : Fun K "_law_cells" "_law_cells" (top 40) a_law_cells d_law_cells
  m_law_cells : mg "_law_cells" = some (.ref a_law_cells)
  a_worst_at : Addr
  d_worst_at : FuncData
  F_worst_at : Fun K "worst_at" "worst_at" (top 22) a_worst_at d_worst_at
  m_worst_at : mg "worst_at" = some (.ref a_worst_at)
  a_is_within : Addr
  d_is_within : FuncData
  F_is_within : Fun K "is_within" "is_within" (top 6) a_is_within d_is_within
  m_is_within : mg "is_within" = some (.ref a_is_within)
  a_cheapest_at : Addr
  d_cheapest_at : FuncData
  F_cheapest_at : Fun K "cheapest_at" "cheapest_at" (top 24) a_cheapest_at d_cheapest_at
  m_cheapest_at : mg "cheapest_at" = some (.ref a_cheapest_at)
  a_bounds_of : Addr
  d_bounds_of : FuncData
  F_bounds_of : Fun K "bounds_of" "bounds_of" (top 25) a_bounds_of d_bounds_of
  m_bounds_of : mg "bounds_of" = some (.ref a_bounds_of)
  a_law_worst_ticks : Addr
  d_law_worst_ticks : FuncData
  F_law_worst_ticks : Fun K "_law_worst_ticks" "_law_worst_ticks" (top 44) a_law_worst_ticks d_law_worst_ticks
  m_law_worst_ticks : mg "_law_worst_ticks" = some (.ref a_law_worst_ticks)
  a_law_of : Addr
  d_law_of : FuncData
  F_law_of : Fun K "_law_of" "_law_of" (top 39) a_law_of d_law_of
  m_law_of : mg "_law_of" = some (.ref a_law_of)
  a_law_near : Addr
  d_law_near : FuncData
  F_law_near : Fun K "_law_near" "_law_near" (top 50) a_law_near d_law_near
  m_law_near : mg "_law_near" = some (.ref a_law_near)
  a_regret_of : Addr
  d_regret_of : FuncData
  F_regret_of : Fun K "regret_of" "regret_of" (top 33) a_regret_of d_regret_of
  m_regret_of : mg "regret_of" = some (.ref a_regret_of)
  a_are_integers : Addr
  d_are_integers : FuncData
  F_are_integers : Fun K "are_integers" "are_integers" (top 15) a_are_integers d_are_integers
  m_are_integers : mg "are_integers" = some (.ref a_are_integers)
  a_check_cuts : Addr
  d_check_cuts : FuncData
  F_check_cuts : Fun K "check_cuts" "check_cuts" (top 19) a_check_cuts d_check_cuts
  m_check_cuts : mg "check_cuts" = some (.ref a_check_cuts)
  a_all_cheapest : Addr
  d_all_cheapest : FuncData
  F_all_cheapest : Fun K "all_cheapest" "all_cheapest" (top 26) a_all_cheapest d_all_cheapest
  m_all_cheapest : mg "all_cheapest" = some (.ref a_all_cheapest)
  a_law_work : Addr
  d_law_work : FuncData
  F_law_work : Fun K "_law_work" "_law_work" (top 41) a_law_work d_law_work
  m_law_work : mg "_law_work" = some (.ref a_law_work)
  a_law_regret_by : Addr
  d_law_regret_by : FuncData
  F_law_regret_by : Fun K "_law_regret_by" "_law_regret_by" (top 47) a_law_regret_by d_law_regret_by
  m_law_regret_by : mg "_law_regret_by" = some (.ref a_law_regret_by)
  a_law_least_times : Addr
  d_law_least_times : FuncData
  F_law_least_times : Fun K "_law_least_times" "_law_least_times" (top 46) a_law_least_times d_law_least_times
  m_law_least_times : mg "_law_least_times" = some (.ref a_law_least_times)
  a_is_work : Addr
  d_is_work : FuncData
  F_is_work : Fun K "is_work" "is_work" (top 16) a_is_work d_is_work
  m_is_work : mg "is_work" = some (.ref a_is_work)
  a_are_marks : Addr
  d_are_marks : FuncData
  F_are_marks : Fun K "are_marks" "are_marks" (top 18) a_are_marks d_are_marks
  m_are_marks : mg "are_marks" = some (.ref a_are_marks)
  a_check_work : Addr
  d_check_work : FuncData
  F_check_work : Fun K "check_work" "check_work" (top 17) a_check_work d_check_work
  m_check_work : mg "check_work" = some (.ref a_check_work)
  a_is_told : Addr
  d_is_told : FuncData
  F_is_told : Fun K "is_told" "is_told" (top 28) a_is_told d_is_told
  m_is_told : mg "is_told" = some (.ref a_is_told)
  a_least_worst : Addr
  d_least_worst : FuncData
  F_least_worst : Fun K "least_worst" "least_worst" (top 31) a_least_worst d_least_worst
  m_least_worst : mg "least_worst" = some (.ref a_least_worst)
  a_cheapest_marks : Addr
  d_cheapest_marks : FuncData
  F_cheapest_marks : Fun K "cheapest_marks" "cheapest_marks" (top 27) a_cheapest_marks d_cheapest_marks
  m_cheapest_marks : mg "cheapest_marks" = some (.ref a_cheapest_marks)
  a_least_regret : Addr
  d_least_regret : FuncData
  F_least_regret : Fun K "least_regret" "least_regret" (top 34) a_least_regret d_least_regret
  m_least_regret : mg "least_regret" = some (.ref a_least_regret)
  a_shows_least : Addr
  d_shows_least : FuncData
  F_shows_least : Fun K "shows_least" "shows_least" (top 32) a_shows_least d_shows_least
  m_shows_least : mg "shows_least" = some (.ref a_shows_least)
  a_shows_cheapest : Addr
  d_shows_cheapest : FuncData
  F_shows_cheapest : Fun K "shows_cheapest" "shows_cheapest" (top 30) a_shows_cheapest d_shows_cheapest
  m_shows_cheapest : mg "shows_cheapest" = some (.ref a_shows_cheapest)
  a_shows_regret : Addr
  d_shows_regret : FuncData
  F_shows_regret : Fun K "shows_regret" "shows_regret" (top 35) a_shows_regret d_shows_regret
  m_shows_regret : mg "shows_regret" = some (.ref a_shows_regret)
  a_law_right : Addr
  d_law_right : FuncData
  F_law_right : Fun K "_law_right" "_law_right" (top 51) a_law_right d_law_right
  m_law_right : mg "_law_right" = some (.ref a_law_right)
  a_law : Addr
  d_law : FuncData
  F_law : Fun K "law" "law" (top 52) a_law d_law
  m_law : mg "law" = some (.ref a_law)
  t_MOST_PARTS : Tok
  g_MOST_PARTS : mg "MOST_PARTS" = some (.int 40 t_MOST_PARTS)
  t_MOST_TICKS : Tok
  g_MOST_TICKS : mg "MOST_TICKS" = some (.int 1000000 t_MOST_TICKS)
  t_MOST_MOMENT : Tok
  g_MOST_MOMENT : mg "MOST_MOMENT" = some (.int 1000000000000 t_MOST_MOMENT)
  t_MOST_CUTS : Tok
  g_MOST_CUTS : mg "MOST_CUTS" = some (.int 100 t_MOST_CUTS)
  t_MOST_LENGTH : Tok
  g_MOST_LENGTH : mg "MOST_LENGTH" = some (.int 1000000000 t_MOST_LENGTH)
  t_PAIR : Tok
  g_PAIR : mg "PAIR" = some (.int 2 t_PAIR)
  t_TRIPLE : Tok
  g_TRIPLE : mg "TRIPLE" = some (.int 3 t_TRIPLE)
  n_abs : mg "abs" = none
  n_all : mg "all" = none
  n_any : mg "any" = none
  n_bool : mg "bool" = none
  n_enumerate : mg "enumerate" = none
  n_int : mg "int" = none
  n_isinstance : mg "isinstance" = none
  n_len : mg "len" = none
  n_list : mg "list" = none
  n_max : mg "max" = none
  n_min : mg "min" = none
  n_range : mg "range" = none
  n_repr : mg "repr" = none
  n_sorted : mg "sorted" = none
  n_sum : mg "sum" = none
  n_tuple : mg "tuple" = none
  n_zip : mg "zip" = none
def mkTx {K : Frag} {h : Heap} {mg : Str → Option Value} {a_worst_by : Addr} {oc_worst_by kV_worst_by dc_worst_by pm_worst_by cd_worst_by ct_worst_by : Value} {od_worst_by an_worst_by : Option Addr} {sl_worst_by : Array (Option Value)} {a_lengths_of : Addr} {oc_lengths_of kV_lengths_of dc_lengths_of pm_lengths_of cd_lengths_of ct_lengths_of : Value} {od_lengths_of an_lengths_of : Option Addr} {sl_lengths_of : Array (Option Value)} {a_cost_of : Addr} {oc_cost_of kV_cost_of dc_cost_of pm_cost_of cd_cost_of ct_cost_of : Value} {od_cost_of an_cost_of : Option Addr} {sl_cost_of : Array (Option Value)} {a_is_integer : Addr} {oc_is_integer kV_is_integer dc_is_integer pm_is_integer cd_is_integer ct_is_integer : Value} {od_is_integer an_is_integer : Option Addr} {sl_is_integer : Array (Option Value)} {a_sums_of : Addr} {oc_sums_of kV_sums_of dc_sums_of pm_sums_of cd_sums_of ct_sums_of : Value} {od_sums_of an_sums_of : Option Addr} {sl_sums_of : Array (Option Value)} {a_law_lengths : Addr} {oc_law_lengths kV_law_lengths dc_law_lengths pm_law_lengths cd_law_lengths ct_law_lengths : Value} {od_law_lengths an_law_lengths : Option Addr} {sl_law_lengths : Array (Option Value)} {a_law_take : Addr} {oc_law_take kV_law_take dc_law_take pm_law_take cd_law_take ct_law_take : Value} {od_law_take an_law_take : Option Addr} {sl_law_take : Array (Option Value)} {a_law_all_marks : Addr} {oc_law_all_marks kV_law_all_marks dc_law_all_marks pm_law_all_marks cd_law_all_marks ct_law_all_marks : Value} {od_law_all_marks an_law_all_marks : Option Addr} {sl_law_all_marks : Array (Option Value)} {a_law_is_pair : Addr} {oc_law_is_pair kV_law_is_pair dc_law_is_pair pm_law_is_pair cd_law_is_pair ct_law_is_pair : Value} {od_law_is_pair an_law_is_pair : Option Addr} {sl_law_is_pair : Array (Option Value)} {a_law_cost : Addr} {oc_law_cost kV_law_cost dc_law_cost pm_law_cost cd_law_cost ct_law_cost : Value} {od_law_cost an_law_cost : Option Addr} {sl_law_cost : Array (Option Value)} {a_law_are_marks : Addr} {oc_law_are_marks kV_law_are_marks dc_law_are_marks pm_law_are_marks cd_law_are_marks ct_law_are_marks : Value} {od_law_are_marks an_law_are_marks : Option Addr} {sl_law_are_marks : Array (Option Value)} {a_law_pot : Addr} {oc_law_pot kV_law_pot dc_law_pot pm_law_pot cd_law_pot ct_law_pot : Value} {od_law_pot an_law_pot : Option Addr} {sl_law_pot : Array (Option Value)} {a_law_cells : Addr} {oc_law_cells kV_law_cells dc_law_cells pm_law_cells cd_law_cells ct_law_cells : Value} {od_law_cells an_law_cells : Option Addr} {sl_law_cells : Array (Option Value)} {a_worst_at : Addr} {oc_worst_at kV_worst_at dc_worst_at pm_worst_at cd_worst_at ct_worst_at : Value} {od_worst_at an_worst_at : Option Addr} {sl_worst_at : Array (Option Value)} {a_is_within : Addr} {oc_is_within kV_is_within dc_is_within pm_is_within cd_is_within ct_is_within : Value} {od_is_within an_is_within : Option Addr} {sl_is_within : Array (Option Value)} {a_cheapest_at : Addr} {oc_cheapest_at kV_cheapest_at dc_cheapest_at pm_cheapest_at cd_cheapest_at ct_cheapest_at : Value} {od_cheapest_at an_cheapest_at : Option Addr} {sl_cheapest_at : Array (Option Value)} {a_bounds_of : Addr} {oc_bounds_of kV_bounds_of dc_bounds_of pm_bounds_of cd_bounds_of ct_bounds_of : Value} {od_bounds_of an_bounds_of : Option Addr} {sl_bounds_of : Array (Option Value)} {a_law_worst_ticks : Addr} {oc_law_worst_ticks kV_law_worst_ticks dc_law_worst_ticks pm_law_worst_ticks cd_law_worst_ticks ct_law_worst_ticks : Value} {od_law_worst_ticks an_law_worst_ticks : Option Addr} {sl_law_worst_ticks : Array (Option Value)} {a_law_of : Addr} {oc_law_of kV_law_of dc_law_of pm_law_of cd_law_of ct_law_of : Value} {od_law_of an_law_of : Option Addr} {sl_law_of : Array (Option Value)} {a_law_near : Addr} {oc_law_near kV_law_near dc_law_near pm_law_near cd_law_near ct_law_near : Value} {od_law_near an_law_near : Option Addr} {sl_law_near : Array (Option Value)} {a_regret_of : Addr} {oc_regret_of kV_regret_of dc_regret_of pm_regret_of cd_regret_of ct_regret_of : Value} {od_regret_of an_regret_of : Option Addr} {sl_regret_of : Array (Option Value)} {a_are_integers : Addr} {oc_are_integers kV_are_integers dc_are_integers pm_are_integers cd_are_integers ct_are_integers : Value} {od_are_integers an_are_integers : Option Addr} {sl_are_integers : Array (Option Value)} {a_check_cuts : Addr} {oc_check_cuts kV_check_cuts dc_check_cuts pm_check_cuts cd_check_cuts ct_check_cuts : Value} {od_check_cuts an_check_cuts : Option Addr} {sl_check_cuts : Array (Option Value)} {a_all_cheapest : Addr} {oc_all_cheapest kV_all_cheapest dc_all_cheapest pm_all_cheapest cd_all_cheapest ct_all_cheapest : Value} {od_all_cheapest an_all_cheapest : Option Addr} {sl_all_cheapest : Array (Option Value)} {a_law_work : Addr} {oc_law_work kV_law_work dc_law_work pm_law_work cd_law_work ct_law_work : Value} {od_law_work an_law_work : Option Addr} {sl_law_work : Array (Option Value)} {a_law_regret_by : Addr} {oc_law_regret_by kV_law_regret_by dc_law_regret_by pm_law_regret_by cd_law_regret_by ct_law_regret_by : Value} {od_law_regret_by an_law_regret_by : Option Addr} {sl_law_regret_by : Array (Option Value)} {a_law_least_times : Addr} {oc_law_least_times kV_law_least_times dc_law_least_times pm_law_least_times cd_law_least_times ct_law_least_times : Value} {od_law_least_times an_law_least_times : Option Addr} {sl_law_least_times : Array (Option Value)} {a_is_work : Addr} {oc_is_work kV_is_work dc_is_work pm_is_work cd_is_work ct_is_work : Value} {od_is_work an_is_work : Option Addr} {sl_is_work : Array (Option Value)} {a_are_marks : Addr} {oc_are_marks kV_are_marks dc_are_marks pm_are_marks cd_are_marks ct_are_marks : Value} {od_are_marks an_are_marks : Option Addr} {sl_are_marks : Array (Option Value)} {a_check_work : Addr} {oc_check_work kV_check_work dc_check_work pm_check_work cd_check_work ct_check_work : Value} {od_check_work an_check_work : Option Addr} {sl_check_work : Array (Option Value)} {a_is_told : Addr} {oc_is_told kV_is_told dc_is_told pm_is_told cd_is_told ct_is_told : Value} {od_is_told an_is_told : Option Addr} {sl_is_told : Array (Option Value)} {a_least_worst : Addr} {oc_least_worst kV_least_worst dc_least_worst pm_least_worst cd_least_worst ct_least_worst : Value} {od_least_worst an_least_worst : Option Addr} {sl_least_worst : Array (Option Value)} {a_cheapest_marks : Addr} {oc_cheapest_marks kV_cheapest_marks dc_cheapest_marks pm_cheapest_marks cd_cheapest_marks ct_cheapest_marks : Value} {od_cheapest_marks an_cheapest_marks : Option Addr} {sl_cheapest_marks : Array (Option Value)} {a_least_regret : Addr} {oc_least_regret kV_least_regret dc_least_regret pm_least_regret cd_least_regret ct_least_regret : Value} {od_least_regret an_least_regret : Option Addr} {sl_least_regret : Array (Option Value)} {a_shows_least : Addr} {oc_shows_least kV_shows_least dc_shows_least pm_shows_least cd_shows_least ct_shows_least : Value} {od_shows_least an_shows_least : Option Addr} {sl_shows_least : Array (Option Value)} {a_shows_cheapest : Addr} {oc_shows_cheapest kV_shows_cheapest dc_shows_cheapest pm_shows_cheapest cd_shows_cheapest ct_shows_cheapest : Value} {od_shows_cheapest an_shows_cheapest : Option Addr} {sl_shows_cheapest : Array (Option Value)} {a_shows_regret : Addr} {oc_shows_regret kV_shows_regret dc_shows_regret pm_shows_regret cd_shows_regret ct_shows_regret : Value} {od_shows_regret an_shows_regret : Option Addr} {sl_shows_regret : Array (Option Value)} {a_law_right : Addr} {oc_law_right kV_law_right dc_law_right pm_law_right cd_law_right ct_law_right : Value} {od_law_right an_law_right : Option Addr} {sl_law_right : Array (Option Value)} {a_law : Addr} {oc_law kV_law dc_law pm_law cd_law ct_law : Value} {od_law an_law : Option Addr} {sl_law : Array (Option Value)} {t_MOST_PARTS : Tok} {t_MOST_TICKS : Tok} {t_MOST_MOMENT : Tok} {t_MOST_CUTS : Tok} {t_MOST_LENGTH : Tok} {t_PAIR : Tok} {t_TRIPLE : Tok} (X : K.In h) (G : h.Ns mainGlobals mg)
    (n_worst_by : nsIn K mainGlobals "worst_by" = some (some (.ref a_worst_by)))
    (l_worst_by : K.lookup a_worst_by = some ⟨oc_worst_by, od_worst_by, .func (fnOf "worst_by" "worst_by" (defArgs (top 21)) (defBody (top 21)) (defScope (top 21)) .none kV_worst_by dc_worst_by pm_worst_by an_worst_by cd_worst_by ct_worst_by), sl_worst_by⟩)
    (c_worst_by : codeIn K cd_worst_by "worst_by" = true)
    (k_worst_by : keepIn K (.ref a_worst_by) = true)
    (n_lengths_of : nsIn K mainGlobals "lengths_of" = some (some (.ref a_lengths_of)))
    (l_lengths_of : K.lookup a_lengths_of = some ⟨oc_lengths_of, od_lengths_of, .func (fnOf "lengths_of" "lengths_of" (defArgs (top 20)) (defBody (top 20)) (defScope (top 20)) .none kV_lengths_of dc_lengths_of pm_lengths_of an_lengths_of cd_lengths_of ct_lengths_of), sl_lengths_of⟩)
    (c_lengths_of : codeIn K cd_lengths_of "lengths_of" = true)
    (k_lengths_of : keepIn K (.ref a_lengths_of) = true)
    (n_cost_of : nsIn K mainGlobals "cost_of" = some (some (.ref a_cost_of)))
    (l_cost_of : K.lookup a_cost_of = some ⟨oc_cost_of, od_cost_of, .func (fnOf "cost_of" "cost_of" (defArgs (top 29)) (defBody (top 29)) (defScope (top 29)) .none kV_cost_of dc_cost_of pm_cost_of an_cost_of cd_cost_of ct_cost_of), sl_cost_of⟩)
    (c_cost_of : codeIn K cd_cost_of "cost_of" = true)
    (k_cost_of : keepIn K (.ref a_cost_of) = true)
    (n_is_integer : nsIn K mainGlobals "is_integer" = some (some (.ref a_is_integer)))
    (l_is_integer : K.lookup a_is_integer = some ⟨oc_is_integer, od_is_integer, .func (fnOf "is_integer" "is_integer" (defArgs (top 5)) (defBody (top 5)) (defScope (top 5)) .none kV_is_integer dc_is_integer pm_is_integer an_is_integer cd_is_integer ct_is_integer), sl_is_integer⟩)
    (c_is_integer : codeIn K cd_is_integer "is_integer" = true)
    (k_is_integer : keepIn K (.ref a_is_integer) = true)
    (n_sums_of : nsIn K mainGlobals "sums_of" = some (some (.ref a_sums_of)))
    (l_sums_of : K.lookup a_sums_of = some ⟨oc_sums_of, od_sums_of, .func (fnOf "sums_of" "sums_of" (defArgs (top 23)) (defBody (top 23)) (defScope (top 23)) .none kV_sums_of dc_sums_of pm_sums_of an_sums_of cd_sums_of ct_sums_of), sl_sums_of⟩)
    (c_sums_of : codeIn K cd_sums_of "sums_of" = true)
    (k_sums_of : keepIn K (.ref a_sums_of) = true)
    (n_law_lengths : nsIn K mainGlobals "_law_lengths" = some (some (.ref a_law_lengths)))
    (l_law_lengths : K.lookup a_law_lengths = some ⟨oc_law_lengths, od_law_lengths, .func (fnOf "_law_lengths" "_law_lengths" (defArgs (top 43)) (defBody (top 43)) (defScope (top 43)) .none kV_law_lengths dc_law_lengths pm_law_lengths an_law_lengths cd_law_lengths ct_law_lengths), sl_law_lengths⟩)
    (c_law_lengths : codeIn K cd_law_lengths "_law_lengths" = true)
    (k_law_lengths : keepIn K (.ref a_law_lengths) = true)
    (n_law_take : nsIn K mainGlobals "_law_take" = some (some (.ref a_law_take)))
    (l_law_take : K.lookup a_law_take = some ⟨oc_law_take, od_law_take, .func (fnOf "_law_take" "_law_take" (defArgs (top 38)) (defBody (top 38)) (defScope (top 38)) .none kV_law_take dc_law_take pm_law_take an_law_take cd_law_take ct_law_take), sl_law_take⟩)
    (c_law_take : codeIn K cd_law_take "_law_take" = true)
    (k_law_take : keepIn K (.ref a_law_take) = true)
    (n_law_all_marks : nsIn K mainGlobals "_law_all_marks" = some (some (.ref a_law_all_marks)))
    (l_law_all_marks : K.lookup a_law_all_marks = some ⟨oc_law_all_marks, od_law_all_marks, .func (fnOf "_law_all_marks" "_law_all_marks" (defArgs (top 42)) (defBody (top 42)) (defScope (top 42)) .none kV_law_all_marks dc_law_all_marks pm_law_all_marks an_law_all_marks cd_law_all_marks ct_law_all_marks), sl_law_all_marks⟩)
    (c_law_all_marks : codeIn K cd_law_all_marks "_law_all_marks" = true)
    (k_law_all_marks : keepIn K (.ref a_law_all_marks) = true)
    (n_law_is_pair : nsIn K mainGlobals "_law_is_pair" = some (some (.ref a_law_is_pair)))
    (l_law_is_pair : K.lookup a_law_is_pair = some ⟨oc_law_is_pair, od_law_is_pair, .func (fnOf "_law_is_pair" "_law_is_pair" (defArgs (top 49)) (defBody (top 49)) (defScope (top 49)) .none kV_law_is_pair dc_law_is_pair pm_law_is_pair an_law_is_pair cd_law_is_pair ct_law_is_pair), sl_law_is_pair⟩)
    (c_law_is_pair : codeIn K cd_law_is_pair "_law_is_pair" = true)
    (k_law_is_pair : keepIn K (.ref a_law_is_pair) = true)
    (n_law_cost : nsIn K mainGlobals "_law_cost" = some (some (.ref a_law_cost)))
    (l_law_cost : K.lookup a_law_cost = some ⟨oc_law_cost, od_law_cost, .func (fnOf "_law_cost" "_law_cost" (defArgs (top 45)) (defBody (top 45)) (defScope (top 45)) .none kV_law_cost dc_law_cost pm_law_cost an_law_cost cd_law_cost ct_law_cost), sl_law_cost⟩)
    (c_law_cost : codeIn K cd_law_cost "_law_cost" = true)
    (k_law_cost : keepIn K (.ref a_law_cost) = true)
    (n_law_are_marks : nsIn K mainGlobals "_law_are_marks" = some (some (.ref a_law_are_marks)))
    (l_law_are_marks : K.lookup a_law_are_marks = some ⟨oc_law_are_marks, od_law_are_marks, .func (fnOf "_law_are_marks" "_law_are_marks" (defArgs (top 48)) (defBody (top 48)) (defScope (top 48)) .none kV_law_are_marks dc_law_are_marks pm_law_are_marks an_law_are_marks cd_law_are_marks ct_law_are_marks), sl_law_are_marks⟩)
    (c_law_are_marks : codeIn K cd_law_are_marks "_law_are_marks" = true)
    (k_law_are_marks : keepIn K (.ref a_law_are_marks) = true)
    (n_law_pot : nsIn K mainGlobals "_law_pot" = some (some (.ref a_law_pot)))
    (l_law_pot : K.lookup a_law_pot = some ⟨oc_law_pot, od_law_pot, .func (fnOf "_law_pot" "_law_pot" (defArgs (top 37)) (defBody (top 37)) (defScope (top 37)) .none kV_law_pot dc_law_pot pm_law_pot an_law_pot cd_law_pot ct_law_pot), sl_law_pot⟩)
    (c_law_pot : codeIn K cd_law_pot "_law_pot" = true)
    (k_law_pot : keepIn K (.ref a_law_pot) = true)
    (n_law_cells : nsIn K mainGlobals "_law_cells" = some (some (.ref a_law_cells)))
    (l_law_cells : K.lookup a_law_cells = some ⟨oc_law_cells, od_law_cells, .func (fnOf "_law_cells" "_law_cells" (defArgs (top 40)) (defBody (top 40)) (defScope (top 40)) .none kV_law_cells dc_law_cells pm_law_cells an_law_cells cd_law_cells ct_law_cells), sl_law_cells⟩)
    (c_law_cells : codeIn K cd_law_cells "_law_cells" = true)
    (k_law_cells : keepIn K (.ref a_law_cells) = true)
    (n_worst_at : nsIn K mainGlobals "worst_at" = some (some (.ref a_worst_at)))
    (l_worst_at : K.lookup a_worst_at = some ⟨oc_worst_at, od_worst_at, .func (fnOf "worst_at" "worst_at" (defArgs (top 22)) (defBody (top 22)) (defScope (top 22)) .none kV_worst_at dc_worst_at pm_worst_at an_worst_at cd_worst_at ct_worst_at), sl_worst_at⟩)
    (c_worst_at : codeIn K cd_worst_at "worst_at" = true)
    (k_worst_at : keepIn K (.ref a_worst_at) = true)
    (n_is_within : nsIn K mainGlobals "is_within" = some (some (.ref a_is_within)))
    (l_is_within : K.lookup a_is_within = some ⟨oc_is_within, od_is_within, .func (fnOf "is_within" "is_within" (defArgs (top 6)) (defBody (top 6)) (defScope (top 6)) .none kV_is_within dc_is_within pm_is_within an_is_within cd_is_within ct_is_within), sl_is_within⟩)
    (c_is_within : codeIn K cd_is_within "is_within" = true)
    (k_is_within : keepIn K (.ref a_is_within) = true)
    (n_cheapest_at : nsIn K mainGlobals "cheapest_at" = some (some (.ref a_cheapest_at)))
    (l_cheapest_at : K.lookup a_cheapest_at = some ⟨oc_cheapest_at, od_cheapest_at, .func (fnOf "cheapest_at" "cheapest_at" (defArgs (top 24)) (defBody (top 24)) (defScope (top 24)) .none kV_cheapest_at dc_cheapest_at pm_cheapest_at an_cheapest_at cd_cheapest_at ct_cheapest_at), sl_cheapest_at⟩)
    (c_cheapest_at : codeIn K cd_cheapest_at "cheapest_at" = true)
    (k_cheapest_at : keepIn K (.ref a_cheapest_at) = true)
    (n_bounds_of : nsIn K mainGlobals "bounds_of" = some (some (.ref a_bounds_of)))
    (l_bounds_of : K.lookup a_bounds_of = some ⟨oc_bounds_of, od_bounds_of, .func (fnOf "bounds_of" "bounds_of" (defArgs (top 25)) (defBody (top 25)) (defScope (top 25)) .none kV_bounds_of dc_bounds_of pm_bounds_of an_bounds_of cd_bounds_of ct_bounds_of), sl_bounds_of⟩)
    (c_bounds_of : codeIn K cd_bounds_of "bounds_of" = true)
    (k_bounds_of : keepIn K (.ref a_bounds_of) = true)
    (n_law_worst_ticks : nsIn K mainGlobals "_law_worst_ticks" = some (some (.ref a_law_worst_ticks)))
    (l_law_worst_ticks : K.lookup a_law_worst_ticks = some ⟨oc_law_worst_ticks, od_law_worst_ticks, .func (fnOf "_law_worst_ticks" "_law_worst_ticks" (defArgs (top 44)) (defBody (top 44)) (defScope (top 44)) .none kV_law_worst_ticks dc_law_worst_ticks pm_law_worst_ticks an_law_worst_ticks cd_law_worst_ticks ct_law_worst_ticks), sl_law_worst_ticks⟩)
    (c_law_worst_ticks : codeIn K cd_law_worst_ticks "_law_worst_ticks" = true)
    (k_law_worst_ticks : keepIn K (.ref a_law_worst_ticks) = true)
    (n_law_of : nsIn K mainGlobals "_law_of" = some (some (.ref a_law_of)))
    (l_law_of : K.lookup a_law_of = some ⟨oc_law_of, od_law_of, .func (fnOf "_law_of" "_law_of" (defArgs (top 39)) (defBody (top 39)) (defScope (top 39)) .none kV_law_of dc_law_of pm_law_of an_law_of cd_law_of ct_law_of), sl_law_of⟩)
    (c_law_of : codeIn K cd_law_of "_law_of" = true)
    (k_law_of : keepIn K (.ref a_law_of) = true)
    (n_law_near : nsIn K mainGlobals "_law_near" = some (some (.ref a_law_near)))
    (l_law_near : K.lookup a_law_near = some ⟨oc_law_near, od_law_near, .func (fnOf "_law_near" "_law_near" (defArgs (top 50)) (defBody (top 50)) (defScope (top 50)) .none kV_law_near dc_law_near pm_law_near an_law_near cd_law_near ct_law_near), sl_law_near⟩)
    (c_law_near : codeIn K cd_law_near "_law_near" = true)
    (k_law_near : keepIn K (.ref a_law_near) = true)
    (n_regret_of : nsIn K mainGlobals "regret_of" = some (some (.ref a_regret_of)))
    (l_regret_of : K.lookup a_regret_of = some ⟨oc_regret_of, od_regret_of, .func (fnOf "regret_of" "regret_of" (defArgs (top 33)) (defBody (top 33)) (defScope (top 33)) .none kV_regret_of dc_regret_of pm_regret_of an_regret_of cd_regret_of ct_regret_of), sl_regret_of⟩)
    (c_regret_of : codeIn K cd_regret_of "regret_of" = true)
    (k_regret_of : keepIn K (.ref a_regret_of) = true)
    (n_are_integers : nsIn K mainGlobals "are_integers" = some (some (.ref a_are_integers)))
    (l_are_integers : K.lookup a_are_integers = some ⟨oc_are_integers, od_are_integers, .func (fnOf "are_integers" "are_integers" (defArgs (top 15)) (defBody (top 15)) (defScope (top 15)) .none kV_are_integers dc_are_integers pm_are_integers an_are_integers cd_are_integers ct_are_integers), sl_are_integers⟩)
    (c_are_integers : codeIn K cd_are_integers "are_integers" = true)
    (k_are_integers : keepIn K (.ref a_are_integers) = true)
    (n_check_cuts : nsIn K mainGlobals "check_cuts" = some (some (.ref a_check_cuts)))
    (l_check_cuts : K.lookup a_check_cuts = some ⟨oc_check_cuts, od_check_cuts, .func (fnOf "check_cuts" "check_cuts" (defArgs (top 19)) (defBody (top 19)) (defScope (top 19)) .none kV_check_cuts dc_check_cuts pm_check_cuts an_check_cuts cd_check_cuts ct_check_cuts), sl_check_cuts⟩)
    (c_check_cuts : codeIn K cd_check_cuts "check_cuts" = true)
    (k_check_cuts : keepIn K (.ref a_check_cuts) = true)
    (n_all_cheapest : nsIn K mainGlobals "all_cheapest" = some (some (.ref a_all_cheapest)))
    (l_all_cheapest : K.lookup a_all_cheapest = some ⟨oc_all_cheapest, od_all_cheapest, .func (fnOf "all_cheapest" "all_cheapest" (defArgs (top 26)) (defBody (top 26)) (defScope (top 26)) .none kV_all_cheapest dc_all_cheapest pm_all_cheapest an_all_cheapest cd_all_cheapest ct_all_cheapest), sl_all_cheapest⟩)
    (c_all_cheapest : codeIn K cd_all_cheapest "all_cheapest" = true)
    (k_all_cheapest : keepIn K (.ref a_all_cheapest) = true)
    (n_law_work : nsIn K mainGlobals "_law_work" = some (some (.ref a_law_work)))
    (l_law_work : K.lookup a_law_work = some ⟨oc_law_work, od_law_work, .func (fnOf "_law_work" "_law_work" (defArgs (top 41)) (defBody (top 41)) (defScope (top 41)) .none kV_law_work dc_law_work pm_law_work an_law_work cd_law_work ct_law_work), sl_law_work⟩)
    (c_law_work : codeIn K cd_law_work "_law_work" = true)
    (k_law_work : keepIn K (.ref a_law_work) = true)
    (n_law_regret_by : nsIn K mainGlobals "_law_regret_by" = some (some (.ref a_law_regret_by)))
    (l_law_regret_by : K.lookup a_law_regret_by = some ⟨oc_law_regret_by, od_law_regret_by, .func (fnOf "_law_regret_by" "_law_regret_by" (defArgs (top 47)) (defBody (top 47)) (defScope (top 47)) .none kV_law_regret_by dc_law_regret_by pm_law_regret_by an_law_regret_by cd_law_regret_by ct_law_regret_by), sl_law_regret_by⟩)
    (c_law_regret_by : codeIn K cd_law_regret_by "_law_regret_by" = true)
    (k_law_regret_by : keepIn K (.ref a_law_regret_by) = true)
    (n_law_least_times : nsIn K mainGlobals "_law_least_times" = some (some (.ref a_law_least_times)))
    (l_law_least_times : K.lookup a_law_least_times = some ⟨oc_law_least_times, od_law_least_times, .func (fnOf "_law_least_times" "_law_least_times" (defArgs (top 46)) (defBody (top 46)) (defScope (top 46)) .none kV_law_least_times dc_law_least_times pm_law_least_times an_law_least_times cd_law_least_times ct_law_least_times), sl_law_least_times⟩)
    (c_law_least_times : codeIn K cd_law_least_times "_law_least_times" = true)
    (k_law_least_times : keepIn K (.ref a_law_least_times) = true)
    (n_is_work : nsIn K mainGlobals "is_work" = some (some (.ref a_is_work)))
    (l_is_work : K.lookup a_is_work = some ⟨oc_is_work, od_is_work, .func (fnOf "is_work" "is_work" (defArgs (top 16)) (defBody (top 16)) (defScope (top 16)) .none kV_is_work dc_is_work pm_is_work an_is_work cd_is_work ct_is_work), sl_is_work⟩)
    (c_is_work : codeIn K cd_is_work "is_work" = true)
    (k_is_work : keepIn K (.ref a_is_work) = true)
    (n_are_marks : nsIn K mainGlobals "are_marks" = some (some (.ref a_are_marks)))
    (l_are_marks : K.lookup a_are_marks = some ⟨oc_are_marks, od_are_marks, .func (fnOf "are_marks" "are_marks" (defArgs (top 18)) (defBody (top 18)) (defScope (top 18)) .none kV_are_marks dc_are_marks pm_are_marks an_are_marks cd_are_marks ct_are_marks), sl_are_marks⟩)
    (c_are_marks : codeIn K cd_are_marks "are_marks" = true)
    (k_are_marks : keepIn K (.ref a_are_marks) = true)
    (n_check_work : nsIn K mainGlobals "check_work" = some (some (.ref a_check_work)))
    (l_check_work : K.lookup a_check_work = some ⟨oc_check_work, od_check_work, .func (fnOf "check_work" "check_work" (defArgs (top 17)) (defBody (top 17)) (defScope (top 17)) .none kV_check_work dc_check_work pm_check_work an_check_work cd_check_work ct_check_work), sl_check_work⟩)
    (c_check_work : codeIn K cd_check_work "check_work" = true)
    (k_check_work : keepIn K (.ref a_check_work) = true)
    (n_is_told : nsIn K mainGlobals "is_told" = some (some (.ref a_is_told)))
    (l_is_told : K.lookup a_is_told = some ⟨oc_is_told, od_is_told, .func (fnOf "is_told" "is_told" (defArgs (top 28)) (defBody (top 28)) (defScope (top 28)) .none kV_is_told dc_is_told pm_is_told an_is_told cd_is_told ct_is_told), sl_is_told⟩)
    (c_is_told : codeIn K cd_is_told "is_told" = true)
    (k_is_told : keepIn K (.ref a_is_told) = true)
    (n_least_worst : nsIn K mainGlobals "least_worst" = some (some (.ref a_least_worst)))
    (l_least_worst : K.lookup a_least_worst = some ⟨oc_least_worst, od_least_worst, .func (fnOf "least_worst" "least_worst" (defArgs (top 31)) (defBody (top 31)) (defScope (top 31)) .none kV_least_worst dc_least_worst pm_least_worst an_least_worst cd_least_worst ct_least_worst), sl_least_worst⟩)
    (c_least_worst : codeIn K cd_least_worst "least_worst" = true)
    (k_least_worst : keepIn K (.ref a_least_worst) = true)
    (n_cheapest_marks : nsIn K mainGlobals "cheapest_marks" = some (some (.ref a_cheapest_marks)))
    (l_cheapest_marks : K.lookup a_cheapest_marks = some ⟨oc_cheapest_marks, od_cheapest_marks, .func (fnOf "cheapest_marks" "cheapest_marks" (defArgs (top 27)) (defBody (top 27)) (defScope (top 27)) .none kV_cheapest_marks dc_cheapest_marks pm_cheapest_marks an_cheapest_marks cd_cheapest_marks ct_cheapest_marks), sl_cheapest_marks⟩)
    (c_cheapest_marks : codeIn K cd_cheapest_marks "cheapest_marks" = true)
    (k_cheapest_marks : keepIn K (.ref a_cheapest_marks) = true)
    (n_least_regret : nsIn K mainGlobals "least_regret" = some (some (.ref a_least_regret)))
    (l_least_regret : K.lookup a_least_regret = some ⟨oc_least_regret, od_least_regret, .func (fnOf "least_regret" "least_regret" (defArgs (top 34)) (defBody (top 34)) (defScope (top 34)) .none kV_least_regret dc_least_regret pm_least_regret an_least_regret cd_least_regret ct_least_regret), sl_least_regret⟩)
    (c_least_regret : codeIn K cd_least_regret "least_regret" = true)
    (k_least_regret : keepIn K (.ref a_least_regret) = true)
    (n_shows_least : nsIn K mainGlobals "shows_least" = some (some (.ref a_shows_least)))
    (l_shows_least : K.lookup a_shows_least = some ⟨oc_shows_least, od_shows_least, .func (fnOf "shows_least" "shows_least" (defArgs (top 32)) (defBody (top 32)) (defScope (top 32)) .none kV_shows_least dc_shows_least pm_shows_least an_shows_least cd_shows_least ct_shows_least), sl_shows_least⟩)
    (c_shows_least : codeIn K cd_shows_least "shows_least" = true)
    (k_shows_least : keepIn K (.ref a_shows_least) = true)
    (n_shows_cheapest : nsIn K mainGlobals "shows_cheapest" = some (some (.ref a_shows_cheapest)))
    (l_shows_cheapest : K.lookup a_shows_cheapest = some ⟨oc_shows_cheapest, od_shows_cheapest, .func (fnOf "shows_cheapest" "shows_cheapest" (defArgs (top 30)) (defBody (top 30)) (defScope (top 30)) .none kV_shows_cheapest dc_shows_cheapest pm_shows_cheapest an_shows_cheapest cd_shows_cheapest ct_shows_cheapest), sl_shows_cheapest⟩)
    (c_shows_cheapest : codeIn K cd_shows_cheapest "shows_cheapest" = true)
    (k_shows_cheapest : keepIn K (.ref a_shows_cheapest) = true)
    (n_shows_regret : nsIn K mainGlobals "shows_regret" = some (some (.ref a_shows_regret)))
    (l_shows_regret : K.lookup a_shows_regret = some ⟨oc_shows_regret, od_shows_regret, .func (fnOf "shows_regret" "shows_regret" (defArgs (top 35)) (defBody (top 35)) (defScope (top 35)) .none kV_shows_regret dc_shows_regret pm_shows_regret an_shows_regret cd_shows_regret ct_shows_regret), sl_shows_regret⟩)
    (c_shows_regret : codeIn K cd_shows_regret "shows_regret" = true)
    (k_shows_regret : keepIn K (.ref a_shows_regret) = true)
    (n_law_right : nsIn K mainGlobals "_law_right" = some (some (.ref a_law_right)))
    (l_law_right : K.lookup a_law_right = some ⟨oc_law_right, od_law_right, .func (fnOf "_law_right" "_law_right" (defArgs (top 51)) (defBody (top 51)) (defScope (top 51)) .none kV_law_right dc_law_right pm_law_right an_law_right cd_law_right ct_law_right), sl_law_right⟩)
    (c_law_right : codeIn K cd_law_right "_law_right" = true)
    (k_law_right : keepIn K (.ref a_law_right) = true)
    (n_law : nsIn K mainGlobals "law" = some (some (.ref a_law)))
    (l_law : K.lookup a_law = some ⟨oc_law, od_law, .func (fnOf "law" "law" (defArgs (top 52)) (defBody (top 52)) (defScope (top 52)) .none kV_law dc_law pm_law an_law cd_law ct_law), sl_law⟩)
    (c_law : codeIn K cd_law "law" = true)
    (k_law : keepIn K (.ref a_law) = true)
    (g_MOST_PARTS : nsIn K mainGlobals "MOST_PARTS" = some (some (.int 40 t_MOST_PARTS)))
    (g_MOST_TICKS : nsIn K mainGlobals "MOST_TICKS" = some (some (.int 1000000 t_MOST_TICKS)))
    (g_MOST_MOMENT : nsIn K mainGlobals "MOST_MOMENT" = some (some (.int 1000000000000 t_MOST_MOMENT)))
    (g_MOST_CUTS : nsIn K mainGlobals "MOST_CUTS" = some (some (.int 100 t_MOST_CUTS)))
    (g_MOST_LENGTH : nsIn K mainGlobals "MOST_LENGTH" = some (some (.int 1000000000 t_MOST_LENGTH)))
    (g_PAIR : nsIn K mainGlobals "PAIR" = some (some (.int 2 t_PAIR)))
    (g_TRIPLE : nsIn K mainGlobals "TRIPLE" = some (some (.int 3 t_TRIPLE)))
    (n_abs : nsIn K mainGlobals "abs" = some none)
    (n_all : nsIn K mainGlobals "all" = some none)
    (n_any : nsIn K mainGlobals "any" = some none)
    (n_bool : nsIn K mainGlobals "bool" = some none)
    (n_enumerate : nsIn K mainGlobals "enumerate" = some none)
    (n_int : nsIn K mainGlobals "int" = some none)
    (n_isinstance : nsIn K mainGlobals "isinstance" = some none)
    (n_len : nsIn K mainGlobals "len" = some none)
    (n_list : nsIn K mainGlobals "list" = some none)
    (n_max : nsIn K mainGlobals "max" = some none)
    (n_min : nsIn K mainGlobals "min" = some none)
    (n_range : nsIn K mainGlobals "range" = some none)
    (n_repr : nsIn K mainGlobals "repr" = some none)
    (n_sorted : nsIn K mainGlobals "sorted" = some none)
    (n_sum : nsIn K mainGlobals "sum" = some none)
    (n_tuple : nsIn K mainGlobals "tuple" = some none)
    (n_zip : nsIn K mainGlobals "zip" = some none) : Tx K mg where
  a_worst_by := a_worst_by
  d_worst_by := fnOf "worst_by" "worst_by" (defArgs (top 21)) (defBody (top 21)) (defScope (top 21)) .none kV_worst_by dc_worst_by pm_worst_by an_worst_by cd_worst_by ct_worst_by
  F_worst_by := fun_mk (st := (top 21)) l_worst_by c_worst_by k_worst_by
  m_worst_by := mg_of X G n_worst_by
  a_lengths_of := a_lengths_of
  d_lengths_of := fnOf "lengths_of" "lengths_of" (defArgs (top 20)) (defBody (top 20)) (defScope (top 20)) .none kV_lengths_of dc_lengths_of pm_lengths_of an_lengths_of cd_lengths_of ct_lengths_of
  F_lengths_of := fun_mk (st := (top 20)) l_lengths_of c_lengths_of k_lengths_of
  m_lengths_of := mg_of X G n_lengths_of
  a_cost_of := a_cost_of
  d_cost_of := fnOf "cost_of" "cost_of" (defArgs (top 29)) (defBody (top 29)) (defScope (top 29)) .none kV_cost_of dc_cost_of pm_cost_of an_cost_of cd_cost_of ct_cost_of
  F_cost_of := fun_mk (st := (top 29)) l_cost_of c_cost_of k_cost_of
  m_cost_of := mg_of X G n_cost_of
  a_is_integer := a_is_integer
  d_is_integer := fnOf "is_integer" "is_integer" (defArgs (top 5)) (defBody (top 5)) (defScope (top 5)) .none kV_is_integer dc_is_integer pm_is_integer an_is_integer cd_is_integer ct_is_integer
  F_is_integer := fun_mk (st := (top 5)) l_is_integer c_is_integer k_is_integer
  m_is_integer := mg_of X G n_is_integer
  a_sums_of := a_sums_of
  d_sums_of := fnOf "sums_of" "sums_of" (defArgs (top 23)) (defBody (top 23)) (defScope (top 23)) .none kV_sums_of dc_sums_of pm_sums_of an_sums_of cd_sums_of ct_sums_of
  F_sums_of := fun_mk (st := (top 23)) l_sums_of c_sums_of k_sums_of
  m_sums_of := mg_of X G n_sums_of
  a_law_lengths := a_law_lengths
  d_law_lengths := fnOf "_law_lengths" "_law_lengths" (defArgs (top 43)) (defBody (top 43)) (defScope (top 43)) .none kV_law_lengths dc_law_lengths pm_law_lengths an_law_lengths cd_law_lengths ct_law_lengths
  F_law_lengths := fun_mk (st := (top 43)) l_law_lengths c_law_lengths k_law_lengths
  m_law_lengths := mg_of X G n_law_lengths
  a_law_take := a_law_take
  d_law_take := fnOf "_law_take" "_law_take" (defArgs (top 38)) (defBody (top 38)) (defScope (top 38)) .none kV_law_take dc_law_take pm_law_take an_law_take cd_law_take ct_law_take
  F_law_take := fun_mk (st := (top 38)) l_law_take c_law_take k_law_take
  m_law_take := mg_of X G n_law_take
  a_law_all_marks := a_law_all_marks
  d_law_all_marks := fnOf "_law_all_marks" "_law_all_marks" (defArgs (top 42)) (defBody (top 42)) (defScope (top 42)) .none kV_law_all_marks dc_law_all_marks pm_law_all_marks an_law_all_marks cd_law_all_marks ct_law_all_marks
  F_law_all_marks := fun_mk (st := (top 42)) l_law_all_marks c_law_all_marks k_law_all_marks
  m_law_all_marks := mg_of X G n_law_all_marks
  a_law_is_pair := a_law_is_pair
  d_law_is_pair := fnOf "_law_is_pair" "_law_is_pair" (defArgs (top 49)) (defBody (top 49)) (defScope (top 49)) .none kV_law_is_pair dc_law_is_pair pm_law_is_pair an_law_is_pair cd_law_is_pair ct_law_is_pair
  F_law_is_pair := fun_mk (st := (top 49)) l_law_is_pair c_law_is_pair k_law_is_pair
  m_law_is_pair := mg_of X G n_law_is_pair
  a_law_cost := a_law_cost
  d_law_cost := fnOf "_law_cost" "_law_cost" (defArgs (top 45)) (defBody (top 45)) (defScope (top 45)) .none kV_law_cost dc_law_cost pm_law_cost an_law_cost cd_law_cost ct_law_cost
  F_law_cost := fun_mk (st := (top 45)) l_law_cost c_law_cost k_law_cost
  m_law_cost := mg_of X G n_law_cost
  a_law_are_marks := a_law_are_marks
  d_law_are_marks := fnOf "_law_are_marks" "_law_are_marks" (defArgs (top 48)) (defBody (top 48)) (defScope (top 48)) .none kV_law_are_marks dc_law_are_marks pm_law_are_marks an_law_are_marks cd_law_are_marks ct_law_are_marks
  F_law_are_marks := fun_mk (st := (top 48)) l_law_are_marks c_law_are_marks k_law_are_marks
  m_law_are_marks := mg_of X G n_law_are_marks
  a_law_pot := a_law_pot
  d_law_pot := fnOf "_law_pot" "_law_pot" (defArgs (top 37)) (defBody (top 37)) (defScope (top 37)) .none kV_law_pot dc_law_pot pm_law_pot an_law_pot cd_law_pot ct_law_pot
  F_law_pot := fun_mk (st := (top 37)) l_law_pot c_law_pot k_law_pot
  m_law_pot := mg_of X G n_law_pot
  a_law_cells := a_law_cells
  d_law_cells := fnOf "_law_cells" "_law_cells" (defArgs (top 40)) (defBody (top 40)) (defScope (top 40)) .none kV_law_cells dc_law_cells pm_law_cells an_law_cells cd_law_cells ct_law_cells
  F_law_cells := fun_mk (st := (top 40)) l_law_cells c_law_cells k_law_cells
  m_law_cells := mg_of X G n_law_cells
  a_worst_at := a_worst_at
  d_worst_at := fnOf "worst_at" "worst_at" (defArgs (top 22)) (defBody (top 22)) (defScope (top 22)) .none kV_worst_at dc_worst_at pm_worst_at an_worst_at cd_worst_at ct_worst_at
  F_worst_at := fun_mk (st := (top 22)) l_worst_at c_worst_at k_worst_at
  m_worst_at := mg_of X G n_worst_at
  a_is_within := a_is_within
  d_is_within := fnOf "is_within" "is_within" (defArgs (top 6)) (defBody (top 6)) (defScope (top 6)) .none kV_is_within dc_is_within pm_is_within an_is_within cd_is_within ct_is_within
  F_is_within := fun_mk (st := (top 6)) l_is_within c_is_within k_is_within
  m_is_within := mg_of X G n_is_within
  a_cheapest_at := a_cheapest_at
  d_cheapest_at := fnOf "cheapest_at" "cheapest_at" (defArgs (top 24)) (defBody (top 24)) (defScope (top 24)) .none kV_cheapest_at dc_cheapest_at pm_cheapest_at an_cheapest_at cd_cheapest_at ct_cheapest_at
  F_cheapest_at := fun_mk (st := (top 24)) l_cheapest_at c_cheapest_at k_cheapest_at
  m_cheapest_at := mg_of X G n_cheapest_at
  a_bounds_of := a_bounds_of
  d_bounds_of := fnOf "bounds_of" "bounds_of" (defArgs (top 25)) (defBody (top 25)) (defScope (top 25)) .none kV_bounds_of dc_bounds_of pm_bounds_of an_bounds_of cd_bounds_of ct_bounds_of
  F_bounds_of := fun_mk (st := (top 25)) l_bounds_of c_bounds_of k_bounds_of
  m_bounds_of := mg_of X G n_bounds_of
  a_law_worst_ticks := a_law_worst_ticks
  d_law_worst_ticks := fnOf "_law_worst_ticks" "_law_worst_ticks" (defArgs (top 44)) (defBody (top 44)) (defScope (top 44)) .none kV_law_worst_ticks dc_law_worst_ticks pm_law_worst_ticks an_law_worst_ticks cd_law_worst_ticks ct_law_worst_ticks
  F_law_worst_ticks := fun_mk (st := (top 44)) l_law_worst_ticks c_law_worst_ticks k_law_worst_ticks
  m_law_worst_ticks := mg_of X G n_law_worst_ticks
  a_law_of := a_law_of
  d_law_of := fnOf "_law_of" "_law_of" (defArgs (top 39)) (defBody (top 39)) (defScope (top 39)) .none kV_law_of dc_law_of pm_law_of an_law_of cd_law_of ct_law_of
  F_law_of := fun_mk (st := (top 39)) l_law_of c_law_of k_law_of
  m_law_of := mg_of X G n_law_of
  a_law_near := a_law_near
  d_law_near := fnOf "_law_near" "_law_near" (defArgs (top 50)) (defBody (top 50)) (defScope (top 50)) .none kV_law_near dc_law_near pm_law_near an_law_near cd_law_near ct_law_near
  F_law_near := fun_mk (st := (top 50)) l_law_near c_law_near k_law_near
  m_law_near := mg_of X G n_law_near
  a_regret_of := a_regret_of
  d_regret_of := fnOf "regret_of" "regret_of" (defArgs (top 33)) (defBody (top 33)) (defScope (top 33)) .none kV_regret_of dc_regret_of pm_regret_of an_regret_of cd_regret_of ct_regret_of
  F_regret_of := fun_mk (st := (top 33)) l_regret_of c_regret_of k_regret_of
  m_regret_of := mg_of X G n_regret_of
  a_are_integers := a_are_integers
  d_are_integers := fnOf "are_integers" "are_integers" (defArgs (top 15)) (defBody (top 15)) (defScope (top 15)) .none kV_are_integers dc_are_integers pm_are_integers an_are_integers cd_are_integers ct_are_integers
  F_are_integers := fun_mk (st := (top 15)) l_are_integers c_are_integers k_are_integers
  m_are_integers := mg_of X G n_are_integers
  a_check_cuts := a_check_cuts
  d_check_cuts := fnOf "check_cuts" "check_cuts" (defArgs (top 19)) (defBody (top 19)) (defScope (top 19)) .none kV_check_cuts dc_check_cuts pm_check_cuts an_check_cuts cd_check_cuts ct_check_cuts
  F_check_cuts := fun_mk (st := (top 19)) l_check_cuts c_check_cuts k_check_cuts
  m_check_cuts := mg_of X G n_check_cuts
  a_all_cheapest := a_all_cheapest
  d_all_cheapest := fnOf "all_cheapest" "all_cheapest" (defArgs (top 26)) (defBody (top 26)) (defScope (top 26)) .none kV_all_cheapest dc_all_cheapest pm_all_cheapest an_all_cheapest cd_all_cheapest ct_all_cheapest
  F_all_cheapest := fun_mk (st := (top 26)) l_all_cheapest c_all_cheapest k_all_cheapest
  m_all_cheapest := mg_of X G n_all_cheapest
  a_law_work := a_law_work
  d_law_work := fnOf "_law_work" "_law_work" (defArgs (top 41)) (defBody (top 41)) (defScope (top 41)) .none kV_law_work dc_law_work pm_law_work an_law_work cd_law_work ct_law_work
  F_law_work := fun_mk (st := (top 41)) l_law_work c_law_work k_law_work
  m_law_work := mg_of X G n_law_work
  a_law_regret_by := a_law_regret_by
  d_law_regret_by := fnOf "_law_regret_by" "_law_regret_by" (defArgs (top 47)) (defBody (top 47)) (defScope (top 47)) .none kV_law_regret_by dc_law_regret_by pm_law_regret_by an_law_regret_by cd_law_regret_by ct_law_regret_by
  F_law_regret_by := fun_mk (st := (top 47)) l_law_regret_by c_law_regret_by k_law_regret_by
  m_law_regret_by := mg_of X G n_law_regret_by
  a_law_least_times := a_law_least_times
  d_law_least_times := fnOf "_law_least_times" "_law_least_times" (defArgs (top 46)) (defBody (top 46)) (defScope (top 46)) .none kV_law_least_times dc_law_least_times pm_law_least_times an_law_least_times cd_law_least_times ct_law_least_times
  F_law_least_times := fun_mk (st := (top 46)) l_law_least_times c_law_least_times k_law_least_times
  m_law_least_times := mg_of X G n_law_least_times
  a_is_work := a_is_work
  d_is_work := fnOf "is_work" "is_work" (defArgs (top 16)) (defBody (top 16)) (defScope (top 16)) .none kV_is_work dc_is_work pm_is_work an_is_work cd_is_work ct_is_work
  F_is_work := fun_mk (st := (top 16)) l_is_work c_is_work k_is_work
  m_is_work := mg_of X G n_is_work
  a_are_marks := a_are_marks
  d_are_marks := fnOf "are_marks" "are_marks" (defArgs (top 18)) (defBody (top 18)) (defScope (top 18)) .none kV_are_marks dc_are_marks pm_are_marks an_are_marks cd_are_marks ct_are_marks
  F_are_marks := fun_mk (st := (top 18)) l_are_marks c_are_marks k_are_marks
  m_are_marks := mg_of X G n_are_marks
  a_check_work := a_check_work
  d_check_work := fnOf "check_work" "check_work" (defArgs (top 17)) (defBody (top 17)) (defScope (top 17)) .none kV_check_work dc_check_work pm_check_work an_check_work cd_check_work ct_check_work
  F_check_work := fun_mk (st := (top 17)) l_check_work c_check_work k_check_work
  m_check_work := mg_of X G n_check_work
  a_is_told := a_is_told
  d_is_told := fnOf "is_told" "is_told" (defArgs (top 28)) (defBody (top 28)) (defScope (top 28)) .none kV_is_told dc_is_told pm_is_told an_is_told cd_is_told ct_is_told
  F_is_told := fun_mk (st := (top 28)) l_is_told c_is_told k_is_told
  m_is_told := mg_of X G n_is_told
  a_least_worst := a_least_worst
  d_least_worst := fnOf "least_worst" "least_worst" (defArgs (top 31)) (defBody (top 31)) (defScope (top 31)) .none kV_least_worst dc_least_worst pm_least_worst an_least_worst cd_least_worst ct_least_worst
  F_least_worst := fun_mk (st := (top 31)) l_least_worst c_least_worst k_least_worst
  m_least_worst := mg_of X G n_least_worst
  a_cheapest_marks := a_cheapest_marks
  d_cheapest_marks := fnOf "cheapest_marks" "cheapest_marks" (defArgs (top 27)) (defBody (top 27)) (defScope (top 27)) .none kV_cheapest_marks dc_cheapest_marks pm_cheapest_marks an_cheapest_marks cd_cheapest_marks ct_cheapest_marks
  F_cheapest_marks := fun_mk (st := (top 27)) l_cheapest_marks c_cheapest_marks k_cheapest_marks
  m_cheapest_marks := mg_of X G n_cheapest_marks
  a_least_regret := a_least_regret
  d_least_regret := fnOf "least_regret" "least_regret" (defArgs (top 34)) (defBody (top 34)) (defScope (top 34)) .none kV_least_regret dc_least_regret pm_least_regret an_least_regret cd_least_regret ct_least_regret
  F_least_regret := fun_mk (st := (top 34)) l_least_regret c_least_regret k_least_regret
  m_least_regret := mg_of X G n_least_regret
  a_shows_least := a_shows_least
  d_shows_least := fnOf "shows_least" "shows_least" (defArgs (top 32)) (defBody (top 32)) (defScope (top 32)) .none kV_shows_least dc_shows_least pm_shows_least an_shows_least cd_shows_least ct_shows_least
  F_shows_least := fun_mk (st := (top 32)) l_shows_least c_shows_least k_shows_least
  m_shows_least := mg_of X G n_shows_least
  a_shows_cheapest := a_shows_cheapest
  d_shows_cheapest := fnOf "shows_cheapest" "shows_cheapest" (defArgs (top 30)) (defBody (top 30)) (defScope (top 30)) .none kV_shows_cheapest dc_shows_cheapest pm_shows_cheapest an_shows_cheapest cd_shows_cheapest ct_shows_cheapest
  F_shows_cheapest := fun_mk (st := (top 30)) l_shows_cheapest c_shows_cheapest k_shows_cheapest
  m_shows_cheapest := mg_of X G n_shows_cheapest
  a_shows_regret := a_shows_regret
  d_shows_regret := fnOf "shows_regret" "shows_regret" (defArgs (top 35)) (defBody (top 35)) (defScope (top 35)) .none kV_shows_regret dc_shows_regret pm_shows_regret an_shows_regret cd_shows_regret ct_shows_regret
  F_shows_regret := fun_mk (st := (top 35)) l_shows_regret c_shows_regret k_shows_regret
  m_shows_regret := mg_of X G n_shows_regret
  a_law_right := a_law_right
  d_law_right := fnOf "_law_right" "_law_right" (defArgs (top 51)) (defBody (top 51)) (defScope (top 51)) .none kV_law_right dc_law_right pm_law_right an_law_right cd_law_right ct_law_right
  F_law_right := fun_mk (st := (top 51)) l_law_right c_law_right k_law_right
  m_law_right := mg_of X G n_law_right
  a_law := a_law
  d_law := fnOf "law" "law" (defArgs (top 52)) (defBody (top 52)) (defScope (top 52)) .none kV_law dc_law pm_law an_law cd_law ct_law
  F_law := fun_mk (st := (top 52)) l_law c_law k_law
  m_law := mg_of X G n_law
  t_MOST_PARTS := t_MOST_PARTS
  g_MOST_PARTS := mg_of X G g_MOST_PARTS
  t_MOST_TICKS := t_MOST_TICKS
  g_MOST_TICKS := mg_of X G g_MOST_TICKS
  t_MOST_MOMENT := t_MOST_MOMENT
  g_MOST_MOMENT := mg_of X G g_MOST_MOMENT
  t_MOST_CUTS := t_MOST_CUTS
  g_MOST_CUTS := mg_of X G g_MOST_CUTS
  t_MOST_LENGTH := t_MOST_LENGTH
  g_MOST_LENGTH := mg_of X G g_MOST_LENGTH
  t_PAIR := t_PAIR
  g_PAIR := mg_of X G g_PAIR
  t_TRIPLE := t_TRIPLE
  g_TRIPLE := mg_of X G g_TRIPLE
  n_abs := mg_none_of X G n_abs
  n_all := mg_none_of X G n_all
  n_any := mg_none_of X G n_any
  n_bool := mg_none_of X G n_bool
  n_enumerate := mg_none_of X G n_enumerate
  n_int := mg_none_of X G n_int
  n_isinstance := mg_none_of X G n_isinstance
  n_len := mg_none_of X G n_len
  n_list := mg_none_of X G n_list
  n_max := mg_none_of X G n_max
  n_min := mg_none_of X G n_min
  n_range := mg_none_of X G n_range
  n_repr := mg_none_of X G n_repr
  n_sorted := mg_none_of X G n_sorted
  n_sum := mg_none_of X G n_sum
  n_tuple := mg_none_of X G n_tuple
  n_zip := mg_none_of X G n_zip
section
variable {P : Program} {w : World} {K : Frag} {mg : Str → Option Value} {base : Heap}
/-! ### words -/
def inW (v : V) (b c : Int) : Bool := match v with
  | .int a => decide (b ≤ a ∧ a ≤ c)
  | _ => false
def isI (v : V) : Bool := match v with
  | .int _ => true
  | _ => false
/-- a number or a truth value -/
def Nb (v : V) : Prop := (∃ a, v = .int a) ∨ ∃ b, v = .bl b
theorem isi_bl {b : Bool} {H : Hp} {Q : VK} (k : Q (.bl true) H) : rIsi K [.bl b, .ty "int"] H Q := ⟨_, _, _, _, true, rfl, .ty "int", .base (.bl b), kit_ty (by decide +kernel), k⟩
theorem isi_blB {b : Bool} {H : Hp} {Q : VK} (k : Q (.bl true) H) : rIsi K [.bl b, .ty "bool"] H Q := ⟨_, _, _, _, true, rfl, .ty "bool", .base (.bl b), kit_ty (by decide +kernel), k⟩
/-- no number -/
structure NI (K : Frag) (H : Hp) (v : V) : Prop where
  i : isI v = false
  w : ∀ b c, inW v b c = false
  k : ∀ Q : VK, Q (.bl false) H → rIsi K [v, .ty "int"] H Q
/-- a value of which is asked whether it is a number -/
def Nc (K : Frag) (H : Hp) (v : V) : Prop := Nb v ∨ NI K H v
def sp_is_integer (K : Frag) : Sp := fun vs H Q E => vs.length = 1 ∧ ∃ v, vs = [v] ∧ Nc K H v ∧ Q (.bl (isI v)) H
abbrev names_is_integer : List Str := ["value"]
theorem sc_is_integer : FnScope names_is_integer ["value"] (defScope (top 5)) := ⟨rfl, rfl, rfl, by decide +kernel, rfl, by decide +kernel, by decide +kernel⟩
set_option maxHeartbeats 4000000 in
theorem ok_is_integer (T : Tx K mg) : FG P w K mg base CX0 1 T.a_is_integer T.d_is_integer ["value"] (sp_is_integer K) := by
  refine OB.Fun.fg T.F_is_integer sc_is_integer (fun vs H Q E h => h.1) (fun cdv A out s H vs Q E g h => ?_)
  obtain ⟨_, v, rfl, hv, k⟩ := h
  refine ⟨_, (pss_one (ps_ret (pe_and (pe_callB (toK (r := rIsi) (K := K) rfl call_isi) (by rfl) T.n_isinstance (by decide +kernel) (pa_cons (pv 0) (pa_cons (pe_bltn (v := .ty "int") (by rfl) T.n_int (by decide +kernel) rfl) pa_nil))) (pe_one (pe_not (pe_callB (toK (r := rIsi) (K := K) rfl call_isi) (by rfl) T.n_isinstance (by decide +kernel) (pa_cons (pv 0) (pa_cons (pe_bltn (v := .ty "bool") (by rfl) T.n_bool (by decide +kernel) rfl) pa_nil)))))))), ?_⟩
  refine g_start (σ := [some _]) rfl ?_
  rcases hv with (⟨a, rfl⟩ | ⟨b, rfl⟩) | hn
  · repeat walk_at "ob1"
    exact k
  · repeat walk_at "ob1"
    refine isi_bl ?_
    repeat walk_at "ob1"
    refine isi_blB ?_
    repeat walk_at "ob1"
    exact k
  · rw [hn.i] at k
    repeat walk_at "ob1"
    refine hn.k _ ?_
    repeat walk_at "ob1"
    exact k
def sp_is_within (K : Frag) : Sp := fun vs H Q E => vs.length = 3 ∧ ∃ v, ∃ b c : Int, vs = [v, .int b, .int c] ∧ Nc K H v ∧ Q (.bl (inW v b c)) H
abbrev names_is_within : List Str := ["value", "least", "most"]
theorem sc_is_within : FnScope names_is_within ["value", "least", "most"] (defScope (top 6)) := ⟨rfl, rfl, rfl, by decide +kernel, rfl, by decide +kernel, by decide +kernel⟩
set_option maxHeartbeats 4000000 in
theorem ok_is_within (T : Tx K mg) : FG P w K mg base CX0 2 T.a_is_within T.d_is_within ["value", "least", "most"] (sp_is_within K) := by
  refine OB.Fun.fg T.F_is_within sc_is_within (fun vs H Q E h => h.1) (fun cdv A out s H vs Q E g h => ?_)
  obtain ⟨_, v, b, c, rfl, hv, k⟩ := h
  refine ⟨_, (pss_one (ps_ret (pe_and (pe_cg (ok_is_integer T) (g.mono (by decide : 1 ≤ 1)) (by rfl) T.m_is_integer T.F_is_integer.kp (OB.Fun.bd T.F_is_integer (ps := ["value"]) (n := 1) (ks := []) (ix := [0]) (fun _ _ _ _ _ _ us ws h1 h2 => match us, ws, h1, h2 with | [_], [], _, _ => rfl)) pass0 (pa_cons (pv 0) pa_nil) pk_nil) (pe_one (pe_chain op_le op_le (pv 1) (pv 0) (pv 2)))))), ?_⟩
  refine g_start (σ := [some _, some _, some _]) rfl ?_
  rcases hv with (⟨a, rfl⟩ | ⟨x, rfl⟩) | hn
  · repeat walk_at "ob1"
    refine ⟨rfl, .int a, rfl, .inl (.inl ⟨a, rfl⟩), ?_⟩
    unfold isI
    unfold inW at k
    repeat walk_at "ob1"
    refine g_iteD (fun h1 => ?_) (fun h1 => ?_)
    · repeat walk_at "ob1"
      have e : decide (b ≤ a ∧ a ≤ c) = decide (a ≤ c) := by simp [h1]
      rw [← e]
      exact k
    · have e : decide (b ≤ a ∧ a ≤ c) = false := by simp [h1]
      rw [← e]
      exact k
  · repeat walk_at "ob1"
    refine ⟨rfl, .bl x, rfl, .inl (.inr ⟨x, rfl⟩), ?_⟩
    unfold isI
    unfold inW at k
    repeat walk_at "ob1"
    exact k
  · rw [hn.w] at k
    repeat walk_at "ob1"
    refine ⟨rfl, v, rfl, .inr hn, ?_⟩
    rw [hn.i]
    repeat walk_at "ob1"
    exact k
/-! ### draws -/
/-- the pot: n draws were made at most -/
def potO (a b c : Int) : HO := .lst [.int a, .int b, .int c]
structure PotOk (n : Nat) (a b c : Int) : Prop where
  a0 : 0 ≤ a
  a1 : a.natAbs < 2 ^ 1000
  b0 : 0 ≤ b
  b1 : b < 2 ^ 61
  c0 : 0 ≤ c
  c1 : c ≤ n
theorem pot_div {n : Nat} {a b c u : Int} (o : PotOk n a b c) (u0 : 0 < u) : PotOk (n + 1) (a / u) b c := by
  obtain ⟨a0, a1, b0, b1, c0, c1⟩ := o
  have h1 : 0 ≤ a / u := Int.ediv_nonneg a0 (by omega)
  have h2 : a / u ≤ a := Int.ediv_le_self _ a0
  exact ⟨h1, by omega, b0, b1, c0, by omega⟩
def sp_law_take (K : Frag) : Sp := fun vs H Q E => vs.length = 2 ∧ ∃ (F : List (Addr × HO)) (G : List Ft) (i : Nat) (p : Addr) (n : Nat) (u a b c : Int), vs = [.ref p, .int u] ∧ Sy K F G H ∧ F[i]? = some (p, potO a b c) ∧ PotOk n a b c ∧ n < 1000000 ∧ 0 < u ∧ u < 2 ^ 60 ∧
  ∀ (r a' b' c' : Int) (H' : Hp), 0 ≤ r → r < u → PotOk (n + 1) a' b' c' → Sy K (F.set i (p, potO a' b' c')) G H' → Q (.int r) H'
abbrev names_law_take : List Str := ["pot", "upto", "digit", "prime", "blend"]
theorem sc_law_take : FnScope names_law_take ["pot", "upto"] (defScope (top 38)) := ⟨rfl, rfl, rfl, by decide +kernel, rfl, by decide +kernel, by decide +kernel⟩
set_option maxHeartbeats 4000000 in
theorem ok_law_take (T : Tx K mg) : FG P w K mg base CX0 1 T.a_law_take T.d_law_take ["pot", "upto"] (sp_law_take K) := by
  refine OB.Fun.fg T.F_law_take sc_law_take (fun vs H Q E h => h.1) (fun cdv A out s H vs Q E g h => ?_)
  obtain ⟨_, F, G, i, p, n, u, a, b, c, rfl, S, hF, ok, hn, u0, u1, k⟩ := h
  refine ⟨_, (pss_cons (ps_if (pt_cmpR op_gt (pe_ix (ix_UK (K := K) rfl) (pv 0) pe_int (fun _ _ => rfl)) pe_int (nomark _)) (pss_cons (ps_set (i := 2) sc_law_take.nd rfl (by first | exact Or.inl rfl | exact Or.inr rfl) (pe_op op_mod (pe_callTy c_int (by rfl) T.n_int (by decide +kernel) (pa_cons (pe_ix (ix_UK (K := K) rfl) (pv 0) pe_int (fun _ _ => rfl)) pa_nil)) (pv 1)))
      (pss_cons (ps_asg (pe_op op_fdivW (pe_ix (ix_UK (K := K) rfl) (pv 0) pe_int (fun _ _ => rfl)) (pv 1)) (pg_sub (pv 0) pe_int set_list))
      (pss_one (ps_ret (pv 2))))) pss_nil)
      (pss_cons (ps_asg (pe_op op_add (pe_ix (ix_UK (K := K) rfl) (pv 0) pe_int (fun _ _ => rfl)) pe_int) (pg_sub (pv 0) pe_int set_list))
      (pss_cons (ps_set (i := 3) sc_law_take.nd rfl (by first | exact Or.inl rfl | exact Or.inr rfl) (pe_ix (ix_UK (K := K) rfl) (pe_lst (pa_cons pe_int (pa_cons pe_int (pa_cons pe_int (pa_cons pe_int (pa_cons pe_int pa_nil)))))) (pe_op op_mod (pe_callTy c_int (by rfl) T.n_int (by decide +kernel) (pa_cons (pe_ix (ix_UK (K := K) rfl) (pv 0) pe_int (fun _ _ => rfl)) pa_nil)) pe_int) (fun _ _ => rfl)))
      (pss_cons (ps_set (i := 4) sc_law_take.nd rfl (by first | exact Or.inl rfl | exact Or.inr rfl) (pe_op op_mod (pe_callTy c_int (by rfl) T.n_int (by decide +kernel) (pa_cons (pe_op op_powX (pe_callTy c_int (by rfl) T.n_int (by decide +kernel) (pa_cons (pe_op op_add (pe_op op_add (pe_ix (ix_UK (K := K) rfl) (pv 0) pe_int (fun _ _ => rfl)) (pe_op op_mul (pe_op op_mul pe_int (pe_ix (ix_UK (K := K) rfl) (pv 0) pe_int (fun _ _ => rfl))) (pe_ix (ix_UK (K := K) rfl) (pv 0) pe_int (fun _ _ => rfl)))) pe_int) pa_nil)) pe_int) pa_nil)) (pv 3)))
      (pss_cons (ps_set (i := 4) sc_law_take.nd rfl (by first | exact Or.inl rfl | exact Or.inr rfl) (pe_op op_mod (pe_callTy c_int (by rfl) T.n_int (by decide +kernel) (pa_cons (pe_op op_mul (pv 4) (pe_op op_add (pe_op op_mod (pe_callTy c_int (by rfl) T.n_int (by decide +kernel) (pa_cons (pv 4) pa_nil)) pe_int) (pe_op op_mul pe_int (pe_ix (ix_UK (K := K) rfl) (pv 0) pe_int (fun _ _ => rfl))))) pa_nil)) pe_int))
      (pss_one (ps_ret (pe_op op_mod (pe_callTy c_int (by rfl) T.n_int (by decide +kernel) (pa_cons (pe_op op_fdivW (pv 4) pe_int) pa_nil)) (pv 1))))))))), ?_⟩
  refine g_start (σ := [some _, some _, none, none, none]) rfl ?_
  repeat walk_at "ob1"
  refine g_iteD (fun h1 => ?_) (fun h1 => ?_)
  · repeat walk_at "ob1"
    refine k (a % u) (a / u) b c _ ?_ ?_ ?_ (by assumption)
    · exact Int.emod_nonneg _ (by omega)
    · exact Int.emod_lt_of_pos _ u0
    · exact pot_div ok u0
  · obtain ⟨a0, a1, b0, b1, c0, c1⟩ := ok
    repeat walk_at "ob1"
    obtain ⟨pr, hm, hp⟩ := atI_ints (ns := [2147483647, 2147483629, 2147483587, 2147483579, 2147483563]) (i := (c + 1) % 5) (by omega) (by show _ < (5 : Int); omega)
    have hpr : 0 < pr ∧ pr < 2147483648 := (show ∀ n ∈ ([2147483647, 2147483629, 2147483587, 2147483579, 2147483563] : List Int), 0 < n ∧ n < 2147483648 by decide) pr hm
    refine g_ixUL (by walk_at "obl") hp ?_
    repeat walk_at "ob1"
    have hs : (c + 1) * (c + 1) ≤ 1000000 * 1000000 := Int.mul_le_mul (by omega) (by omega) (by omega) (by decide)
    have hs0 : 0 ≤ (c + 1) * (c + 1) := Int.mul_nonneg (by omega) (by omega)
    have hx : 98373 * (c + 1) * (c + 1) = 98373 * ((c + 1) * (c + 1)) := Int.mul_assoc ..
    refine g_I (cpow_ok (a := 64) (by omega) (by decide) (by decide)) ?_
    repeat walk_at "ob1"
    refine k _ a b (c + 1) _ ?_ ?_ ⟨a0, a1, b0, b1, by omega, by omega⟩ (Sy.less (by assumption))
    · exact Int.emod_nonneg _ (by omega)
    · exact Int.emod_lt_of_pos _ u0
theorem use_take {F : List (Addr × HO)} {G : List Ft} {H : Hp} {Q : VK} {E : XK} {i n : Nat} {p : Addr} {u a b c : Int} (S : Sy K F G H) (hF : F[i]? = some (p, potO a b c)) (ok : PotOk n a b c) (hn : n < 1000000) (u0 : 0 < u) (u1 : u < 2 ^ 60)
    (k : ∀ (r a' b' c' : Int) (H' : Hp), 0 ≤ r → r < u → PotOk (n + 1) a' b' c' → Sy K (F.set i (p, potO a' b' c')) G H' → (F.set i (p, potO a' b' c'))[i]? = some (p, potO a' b' c') → Q (.int r) H') : sp_law_take K [.ref p, .int u] H Q E :=
  ⟨rfl, F, G, i, p, n, u, a, b, c, rfl, S, hF, ok, hn, u0, u1, fun r a' b' c' H' h1 h2 h3 h4 => k r a' b' c' H' h1 h2 h3 h4 (List.getElem?_set_self (List.getElem?_eq_some_iff.mp hF).1)⟩
theorem use_is_integer {a : Int} {H : Hp} {Q : VK} {E : XK} (k : Q (.bl true) H) : sp_is_integer K [.int a] H Q E := ⟨rfl, .int a, rfl, .inl (.inl ⟨a, rfl⟩), k⟩
theorem use_is_within {a b c : Int} {H : Hp} {Q : VK} {E : XK} (k : Q (.bl (decide (b ≤ a ∧ a ≤ c))) H) : sp_is_within K [.int a, .int b, .int c] H Q E := ⟨rfl, .int a, b, c, rfl, .inl (.inl ⟨a, rfl⟩), k⟩
local macro_rules | `(tactic| walk_at "ob") => `(tactic| first
  | walk_at "ob1"
  | refine use_is_integer ?_
  | refine use_is_within ?_
  | with_reducible refine g_lstRg ?_
  | with_reducible refine g_rg1 ?_
  | with_reducible refine g_rg2 ?_
  | with_reducible refine g_tTru ?_
  | ((with_reducible refine' g_truL ?obh ?_); (case obh => walk_at "obl"))
  | ((with_reducible refine' g_ixUT ?obh ?obi ?_); (case obh => walk_at "obt"); (case obi => rfl))
  | with_reducible refine g_forZ ?_
  | with_reducible refine g_forR2 ?_
  | with_reducible refine g_forE ?_
  | with_reducible refine g_lcZ ?_)
theorem PotOk.mono {n m : Nat} {a b c : Int} (o : PotOk n a b c) (h : n ≤ m) : PotOk m a b c := ⟨o.a0, o.a1, o.b0, o.b1, o.c0, by have := o.c1; omega⟩
/-- what a draw leaves -/
def PotK (K : Frag) (F : List (Addr × HO)) (G : List Ft) (i : Nat) (p : Addr) (n : Nat) (R : Hp → Prop) : Prop :=
  ∀ (a' b' c' : Int) (H' : Hp), PotOk n a' b' c' → Sy K (F.set i (p, potO a' b' c')) G H' → (F.set i (p, potO a' b' c'))[i]? = some (p, potO a' b' c') → R H'
def sp_law_of (K : Frag) : Sp := fun vs H Q E => vs.length = 2 ∧ ∃ (F : List (Addr × HO)) (G : List Ft) (i j : Nat) (p q : Addr) (n : Nat) (xs : List V) (a b c : Int), vs = [.ref p, .ref q] ∧ Sy K F G H ∧ F[i]? = some (p, potO a b c) ∧ F[j]? = some (q, .lst xs) ∧ i ≠ j ∧ PotOk n a b c ∧ n < 1000000 ∧ 0 < xs.length ∧ xs.length < 2000000 ∧
  ∀ r ∈ xs, PotK K F G i p (n + 1) (Q r)
abbrev names_law_of : List Str := ["pot", "some"]
theorem sc_law_of : FnScope names_law_of ["pot", "some"] (defScope (top 39)) := ⟨rfl, rfl, rfl, by decide +kernel, rfl, by decide +kernel, by decide +kernel⟩
set_option maxHeartbeats 4000000 in
theorem ok_law_of (T : Tx K mg) : FG P w K mg base CX0 2 T.a_law_of T.d_law_of ["pot", "some"] (sp_law_of K) := by
  refine OB.Fun.fg T.F_law_of sc_law_of (fun vs H Q E h => h.1) (fun cdv A out s H vs Q E g h => ?_)
  obtain ⟨_, F, G, i, j, p, q, n, xs, a, b, c, rfl, S, hF, hj, hij, ok, hn, l0, l1, k⟩ := h
  refine ⟨_, (pss_one (ps_ret (pe_ix (ix_UK (K := K) rfl) (pv 1) (pe_cg (ok_law_take T) (g.mono (by decide : 1 ≤ 1)) (by rfl) T.m_law_take T.F_law_take.kp (OB.Fun.bd T.F_law_take (ps := ["pot", "upto"]) (n := 2) (ks := []) (ix := [0, 1]) (fun _ _ _ _ _ _ us ws h1 h2 => match us, ws, h1, h2 with | [_, _], [], _, _ => rfl)) pass0 (pa_cons (pv 0) (pa_cons (pe_callB (toK (r := OB.rLen) (K := K) rfl c_len) (by rfl) T.n_len PySem.boot_len (pa_cons (pv 1) pa_nil)) pa_nil)) pk_nil) (fun _ _ => rfl)))), ?_⟩
  refine g_start (σ := [some _, some _]) rfl ?_
  have hij' : ∀ x, (F.set i x)[j]? = some (q, .lst xs) := fun x => by rw [List.getElem?_set_ne hij]; exact hj
  repeat walk_at "ob"
  refine use_take S hF ok hn (by omega) (by omega) fun r a' b' c' H' h1 h2 o2 S2 hF2 => ?_
  have hl : r.toNat < xs.length := by omega
  refine g_ixUL (v := xs[r.toNat]) (SqL.of (S2.at j (hij' _))) (atI_nn h1 (List.getElem?_eq_getElem hl)) ?_
  repeat walk_at "ob"
  exact k _ (List.getElem_mem hl) a' b' c' H' o2 S2 hF2
theorem pot_less {F : List (Addr × HO)} {G : List Ft} {H : Hp} {i : Nat} {x : Addr × HO} {y z : Addr × HO} (S : Sy K ((x :: F.set i y).set (i + 1) z) G H) : Sy K (F.set i z) G H := by
  have S5 : Sy K (x :: (F.set i y).set i z) G H := S
  have S6 := S5.less
  rw [List.set_set] at S6
  exact S6
theorem set_at {F : List (Addr × HO)} {i : Nat} {x y : Addr × HO} (h : F[i]? = some x) : (F.set i y)[i]? = some y := List.getElem?_set_self (List.getElem?_eq_some_iff.mp h).1
theorem PotK.use {F : List (Addr × HO)} {G : List Ft} {H : Hp} {i n : Nat} {p : Addr} {R : Hp → Prop} {x : Addr × HO} {a b c : Int} (k : PotK K F G i p n R) (hF : F[i]? = some x) (o : PotOk n a b c) (S : Sy K (F.set i (p, potO a b c)) G H) : R H := k a b c H o S (set_at hF)
theorem use_take2 {F : List (Addr × HO)} {G : List Ft} {H : Hp} {Q : VK} {E : XK} {i n : Nat} {p : Addr} {u a b c : Int} {x : Addr × HO} (S : Sy K (F.set i (p, potO a b c)) G H) (hF : F[i]? = some x) (ok : PotOk n a b c) (hn : n < 1000000) (u0 : 0 < u) (u1 : u < 2 ^ 60)
    (k : ∀ (r a' b' c' : Int) (H' : Hp), 0 ≤ r → r < u → PotOk (n + 1) a' b' c' → Sy K (F.set i (p, potO a' b' c')) G H' → Q (.int r) H') : sp_law_take K [.ref p, .int u] H Q E :=
  use_take S (set_at hF) ok hn u0 u1 fun r a' b' c' H' h1 h2 o S' _ => k r a' b' c' H' h1 h2 o (by rw [List.set_set] at S'; exact S')
/-- behind a list that was just made: it falls away -/
theorem use_of2 {F : List (Addr × HO)} {G : List Ft} {H : Hp} {Q : VK} {E : XK} {i n : Nat} {p q : Addr} {ns : List Int} {vs : List V} {a b c : Int} {x : Addr × HO} (S : Sy K ((q, .lst vs) :: F.set i (p, potO a b c)) G H) (e : vs = ns.map V.int) (hF : F[i]? = some x) (ok : PotOk n a b c) (hn : n < 1000000) (l0 : Nat.ble 1 ns.length = true) (l1 : Nat.ble ns.length 99 = true)
    (k : ∀ r ∈ ns, ∀ (a' b' c' : Int) (H' : Hp), PotOk (n + 1) a' b' c' → Sy K (F.set i (p, potO a' b' c')) G H' → Q (.int r) H') : sp_law_of K [.ref p, .ref q] H Q E := by
  subst e
  have l3 := Nat.le_of_ble_eq_true l0
  have l4 := Nat.le_of_ble_eq_true l1
  refine ⟨rfl, _, G, i + 1, 0, p, q, n, ns.map V.int, a, b, c, rfl, S, set_at hF, rfl, by omega, ok, hn, by rw [List.length_map]; omega, by rw [List.length_map]; omega, fun r hr a' b' c' H' o S' _ => ?_⟩
  obtain ⟨m, hm, rfl⟩ := List.mem_map.mp hr
  exact k m hm a' b' c' H' o (pot_less S')
theorem use_of {F : List (Addr × HO)} {G : List Ft} {H : Hp} {Q : VK} {E : XK} {i j n : Nat} {p q : Addr} {ns : List Int} {a b c : Int} (S : Sy K F G H) (hF : F[i]? = some (p, potO a b c)) (hj : F[j]? = some (q, .lst (ns.map V.int))) (hij : i ≠ j) (ok : PotOk n a b c) (hn : n < 1000000) (l0 : 0 < ns.length) (l1 : ns.length < 100)
    (k : ∀ r ∈ ns, PotK K F G i p (n + 1) (Q (.int r))) : sp_law_of K [.ref p, .ref q] H Q E := ⟨rfl, F, G, i, j, p, q, n, ns.map V.int, a, b, c, rfl, S, hF, hj, hij, ok, hn, by rw [List.length_map]; exact l0, by rw [List.length_map]; omega, fun r hr => by
  obtain ⟨m, hm, rfl⟩ := List.mem_map.mp hr
  exact k m hm⟩
theorem pot_under {F : List (Addr × HO)} {G : List Ft} {H : Hp} {i : Nat} {x y z : Addr × HO} (S : Sy K ((x :: F.set i y).set (i + 1) z) G H) : Sy K (x :: F.set i z) G H := by
  have S5 : Sy K (x :: (F.set i y).set i z) G H := S
  rw [List.set_set] at S5
  exact S5
theorem pot_under2 {F : List (Addr × HO)} {G : List Ft} {H : Hp} {i : Nat} {x y u z : Addr × HO} (S : Sy K ((x :: y :: F.set i u).set (i + 2) z) G H) : Sy K (x :: y :: F.set i z) G H := by
  have S5 : Sy K (x :: y :: (F.set i u).set i z) G H := S
  rw [List.set_set] at S5
  exact S5
theorem all_true {n : Nat} : ((List.replicate n true).all id) = true := List.all_eq_true.mpr fun b hb => (List.mem_replicate.mp hb).2
theorem trues {H : Hp} {vs : List V} {n : Nat} (h : DpAll K H vs (List.replicate n (.bool true))) : vs = (List.replicate n true).map V.bl := by
  rw [dps_scal h fun d hd => by rw [(List.mem_replicate.mp hd).2]; rfl, List.map_replicate, List.map_replicate]
  rfl
theorem ints_imm (l : List Int) : immAll (l.map PyData.int) = true := immAll_of fun x hx => by
  obtain ⟨s, _, rfl⟩ := List.mem_map.mp hx
  rfl
theorem dps_intsV {H : Hp} {vs : List V} {ns : List Int} (h : DpAll K H vs (ns.map PyData.int)) : vs = ns.map V.int := by
  rw [dps_scal h fun d hd => by
    obtain ⟨s, _, rfl⟩ := List.mem_map.mp hd
    rfl, List.map_map]
  rfl
theorem sqt_ints {H : Hp} {p : Addr} {es : List Int} (h : L2.Dp K H (.ref p) (.tuple (es.map .int))) : SqT K H p (es.map V.int) := by
  have q := sqt_scal h fun d hd => by
    obtain ⟨s, _, rfl⟩ := List.mem_map.mp hd
    rfl
  rw [List.map_map] at q
  exact q
theorem dat_ints {H : Hp} {p : Addr} {es : List Int} (h : L2.Dp K H (.ref p) (.tuple (es.map .int))) : (Ft.dat [.ref p] [.tuple (es.map .int)]).ok K H := ⟨dps_one h, by show (imm (.tuple (es.map .int)) && true) = true; rw [Bool.and_true]; exact ints_imm es⟩
theorem cut_tail (xs : List V) : cutV xs (some 1) none = xs.drop 1 := by
  unfold cutV
  cases xs with
  | nil => rfl
  | cons x xs =>
    have e1 : HT.sIx (x :: xs).length 0 (some 1) = 1 := by
      unfold HT.sIx
      simp
    have e2 : HT.sIx (x :: xs).length (x :: xs).length none = (x :: xs).length := rfl
    rw [e1, e2]
    exact List.take_of_length_le (by rw [List.length_drop]; omega)
theorem g_slA {F : List (Addr × HO)} {G : List Ft} {H : Hp} {Q : VK} {l : Addr} {vs : List V} (S : Sy K F G H) (h : SqT K H l vs) (k : ∀ p H', Sy K F (.tq p (vs.drop 1) :: G) H' → Q (.ref p) H') : rSlU K (.ref l) (some 1) none H Q := by
  refine .inl ⟨l, vs, rfl, h, fun z => ?_, fun _ p hp => ?_⟩
  · refine k l H (S.add (.tq l (vs.drop 1)) ?_)
    have e : vs.drop 1 = vs := by
      rw [← cut_tail]
      unfold cutV
      rw [z.1, z.2, List.drop_zero, Nat.sub_zero, List.take_length]
    rw [e]
    exact h
  · rw [cut_tail]
    exact k p _ ((S.over hp).add (.tq p _) (.inl (.inl upd_same)))
theorem g_tupC {tl : TE} {σ : L2.St} {H : Hp} {D : Ends} {g : TG} {tb : TS} (k : tl σ H fun x H1 => tFor (iSeq K (tC x)) g tb D σ H1) : tFor (iSeq K tl) g tb D σ H := k
theorem g_lcE2 {σ : L2.St} {H : Hp} {Q : VK} {g : TG} {tl te : TE} {tt : TT} {own : List Nat} (k : tl σ H fun x H1 => tLc (iSeq K (tC x)) g tt te own σ H1 Q) : tLc (iSeq K tl) g tt te own σ H Q := k
theorem small_ints {l : List Int} {n : Nat} (h : ∀ x ∈ l, x.natAbs < 10 ^ 60) (hl : l.length ≤ n) : Small (63 * n + 10) 1 (.tuple (l.map .int)) := by
  have q : SmallL ((61 + 2) * (l.map PyData.int).length) 0 (l.map PyData.int) := SmallL.all fun x hx => by
    obtain ⟨s, hs, rfl⟩ := List.mem_map.mp hx
    exact Small.int (h s hs)
  rw [List.length_map] at q
  exact (Small.tup q).mono (by omega) (by decide)
theorem g_slL {F : List (Addr × HO)} {G : List Ft} {H : Hp} {Q : VK} {l : Addr} {vs : List V} {lo hi : Option Int} (S : Sy K F G H) (h : SqL K H l vs) (k : ∀ p H', Sy K ((p, .lst (cutV vs lo hi)) :: F) G H' → Q (.ref p) H') : rSlU K (.ref l) lo hi H Q :=
  .inr ⟨l, vs, rfl, h, fun p hp => k p _ (S.push hp)⟩
theorem cut_ints (ns : List Int) (lo hi : Option Int) : ∃ ms : List Int, cutV (ns.map V.int) lo hi = ms.map V.int :=
  ⟨(ns.drop (HT.sIx (ns.map V.int).length 0 lo)).take (HT.sIx (ns.map V.int).length (ns.map V.int).length hi - HT.sIx (ns.map V.int).length 0 lo), by
    unfold cutV
    rw [List.map_take, List.map_drop]⟩
theorem big_ok : (((10 : Int) ^ Int.toNat 60) ^ Int.toNat 5).natAbs < 2 ^ 1000 := by decide +kernel
theorem own_ok (x : Int) (t : Bool) : 0 ≤ x % ((10 ^ Int.toNat 60) ^ Int.toNat 5) * (if t = true then 1 else 0) ∧ (x % ((10 ^ Int.toNat 60) ^ Int.toNat 5) * (if t = true then 1 else 0)).natAbs < 2 ^ 1000 := by
  have h0 : (0 : Int) < (10 ^ Int.toNat 60) ^ Int.toNat 5 := by decide +kernel
  have h1 := Int.emod_nonneg x (Int.ne_of_gt h0)
  have h2 := Int.emod_lt_of_pos x h0
  have h3 := big_ok
  generalize ((10 : Int) ^ Int.toNat 60) ^ Int.toNat 5 = m at *
  cases t with
  | true =>
    rw [if_pos rfl, Int.mul_one]
    exact ⟨h1, by omega⟩
  | false =>
    rw [if_neg (by decide), Int.mul_zero]
    exact ⟨Int.le_refl _, by decide⟩
def sp_law_pot (K : Frag) : Sp := fun vs H Q E => vs.length = 2 ∧ ∃ (F : List (Addr × HO)) (G : List Ft) (a : Addr) (ns : List Int) (i : Int), vs = [.ref a, .int i] ∧ Sy K F (.sq a (ns.map V.int) :: G) H ∧ ns.length ≤ 63 ∧ 0 ≤ i ∧ i ≤ 2 ∧
  ∀ (x y z : Int) (p : Addr) H', PotOk 0 x y z → Sy K ((p, potO x y z) :: F) (.sq a (ns.map V.int) :: G) H' → Q (.ref p) H'
abbrev names_law_pot : List Str := ["script", "place", "cell", "own", "small"]
theorem sc_law_pot : FnScope names_law_pot ["script", "place"] (defScope (top 37)) := ⟨rfl, rfl, rfl, by decide +kernel, rfl, by decide +kernel, by decide +kernel⟩
set_option maxHeartbeats 4000000 in
theorem ok_law_pot (T : Tx K mg) : FG P w K mg base CX0 1 T.a_law_pot T.d_law_pot ["script", "place"] (sp_law_pot K) := by
  refine OB.Fun.fg T.F_law_pot sc_law_pot (fun vs H Q E h => h.1) (fun cdv A out s H vs Q E g h => ?_)
  obtain ⟨_, F, G, a, ns, i, rfl, S, hn, i0, i1, k⟩ := h
  refine ⟨_, (pss_cons (ps_set (i := 2) sc_law_pot.nd rfl (by first | exact Or.inl rfl | exact Or.inr rfl) (pe_ifExp (pt_cmpR op_lt (pv 1) (pe_callB (toK (r := OB.rLen) (K := K) rfl c_len) (by rfl) T.n_len PySem.boot_len (pa_cons (pv 0) pa_nil)) (nomark _)) (pe_ix (ix_UK (K := K) rfl) (pv 0) (pv 1) (fun _ _ => rfl)) (pe_op op_add (pe_op op_add (pe_op op_mod (pe_callB (toK (r := rSum) (K := K) rfl (cr_sum rfl)) (by rfl) T.n_sum (by decide +kernel) (pa_cons (pe_slice (sl_UK (K := K) rfl) (pv 0) po_none (po_some pe_int)) pa_nil)) pe_int) (pe_op op_mul pe_int (pv 1))) pe_int)))
      (pss_cons (ps_set (i := 3) sc_law_pot.nd rfl (by first | exact Or.inl rfl | exact Or.inr rfl) (pe_op op_mul (pe_op op_mod (pe_callTy c_int (by rfl) T.n_int (by decide +kernel) (pa_cons (pe_callB c_abs (by rfl) T.n_abs (by decide +kernel) (pa_cons (pv 2) pa_nil)) pa_nil)) (pe_op op_powX (pe_op op_powX pe_int pe_int) pe_int)) (pe_callTy c_int (by rfl) T.n_int (by decide +kernel) (pa_cons (pe_cmpR op_ge (pe_callB c_abs (by rfl) T.n_abs (by decide +kernel) (pa_cons (pv 2) pa_nil)) (pe_op op_powX pe_int pe_int) (nomark _)) pa_nil))))
      (pss_cons (ps_set (i := 4) sc_law_pot.nd rfl (by first | exact Or.inl rfl | exact Or.inr rfl) (pe_op op_mod (pe_callTy c_int (by rfl) T.n_int (by decide +kernel) (pa_cons (pv 2) pa_nil)) pe_int))
      (pss_one (ps_ret (pe_lst (pa_cons (pv 3) (pa_cons (pe_op op_mod (pe_callTy c_int (by rfl) T.n_int (by decide +kernel) (pa_cons (pe_op op_add (pe_op op_add (pe_op op_mul (pv 4) pe_int) (pe_op op_mul (pe_op op_mul pe_int (pv 1)) (pv 1))) pe_int) pa_nil)) pe_int) (pa_cons pe_int pa_nil))))))))), ?_⟩
  refine g_start (σ := [some _, some _, none, none, none]) rfl ?_
  have hl : (((ns.map V.int).length : Nat) : Int) = ns.length := by rw [List.length_map]
  repeat walk_at "ob"
  refine g_iteD (fun h1 => ?_) (fun h1 => ?_)
  · obtain ⟨c, _, hc⟩ := atI_ints (ns := ns) i0 (by omega)
    repeat walk_at "ob"
    refine g_ixUL (by walk_at "obl") hc ?_
    repeat walk_at "ob"
    refine g_I (show (0 : Int) < _ by decide) ?_
    repeat walk_at "ob"
    rename_i q H2 _ S2
    obtain ⟨w1, w2⟩ := own_ok (if c < 0 then -c else c) (decide ((10 : Int) ^ Int.toNat 18 ≤ (if c < 0 then -c else c)))
    exact k _ _ _ q H2 ⟨w1, w2, by omega, by omega, Int.le_refl _, Int.le_refl _⟩ S2
  · repeat walk_at "ob"
    refine g_slL S (by walk_at "obl") fun l H1 S1 => ?_
    obtain ⟨ms, hms⟩ := cut_ints ns none (some 1)
    rw [hms] at S1
    repeat walk_at "ob"
    refine g_sum (ns := ms) (by walk_at "obl") ?_
    repeat walk_at "ob"
    have S3 := S1.less
    clear S1 S
    generalize ms.sum % 1000003 + 1174 * i + 579 = c
    refine g_I (show (0 : Int) < _ by decide) ?_
    repeat walk_at "ob"
    rename_i q H2 _ S2
    obtain ⟨w1, w2⟩ := own_ok (if c < 0 then -c else c) (decide ((10 : Int) ^ Int.toNat 18 ≤ (if c < 0 then -c else c)))
    exact k _ _ _ q H2 ⟨w1, w2, by omega, by omega, Int.le_refl _, Int.le_refl _⟩ S2
def sp_law_cells (K : Frag) : Sp := fun vs H Q E => vs.length = 2 ∧ ∃ (F : List (Addr × HO)) (G : List Ft) (a : Addr) (ns : List Int) (c : Int), vs = [.ref a, .int c] ∧ Sy K F (.sq a (ns.map V.int) :: G) H ∧ ns.length ≤ 63 ∧ 1 ≤ c ∧ c ≤ 3 ∧
  ∀ (ms : List Int) (p : Addr) H', (∀ m ∈ ms, 0 ≤ m ∧ m ≤ 2) → ms.length ≤ 3 → Sy K ((p, .lst (ms.map V.int)) :: F) (.sq a (ns.map V.int) :: G) H' → Q (.ref p) H'
abbrev names_law_cells : List Str := ["script", "most"]
theorem sc_law_cells : FnScope names_law_cells ["script", "most"] (defScope (top 40)) := ⟨rfl, rfl, rfl, by decide +kernel, rfl, by decide +kernel, by decide +kernel⟩
set_option maxHeartbeats 4000000 in
theorem ok_law_cells (T : Tx K mg) : FG P w K mg base CX0 1 T.a_law_cells T.d_law_cells ["script", "most"] (sp_law_cells K) := by
  refine OB.Fun.fg T.F_law_cells sc_law_cells (fun vs H Q E h => h.1) (fun cdv A out s H vs Q E g h => ?_)
  obtain ⟨_, F, G, a, ns, c, rfl, S, hn, c1, c2, k⟩ := h
  refine ⟨_, (pss_one (ps_ret (pe_listRg rfl (by rfl) T.n_list (prg_1 (by rfl) T.n_range (pe_callB (c_max rfl) (by rfl) T.n_max (by decide +kernel) (pa_cons pe_int (pa_cons (pe_callB (c_min rfl) (by rfl) T.n_min (by decide +kernel) (pa_cons (pv 1) (pa_cons (pe_callB (toK (r := OB.rLen) (K := K) rfl c_len) (by rfl) T.n_len PySem.boot_len (pa_cons (pv 0) pa_nil)) pa_nil))) pa_nil))))))), ?_⟩
  refine g_start (σ := [some _, some _]) rfl ?_
  have hl : (((ns.map V.int).length : Nat) : Int) = ns.length := by rw [List.length_map]
  repeat walk_at "ob"
  generalize hm : (if (if ((ns.map V.int).length : Int) < c then ((ns.map V.int).length : Int) else c) > 1 then (if ((ns.map V.int).length : Int) < c then ((ns.map V.int).length : Int) else c) else 1) = M
  have hM : 0 ≤ M ∧ M ≤ 3 := by
    subst hm
    constructor <;> (repeat' split) <;> omega
  refine g_newRg S ⟨by omega, by omega, by omega, by omega, by omega⟩ fun p H1 S1 => ?_
  rw [rgV0] at S1
  refine k _ p H1 (fun m hm => ?_) (by rw [List.length_map, List.length_range]; omega) S1
  obtain ⟨j, hj, rfl⟩ := List.mem_map.mp hm
  have := List.mem_range.mp hj
  omega
end
end LAW

set_option Elab.async false
set_option linter.all false
namespace LAW
/-! ### works, marks, lengths, plainly -/
structure Work where
  l : List Int
  c : List Int
  b : Int
structure WkOk (w : Work) : Prop where
  l0 : 1 ≤ w.l.length
  l1 : w.l.length ≤ 4
  cl : w.c.length + 1 = w.l.length
  lv : ∀ x ∈ w.l, 1 ≤ x ∧ x ≤ 6
  cv : ∀ x ∈ w.c, 0 ≤ x ∧ x ≤ 6
  b0 : 0 ≤ w.b ∧ w.b ≤ 6
structure MkOk (w : Work) (ms : List Int) : Prop where
  up : ms.Pairwise (· < ·)
  mv : ∀ x ∈ ms, 0 ≤ x ∧ x < w.c.length
/-- the lengths from a part on, so many ticks being done of the stretch -/
def lens (c ms : List Int) : List Int → Nat → Int → List Int
  | [], _, h => [h]
  | x :: l, p, h => if (p : Int) ∈ ms then (h + x + c.getD p 0) :: lens c ms l (p + 1) 0 else lens c ms l (p + 1) (h + x)
def Work.len (w : Work) (ms : List Int) : List Int := lens w.c ms w.l 0 0
theorem lens_ne {c ms : List Int} : ∀ {l : List Int} {p : Nat} {h : Int}, lens c ms l p h ≠ []
  | [], _, _ => List.cons_ne_nil _ _
  | x :: l, p, h => by
    unfold lens
    split
    · exact List.cons_ne_nil _ _
    · exact lens_ne
theorem getD_in {c : List Int} (cv : ∀ x ∈ c, 0 ≤ x ∧ x ≤ 6) (p : Nat) : 0 ≤ c.getD p 0 ∧ c.getD p 0 ≤ 6 := by
  rw [List.getD_eq_getElem?_getD]
  cases h : c[p]? with
  | none => exact ⟨Int.le_refl _, by decide⟩
  | some x => exact cv x (List.mem_of_getElem? h)
theorem lens_pos {c ms : List Int} (cv : ∀ x ∈ c, 0 ≤ x ∧ x ≤ 6) : ∀ {l : List Int} {p : Nat} {h : Int}, (∀ x ∈ l, 1 ≤ x ∧ x ≤ 6) → 0 ≤ h → (l = [] → 1 ≤ h) → (∀ m ∈ ms, m + 1 < p + l.length ∨ l = []) → ∀ x ∈ lens c ms l p h, 1 ≤ x
  | [], p, h, _, _, h1, _ => fun x hx => by
    cases List.mem_singleton.mp hx
    exact h1 rfl
  | y :: l, p, h, lv, h0, _, hm => fun x hx => by
    have y1 := lv y (List.mem_cons_self ..)
    have cg := getD_in cv p
    have lv' : ∀ x ∈ l, 1 ≤ x ∧ x ≤ 6 := fun z hz => lv z (List.mem_cons_of_mem _ hz)
    unfold lens at hx
    split at hx
    · rename_i hp
      have hpl := hm _ hp
      have ne : l ≠ [] := by
        intro z
        subst z
        rcases hpl with q | q
        · simp at q
        · cases q
      have hm' : ∀ m ∈ ms, m + 1 < (p + 1 : Nat) + l.length ∨ l = [] := fun m hmm => by
        rcases hm m hmm with q | q
        · rw [List.length_cons] at q
          exact .inl (by omega)
        · cases q
      rcases List.mem_cons.mp hx with rfl | hx
      · omega
      · exact lens_pos cv lv' (Int.le_refl 0) (fun z => absurd z ne) hm' x hx
    · have hm' : ∀ m ∈ ms, m + 1 < (p + 1 : Nat) + l.length ∨ l = [] := fun m hmm => by
        rcases hm m hmm with q | q
        · rw [List.length_cons] at q
          exact .inl (by omega)
        · cases q
      exact lens_pos cv lv' (by omega) (fun _ => by omega) hm' x hx
theorem lens_sum {c ms : List Int} (cv : ∀ x ∈ c, 0 ≤ x ∧ x ≤ 6) : ∀ {l : List Int} {p : Nat} {h : Int}, (∀ x ∈ l, 1 ≤ x ∧ x ≤ 6) → (lens c ms l p h).sum ≤ h + 12 * l.length
  | [], p, h, _ => by
    show h + 0 ≤ _
    simp
  | y :: l, p, h, lv => by
    have y1 := lv y (List.mem_cons_self ..)
    have cg := getD_in cv p
    have lv' : ∀ x ∈ l, 1 ≤ x ∧ x ≤ 6 := fun z hz => lv z (List.mem_cons_of_mem _ hz)
    unfold lens
    rw [List.length_cons]
    split
    · have := lens_sum (ms := ms) cv (p := p + 1) (h := 0) lv'
      rw [List.sum_cons]
      omega
    · have := lens_sum (ms := ms) cv (p := p + 1) (h := h + y) lv'
      omega
theorem lens_len {c ms : List Int} : ∀ {l : List Int} {p : Nat} {h : Int}, (lens c ms l p h).length ≤ l.length + 1
  | [], _, _ => Nat.le_refl _
  | y :: l, p, h => by
    unfold lens
    rw [List.length_cons]
    split
    · rw [List.length_cons]
      have := lens_len (c := c) (ms := ms) (l := l) (p := p + 1) (h := 0)
      omega
    · have := lens_len (c := c) (ms := ms) (l := l) (p := p + 1) (h := h + y)
      omega
/-- lengths of a run -/
structure LsOk (L : List Int) : Prop where
  ne : L ≠ []
  v1 : ∀ x ∈ L, 1 ≤ x ∧ x ≤ 48
  sm : L.sum ≤ 48
  ln : L.length ≤ 5
theorem le_sum {L : List Int} (h : ∀ x ∈ L, 1 ≤ x) : ∀ x ∈ L, x ≤ L.sum := by
  induction L with
  | nil => exact fun x hx => nomatch hx
  | cons y L ih =>
    have h' : ∀ x ∈ L, 1 ≤ x := fun x hx => h x (List.mem_cons_of_mem _ hx)
    have s0 : 0 ≤ L.sum := by
      clear ih
      induction L with
      | nil => exact Int.le_refl _
      | cons z L ih2 =>
        have := h' z (List.mem_cons_self ..)
        have := ih2 (fun x hx => h x (by rcases List.mem_cons.mp hx with rfl | hx; exact List.mem_cons_self ..; exact List.mem_cons_of_mem _ (List.mem_cons_of_mem _ hx))) fun x hx => h' x (List.mem_cons_of_mem _ hx)
        rw [List.sum_cons]
        omega
    intro x hx
    rw [List.sum_cons]
    have hy := h y (List.mem_cons_self ..)
    rcases List.mem_cons.mp hx with rfl | hx
    · omega
    · have := ih h' x hx
      omega
theorem Work.lok {w : Work} {ms : List Int} (o : WkOk w) (m : MkOk w ms) : LsOk (w.len ms) := by
  have cl := o.cl
  have l0 := o.l0
  have l1 := o.l1
  have p1 : ∀ x ∈ w.len ms, 1 ≤ x := lens_pos o.cv o.lv (Int.le_refl 0) (fun z => by rw [z] at l0; cases l0) fun x hx => .inl (by
    have := m.mv x hx
    omega)
  have s1 : (w.len ms).sum ≤ 48 := by
    have := lens_sum (ms := ms) o.cv (p := 0) (h := 0) o.lv
    have e : (lens w.c ms w.l 0 0).sum ≤ 48 := by omega
    exact e
  exact ⟨lens_ne, fun x hx => ⟨p1 x hx, Int.le_trans (le_sum p1 x hx) s1⟩, s1, by
    have := lens_len (c := w.c) (ms := ms) (l := w.l) (p := 0) (h := 0)
    have e : (w.len ms).length ≤ w.l.length + 1 := this
    omega⟩
/-! ### runs -/
/-- the end of a stretch of x ticks that would end at e, and the moments that are left -/
def cutW (b x : Int) : Int → List Int → Int × List Int
  | e, [] => (e, [])
  | e, m :: r => if m < e then cutW b x (m + b + x) r else (e, m :: r)
def runT (b : Int) : List Int → Int → List Int → Int
  | [], now, _ => now
  | x :: L, now, r => runT b L (cutW b x (now + x) r).1 (cutW b x (now + x) r).2
theorem cutW_ge {b x t : Int} (b0 : 0 ≤ b) (x0 : 0 ≤ x) : ∀ {r : List Int} {e : Int}, (∀ m ∈ r, t ≤ m) → t ≤ e → t ≤ (cutW b x e r).1 ∧ ∀ m ∈ (cutW b x e r).2, t ≤ m
  | [], e, _, he => ⟨he, fun m hm => nomatch hm⟩
  | m :: r, e, hr, he => by
    have h1 := hr m (List.mem_cons_self ..)
    unfold cutW
    split
    · exact cutW_ge b0 x0 (fun y hy => hr y (List.mem_cons_of_mem _ hy)) (by omega)
    · exact ⟨he, hr⟩
theorem runT_ge {b t : Int} (b0 : 0 ≤ b) : ∀ {L r : List Int} {now : Int}, (∀ x ∈ L, 0 ≤ x) → (∀ m ∈ r, t ≤ m) → t ≤ now → t ≤ runT b L now r
  | [], _, _, _, _, h => h
  | x :: L, r, now, hL, hr, h => by
    have hx := hL x (List.mem_cons_self ..)
    obtain ⟨q1, q2⟩ := cutW_ge b0 hx (e := now + x) hr (by omega)
    show t ≤ runT b L _ _
    exact runT_ge b0 (fun y hy => hL y (List.mem_cons_of_mem _ hy)) q2 q1
/-- a cut costs at most z -/
theorem cutW_le {b x M : Int} (hx : x ≤ M) : ∀ {r : List Int} {e : Int}, (cutW b x e r).2.length ≤ r.length ∧ (cutW b x e r).1 ≤ e + ((r.length : Int) - (cutW b x e r).2.length) * (b + M - 1) ∨ b + M - 1 < 0
  | [], e => .inl ⟨Nat.le_refl _, by simp [cutW]⟩
  | m :: r, e => by
    by_cases hz : b + M - 1 < 0
    · exact .inr hz
    · left
      unfold cutW
      split
      · rcases cutW_le (b := b) hx (r := r) (e := m + b + x) with ⟨i1, i2⟩ | q
        · refine ⟨Nat.le_trans i1 (Nat.le_succ _), Int.le_trans i2 ?_⟩
          rw [List.length_cons]
          generalize (cutW b x (m + b + x) r).2.length = n at *
          have e1 : (((r.length + 1 : Nat) : Int) - n) * (b + M - 1) = ((r.length : Int) - n) * (b + M - 1) + (b + M - 1) := by
            rw [show ((r.length + 1 : Nat) : Int) - n = ((r.length : Int) - n) + 1 by omega, Int.add_mul, Int.one_mul]
          omega
        · exact absurd q hz
      · refine ⟨Nat.le_refl _, ?_⟩
        rw [Int.sub_self, Int.zero_mul]
        omega
theorem runT_le {b M : Int} (h0 : 0 ≤ b + M - 1) : ∀ {L r : List Int} {now : Int}, (∀ x ∈ L, x ≤ M) → runT b L now r ≤ now + L.sum + r.length * (b + M - 1)
  | [], r, now, _ => by
    have : 0 ≤ (r.length : Int) * (b + M - 1) := Int.mul_nonneg (by omega) h0
    show now ≤ now + 0 + _
    omega
  | x :: L, r, now, hL => by
    rcases cutW_le (b := b) (hL x (List.mem_cons_self ..)) (r := r) (e := now + x) with ⟨i1, i2⟩ | q
    · have ih := runT_le h0 (L := L) (r := (cutW b x (now + x) r).2) (now := (cutW b x (now + x) r).1) fun y hy => hL y (List.mem_cons_of_mem _ hy)
      show runT b L _ _ ≤ _
      rw [List.sum_cons]
      generalize (cutW b x (now + x) r).2.length = n at *
      have e1 : ((r.length : Int) - n) * (b + M - 1) = (r.length : Int) * (b + M - 1) - n * (b + M - 1) := Int.sub_mul ..
      omega
    · omega
/-! a run tick by tick: what is left of a run in the midst of a stretch of x ticks -/
def fin (b x : Int) (L : List Int) (e : Int) (r : List Int) : Int := runT b L (cutW b x e r).1 (cutW b x e r).2
theorem fin_cut {b x e m : Int} {L r : List Int} (h : m < e) : fin b x L e (m :: r) = fin b x L (m + b + x) r := by
  unfold fin
  rw [show cutW b x e (m :: r) = cutW b x (m + b + x) r by
    conv => lhs; unfold cutW
    rw [if_pos h]]
theorem cutW_none {b x e : Int} : ∀ {r : List Int}, (∀ m ∈ r, e ≤ m) → cutW b x e r = (e, r)
  | [], _ => rfl
  | m :: r, h => by
    unfold cutW
    have := h m (List.mem_cons_self ..)
    rw [if_neg (by omega)]
theorem fin_end {b x y e : Int} {L r : List Int} (h : ∀ m ∈ r, e ≤ m) : fin b x (y :: L) e r = fin b y L (e + y) r := by
  unfold fin
  rw [cutW_none h]
  rfl
theorem fin_nil {b x e : Int} {r : List Int} (h : ∀ m ∈ r, e ≤ m) : fin b x [] e r = e := by
  unfold fin
  rw [cutW_none h]
  rfl
theorem runT_fin {b x now : Int} {L r : List Int} : runT b (x :: L) now r = fin b x L (now + x) r := rfl
theorem fin_ge {b x e t : Int} {L r : List Int} (b0 : 0 ≤ b) (x0 : 0 ≤ x) (hL : ∀ x ∈ L, 0 ≤ x) (hr : ∀ m ∈ r, t ≤ m) (he : t ≤ e) : t ≤ fin b x L e r := by
  obtain ⟨q1, q2⟩ := cutW_ge b0 x0 (e := e) hr he
  exact runT_ge b0 hL q2 q1
/-- moments from a tick on -/
def from' (ms : List Int) (t : Int) : List Int := ms.filter fun m => decide (t ≤ m)
theorem from_ge {ms : List Int} {t : Int} : ∀ m ∈ from' ms t, t ≤ m := fun m hm => of_decide_eq_true (List.mem_filter.mp hm).2
theorem from_all {ms : List Int} {t : Int} (h : ∀ m ∈ ms, t ≤ m) : from' ms t = ms := List.filter_eq_self.mpr fun m hm => decide_eq_true (h m hm)
theorem from_in : ∀ {ms : List Int} {t : Int}, ms.Pairwise (· < ·) → t ∈ ms → from' ms t = t :: from' ms (t + 1)
  | [], _, _, h => nomatch h
  | m :: ms, t, pw, h => by
    obtain ⟨p1, p2⟩ := List.pairwise_cons.mp pw
    unfold from'
    rcases List.mem_cons.mp h with rfl | h
    · rw [List.filter_cons, if_pos (decide_eq_true (Int.le_refl _)), List.filter_cons, if_neg (by simp; omega)]
      congr 1
      refine List.filter_congr fun y hy => decide_eq_decide.mpr ?_
      have := p1 y hy
      omega
    · have hm := p1 t h
      rw [List.filter_cons, if_neg (by simp; omega), List.filter_cons, if_neg (by simp; omega)]
      exact from_in p2 h
theorem from_out {ms : List Int} {t : Int} (h : t ∉ ms) : from' ms t = from' ms (t + 1) := by
  refine List.filter_congr fun y hy => decide_eq_decide.mpr ?_
  have : y ≠ t := fun e => h (e ▸ hy)
  omega
/-! ### the worst -/
def worst (b : Int) (L : List Int) (M k : Int) : Int := L.sum + k * (b + M - 1)
/-- the worst moments: k of them from f on -/
def wms (f z : Int) (k : Nat) : List Int := (List.range k).map fun (i : Nat) => f + z * i
theorem wms_len {f z : Int} {k : Nat} : (wms f z k).length = k := by
  unfold wms
  rw [List.length_map, List.length_range]
theorem wms_succ {f z : Int} {k : Nat} : wms f z (k + 1) = f :: wms (f + z) z k := by
  unfold wms
  rw [List.range_succ_eq_map, List.map_cons, List.map_map]
  congr 1
  · show f + z * ((0 : Nat) : Int) = f
    rw [Int.natCast_zero, Int.mul_zero, Int.add_zero]
  · apply List.map_congr_left
    intro i _
    show f + z * ((i + 1 : Nat) : Int) = f + z + z * i
    rw [show ((i + 1 : Nat) : Int) = (i : Int) + 1 by omega, Int.mul_add, Int.mul_one]
    omega
theorem cutW_wms {b M : Int} : ∀ {k : Nat} {e : Int}, cutW b M e (wms (e - 1) (b + M - 1) k) = (e + k * (b + M - 1), [])
  | 0, e => by
    show (e, []) = _
    rw [Int.natCast_zero, Int.zero_mul, Int.add_zero]
  | k + 1, e => by
    rw [wms_succ]
    unfold cutW
    rw [if_pos (by omega)]
    have := cutW_wms (b := b) (M := M) (k := k) (e := e - 1 + b + M)
    rw [show e - 1 + b + M - 1 = e - 1 + (b + M - 1) by omega] at this
    rw [this]
    have e1 : ((k + 1 : Nat) : Int) * (b + M - 1) = k * (b + M - 1) + (b + M - 1) := by
      rw [show ((k + 1 : Nat) : Int) = (k : Int) + 1 by omega, Int.add_mul, Int.one_mul]
    rw [e1]
    congr 1
    omega
theorem runT_nil {b : Int} : ∀ {L : List Int} {now : Int}, runT b L now [] = now + L.sum
  | [], now => by
    show now = now + 0
    omega
  | x :: L, now => by
    show runT b L (now + x) [] = _
    rw [runT_nil, List.sum_cons]
    omega
theorem wms_ge {f z : Int} (z0 : 0 ≤ z) {k : Nat} : ∀ m ∈ wms f z k, f ≤ m := by
  intro m hm
  obtain ⟨i, _, rfl⟩ := List.mem_map.mp hm
  have : 0 ≤ z * (i : Int) := Int.mul_nonneg z0 (by omega)
  omega
theorem wms_up {f z : Int} (z0 : 0 < z) : ∀ {k : Nat}, (wms f z k).Pairwise (· < ·)
  | 0 => .nil
  | k + 1 => by
    rw [wms_succ]
    refine List.pairwise_cons.mpr ⟨fun m hm => ?_, wms_up z0⟩
    have := wms_ge (Int.le_of_lt z0) m hm
    omega
/-- cuts just ahead of the end of the stretch at j -/
theorem runT_wms {b M : Int} (h0 : 0 ≤ b + M - 1) {k : Nat} : ∀ {L : List Int} {now : Int} {j : Nat}, (∀ x ∈ L, 1 ≤ x) → L[j]? = some M → runT b L now (wms (now + (L.take j).sum + M - 1) (b + M - 1) k) = now + L.sum + k * (b + M - 1)
  | [], _, _, _, h => nomatch h
  | x :: L, now, 0, _, h => by
    cases (show some x = some M from h)
    show runT b L (cutW b M (now + M) _).1 (cutW b M (now + M) _).2 = _
    rw [List.take_zero, List.sum_nil, Int.add_zero, cutW_wms, runT_nil, List.sum_cons]
    show now + M + k * (b + M - 1) + L.sum = _
    omega
  | x :: L, now, j + 1, hL, h => by
    have hL' : ∀ x ∈ L, 1 ≤ x := fun y hy => hL y (List.mem_cons_of_mem _ hy)
    have hj : L[j]? = some M := h
    have M1 := hL' M (List.mem_of_getElem? hj)
    have t0 : 0 ≤ (L.take j).sum := by
      have : ∀ {l : List Int}, (∀ x ∈ l, 1 ≤ x) → 0 ≤ l.sum := by
        intro l
        induction l with
        | nil => exact fun _ => Int.le_refl _
        | cons y l ih =>
          intro hl
          have := hl y (List.mem_cons_self ..)
          have := ih fun z hz => hl z (List.mem_cons_of_mem _ hz)
          rw [List.sum_cons]
          omega
      exact this fun y hy => hL' y (List.mem_of_mem_take hy)
    rw [List.take_succ_cons, List.sum_cons]
    show runT b L (cutW b x (now + x) _).1 (cutW b x (now + x) _).2 = _
    rw [cutW_none fun m hm => by
      have := wms_ge h0 m hm
      omega]
    have ih := runT_wms h0 (k := k) (L := L) (now := now + x) (j := j) hL' hj
    show runT b L (now + x) _ = _
    rw [show now + (x + (L.take j).sum) + M - 1 = now + x + (L.take j).sum + M - 1 by omega, ih, List.sum_cons]
    omega
theorem take_le {L : List Int} (h : ∀ x ∈ L, 1 ≤ x) : ∀ {j : Nat} {M : Int}, L[j]? = some M → 0 ≤ (L.take j).sum ∧ (L.take j).sum + M ≤ L.sum := by
  induction L with
  | nil => exact fun h => nomatch h
  | cons x L ih =>
    intro j M hj
    have hx := h x (List.mem_cons_self ..)
    have h' : ∀ x ∈ L, 1 ≤ x := fun y hy => h y (List.mem_cons_of_mem _ hy)
    cases j with
    | zero =>
      cases (show some x = some M from hj)
      have s0 : 0 ≤ L.sum := by
        clear ih hj
        induction L with
        | nil => exact Int.le_refl _
        | cons y l ih =>
          have := h' y (List.mem_cons_self ..)
          have := ih (fun z hz => h z (by rcases List.mem_cons.mp hz with rfl | hz; exact List.mem_cons_self ..; exact List.mem_cons_of_mem _ (List.mem_cons_of_mem _ hz))) fun z hz => h' z (List.mem_cons_of_mem _ hz)
          rw [List.sum_cons]
          omega
      rw [List.take_zero, List.sum_nil, List.sum_cons]
      exact ⟨Int.le_refl _, by omega⟩
    | succ j =>
      obtain ⟨q1, q2⟩ := ih h' (show L[j]? = some M from hj)
      rw [List.take_succ_cons, List.sum_cons, List.sum_cons]
      omega
end LAW

set_option Elab.async false
set_option linter.all false
set_option maxRecDepth 100000
namespace LAW
open PySem PySem.Spec PyProof.Rows L2 PySem.W OB
local macro_rules | `(tactic| walk_at "obc") => `(tactic| first
  | exact Or.inl ⟨by omega, by omega⟩
  | exact Or.inr ⟨by omega, by omega⟩
  | exact cdiv_ok (by omega) (by omega)
  | (show (0 : Int) < _; omega)
  | exact ⟨by omega, by decide⟩
  | exact ⟨by decide, by decide⟩)
local macro_rules | `(tactic| walk_at "obat") => `(tactic| first
  | exact Sy.at (by assumption) 0 rfl | exact Sy.at (by assumption) 1 rfl | exact Sy.at (by assumption) 2 rfl | exact Sy.at (by assumption) 3 rfl
  | exact Sy.at (by assumption) 4 rfl | exact Sy.at (by assumption) 5 rfl | exact Sy.at (by assumption) 6 rfl | exact Sy.at (by assumption) _ (by assumption) | exact Sy.at (by assumption) (_ + 1) (by assumption) | exact Sy.at (by assumption) (_ + 2) (by assumption))
local macro_rules | `(tactic| walk_at "obt") => `(tactic| first
  | exact Sy.tqs (by assumption) 0 rfl | exact Sy.tqs (by assumption) 1 rfl | exact Sy.tqs (by assumption) 2 rfl | exact Sy.tqs (by assumption) 3 rfl | exact Sy.tqs (by assumption) 4 rfl | exact Sy.tqs (by assumption) 5 rfl
  | exact Sy.tqs (by assumption) 6 rfl | exact Sy.tqs (by assumption) 7 rfl | assumption)
local macro_rules | `(tactic| walk_at "obl") => `(tactic| first
  | exact SqL.of (by walk_at "obat")
  | exact Sy.sq (by assumption) 0 rfl | exact Sy.sq (by assumption) 1 rfl | exact Sy.sq (by assumption) 2 rfl | exact Sy.sq (by assumption) 3 rfl | exact Sy.sq (by assumption) _ (by assumption))
local macro_rules | `(tactic| walk_at "obd") => `(tactic| first
  | exact Dp.int _ | exact Dp.bl _ | exact Dp.str _ | exact Dp.non
  | exact Sy.dp (by assumption) 0 rfl | exact Sy.dp (by assumption) 1 rfl | exact Sy.dp (by assumption) 2 rfl | exact Sy.dp (by assumption) 3 rfl
  | exact Sy.dp (by assumption) 4 rfl | exact Sy.dp (by assumption) 5 rfl | exact Sy.dp (by assumption) 6 rfl | exact Sy.dp (by assumption) 7 rfl
  | exact Sy.dp (by assumption) 8 rfl | exact Sy.dp (by assumption) 9 rfl | exact Sy.dp (by assumption) _ (by assumption) | assumption)
local macro_rules | `(tactic| walk_at "obds") => `(tactic| first
  | exact DpAll.nil
  | (refine' DpAll.cons ?ob1 ?ob2; (case ob1 => walk_at "obd"); (case ob2 => walk_at "obds"))
  | exact Sy.dps (by assumption) 0 rfl | exact Sy.dps (by assumption) 1 rfl | exact Sy.dps (by assumption) 2 rfl | exact Sy.dps (by assumption) 3 rfl | assumption)
local macro_rules | `(tactic| walk_at "obsc") => `(tactic| first
  | exact ScL.nil
  | ((first | refine' ScL.int ?obz | refine' ScL.str ?obz | refine' ScL.bl ?obz | refine' ScL.non ?obz); (case obz => walk_at "obsc")))
local macro_rules | `(tactic| walk_at "ob1") => `(tactic| first
  | ((with_reducible refine' g_var ?obh ?_); (case obh => rfl))
  | with_reducible refine g_c ?_
  | with_reducible refine g_nx ?_
  | with_reducible refine g_rt ?_
  | with_reducible refine g_bk ?_
  | with_reducible refine g_ct ?_
  | with_reducible refine g_op ?_
  | with_reducible refine g_I0 ?_
  | with_reducible refine g_test ?_
  | with_reducible refine g_bl ?_
  | with_reducible refine g_blx ?_
  | with_reducible refine g_B ?_
  | with_reducible refine g_seq ?_
  | with_reducible refine g_asg ?_
  | with_reducible refine g_name ?_
  | with_reducible refine g_ifS ?_
  | with_reducible refine g_ret ?_
  | with_reducible refine g_cb ?_
  | with_reducible refine g_cons ?_
  | with_reducible refine g_nil ?_
  | with_reducible refine g_int ?_
  | with_reducible refine g_intB ?_
  | with_reducible refine g_abs ?_
  | with_reducible refine g_max ?_
  | with_reducible refine g_min ?_
  | with_reducible refine g_un ?_
  | with_reducible refine g_U ?_
  | with_reducible refine g_eqI ?_
  | with_reducible refine g_neI ?_
  | with_reducible refine g_eqS ?_
  | with_reducible refine g_neS ?_
  | with_reducible refine g_tt ?_
  | with_reducible refine g_ff ?_
  | with_reducible refine g_next ?_
  | with_reducible refine g_drop ?_
  | with_reducible refine g_if ?_
  | with_reducible refine g_andV ?_
  | with_reducible refine g_orV ?_
  | with_reducible refine g_notV ?_
  | with_reducible refine g_and ?_
  | with_reducible refine g_or ?_
  | with_reducible refine g_not ?_
  | with_reducible refine g_yes ?_
  | with_reducible refine g_chain ?_
  | with_reducible refine g_cg ?_
  | with_reducible refine g_mg ?_
  | with_reducible refine g_kg ?_
  | with_reducible refine g_pg ?_
  | ((with_reducible refine' g_call ?obh ?obj ?_); (case obh => rfl); (case obj => rfl))
  | with_reducible refine g_par ?_
  | with_reducible refine g_par2 ?_
  | with_reducible refine g_par3 ?_
  | with_reducible refine g_par33 ?_
  | with_reducible refine g_gnil ?_
  | with_reducible refine g_gcons ?_
  | with_reducible refine g_gsub ?_
  | with_reducible refine g_ipI ?_
  | with_reducible refine g_rAdd ?_
  | with_reducible refine g_rSub ?_
  | ((with_reducible refine' g_aug ?obh ?_); (case obh => rfl))
  | with_reducible refine g_tup ?_
  | with_reducible refine g_lst ?_
  | with_reducible refine g_bm ?_
  | with_reducible refine g_bm0 ?_
  | with_reducible refine g_sl ?_
  | with_reducible refine g_nopart ?_
  | with_reducible refine g_part ?_
  | with_reducible refine g_pint ?_
  | with_reducible refine isi_int ?_
  | with_reducible refine isi_intB ?_
  | ((with_reducible refine' g_I ?obh ?_); (case obh => walk_at "obc"))
  | ((with_reducible refine' g_tyl ?obh ?_); (case obh => walk_at "obl"))
  | ((with_reducible refine' g_lenL ?obh ?_); (case obh => walk_at "obl"))
  | with_reducible refine g_ne ?_
  | ((with_reducible refine' g_neN' ?obh ?_); (case obh => rfl))
  | with_reducible refine g_ntt ?_
  | with_reducible refine g_nff ?_
  | with_reducible refine g_star ?_
  | with_reducible refine g_att ?_
  | with_reducible refine g_sfld ?_
  | with_reducible refine g_faug ?_
  | with_reducible refine g_fld ?_
  | ((with_reducible refine' g_nF ?obh ?_); (case obh => omega))
  | ((with_reducible refine' g_nT ?obh ?_); (case obh => omega))
  | ((with_reducible refine' g_TD ?obh ?_); (case obh => omega))
  | ((with_reducible refine' g_FD ?obh ?_); (case obh => omega))
  | ((with_reducible refine' g_ixUL ?obh ?obi ?_); (case obh => walk_at "obl"); (case obi => exact atI_nn (by omega) (by rfl)))
  | ((with_reducible refine' g_setLS ?obs ?obh ?obi ?_); (case obs => assumption); (case obh => assumption); (case obi => rfl); intro _ _ _)
  | ((with_reducible refine' g_newT ?obs ?obh ?obi ?obj ?_); (case obs => assumption); (case obh => walk_at "obds"); (case obi => rfl); (case obj => exact Nat.le_of_ble_eq_true rfl); intro _ _ _ _)
  | ((with_reducible refine' g_newL ?obs ?obj ?_); (case obs => assumption); (case obj => exact Nat.le_of_ble_eq_true rfl); intro _ _ _ _)
  | ((with_reducible refine' isi_tup ?obh ?_); (case obh => walk_at "obt"))
  | ((with_reducible refine' g_lenT ?obh ?_); (case obh => walk_at "obt"))
  | ((with_reducible refine' g_unpT ?obh ?obi ?_); (case obh => walk_at "obt"); (case obi => rfl))
  | ((with_reducible refine' g_divmod ?obs ?obh ?_); (case obs => assumption); (case obh => exact cdivp_ok (by omega) (by omega) (by omega)); intro _ _ _ _)
  | ((with_reducible refine' g_unpD ?obh ?obi ?obj ?_); (case obh => walk_at "obd"); (case obi => walk_at "obsc"); (case obj => rfl))
  | with_reducible refine g_att ?_)
local macro_rules | `(tactic| walk_at "ob") => `(tactic| first
  | walk_at "ob1"
  | refine use_is_integer ?_
  | refine use_is_within ?_
  | with_reducible refine g_lstRg ?_
  | with_reducible refine g_rg1 ?_
  | with_reducible refine g_rg2 ?_
  | with_reducible refine g_tTru ?_
  | ((with_reducible refine' g_truL ?obh ?_); (case obh => walk_at "obl"))
  | ((with_reducible refine' g_ixUT ?obh ?obi ?_); (case obh => walk_at "obt"); (case obi => rfl))
  | with_reducible refine g_forZ ?_
  | with_reducible refine g_forR2 ?_
  | with_reducible refine g_forE ?_
  | with_reducible refine g_lcZ ?_)
section
variable {P : Program} {w : World} {K : Frag} {mg : Str → Option Value} {base : Heap}
theorem mtK {X : Cx} {K : Frag} {id : String} {r : Frag → V → List V → Hp → VK → Prop} (h : X.K = K) (c : MtR X id (r X.K)) : MtR X id (r K) := h ▸ c
/-! ### works, marks, moments as data -/
def intsD (l : List Int) : PyData := .tuple (l.map .int)
def workD (w : Work) : PyData := .tuple [intsD w.l, intsD w.c, .int w.b]
theorem work_imm (w : Work) : immAll [intsD w.l, intsD w.c, .int w.b] = true := by
  show (immAll (w.l.map .int) && (immAll (w.c.map .int) && true)) = true
  rw [ints_imm, ints_imm]
  rfl
theorem dat_work {H : Hp} {p : Addr} {w : Work} (h : L2.Dp K H (.ref p) (workD w)) : (Ft.dat [.ref p] [workD w]).ok K H := ⟨dps_one h, by show (imm (.tuple _) && true) = true; rw [Bool.and_true]; exact work_imm w⟩
/-- a work, opened -/
theorem Sy.work {F : List (Addr × HO)} {G : List Ft} {H : Hp} {p : Addr} {w : Work} (S : Sy K F G H) (h : L2.Dp K H (.ref p) (workD w)) : ∃ lp cp, Sy K F (.tq p [.ref lp, .ref cp, .int w.b] :: .dat [.ref lp] [intsD w.l] :: .dat [.ref cp] [intsD w.c] :: G) H := by
  obtain ⟨a, xs, e, S1⟩ := S.opn h (work_imm w)
  cases e
  have hxs := S1.dps 1 rfl
  cases hxs with
  | cons a1 hxs =>
    cases hxs with
    | cons a2 hxs =>
      cases hxs with
      | cons a3 hxs =>
        cases hxs
        obtain ⟨lp, _, rfl, _⟩ := dp_at a1
        obtain ⟨cp, _, rfl, _⟩ := dp_at a2
        cases dp_int a3
        have S2 := ((S.add _ (dat_ints a2)).add _ (dat_ints a1)).add (.tq p [.ref lp, .ref cp, .int w.b]) (S1.tqs 0 rfl)
        exact ⟨lp, cp, S2⟩
/-- no tuple -/
def NT (K : Frag) (H : Hp) (v : V) : Prop := ∀ Q : VK, Q (.bl false) H → rIsi K [v, .ty "tuple"] H Q
theorem nt_non {H : Hp} : NT K H .non := fun Q k => ⟨_, _, _, _, false, rfl, .ty "tuple", .base .non, kit_ty (by decide +kernel), k⟩
theorem nt_lst {H : Hp} {p : Addr} {xs : List V} (h : H p = some (.lst xs)) : NT K H (.ref p) := fun Q k => ⟨_, _, _, _, false, rfl, .ty "tuple", .base (.lst h), kit_ty (by decide +kernel), k⟩
def allW (xs : List V) (b c : Int) : Bool := xs.all fun x => inW x b c
theorem allW_ints {ns : List Int} {b c : Int} : allW (ns.map V.int) b c = decide (∀ x ∈ ns, b ≤ x ∧ x ≤ c) := by
  unfold allW
  rw [List.all_map]
  by_cases h : ∀ x ∈ ns, b ≤ x ∧ x ≤ c
  · rw [decide_eq_true h]
    exact List.all_eq_true.mpr fun x hx => decide_eq_true (h x hx)
  · rw [decide_eq_false h]
    apply Bool.eq_false_iff.mpr
    intro z
    exact h fun x hx => of_decide_eq_true (List.all_eq_true.mp z x hx)
theorem nb_ints (ns : List Int) : ∀ x ∈ ns.map V.int, Nb x := fun x hx => by
  obtain ⟨n, _, rfl⟩ := List.mem_map.mp hx
  exact .inl ⟨n, rfl⟩
theorem bls {H : Hp} {vs : List V} {bs : List Bool} (h : DpAll K H vs (bs.map PyData.bool)) : vs = bs.map V.bl := by
  rw [dps_scal h fun d hd => by
    obtain ⟨s, _, rfl⟩ := List.mem_map.mp hd
    rfl, List.map_map]
  rfl
def sp_are_integers (K : Frag) : Sp := fun vs H Q E => vs.length = 3 ∧ ∃ (v : V) (b c : Int), vs = [v, .int b, .int c] ∧ ((NT K H v ∧ Q (.bl false) H) ∨
  ∃ (F : List (Addr × HO)) (G : List Ft) (p : Addr) (xs : List V), v = .ref p ∧ Sy K F G H ∧ SqT K H p xs ∧ (∀ x ∈ xs, Nb x) ∧ xs.length ≤ 1000 ∧ ∀ H', Sy K F G H' → Q (.bl (allW xs b c)) H')
abbrev names_are_integers : List Str := ["value", "least", "most", "one"]
theorem sc_are_integers : FnScope names_are_integers ["value", "least", "most"] (defScope (top 15)) := ⟨rfl, rfl, rfl, by decide +kernel, rfl, by decide +kernel, by decide +kernel⟩
set_option maxHeartbeats 4000000 in
theorem ok_are_integers (T : Tx K mg) : FG P w K mg base CX0 3 T.a_are_integers T.d_are_integers ["value", "least", "most"] (sp_are_integers K) := by
  refine OB.Fun.fg T.F_are_integers sc_are_integers (fun vs H Q E h => h.1) (fun cdv A out s H vs Q E g h => ?_)
  obtain ⟨_, v, b, c, rfl, h⟩ := h
  refine ⟨_, (pss_one (ps_ret (pe_and (pe_callB (toK (r := rIsi) (K := K) rfl call_isi) (by rfl) T.n_isinstance (by decide +kernel) (pa_cons (pv 0) (pa_cons (pe_bltn (v := .ty "tuple") (by rfl) T.n_tuple (by decide +kernel) rfl) pa_nil))) (pe_one (pe_callB (toK (r := rAll) (K := K) rfl (cr_all rfl)) (by rfl) T.n_all (by decide +kernel) (pa_cons (pe_lc (own := [("one", 3)]) (tt := tYes) rfl sc_are_integers.nd (pi_seq (pv 0)) (blkOk_by (N := names_are_integers) (sc := defScope (top 15)) (own := [("one", 3)]) (by decide +kernel)) (fun _ _ _ _ _ => (pg_name (i := 3) sc_are_integers.nd rfl (by first | exact Or.inl rfl | exact Or.inr rfl))) (fun _ _ _ _ _ => pts_nil) (fun _ _ _ _ _ => (pe_cg (ok_is_within T) (g.mono (by decide : 2 ≤ 2)) (by rfl) T.m_is_within T.F_is_within.kp (OB.Fun.bd T.F_is_within (ps := ["value", "least", "most"]) (n := 3) (ks := []) (ix := [0, 1, 2]) (fun _ _ _ _ _ _ us ws h1 h2 => match us, ws, h1, h2 with | [_, _, _], [], _, _ => rfl)) pass0 (pa_cons (pv 3) (pa_cons (pv 1) (pa_cons (pv 2) pa_nil))) pk_nil))) pa_nil)))))), ?_⟩
  refine g_start (σ := [some _, some _, some _, none]) rfl ?_
  rcases h with ⟨hn, k⟩ | ⟨F, G, p, xs, rfl, S, hs, nb, hl, k⟩
  · repeat walk_at "ob"
    refine hn _ ?_
    repeat walk_at "ob"
    exact k
  · have S0 := S.add (.tq p xs) hs
    clear S
    repeat walk_at "ob"
    refine g_lcS (a := p) (xs := xs) false (fun i F' ds => F' = F ∧ ds = (xs.take i).map fun x => .bool (inW x b c)) S0 (fun Q' q => by walk_at "ob"; exact q) ⟨rfl, rfl⟩ (fun i F' ds H' _ S3 => S3.tqs 0 rfl) (fun i F' ds hi => by
      rw [hi.2, List.length_map, List.length_take]; omega) ?_ ?_
    · intro i x hx Da H2 F2 vs ds QE QR hi S3 kE kR
      obtain ⟨rfl, rfl⟩ := hi
      repeat walk_at "ob"
      refine ⟨rfl, ?_⟩
      repeat walk_at "ob"
      refine ⟨rfl, x, b, c, rfl, .inl (nb x (List.mem_of_getElem? hx)), ?_⟩
      refine kE _ (.bool (inW x b c)) _ _ ⟨rfl, ?_⟩ (S3.fact (dps_one (L2.Dp.bl _)) rfl)
      rw [List.take_add_one, hx]
      simp
    intro Da H2 F2 vs ds hD hi S3
    obtain ⟨rfl, rfl⟩ := hi
    rw [List.take_length] at S3
    have hv : vs = (xs.map fun x => inW x b c).map V.bl := by
      have := S3.dps 0 rfl
      rw [show (xs.map fun x => PyData.bool (inW x b c)) = (xs.map fun x => inW x b c).map PyData.bool by rw [List.map_map]; rfl] at this
      exact bls this
    subst hv
    refine g_all (by walk_at "obl") ?_
    repeat walk_at "ob"
    rw [List.all_map]
    exact k _ S3.less.drop.drop
theorem use_ints {F : List (Addr × HO)} {G : List Ft} {H : Hp} {Q : VK} {E : XK} {p : Addr} {ns : List Int} {b c : Int} (S : Sy K F G H) (hs : SqT K H p (ns.map V.int)) (hl : ns.length ≤ 1000) (k : ∀ H', Sy K F G H' → Q (.bl (decide (∀ x ∈ ns, b ≤ x ∧ x ≤ c))) H') : sp_are_integers K [.ref p, .int b, .int c] H Q E :=
  ⟨rfl, _, b, c, rfl, .inr ⟨F, G, p, ns.map V.int, rfl, S, hs, nb_ints ns, by rw [List.length_map]; exact hl, fun H' S' => by rw [allW_ints]; exact k H' S'⟩⟩
def sp_is_work (K : Frag) : Sp := fun vs H Q E => vs.length = 1 ∧ ∃ (F : List (Addr × HO)) (G : List Ft) (p : Addr) (wk : Work), vs = [.ref p] ∧ Sy K F G H ∧ L2.Dp K H (.ref p) (workD wk) ∧ WkOk wk ∧ ∀ H', Sy K F G H' → Q (.bl true) H'
abbrev names_is_work : List Str := ["value", "ticks", "costs", "begin"]
theorem sc_is_work : FnScope names_is_work ["value"] (defScope (top 16)) := ⟨rfl, rfl, rfl, by decide +kernel, rfl, by decide +kernel, by decide +kernel⟩
set_option maxHeartbeats 4000000 in
theorem ok_is_work (T : Tx K mg) : FG P w K mg base CX0 4 T.a_is_work T.d_is_work ["value"] (sp_is_work K) := by
  refine OB.Fun.fg T.F_is_work sc_is_work (fun vs H Q E h => h.1) (fun cdv A out s H vs Q E g h => ?_)
  obtain ⟨_, F, G, p, wk, rfl, S, hd, ok, k⟩ := h
  refine ⟨_, (pss_cons (ps_if (PW.pt (pw_or (pt_not (pt_val (pe_callB (toK (r := rIsi) (K := K) rfl call_isi) (by rfl) T.n_isinstance (by decide +kernel) (pa_cons (pv 0) (pa_cons (pe_bltn (v := .ty "tuple") (by rfl) T.n_tuple (by decide +kernel) rfl) pa_nil))))) (pw_or1 (pt_cmpR op_ne (pe_callB (toK (r := OB.rLen) (K := K) rfl c_len) (by rfl) T.n_len PySem.boot_len (pa_cons (pv 0) pa_nil)) (pe_glob (v := .int 3) (by rfl) T.g_TRIPLE ⟨_, rfl⟩) (nomark _))))) (pss_one (ps_ret pe_bl)) pss_nil)
      (pss_cons (ps_asg (pv 0) (pg_tupK (K := K) rfl (n := 3) rfl (pgs_cons (pg_name (i := 1) sc_is_work.nd rfl (by first | exact Or.inl rfl | exact Or.inr rfl)) (pgs_cons (pg_name (i := 2) sc_is_work.nd rfl (by first | exact Or.inl rfl | exact Or.inr rfl)) (pgs_cons (pg_name (i := 3) sc_is_work.nd rfl (by first | exact Or.inl rfl | exact Or.inr rfl)) pgs_nil)))))
      (pss_cons (ps_if (PW.pt (pw_or (pt_not (pt_val (pe_cg (ok_are_integers T) (g.mono (by decide : 3 ≤ 3)) (by rfl) T.m_are_integers T.F_are_integers.kp (OB.Fun.bd T.F_are_integers (ps := ["value", "least", "most"]) (n := 3) (ks := []) (ix := [0, 1, 2]) (fun _ _ _ _ _ _ us ws h1 h2 => match us, ws, h1, h2 with | [_, _, _], [], _, _ => rfl)) pass0 (pa_cons (pv 1) (pa_cons pe_int (pa_cons (pe_glob (v := .int 1000000) (by rfl) T.g_MOST_TICKS ⟨_, rfl⟩) pa_nil))) pk_nil))) (pw_or1 (pt_not (pt_val (pe_cg (ok_are_integers T) (g.mono (by decide : 3 ≤ 3)) (by rfl) T.m_are_integers T.F_are_integers.kp (OB.Fun.bd T.F_are_integers (ps := ["value", "least", "most"]) (n := 3) (ks := []) (ix := [0, 1, 2]) (fun _ _ _ _ _ _ us ws h1 h2 => match us, ws, h1, h2 with | [_, _, _], [], _, _ => rfl)) pass0 (pa_cons (pv 2) (pa_cons pe_int (pa_cons (pe_glob (v := .int 1000000) (by rfl) T.g_MOST_TICKS ⟨_, rfl⟩) pa_nil))) pk_nil)))))) (pss_one (ps_ret pe_bl)) pss_nil)
      (pss_one (ps_ret (pe_and (pe_chain op_le op_le pe_int (pe_callB (toK (r := OB.rLen) (K := K) rfl c_len) (by rfl) T.n_len PySem.boot_len (pa_cons (pv 1) pa_nil)) (pe_glob (v := .int 40) (by rfl) T.g_MOST_PARTS ⟨_, rfl⟩)) (pe_and (pe_cmpR op_eq (pe_callB (toK (r := OB.rLen) (K := K) rfl c_len) (by rfl) T.n_len PySem.boot_len (pa_cons (pv 2) pa_nil)) (pe_op op_sub (pe_callB (toK (r := OB.rLen) (K := K) rfl c_len) (by rfl) T.n_len PySem.boot_len (pa_cons (pv 1) pa_nil)) pe_int) (nomark _)) (pe_one (pe_cg (ok_is_within T) (g.mono (by decide : 2 ≤ 3)) (by rfl) T.m_is_within T.F_is_within.kp (OB.Fun.bd T.F_is_within (ps := ["value", "least", "most"]) (n := 3) (ks := []) (ix := [0, 1, 2]) (fun _ _ _ _ _ _ us ws h1 h2 => match us, ws, h1, h2 with | [_, _, _], [], _, _ => rfl)) pass0 (pa_cons (pv 3) (pa_cons pe_int (pa_cons (pe_glob (v := .int 1000000) (by rfl) T.g_MOST_TICKS ⟨_, rfl⟩) pa_nil))) pk_nil))))))))), ?_⟩
  refine g_start (σ := [some _, none, none, none]) rfl ?_
  obtain ⟨lp, cp, S1⟩ := Sy.work S hd
  clear S
  obtain ⟨l0, l1, cl, lv, cv, b0⟩ := ok
  have hl : (wk.l.map V.int).length = wk.l.length := List.length_map ..
  have hc : (wk.c.map V.int).length = wk.c.length := List.length_map ..
  repeat walk_at "ob"
  refine use_ints S1 (sqt_ints (S1.dp 1 rfl)) (by omega) fun H1 S2 => ?_
  rw [decide_eq_true (fun x hx => by have := lv x hx; omega)]
  clear S1
  repeat walk_at "ob"
  refine use_ints S2 (sqt_ints (S2.dp 2 rfl)) (by omega) fun H2 S3 => ?_
  rw [decide_eq_true (fun x hx => by have := cv x hx; omega)]
  clear S2
  repeat walk_at "ob"
  refine g_lenT (sqt_ints (S3.dp 1 rfl)) ?_
  rw [hl]
  repeat walk_at "ob"
  refine g_lenT (sqt_ints (S3.dp 2 rfl)) ?_
  rw [hc]
  repeat walk_at "ob"
  refine g_lenT (sqt_ints (S3.dp 1 rfl)) ?_
  rw [hl]
  repeat walk_at "ob"
  first
    | exact k _ S3.drop.drop.drop
    | (rw [show decide (0 ≤ wk.b ∧ wk.b ≤ 1000000) = true from decide_eq_true (by omega)]; exact k _ S3.drop.drop.drop)
def sp_check_work (K : Frag) : Sp := fun vs H Q E => vs.length = 1 ∧ ∃ (F : List (Addr × HO)) (G : List Ft) (p : Addr) (wk : Work), vs = [.ref p] ∧ Sy K F G H ∧ L2.Dp K H (.ref p) (workD wk) ∧ WkOk wk ∧ ∀ H', Sy K F G H' → Q .non H'
abbrev names_check_work : List Str := ["work"]
theorem sc_check_work : FnScope names_check_work ["work"] (defScope (top 17)) := ⟨rfl, rfl, rfl, by decide +kernel, rfl, by decide +kernel, by decide +kernel⟩
set_option maxHeartbeats 4000000 in
theorem ok_check_work (T : Tx K mg) : FG P w K mg base CX0 5 T.a_check_work T.d_check_work ["work"] (sp_check_work K) := by
  refine OB.Fun.fg T.F_check_work sc_check_work (fun vs H Q E h => h.1) (fun cdv A out s H vs Q E g h => ?_)
  obtain ⟨_, F, G, p, wk, rfl, S, hd, ok, k⟩ := h
  refine ⟨_, (pss_one (ps_if (pt_not (pt_val (pe_cg (ok_is_work T) (g.mono (by decide : 4 ≤ 4)) (by rfl) T.m_is_work T.F_is_work.kp (OB.Fun.bd T.F_is_work (ps := ["value"]) (n := 1) (ks := []) (ix := [0]) (fun _ _ _ _ _ _ us ws h1 h2 => match us, ws, h1, h2 with | [_], [], _, _ => rfl)) pass0 (pa_cons (pv 0) pa_nil) pk_nil))) (pss_one ps_never) pss_nil)), ?_⟩
  refine g_start (σ := [some _]) rfl ?_
  repeat walk_at "ob"
  refine ⟨rfl, F, G, p, wk, rfl, S, hd, ok, fun H1 S1 => ?_⟩
  repeat walk_at "ob"
  exact k _ S1
/-! ### ascending -/
def upB (ns : List Int) : Bool := (ns.zip (ns.drop 1)).all fun p => decide (p.1 < p.2)
theorem up_le : ∀ {ns : List Int} {x : Int}, upB (x :: ns) = true → ∀ y ∈ ns, x < y
  | [], _, _ => fun y hy => nomatch hy
  | z :: ns, x, h => by
    have h2 : (decide (x < z) && upB (z :: ns)) = true := h
    rw [Bool.and_eq_true] at h2
    have h3 := of_decide_eq_true h2.1
    intro y hy
    rcases List.mem_cons.mp hy with rfl | hy
    · exact h3
    · have := up_le h2.2 y hy
      omega
theorem up_iff : ∀ {ns : List Int}, upB ns = true ↔ ns.Pairwise (· < ·)
  | [] => ⟨fun _ => .nil, fun _ => rfl⟩
  | [x] => ⟨fun _ => by simp, fun _ => rfl⟩
  | x :: z :: ns => by
    have e : upB (x :: z :: ns) = (decide (x < z) && upB (z :: ns)) := rfl
    rw [e, Bool.and_eq_true, up_iff (ns := z :: ns), List.pairwise_cons (l := z :: ns)]
    constructor
    · rintro ⟨h1, h2⟩
      exact ⟨up_le (by rw [e, Bool.and_eq_true]; exact ⟨h1, up_iff.mpr h2⟩), h2⟩
    · rintro ⟨h1, h2⟩
      exact ⟨decide_eq_true (h1 z (List.mem_cons_self ..)), h2⟩
def zipD (ns : List Int) : List PyData := (ns.zip (ns.drop 1)).map fun p => .bool (decide (p.1 < p.2))
theorem zip_at {ns : List Int} {i : Nat} {x y : Int} (hx : ns[i]? = some x) (hy : (ns.drop 1)[i]? = some y) : (ns.zip (ns.drop 1))[i]? = some (x, y) := by
  rw [List.getElem?_zip_eq_some]
  exact ⟨hx, hy⟩
theorem zip_len {ns : List Int} : (ns.zip (ns.drop 1)).length = min ns.length (ns.drop 1).length := List.length_zip ..
/-- a value that may be marks: no tuple, a tuple of one truth value, numbers -/
inductive Mk where
  | nt
  | bl (b : Bool)
  | ns (l : List Int)
def MkV (K : Frag) (H : Hp) (v : V) : Mk → Prop
  | .nt => NT K H v
  | .bl b => ∃ q, v = .ref q ∧ SqT K H q [.bl b]
  | .ns l => ∃ q, v = .ref q ∧ L2.Dp K H (.ref q) (intsD l) ∧ l.length ≤ 1000
def mkB (w : Work) : Mk → Bool
  | .ns l => decide (∀ x ∈ l, 0 ≤ x ∧ x ≤ (w.c.length : Int) - 1) && upB l
  | _ => false
theorem mkB_ns {w : Work} {l : List Int} : mkB w (.ns l) = (decide (∀ x ∈ l, 0 ≤ x ∧ x ≤ (w.c.length : Int) - 1) && upB l) := rfl
theorem mkB_iff {w : Work} {l : List Int} : mkB w (.ns l) = true ↔ MkOk w l := by
  rw [mkB_ns, Bool.and_eq_true, decide_eq_true_eq, up_iff]
  exact ⟨fun ⟨h1, h2⟩ => ⟨h2, fun x hx => by have := h1 x hx; omega⟩, fun h => ⟨fun x hx => by have := h.mv x hx; omega, h.up⟩⟩
def sp_are_marks (K : Frag) : Sp := fun vs H Q E => vs.length = 2 ∧ ∃ (F : List (Addr × HO)) (G : List Ft) (p : Addr) (v : V) (wk : Work) (m : Mk), vs = [.ref p, v] ∧ Sy K F G H ∧ L2.Dp K H (.ref p) (workD wk) ∧ MkV K H v m ∧ ∀ H', Sy K F G H' → Q (.bl (mkB wk m)) H'
abbrev names_are_marks : List Str := ["work", "value", "one", "other"]
theorem sc_are_marks : FnScope names_are_marks ["work", "value"] (defScope (top 18)) := ⟨rfl, rfl, rfl, by decide +kernel, rfl, by decide +kernel, by decide +kernel⟩
set_option maxHeartbeats 4000000 in
theorem ok_are_marks (T : Tx K mg) : FG P w K mg base CX0 4 T.a_are_marks T.d_are_marks ["work", "value"] (sp_are_marks K) := by
  refine OB.Fun.fg T.F_are_marks sc_are_marks (fun vs H Q E h => h.1) (fun cdv A out s H vs Q E g h => ?_)
  obtain ⟨_, F, G, p, v, wk, m, rfl, S, hd, hm, k⟩ := h
  refine ⟨_, (pss_cons (ps_if (pt_not (pt_val (pe_cg (ok_are_integers T) (g.mono (by decide : 3 ≤ 3)) (by rfl) T.m_are_integers T.F_are_integers.kp (OB.Fun.bd T.F_are_integers (ps := ["value", "least", "most"]) (n := 3) (ks := []) (ix := [0, 1, 2]) (fun _ _ _ _ _ _ us ws h1 h2 => match us, ws, h1, h2 with | [_, _, _], [], _, _ => rfl)) pass0 (pa_cons (pv 1) (pa_cons pe_int (pa_cons (pe_op op_sub (pe_callB (toK (r := OB.rLen) (K := K) rfl c_len) (by rfl) T.n_len PySem.boot_len (pa_cons (pe_ix (ix_UK (K := K) rfl) (pv 0) pe_int (fun _ _ => rfl)) pa_nil)) pe_int) pa_nil))) pk_nil))) (pss_one (ps_ret pe_bl)) pss_nil)
      (pss_one (ps_ret (pe_callB (toK (r := rAll) (K := K) rfl (cr_all rfl)) (by rfl) T.n_all (by decide +kernel) (pa_cons (pe_lc (own := [("one", 2), ("other", 3)]) (tt := tYes) rfl sc_are_marks.nd (pi_zipK (by rfl) T.n_zip (pa_cons (pv 1) (pa_cons (pe_slice (sl_UK (K := K) rfl) (pv 1) (po_some pe_int) po_none) pa_nil))) (blkOk_by (N := names_are_marks) (sc := defScope (top 18)) (own := [("one", 2), ("other", 3)]) (by decide +kernel)) (fun _ _ _ _ _ => (pg_tupK (K := K) rfl (n := 2) rfl (pgs_cons (pg_name (i := 2) sc_are_marks.nd rfl (by first | exact Or.inl rfl | exact Or.inr rfl)) (pgs_cons (pg_name (i := 3) sc_are_marks.nd rfl (by first | exact Or.inl rfl | exact Or.inr rfl)) pgs_nil)))) (fun _ _ _ _ _ => pts_nil) (fun _ _ _ _ _ => (pe_cmpR op_lt (pv 2) (pv 3) (nomark _)))) pa_nil))))), ?_⟩
  refine g_start (σ := [some _, some _, none, none]) rfl ?_
  obtain ⟨lp, cp, S1⟩ := Sy.work S hd
  have hc : (wk.c.map V.int).length = wk.c.length := List.length_map ..
  clear S
  cases m with
  | nt =>
    repeat walk_at "ob"
    refine g_lenT (sqt_ints (S1.dp 2 rfl)) ?_
    rw [hc]
    repeat walk_at "ob"
    refine ⟨rfl, _, _, _, rfl, .inl ⟨hm, ?_⟩⟩
    repeat walk_at "ob"
    exact k _ S1.drop.drop.drop
  | bl b =>
    obtain ⟨q, rfl, hs⟩ := hm
    repeat walk_at "ob"
    refine g_lenT (sqt_ints (S1.dp 2 rfl)) ?_
    rw [hc]
    repeat walk_at "ob"
    refine ⟨rfl, _, _, _, rfl, .inr ⟨F, _, q, _, rfl, S1, hs, fun x hx => by cases List.mem_singleton.mp hx; exact .inr ⟨b, rfl⟩, Nat.le_of_ble_eq_true rfl, fun H1 S2 => ?_⟩⟩
    show (fun v H => _) (V.bl false) H1
    repeat walk_at "ob"
    exact k _ S2.drop.drop.drop
  | ns ms =>
    obtain ⟨q, rfl, hd2, ml⟩ := hm
    have S2 := S1.add (.tq q (ms.map V.int)) (sqt_ints hd2)
    clear S1
    rw [mkB_ns] at k
    have hl : (ms.map V.int).length = ms.length := List.length_map ..
    repeat walk_at "ob"
    refine g_lenT (sqt_ints (S2.dp 3 rfl)) ?_
    rw [hc]
    repeat walk_at "ob"
    refine use_ints S2 (S2.tqs 0 rfl) ml fun H1 S3 => ?_
    clear S2
    by_cases h1 : ∀ x ∈ ms, 0 ≤ x ∧ x ≤ (wk.c.length : Int) - 1
    · rw [decide_eq_true h1] at k ⊢
      repeat walk_at "ob"
      refine g_slA S3 (S3.tqs 0 rfl) fun p2 H5 S9 => ?_
      clear S3
      repeat walk_at "ob"
      refine ziplc_of (k := false) (l := false) (xs := ms.map V.int) (ys := (ms.map V.int).drop 1) (fun i F' ds => F' = F ∧ ds = (zipD ms).take i) S9 ⟨rfl, rfl⟩
        (fun i F' ds H' hi S3 => ⟨S3.tqs 1 rfl, S3.tqs 0 rfl⟩) (fun i F' ds hi => by
          rw [hi.2, List.length_take]
          have : (zipD ms).length ≤ ms.length := by
            unfold zipD
            rw [List.length_map, zip_len]
            omega
          omega) ?_ ?_
      · intro i x y hx hy Da T H2 F2 vs ds QE QR hi hT S3 kE kR
        obtain ⟨rfl, rfl⟩ := hi
        rw [List.getElem?_map] at hx
        obtain ⟨r, hr, rfl⟩ := Option.map_eq_some_iff.mp hx
        rw [List.getElem?_drop, List.getElem?_map] at hy
        obtain ⟨r2, hr2, rfl⟩ := Option.map_eq_some_iff.mp hy
        refine g_pair S3 hT fun H3 S4 => ?_
        repeat walk_at "ob"
        refine ⟨rfl, ?_⟩
        repeat walk_at "ob"
        refine kE _ (.bool (decide (r < r2))) _ _ ⟨rfl, ?_⟩ (S4.drop.fact (dps_one (L2.Dp.bl _)) rfl)
        rw [List.take_add_one]
        unfold zipD
        rw [List.getElem?_map, zip_at hr (by rw [List.getElem?_drop]; exact hr2)]
        rfl
      intro Dd H6 F6 vs ds hD6 hi S10
      obtain ⟨rfl, rfl⟩ := hi
      have hv : vs = ((ms.zip (ms.drop 1)).map fun p => decide (p.1 < p.2)).map V.bl := by
        have := S10.dps 0 rfl
        rw [List.take_of_length_le (by unfold zipD; rw [List.length_map, zip_len, List.length_drop, List.length_drop, List.length_map]; exact Nat.le_refl _)] at this
        unfold zipD at this
        rw [show ((ms.zip (ms.drop 1)).map fun p => PyData.bool (decide (p.1 < p.2))) = ((ms.zip (ms.drop 1)).map fun p => decide (p.1 < p.2)).map PyData.bool by rw [List.map_map]; rfl] at this
        exact bls this
      subst hv
      repeat walk_at "ob"
      refine g_all (by walk_at "obl") ?_
      rw [List.all_map, show ((ms.zip (ms.drop 1)).all (id ∘ fun p => decide (p.1 < p.2))) = upB ms from rfl]

      repeat walk_at "ob"
      exact k _ S10.less.drop.drop.drop.drop.drop.drop
    · rw [decide_eq_false h1] at k ⊢
      repeat walk_at "ob"
      exact k _ S3.drop.drop.drop.drop
end
end LAW

set_option Elab.async false
set_option linter.all false
set_option maxRecDepth 100000
namespace LAW
open PySem PySem.Spec PyProof.Rows L2 PySem.W OB
local macro_rules | `(tactic| walk_at "obc") => `(tactic| first
  | exact Or.inl ⟨by omega, by omega⟩
  | exact Or.inr ⟨by omega, by omega⟩
  | exact cdiv_ok (by omega) (by omega)
  | (show (0 : Int) < _; omega)
  | exact ⟨by omega, by decide⟩
  | exact ⟨by decide, by decide⟩)
local macro_rules | `(tactic| walk_at "obat") => `(tactic| first
  | exact Sy.at (by assumption) 0 rfl | exact Sy.at (by assumption) 1 rfl | exact Sy.at (by assumption) 2 rfl | exact Sy.at (by assumption) 3 rfl
  | exact Sy.at (by assumption) 4 rfl | exact Sy.at (by assumption) 5 rfl | exact Sy.at (by assumption) 6 rfl | exact Sy.at (by assumption) _ (by assumption) | exact Sy.at (by assumption) (_ + 1) (by assumption) | exact Sy.at (by assumption) (_ + 2) (by assumption))
local macro_rules | `(tactic| walk_at "obt") => `(tactic| first
  | exact Sy.tqs (by assumption) 0 rfl | exact Sy.tqs (by assumption) 1 rfl | exact Sy.tqs (by assumption) 2 rfl | exact Sy.tqs (by assumption) 3 rfl | exact Sy.tqs (by assumption) 4 rfl | exact Sy.tqs (by assumption) 5 rfl
  | exact Sy.tqs (by assumption) 6 rfl | exact Sy.tqs (by assumption) 7 rfl | assumption)
local macro_rules | `(tactic| walk_at "obl") => `(tactic| first
  | exact SqL.of (by walk_at "obat")
  | exact Sy.sq (by assumption) 0 rfl | exact Sy.sq (by assumption) 1 rfl | exact Sy.sq (by assumption) 2 rfl | exact Sy.sq (by assumption) 3 rfl | exact Sy.sq (by assumption) _ (by assumption))
local macro_rules | `(tactic| walk_at "obd") => `(tactic| first
  | exact Dp.int _ | exact Dp.bl _ | exact Dp.str _ | exact Dp.non
  | exact Sy.dp (by assumption) 0 rfl | exact Sy.dp (by assumption) 1 rfl | exact Sy.dp (by assumption) 2 rfl | exact Sy.dp (by assumption) 3 rfl
  | exact Sy.dp (by assumption) 4 rfl | exact Sy.dp (by assumption) 5 rfl | exact Sy.dp (by assumption) 6 rfl | exact Sy.dp (by assumption) 7 rfl
  | exact Sy.dp (by assumption) 8 rfl | exact Sy.dp (by assumption) 9 rfl | exact Sy.dp (by assumption) _ (by assumption) | assumption)
local macro_rules | `(tactic| walk_at "obds") => `(tactic| first
  | exact DpAll.nil
  | (refine' DpAll.cons ?ob1 ?ob2; (case ob1 => walk_at "obd"); (case ob2 => walk_at "obds"))
  | exact Sy.dps (by assumption) 0 rfl | exact Sy.dps (by assumption) 1 rfl | exact Sy.dps (by assumption) 2 rfl | exact Sy.dps (by assumption) 3 rfl | assumption)
local macro_rules | `(tactic| walk_at "obsc") => `(tactic| first
  | exact ScL.nil
  | ((first | refine' ScL.int ?obz | refine' ScL.str ?obz | refine' ScL.bl ?obz | refine' ScL.non ?obz); (case obz => walk_at "obsc")))
local macro_rules | `(tactic| walk_at "ob1") => `(tactic| first
  | ((with_reducible refine' g_var ?obh ?_); (case obh => rfl))
  | with_reducible refine g_c ?_
  | with_reducible refine g_nx ?_
  | with_reducible refine g_rt ?_
  | with_reducible refine g_bk ?_
  | with_reducible refine g_ct ?_
  | with_reducible refine g_op ?_
  | with_reducible refine g_I0 ?_
  | with_reducible refine g_test ?_
  | with_reducible refine g_bl ?_
  | with_reducible refine g_blx ?_
  | with_reducible refine g_B ?_
  | with_reducible refine g_seq ?_
  | with_reducible refine g_asg ?_
  | with_reducible refine g_name ?_
  | with_reducible refine g_ifS ?_
  | with_reducible refine g_ret ?_
  | with_reducible refine g_cb ?_
  | with_reducible refine g_cons ?_
  | with_reducible refine g_nil ?_
  | with_reducible refine g_int ?_
  | with_reducible refine g_intB ?_
  | with_reducible refine g_abs ?_
  | with_reducible refine g_max ?_
  | with_reducible refine g_min ?_
  | with_reducible refine g_un ?_
  | with_reducible refine g_U ?_
  | with_reducible refine g_eqI ?_
  | with_reducible refine g_neI ?_
  | with_reducible refine g_eqS ?_
  | with_reducible refine g_neS ?_
  | with_reducible refine g_tt ?_
  | with_reducible refine g_ff ?_
  | with_reducible refine g_next ?_
  | with_reducible refine g_drop ?_
  | with_reducible refine g_if ?_
  | with_reducible refine g_andV ?_
  | with_reducible refine g_orV ?_
  | with_reducible refine g_notV ?_
  | with_reducible refine g_and ?_
  | with_reducible refine g_or ?_
  | with_reducible refine g_not ?_
  | with_reducible refine g_yes ?_
  | with_reducible refine g_chain ?_
  | with_reducible refine g_cg ?_
  | with_reducible refine g_mg ?_
  | with_reducible refine g_kg ?_
  | with_reducible refine g_pg ?_
  | ((with_reducible refine' g_call ?obh ?obj ?_); (case obh => rfl); (case obj => rfl))
  | with_reducible refine g_par ?_
  | with_reducible refine g_par2 ?_
  | with_reducible refine g_par3 ?_
  | with_reducible refine g_par33 ?_
  | with_reducible refine g_gnil ?_
  | with_reducible refine g_gcons ?_
  | with_reducible refine g_gsub ?_
  | with_reducible refine g_ipI ?_
  | with_reducible refine g_rAdd ?_
  | with_reducible refine g_rSub ?_
  | ((with_reducible refine' g_aug ?obh ?_); (case obh => rfl))
  | with_reducible refine g_tup ?_
  | with_reducible refine g_lst ?_
  | with_reducible refine g_bm ?_
  | with_reducible refine g_bm0 ?_
  | with_reducible refine g_sl ?_
  | with_reducible refine g_nopart ?_
  | with_reducible refine g_part ?_
  | with_reducible refine g_pint ?_
  | with_reducible refine isi_int ?_
  | with_reducible refine isi_intB ?_
  | ((with_reducible refine' g_I ?obh ?_); (case obh => walk_at "obc"))
  | ((with_reducible refine' g_tyl ?obh ?_); (case obh => walk_at "obl"))
  | ((with_reducible refine' g_lenL ?obh ?_); (case obh => walk_at "obl"))
  | with_reducible refine g_ne ?_
  | ((with_reducible refine' g_neN' ?obh ?_); (case obh => rfl))
  | with_reducible refine g_ntt ?_
  | with_reducible refine g_nff ?_
  | with_reducible refine g_star ?_
  | with_reducible refine g_att ?_
  | with_reducible refine g_sfld ?_
  | with_reducible refine g_faug ?_
  | with_reducible refine g_fld ?_
  | ((with_reducible refine' g_nF ?obh ?_); (case obh => omega))
  | ((with_reducible refine' g_nT ?obh ?_); (case obh => omega))
  | ((with_reducible refine' g_TD ?obh ?_); (case obh => omega))
  | ((with_reducible refine' g_FD ?obh ?_); (case obh => omega))
  | ((with_reducible refine' g_ixUL ?obh ?obi ?_); (case obh => walk_at "obl"); (case obi => exact atI_nn (by omega) (by rfl)))
  | ((with_reducible refine' g_setLS ?obs ?obh ?obi ?_); (case obs => assumption); (case obh => assumption); (case obi => rfl); intro _ _ _)
  | ((with_reducible refine' g_newT ?obs ?obh ?obi ?obj ?_); (case obs => assumption); (case obh => walk_at "obds"); (case obi => rfl); (case obj => exact Nat.le_of_ble_eq_true rfl); intro _ _ _ _)
  | ((with_reducible refine' g_newL ?obs ?obj ?_); (case obs => assumption); (case obj => exact Nat.le_of_ble_eq_true rfl); intro _ _ _ _)
  | ((with_reducible refine' isi_tup ?obh ?_); (case obh => walk_at "obt"))
  | ((with_reducible refine' g_lenT ?obh ?_); (case obh => walk_at "obt"))
  | ((with_reducible refine' g_unpT ?obh ?obi ?_); (case obh => walk_at "obt"); (case obi => rfl))
  | ((with_reducible refine' g_divmod ?obs ?obh ?_); (case obs => assumption); (case obh => exact cdivp_ok (by omega) (by omega) (by omega)); intro _ _ _ _)
  | ((with_reducible refine' g_unpD ?obh ?obi ?obj ?_); (case obh => walk_at "obd"); (case obi => walk_at "obsc"); (case obj => rfl))
  | with_reducible refine g_att ?_)
local macro_rules | `(tactic| walk_at "ob") => `(tactic| first
  | walk_at "ob1"
  | refine use_is_integer ?_
  | refine use_is_within ?_
  | with_reducible refine g_lstRg ?_
  | with_reducible refine g_rg1 ?_
  | with_reducible refine g_rg2 ?_
  | with_reducible refine g_tTru ?_
  | ((with_reducible refine' g_truL ?obh ?_); (case obh => walk_at "obl"))
  | ((with_reducible refine' g_ixUT ?obh ?obi ?_); (case obh => walk_at "obt"); (case obi => rfl))
  | with_reducible refine g_forZ ?_
  | with_reducible refine g_forR2 ?_
  | with_reducible refine g_forE ?_
  | with_reducible refine g_lcZ ?_)
section
variable {P : Program} {w : World} {K : Frag} {mg : Str → Option Value} {base : Heap}
def sp_check_marks (K : Frag) : Sp := fun vs H Q E => vs.length = 2 ∧ ∃ (F : List (Addr × HO)) (G : List Ft) (p q : Addr) (wk : Work) (ms : List Int), vs = [.ref p, .ref q] ∧ Sy K F G H ∧ L2.Dp K H (.ref p) (workD wk) ∧ L2.Dp K H (.ref q) (intsD ms) ∧ MkOk wk ms ∧ ms.length ≤ 1000 ∧ ∀ H', Sy K F G H' → Q .non H'
def sp_check_cuts (K : Frag) : Sp := fun vs H Q E => vs.length = 1 ∧ ∃ c : Int, vs = [.int c] ∧ 0 ≤ c ∧ c ≤ 100 ∧ Q .non H
abbrev names_check_cuts : List Str := ["cuts"]
theorem sc_check_cuts : FnScope names_check_cuts ["cuts"] (defScope (top 19)) := ⟨rfl, rfl, rfl, by decide +kernel, rfl, by decide +kernel, by decide +kernel⟩
set_option maxHeartbeats 4000000 in
theorem ok_check_cuts (T : Tx K mg) : FG P w K mg base CX0 3 T.a_check_cuts T.d_check_cuts ["cuts"] (sp_check_cuts K) := by
  refine OB.Fun.fg T.F_check_cuts sc_check_cuts (fun vs H Q E h => h.1) (fun cdv A out s H vs Q E g h => ?_)
  obtain ⟨_, c, rfl, c0, c1, k⟩ := h
  refine ⟨_, (pss_one (ps_if (pt_not (pt_val (pe_cg (ok_is_within T) (g.mono (by decide : 2 ≤ 2)) (by rfl) T.m_is_within T.F_is_within.kp (OB.Fun.bd T.F_is_within (ps := ["value", "least", "most"]) (n := 3) (ks := []) (ix := [0, 1, 2]) (fun _ _ _ _ _ _ us ws h1 h2 => match us, ws, h1, h2 with | [_, _, _], [], _, _ => rfl)) pass0 (pa_cons (pv 0) (pa_cons pe_int (pa_cons (pe_glob (v := .int 100) (by rfl) T.g_MOST_CUTS ⟨_, rfl⟩) pa_nil))) pk_nil))) (pss_one ps_never) pss_nil)), ?_⟩
  refine g_start (σ := [some _]) rfl ?_
  repeat walk_at "ob"
  exact k
def momB (ns : List Int) : Bool := decide (∀ x ∈ ns, 0 ≤ x ∧ x ≤ 1000000000000) && (decide (ns.length ≤ 100) && upB ns)
/-- values that are judged as moments: no tuples, tuples of numbers, (True,) and (False,) -/
def sp_are_moments (K : Frag) : Sp := fun vs H Q E => vs.length = 1 ∧ ∃ v : V, vs = [v] ∧ ((NT K H v ∧ Q (.bl false) H) ∨
  ∃ (F : List (Addr × HO)) (G : List Ft) (p : Addr), v = .ref p ∧ Sy K F G H ∧ ((∃ b, SqT K H p [.bl b] ∧ ∀ H', Sy K F G H' → Q (.bl false) H') ∨
    ∃ ns : List Int, SqT K H p (ns.map V.int) ∧ ns.length ≤ 1000 ∧ ∀ H', Sy K F G H' → Q (.bl (momB ns)) H'))
theorem lens_step {c ms l : List Int} {i : Nat} {x : Int} (h : l[i]? = some x) {hr : Int} : lens c ms (l.drop i) i hr = if (i : Int) ∈ ms then (hr + x + c.getD i 0) :: lens c ms (l.drop (i + 1)) (i + 1) 0 else lens c ms (l.drop (i + 1)) (i + 1) (hr + x) := by
  obtain ⟨hl, e⟩ := List.getElem?_eq_some_iff.mp h
  rw [List.drop_eq_getElem_cons hl, e]
  rfl
def sp_lengths_of (K : Frag) : Sp := fun vs H Q E => vs.length = 2 ∧ ∃ (F : List (Addr × HO)) (G : List Ft) (p q : Addr) (wk : Work) (ms : List Int), vs = [.ref p, .ref q] ∧ Sy K F G H ∧ L2.Dp K H (.ref p) (workD wk) ∧ L2.Dp K H (.ref q) (intsD ms) ∧ WkOk wk ∧ MkOk wk ms ∧
  ∀ r H', Sy K ((r, .lst ((wk.len ms).map V.int)) :: F) G H' → Q (.ref r) H'
abbrev names_lengths_of : List Str := ["work", "marks", "ticks", "costs", "begin", "found", "length", "part", "taken"]
theorem sc_lengths_of : FnScope names_lengths_of ["work", "marks"] (defScope (top 20)) := ⟨rfl, rfl, rfl, by decide +kernel, rfl, by decide +kernel, by decide +kernel⟩
set_option maxHeartbeats 4000000 in
theorem ok_lengths_of (T : Tx K mg) : FG P w K mg base CX0 1 T.a_lengths_of T.d_lengths_of ["work", "marks"] (sp_lengths_of K) := by
  refine OB.Fun.fg T.F_lengths_of sc_lengths_of (fun vs H Q E h => h.1) (fun cdv A out s H vs Q E g h => ?_)
  obtain ⟨_, F, G, p, q, wk, ms, rfl, S, hd, hm, wo, ok, k⟩ := h
  refine ⟨_, (pss_cons (ps_asg (pv 0) (pg_tupK (K := K) rfl (n := 3) rfl (pgs_cons (pg_name (i := 2) sc_lengths_of.nd rfl (by first | exact Or.inl rfl | exact Or.inr rfl)) (pgs_cons (pg_name (i := 3) sc_lengths_of.nd rfl (by first | exact Or.inl rfl | exact Or.inr rfl)) (pgs_cons (pg_name (i := 4) sc_lengths_of.nd rfl (by first | exact Or.inl rfl | exact Or.inr rfl)) pgs_nil)))))
      (pss_cons (ps_par (i := 5) (j := 6) rfl sc_lengths_of.nd rfl rfl (by decide) rfl rfl (pa_cons (pe_lst pa_nil) (pa_cons pe_int pa_nil)) (by rfl))
      (pss_cons (ps_for PassesOwn.never rfl (pi_enumK (by rfl) T.n_enumerate (pa_cons (pv 2) pa_nil)) (pg_tupK (K := K) rfl (n := 2) rfl (pgs_cons (pg_name (i := 7) sc_lengths_of.nd rfl (by first | exact Or.inl rfl | exact Or.inr rfl)) (pgs_cons (pg_name (i := 8) sc_lengths_of.nd rfl (by first | exact Or.inl rfl | exact Or.inr rfl)) pgs_nil)))
      (pss_cons (ps_aug (i := 6) sc_lengths_of.nd rfl (by first | exact Or.inl rfl | exact Or.inr rfl) (pv 8) ip_add)
      (pss_one (ps_if (pt_cmpR (op_inK (K := K) rfl) (pv 7) (pv 1) (by rfl)) (pss_cons (ps_expr (pe_bm PySem.F.plainAttrs_list PySem.F.slot_list_append PySem.F.type_list_append mt_append (pv 5) (pa_cons (pe_op op_add (pv 6) (pe_ix (ix_UK (K := K) rfl) (pv 3) (pv 7) (fun _ _ => rfl))) pa_nil)))
      (pss_one (ps_set (i := 6) sc_lengths_of.nd rfl (by first | exact Or.inl rfl | exact Or.inr rfl) pe_int))) pss_nil))))
      (pss_one (ps_ret (pe_lst (StX.pa_star (pv 5) (pa_cons (pv 6) pa_nil)))))))), ?_⟩
  refine g_start (σ := [some _, some _, none, none, none, none, none, none, none]) rfl ?_
  obtain ⟨lp, cp, S1⟩ := Sy.work (S.add _ (dat_ints hm)) hd
  have S2 := S1.add (.tq lp (wk.l.map V.int)) (sqt_ints (S1.dp 1 rfl))
  clear S S1
  have hl : (wk.l.map V.int).length = wk.l.length := List.length_map ..
  have l1 := wo.l1
  repeat walk_at "ob"
  rename_i f H1 _ S3
  clear S2
  refine ⟨false, lp, _, rfl, S3.tqs 0 rfl, ?_⟩
  refine for_enumK (xs := wk.l.map V.int) (fun i σ' H' => ∃ v7 v8 pre h, σ' = [some (.ref p), some (.ref q), some (.ref lp), some (.ref cp), some (.int wk.b), some (.ref f), some (.int h), v7, v8] ∧ i ≤ wk.l.length ∧ pre.length ≤ i ∧ pre ++ lens wk.c ms (wk.l.drop i) i h = wk.len ms ∧
    Sy K ((f, .lst (pre.map V.int)) :: F) (.tq lp (wk.l.map V.int) :: .tq p [.ref lp, .ref cp, .int wk.b] :: .dat [.ref lp] [intsD wk.l] :: .dat [.ref cp] [intsD wk.c] :: .dat [.ref q] [intsD ms] :: G) H') ⟨none, none, [], 0, rfl, Nat.zero_le _, Nat.le_refl _, rfl, S3⟩ (fun i σ' H' ⟨_, _, _, _, _, _, _, _, S4⟩ => S4.tqs 0 rfl) ?_ ?_
  · rintro i x Tn σ' H' hx ⟨v7, v8, pre, h, rfl, hi, pl, e, S4⟩ hT
    refine g_pair S4 hT fun H2 S5 => ?_
    clear S3 S4
    rw [List.getElem?_map] at hx
    obtain ⟨r, hr, rfl⟩ := Option.map_eq_some_iff.mp hx
    have hi1 := (List.getElem?_eq_some_iff.mp hr).1
    rw [lens_step hr] at e
    repeat walk_at "ob"
    refine g_inT (sqt_ints (S5.dp 5 rfl)) ?_
    repeat walk_at "ob"
    refine g_iteD (fun h1 => ?_) (fun h1 => ?_)
    · have hci := (ok.mv _ h1).2
      have hce : wk.c[i]? = some (wk.c.getD i 0) := by
        rw [List.getD_eq_getElem?_getD, List.getElem?_eq_getElem (by omega)]
        rfl
      rw [if_pos h1] at e
      repeat walk_at "ob"
      refine g_ixUT (v := .int (wk.c.getD i 0)) (sqt_ints (S5.dp 4 rfl)) (atI_nn (by omega) (by rw [List.getElem?_map, Int.toNat_natCast, hce]; rfl)) ?_
      repeat walk_at "ob"
      refine g_appS S5 (f := 0) rfl (by rw [List.length_map]; omega) fun H3 S6 => ?_
      repeat walk_at "ob"
      refine ⟨_, _, pre ++ [h + r + wk.c.getD i 0], 0, rfl, hi1, by rw [List.length_append, List.length_singleton]; omega, by rw [List.append_assoc]; exact e, ?_⟩
      rw [List.map_append]
      exact S6.drop
    · rw [if_neg h1] at e
      repeat walk_at "ob"
      exact ⟨_, _, pre, h + r, rfl, hi1, by omega, e, S5.drop⟩
  · rintro σ' H' ⟨v7, v8, pre, h, rfl, hi, pl, e, S4⟩
    rw [hl, List.drop_length] at e
    rw [hl] at pl
    repeat walk_at "ob"
    refine ⟨f, _, rfl, .inr (SqL.of (S4.at 0 rfl)), ?_⟩
    repeat walk_at "ob"
    have em : pre.map V.int ++ [V.int h] = (wk.len ms).map V.int := by
      rw [← e, List.map_append]
      rfl
    rw [em]
    have lk := (Work.lok wo ok).ln
    refine g_newL S4 (by rw [List.length_map]; omega) fun r H2 _ S5 => ?_
    exact k r H2 S5.swap.less.drop.drop.drop.drop.drop
end
end LAW

set_option Elab.async false
set_option linter.all false
set_option maxRecDepth 100000
namespace LAW
open PySem PySem.Spec PyProof.Rows L2 PySem.W OB
local macro_rules | `(tactic| walk_at "obc") => `(tactic| first
  | exact Or.inl ⟨by omega, by omega⟩
  | exact Or.inr ⟨by omega, by omega⟩
  | exact cdiv_ok (by omega) (by omega)
  | (show (0 : Int) < _; omega)
  | exact ⟨by omega, by decide⟩
  | exact ⟨by decide, by decide⟩)
local macro_rules | `(tactic| walk_at "obat") => `(tactic| first
  | exact Sy.at (by assumption) 0 rfl | exact Sy.at (by assumption) 1 rfl | exact Sy.at (by assumption) 2 rfl | exact Sy.at (by assumption) 3 rfl
  | exact Sy.at (by assumption) 4 rfl | exact Sy.at (by assumption) 5 rfl | exact Sy.at (by assumption) 6 rfl | exact Sy.at (by assumption) _ (by assumption) | exact Sy.at (by assumption) (_ + 1) (by assumption) | exact Sy.at (by assumption) (_ + 2) (by assumption))
local macro_rules | `(tactic| walk_at "obt") => `(tactic| first
  | exact Sy.tqs (by assumption) 0 rfl | exact Sy.tqs (by assumption) 1 rfl | exact Sy.tqs (by assumption) 2 rfl | exact Sy.tqs (by assumption) 3 rfl | exact Sy.tqs (by assumption) 4 rfl | exact Sy.tqs (by assumption) 5 rfl
  | exact Sy.tqs (by assumption) 6 rfl | exact Sy.tqs (by assumption) 7 rfl | assumption)
local macro_rules | `(tactic| walk_at "obl") => `(tactic| first
  | exact SqL.of (by walk_at "obat")
  | exact Sy.sq (by assumption) 0 rfl | exact Sy.sq (by assumption) 1 rfl | exact Sy.sq (by assumption) 2 rfl | exact Sy.sq (by assumption) 3 rfl | exact Sy.sq (by assumption) _ (by assumption))
local macro_rules | `(tactic| walk_at "obd") => `(tactic| first
  | exact Dp.int _ | exact Dp.bl _ | exact Dp.str _ | exact Dp.non
  | exact Sy.dp (by assumption) 0 rfl | exact Sy.dp (by assumption) 1 rfl | exact Sy.dp (by assumption) 2 rfl | exact Sy.dp (by assumption) 3 rfl
  | exact Sy.dp (by assumption) 4 rfl | exact Sy.dp (by assumption) 5 rfl | exact Sy.dp (by assumption) 6 rfl | exact Sy.dp (by assumption) 7 rfl
  | exact Sy.dp (by assumption) 8 rfl | exact Sy.dp (by assumption) 9 rfl | exact Sy.dp (by assumption) _ (by assumption) | assumption)
local macro_rules | `(tactic| walk_at "obds") => `(tactic| first
  | exact DpAll.nil
  | (refine' DpAll.cons ?ob1 ?ob2; (case ob1 => walk_at "obd"); (case ob2 => walk_at "obds"))
  | exact Sy.dps (by assumption) 0 rfl | exact Sy.dps (by assumption) 1 rfl | exact Sy.dps (by assumption) 2 rfl | exact Sy.dps (by assumption) 3 rfl | assumption)
local macro_rules | `(tactic| walk_at "obsc") => `(tactic| first
  | exact ScL.nil
  | ((first | refine' ScL.int ?obz | refine' ScL.str ?obz | refine' ScL.bl ?obz | refine' ScL.non ?obz); (case obz => walk_at "obsc")))
local macro_rules | `(tactic| walk_at "ob1") => `(tactic| first
  | ((with_reducible refine' g_var ?obh ?_); (case obh => rfl))
  | with_reducible refine g_c ?_
  | with_reducible refine g_nx ?_
  | with_reducible refine g_rt ?_
  | with_reducible refine g_bk ?_
  | with_reducible refine g_ct ?_
  | with_reducible refine g_op ?_
  | with_reducible refine g_I0 ?_
  | with_reducible refine g_test ?_
  | with_reducible refine g_bl ?_
  | with_reducible refine g_blx ?_
  | with_reducible refine g_B ?_
  | with_reducible refine g_seq ?_
  | with_reducible refine g_asg ?_
  | with_reducible refine g_name ?_
  | with_reducible refine g_ifS ?_
  | with_reducible refine g_ret ?_
  | with_reducible refine g_cb ?_
  | with_reducible refine g_cons ?_
  | with_reducible refine g_nil ?_
  | with_reducible refine g_int ?_
  | with_reducible refine g_intB ?_
  | with_reducible refine g_abs ?_
  | with_reducible refine g_max ?_
  | with_reducible refine g_min ?_
  | with_reducible refine g_un ?_
  | with_reducible refine g_U ?_
  | with_reducible refine g_eqI ?_
  | with_reducible refine g_neI ?_
  | with_reducible refine g_eqS ?_
  | with_reducible refine g_neS ?_
  | with_reducible refine g_tt ?_
  | with_reducible refine g_ff ?_
  | with_reducible refine g_next ?_
  | with_reducible refine g_drop ?_
  | with_reducible refine g_if ?_
  | with_reducible refine g_andV ?_
  | with_reducible refine g_orV ?_
  | with_reducible refine g_notV ?_
  | with_reducible refine g_and ?_
  | with_reducible refine g_or ?_
  | with_reducible refine g_not ?_
  | with_reducible refine g_yes ?_
  | with_reducible refine g_chain ?_
  | with_reducible refine g_cg ?_
  | with_reducible refine g_mg ?_
  | with_reducible refine g_kg ?_
  | with_reducible refine g_pg ?_
  | ((with_reducible refine' g_call ?obh ?obj ?_); (case obh => rfl); (case obj => rfl))
  | with_reducible refine g_par ?_
  | with_reducible refine g_par2 ?_
  | with_reducible refine g_par3 ?_
  | with_reducible refine g_par33 ?_
  | with_reducible refine g_gnil ?_
  | with_reducible refine g_gcons ?_
  | with_reducible refine g_gsub ?_
  | with_reducible refine g_ipI ?_
  | with_reducible refine g_rAdd ?_
  | with_reducible refine g_rSub ?_
  | ((with_reducible refine' g_aug ?obh ?_); (case obh => rfl))
  | with_reducible refine g_tup ?_
  | with_reducible refine g_lst ?_
  | with_reducible refine g_bm ?_
  | with_reducible refine g_bm0 ?_
  | with_reducible refine g_sl ?_
  | with_reducible refine g_nopart ?_
  | with_reducible refine g_part ?_
  | with_reducible refine g_pint ?_
  | with_reducible refine isi_int ?_
  | with_reducible refine isi_intB ?_
  | ((with_reducible refine' g_I ?obh ?_); (case obh => walk_at "obc"))
  | ((with_reducible refine' g_tyl ?obh ?_); (case obh => walk_at "obl"))
  | ((with_reducible refine' g_lenL ?obh ?_); (case obh => walk_at "obl"))
  | with_reducible refine g_ne ?_
  | ((with_reducible refine' g_neN' ?obh ?_); (case obh => rfl))
  | with_reducible refine g_ntt ?_
  | with_reducible refine g_nff ?_
  | with_reducible refine g_star ?_
  | with_reducible refine g_att ?_
  | with_reducible refine g_sfld ?_
  | with_reducible refine g_faug ?_
  | with_reducible refine g_fld ?_
  | ((with_reducible refine' g_nF ?obh ?_); (case obh => omega))
  | ((with_reducible refine' g_nT ?obh ?_); (case obh => omega))
  | ((with_reducible refine' g_TD ?obh ?_); (case obh => omega))
  | ((with_reducible refine' g_FD ?obh ?_); (case obh => omega))
  | ((with_reducible refine' g_ixUL ?obh ?obi ?_); (case obh => walk_at "obl"); (case obi => exact atI_nn (by omega) (by rfl)))
  | ((with_reducible refine' g_setLS ?obs ?obh ?obi ?_); (case obs => assumption); (case obh => assumption); (case obi => rfl); intro _ _ _)
  | ((with_reducible refine' g_newT ?obs ?obh ?obi ?obj ?_); (case obs => assumption); (case obh => walk_at "obds"); (case obi => rfl); (case obj => exact Nat.le_of_ble_eq_true rfl); intro _ _ _ _)
  | ((with_reducible refine' g_newL ?obs ?obj ?_); (case obs => assumption); (case obj => exact Nat.le_of_ble_eq_true rfl); intro _ _ _ _)
  | ((with_reducible refine' isi_tup ?obh ?_); (case obh => walk_at "obt"))
  | ((with_reducible refine' g_lenT ?obh ?_); (case obh => walk_at "obt"))
  | ((with_reducible refine' g_unpT ?obh ?obi ?_); (case obh => walk_at "obt"); (case obi => rfl))
  | ((with_reducible refine' g_divmod ?obs ?obh ?_); (case obs => assumption); (case obh => exact cdivp_ok (by omega) (by omega) (by omega)); intro _ _ _ _)
  | ((with_reducible refine' g_unpD ?obh ?obi ?obj ?_); (case obh => walk_at "obd"); (case obi => walk_at "obsc"); (case obj => rfl))
  | with_reducible refine g_att ?_)
local macro_rules | `(tactic| walk_at "ob") => `(tactic| first
  | walk_at "ob1"
  | refine use_is_integer ?_
  | refine use_is_within ?_
  | with_reducible refine g_lstRg ?_
  | with_reducible refine g_rg1 ?_
  | with_reducible refine g_rg2 ?_
  | with_reducible refine g_tTru ?_
  | ((with_reducible refine' g_truL ?obh ?_); (case obh => walk_at "obl"))
  | ((with_reducible refine' g_ixUT ?obh ?obi ?_); (case obh => walk_at "obt"); (case obi => rfl))
  | with_reducible refine g_forZ ?_
  | with_reducible refine g_forR2 ?_
  | with_reducible refine g_forE ?_
  | with_reducible refine g_lcZ ?_)
section
variable {P : Program} {w : World} {K : Frag} {mg : Str → Option Value} {base : Heap}
theorem use_lengths {F : List (Addr × HO)} {G : List Ft} {H : Hp} {Q : VK} {E : XK} {p q : Addr} {wk : Work} {ms : List Int} (S : Sy K F G H) (hd : L2.Dp K H (.ref p) (workD wk)) (hm : L2.Dp K H (.ref q) (intsD ms)) (wo : WkOk wk) (ok : MkOk wk ms)
    (k : ∀ r H', Sy K ((r, .lst ((wk.len ms).map V.int)) :: F) G H' → Q (.ref r) H') : sp_lengths_of K [.ref p, .ref q] H Q E := ⟨rfl, F, G, p, q, wk, ms, rfl, S, hd, hm, wo, ok, k⟩
theorem runT_drop {b : Int} {L : List Int} {j : Nat} {x now : Int} {r : List Int} (h : L[j]? = some x) : runT b (L.drop j) now r = fin b x (L.drop (j + 1)) (now + x) r := by
  obtain ⟨hl, e⟩ := List.getElem?_eq_some_iff.mp h
  rw [List.drop_eq_getElem_cons hl, e]
  rfl
theorem fin_stop {b x e : Int} {L r : List Int} (h : ∀ m s, r = m :: s → ¬ m < e) : fin b x L e r = runT b L e r := by
  cases r with
  | nil => rfl
  | cons m s =>
    unfold fin
    rw [show cutW b x e (m :: s) = (e, m :: s) by
      unfold cutW
      rw [if_neg (h m s rfl)]]
def sp_time_at (K : Frag) : Sp := fun vs H Q E => vs.length = 3 ∧ ∃ (F : List (Addr × HO)) (G : List Ft) (p q m : Addr) (wk : Work) (ms ns : List Int), vs = [.ref p, .ref q, .ref m] ∧ Sy K F G H ∧ L2.Dp K H (.ref p) (workD wk) ∧ L2.Dp K H (.ref q) (intsD ms) ∧ SqT K H m (ns.map V.int) ∧ WkOk wk ∧ MkOk wk ms ∧ ns.length ≤ 1000 ∧
  ∀ H', Sy K F G H' → Q (.int (runT wk.b (wk.len ms) 0 ns)) H'
end
end LAW

set_option Elab.async false
set_option linter.all false
set_option maxRecDepth 100000
namespace LAW
open PySem PySem.Spec PyProof.Rows L2 PySem.W OB
local macro_rules | `(tactic| walk_at "obc") => `(tactic| first
  | exact Or.inl ⟨by omega, by omega⟩
  | exact Or.inr ⟨by omega, by omega⟩
  | exact cdiv_ok (by omega) (by omega)
  | (show (0 : Int) < _; omega)
  | exact ⟨by omega, by decide⟩
  | exact ⟨by decide, by decide⟩)
local macro_rules | `(tactic| walk_at "obat") => `(tactic| first
  | exact Sy.at (by assumption) 0 rfl | exact Sy.at (by assumption) 1 rfl | exact Sy.at (by assumption) 2 rfl | exact Sy.at (by assumption) 3 rfl
  | exact Sy.at (by assumption) 4 rfl | exact Sy.at (by assumption) 5 rfl | exact Sy.at (by assumption) 6 rfl | exact Sy.at (by assumption) _ (by assumption) | exact Sy.at (by assumption) (_ + 1) (by assumption) | exact Sy.at (by assumption) (_ + 2) (by assumption))
local macro_rules | `(tactic| walk_at "obt") => `(tactic| first
  | exact Sy.tqs (by assumption) 0 rfl | exact Sy.tqs (by assumption) 1 rfl | exact Sy.tqs (by assumption) 2 rfl | exact Sy.tqs (by assumption) 3 rfl | exact Sy.tqs (by assumption) 4 rfl | exact Sy.tqs (by assumption) 5 rfl
  | exact Sy.tqs (by assumption) 6 rfl | exact Sy.tqs (by assumption) 7 rfl | assumption)
local macro_rules | `(tactic| walk_at "obl") => `(tactic| first
  | exact SqL.of (by walk_at "obat")
  | exact Sy.sq (by assumption) 0 rfl | exact Sy.sq (by assumption) 1 rfl | exact Sy.sq (by assumption) 2 rfl | exact Sy.sq (by assumption) 3 rfl | exact Sy.sq (by assumption) _ (by assumption))
local macro_rules | `(tactic| walk_at "obd") => `(tactic| first
  | exact Dp.int _ | exact Dp.bl _ | exact Dp.str _ | exact Dp.non
  | exact Sy.dp (by assumption) 0 rfl | exact Sy.dp (by assumption) 1 rfl | exact Sy.dp (by assumption) 2 rfl | exact Sy.dp (by assumption) 3 rfl
  | exact Sy.dp (by assumption) 4 rfl | exact Sy.dp (by assumption) 5 rfl | exact Sy.dp (by assumption) 6 rfl | exact Sy.dp (by assumption) 7 rfl
  | exact Sy.dp (by assumption) 8 rfl | exact Sy.dp (by assumption) 9 rfl | exact Sy.dp (by assumption) _ (by assumption) | assumption)
local macro_rules | `(tactic| walk_at "obds") => `(tactic| first
  | exact DpAll.nil
  | (refine' DpAll.cons ?ob1 ?ob2; (case ob1 => walk_at "obd"); (case ob2 => walk_at "obds"))
  | exact Sy.dps (by assumption) 0 rfl | exact Sy.dps (by assumption) 1 rfl | exact Sy.dps (by assumption) 2 rfl | exact Sy.dps (by assumption) 3 rfl | assumption)
local macro_rules | `(tactic| walk_at "obsc") => `(tactic| first
  | exact ScL.nil
  | ((first | refine' ScL.int ?obz | refine' ScL.str ?obz | refine' ScL.bl ?obz | refine' ScL.non ?obz); (case obz => walk_at "obsc")))
local macro_rules | `(tactic| walk_at "ob1") => `(tactic| first
  | ((with_reducible refine' g_var ?obh ?_); (case obh => rfl))
  | with_reducible refine g_c ?_
  | with_reducible refine g_nx ?_
  | with_reducible refine g_rt ?_
  | with_reducible refine g_bk ?_
  | with_reducible refine g_ct ?_
  | with_reducible refine g_op ?_
  | with_reducible refine g_I0 ?_
  | with_reducible refine g_test ?_
  | with_reducible refine g_bl ?_
  | with_reducible refine g_blx ?_
  | with_reducible refine g_B ?_
  | with_reducible refine g_seq ?_
  | with_reducible refine g_asg ?_
  | with_reducible refine g_name ?_
  | with_reducible refine g_ifS ?_
  | with_reducible refine g_ret ?_
  | with_reducible refine g_cb ?_
  | with_reducible refine g_cons ?_
  | with_reducible refine g_nil ?_
  | with_reducible refine g_int ?_
  | with_reducible refine g_intB ?_
  | with_reducible refine g_abs ?_
  | with_reducible refine g_max ?_
  | with_reducible refine g_min ?_
  | with_reducible refine g_un ?_
  | with_reducible refine g_U ?_
  | with_reducible refine g_eqI ?_
  | with_reducible refine g_neI ?_
  | with_reducible refine g_eqS ?_
  | with_reducible refine g_neS ?_
  | with_reducible refine g_tt ?_
  | with_reducible refine g_ff ?_
  | with_reducible refine g_next ?_
  | with_reducible refine g_drop ?_
  | with_reducible refine g_if ?_
  | with_reducible refine g_andV ?_
  | with_reducible refine g_orV ?_
  | with_reducible refine g_notV ?_
  | with_reducible refine g_and ?_
  | with_reducible refine g_or ?_
  | with_reducible refine g_not ?_
  | with_reducible refine g_yes ?_
  | with_reducible refine g_chain ?_
  | with_reducible refine g_cg ?_
  | with_reducible refine g_mg ?_
  | with_reducible refine g_kg ?_
  | with_reducible refine g_pg ?_
  | ((with_reducible refine' g_call ?obh ?obj ?_); (case obh => rfl); (case obj => rfl))
  | with_reducible refine g_par ?_
  | with_reducible refine g_par2 ?_
  | with_reducible refine g_par3 ?_
  | with_reducible refine g_par33 ?_
  | with_reducible refine g_gnil ?_
  | with_reducible refine g_gcons ?_
  | with_reducible refine g_gsub ?_
  | with_reducible refine g_ipI ?_
  | with_reducible refine g_rAdd ?_
  | with_reducible refine g_rSub ?_
  | ((with_reducible refine' g_aug ?obh ?_); (case obh => rfl))
  | with_reducible refine g_tup ?_
  | with_reducible refine g_lst ?_
  | with_reducible refine g_bm ?_
  | with_reducible refine g_bm0 ?_
  | with_reducible refine g_sl ?_
  | with_reducible refine g_nopart ?_
  | with_reducible refine g_part ?_
  | with_reducible refine g_pint ?_
  | with_reducible refine isi_int ?_
  | with_reducible refine isi_intB ?_
  | ((with_reducible refine' g_I ?obh ?_); (case obh => walk_at "obc"))
  | ((with_reducible refine' g_tyl ?obh ?_); (case obh => walk_at "obl"))
  | ((with_reducible refine' g_lenL ?obh ?_); (case obh => walk_at "obl"))
  | with_reducible refine g_ne ?_
  | ((with_reducible refine' g_neN' ?obh ?_); (case obh => rfl))
  | with_reducible refine g_ntt ?_
  | with_reducible refine g_nff ?_
  | with_reducible refine g_star ?_
  | with_reducible refine g_att ?_
  | with_reducible refine g_sfld ?_
  | with_reducible refine g_faug ?_
  | with_reducible refine g_fld ?_
  | ((with_reducible refine' g_nF ?obh ?_); (case obh => omega))
  | ((with_reducible refine' g_nT ?obh ?_); (case obh => omega))
  | ((with_reducible refine' g_TD ?obh ?_); (case obh => omega))
  | ((with_reducible refine' g_FD ?obh ?_); (case obh => omega))
  | ((with_reducible refine' g_ixUL ?obh ?obi ?_); (case obh => walk_at "obl"); (case obi => exact atI_nn (by omega) (by rfl)))
  | ((with_reducible refine' g_setLS ?obs ?obh ?obi ?_); (case obs => assumption); (case obh => assumption); (case obi => rfl); intro _ _ _)
  | ((with_reducible refine' g_newT ?obs ?obh ?obi ?obj ?_); (case obs => assumption); (case obh => walk_at "obds"); (case obi => rfl); (case obj => exact Nat.le_of_ble_eq_true rfl); intro _ _ _ _)
  | ((with_reducible refine' g_newL ?obs ?obj ?_); (case obs => assumption); (case obj => exact Nat.le_of_ble_eq_true rfl); intro _ _ _ _)
  | ((with_reducible refine' isi_tup ?obh ?_); (case obh => walk_at "obt"))
  | ((with_reducible refine' g_lenT ?obh ?_); (case obh => walk_at "obt"))
  | ((with_reducible refine' g_unpT ?obh ?obi ?_); (case obh => walk_at "obt"); (case obi => rfl))
  | ((with_reducible refine' g_divmod ?obs ?obh ?_); (case obs => assumption); (case obh => exact cdivp_ok (by omega) (by omega) (by omega)); intro _ _ _ _)
  | ((with_reducible refine' g_unpD ?obh ?obi ?obj ?_); (case obh => walk_at "obd"); (case obi => walk_at "obsc"); (case obj => rfl))
  | with_reducible refine g_att ?_)
local macro_rules | `(tactic| walk_at "ob") => `(tactic| first
  | walk_at "ob1"
  | refine use_is_integer ?_
  | refine use_is_within ?_
  | with_reducible refine g_lstRg ?_
  | with_reducible refine g_rg1 ?_
  | with_reducible refine g_rg2 ?_
  | with_reducible refine g_tTru ?_
  | ((with_reducible refine' g_truL ?obh ?_); (case obh => walk_at "obl"))
  | ((with_reducible refine' g_ixUT ?obh ?obi ?_); (case obh => walk_at "obt"); (case obi => rfl))
  | with_reducible refine g_forZ ?_
  | with_reducible refine g_forR2 ?_
  | with_reducible refine g_forE ?_
  | with_reducible refine g_lcZ ?_)
section
variable {P : Program} {w : World} {K : Frag} {mg : Str → Option Value} {base : Heap}
/-! ### the greatest -/
def mx (L : List Int) : Int := L.foldr (fun x m => if m ≤ x then x else m) 0
theorem mx_cons {x : Int} {L : List Int} : mx (x :: L) = if mx L ≤ x then x else mx L := rfl
theorem mx_le : ∀ {L : List Int}, ∀ y ∈ L, y ≤ mx L
  | [], y, h => nomatch h
  | x :: L, y, h => by
    rw [mx_cons]
    rcases List.mem_cons.mp h with rfl | h
    · split <;> omega
    · have := mx_le y h
      split <;> omega
theorem mx_mem : ∀ {L : List Int}, L ≠ [] → (∀ x ∈ L, 1 ≤ x) → mx L ∈ L
  | [], h, _ => absurd rfl h
  | [x], _, h => by
    have := h x (List.mem_cons_self ..)
    rw [mx_cons, if_pos (show mx [] ≤ x by show 0 ≤ x; omega)]
    exact List.mem_cons_self ..
  | x :: y :: L, _, h => by
    have ih := mx_mem (L := y :: L) (List.cons_ne_nil _ _) fun z hz => h z (List.mem_cons_of_mem _ hz)
    rw [mx_cons]
    split
    · exact List.mem_cons_self ..
    · exact List.mem_cons_of_mem _ ih
theorem mx_eq {L : List Int} {M : Int} (h1 : M ∈ L) (h2 : ∀ y, y ∈ L → y ≤ M) (p : ∀ x ∈ L, 1 ≤ x) : M = mx L := by
  have a := mx_le M h1
  have b := h2 _ (mx_mem (fun z => by rw [z] at h1; cases h1) p)
  omega
theorem LsOk.mx {L : List Int} (o : LsOk L) : 1 ≤ mx L ∧ mx L ≤ 48 := o.v1 _ (mx_mem o.ne fun x hx => (o.v1 x hx).1)
theorem LsOk.pos {L : List Int} (o : LsOk L) : 0 < L.length := by
  cases L with
  | nil => exact absurd rfl o.ne
  | cons x L => exact Nat.succ_pos _
theorem LsOk.s0 {L : List Int} (o : LsOk L) : 0 ≤ L.sum := by
  have := le_sum (fun x hx => (o.v1 x hx).1) _ (mx_mem o.ne fun x hx => (o.v1 x hx).1)
  have := o.mx
  omega
def sp_worst_by (K : Frag) : Sp := fun vs H Q E => vs.length = 3 ∧ ∃ (F : List (Addr × HO)) (G : List Ft) (p r : Addr) (i : Nat) (wk : Work) (L : List Int) (k : Int), vs = [.ref p, .ref r, .int k] ∧ Sy K F G H ∧ L2.Dp K H (.ref p) (workD wk) ∧ F[i]? = some (r, .lst (L.map V.int)) ∧ WkOk wk ∧ LsOk L ∧ 0 ≤ k ∧ k ≤ 100 ∧ Q (.int (worst wk.b L (mx L) k)) H
abbrev names_worst_by : List Str := ["work", "lengths", "cuts"]
theorem sc_worst_by : FnScope names_worst_by ["work", "lengths", "cuts"] (defScope (top 21)) := ⟨rfl, rfl, rfl, by decide +kernel, rfl, by decide +kernel, by decide +kernel⟩
set_option maxHeartbeats 4000000 in
theorem ok_worst_by (T : Tx K mg) : FG P w K mg base CX0 1 T.a_worst_by T.d_worst_by ["work", "lengths", "cuts"] (sp_worst_by K) := by
  refine OB.Fun.fg T.F_worst_by sc_worst_by (fun vs H Q E h => h.1) (fun cdv A out s H vs Q E g h => ?_)
  obtain ⟨_, F, G, p, r, i, wk, L, c, rfl, S, hd, hL, wo, lk, c0, c1, k⟩ := h
  refine ⟨_, (pss_one (ps_ret (pe_op op_add (pe_callB (toK (r := rSum) (K := K) rfl (cr_sum rfl)) (by rfl) T.n_sum (by decide +kernel) (pa_cons (pv 1) pa_nil)) (pe_op op_mul (pv 2) (pe_op op_sub (pe_op op_add (pe_ix (ix_UK (K := K) rfl) (pv 0) pe_int (fun _ _ => rfl)) (pe_callB (toK (r := OB.rMaxU) (K := K) rfl (c_maxU rfl)) (by rfl) T.n_max (by decide +kernel) (pa_cons (pv 1) pa_nil))) pe_int))))), ?_⟩
  refine g_start (σ := [some _, some _, some _]) rfl ?_
  obtain ⟨lp, cp, S1⟩ := Sy.work S hd
  have b0 := wo.b0
  have m0 := lk.mx
  repeat walk_at "ob"
  refine g_sum (SqL.of (S1.at i hL)) ?_
  repeat walk_at "ob"
  refine g_maxUL (SqL.of (S1.at i hL)) lk.pos fun m h1 h2 => ?_
  rw [mx_eq h1 h2 fun x hx => (lk.v1 x hx).1]
  repeat walk_at "ob"
  exact k
def sp_worst_at (K : Frag) : Sp := fun vs H Q E => vs.length = 3 ∧ ∃ (F : List (Addr × HO)) (G : List Ft) (p q : Addr) (wk : Work) (ms : List Int) (k : Int), vs = [.ref p, .ref q, .int k] ∧ Sy K F G H ∧ L2.Dp K H (.ref p) (workD wk) ∧ L2.Dp K H (.ref q) (intsD ms) ∧ WkOk wk ∧ MkOk wk ms ∧ 0 ≤ k ∧ k ≤ 100 ∧
  ∀ H', Sy K F G H' → Q (.int (worst wk.b (wk.len ms) (mx (wk.len ms)) k)) H'
abbrev names_worst_at : List Str := ["work", "marks", "cuts"]
theorem sc_worst_at : FnScope names_worst_at ["work", "marks", "cuts"] (defScope (top 22)) := ⟨rfl, rfl, rfl, by decide +kernel, rfl, by decide +kernel, by decide +kernel⟩
set_option maxHeartbeats 4000000 in
theorem ok_worst_at (T : Tx K mg) : FG P w K mg base CX0 2 T.a_worst_at T.d_worst_at ["work", "marks", "cuts"] (sp_worst_at K) := by
  refine OB.Fun.fg T.F_worst_at sc_worst_at (fun vs H Q E h => h.1) (fun cdv A out s H vs Q E g h => ?_)
  obtain ⟨_, F, G, p, q, wk, ms, c, rfl, S, hd, hm, wo, ok, c0, c1, k⟩ := h
  refine ⟨_, (pss_one (ps_ret (pe_cg (ok_worst_by T) (g.mono (by decide : 1 ≤ 1)) (by rfl) T.m_worst_by T.F_worst_by.kp (OB.Fun.bd T.F_worst_by (ps := ["work", "lengths", "cuts"]) (n := 3) (ks := []) (ix := [0, 1, 2]) (fun _ _ _ _ _ _ us ws h1 h2 => match us, ws, h1, h2 with | [_, _, _], [], _, _ => rfl)) pass0 (pa_cons (pv 0) (pa_cons (pe_cg (ok_lengths_of T) (g.mono (by decide : 1 ≤ 1)) (by rfl) T.m_lengths_of T.F_lengths_of.kp (OB.Fun.bd T.F_lengths_of (ps := ["work", "marks"]) (n := 2) (ks := []) (ix := [0, 1]) (fun _ _ _ _ _ _ us ws h1 h2 => match us, ws, h1, h2 with | [_, _], [], _, _ => rfl)) pass0 (pa_cons (pv 0) (pa_cons (pv 1) pa_nil)) pk_nil) (pa_cons (pv 2) pa_nil))) pk_nil))), ?_⟩
  refine g_start (σ := [some _, some _, some _]) rfl ?_
  have S1 := (S.add _ (dat_work hd)).add _ (dat_ints hm)
  repeat walk_at "ob"
  refine use_lengths S1 (S1.dp 1 rfl) (S1.dp 0 rfl) wo ok fun r H2 S2 => ?_
  repeat walk_at "ob"
  refine ⟨rfl, _, _, p, r, 0, wk, _, c, rfl, S2, S2.dp 1 rfl, rfl, wo, Work.lok wo ok, c0, c1, ?_⟩
  exact k _ S2.less.drop.drop
def sp_stretches (K : Frag) : Sp := fun vs H Q E => vs.length = 2 ∧ ∃ (F : List (Addr × HO)) (G : List Ft) (p q : Addr) (wk : Work) (ms : List Int), vs = [.ref p, .ref q] ∧ Sy K F G H ∧ L2.Dp K H (.ref p) (workD wk) ∧ L2.Dp K H (.ref q) (intsD ms) ∧ WkOk wk ∧ MkOk wk ms ∧ ms.length ≤ 1000 ∧
  ∀ r H', Sy K F (.dat [.ref r] [intsD (wk.len ms)] :: G) H' → Q (.ref r) H'
theorem use_check_work {F : List (Addr × HO)} {G : List Ft} {H : Hp} {Q : VK} {E : XK} {p : Addr} {wk : Work} (S : Sy K F G H) (hd : L2.Dp K H (.ref p) (workD wk)) (wo : WkOk wk) (k : ∀ H', Sy K F G H' → Q .non H') : sp_check_work K [.ref p] H Q E := ⟨rfl, F, G, p, wk, rfl, S, hd, wo, k⟩
theorem use_check_marks {F : List (Addr × HO)} {G : List Ft} {H : Hp} {Q : VK} {E : XK} {p q : Addr} {wk : Work} {ms : List Int} (S : Sy K F G H) (hd : L2.Dp K H (.ref p) (workD wk)) (hm : L2.Dp K H (.ref q) (intsD ms)) (ok : MkOk wk ms) (ml : ms.length ≤ 1000) (k : ∀ H', Sy K F G H' → Q .non H') : sp_check_marks K [.ref p, .ref q] H Q E := ⟨rfl, F, G, p, q, wk, ms, rfl, S, hd, hm, ok, ml, k⟩
def sp_longest (K : Frag) : Sp := fun vs H Q E => vs.length = 2 ∧ ∃ (F : List (Addr × HO)) (G : List Ft) (p q : Addr) (wk : Work) (ms : List Int), vs = [.ref p, .ref q] ∧ Sy K F G H ∧ L2.Dp K H (.ref p) (workD wk) ∧ L2.Dp K H (.ref q) (intsD ms) ∧ WkOk wk ∧ MkOk wk ms ∧ ms.length ≤ 1000 ∧
  ∀ H', Sy K F G H' → Q (.int (mx (wk.len ms))) H'
def sp_run_time (K : Frag) : Sp := fun vs H Q E => vs.length = 3 ∧ ∃ (F : List (Addr × HO)) (G : List Ft) (p q m : Addr) (wk : Work) (ms ns : List Int), vs = [.ref p, .ref q, .ref m] ∧ Sy K F G H ∧ L2.Dp K H (.ref p) (workD wk) ∧ L2.Dp K H (.ref q) (intsD ms) ∧ L2.Dp K H (.ref m) (intsD ns) ∧ WkOk wk ∧ MkOk wk ms ∧ ms.length ≤ 1000 ∧ ns.length ≤ 1000 ∧ momB ns = true ∧
  ∀ H', Sy K F G H' → Q (.int (runT wk.b (wk.len ms) 0 ns)) H'
def sp_worst_time (K : Frag) : Sp := fun vs H Q E => vs.length = 3 ∧ ∃ (F : List (Addr × HO)) (G : List Ft) (p q : Addr) (wk : Work) (ms : List Int) (k : Int), vs = [.ref p, .ref q, .int k] ∧ Sy K F G H ∧ L2.Dp K H (.ref p) (workD wk) ∧ L2.Dp K H (.ref q) (intsD ms) ∧ WkOk wk ∧ MkOk wk ms ∧ ms.length ≤ 1000 ∧ 0 ≤ k ∧ k ≤ 100 ∧
  ∀ H', Sy K F G H' → Q (.int (worst wk.b (wk.len ms) (mx (wk.len ms)) k)) H'
/-- what worst_moments tells -/
def WmIs (b : Int) (L : List Int) (k : Int) (t : List Int) : Prop := (t = [] ∧ b + mx L - 1 = 0) ∨ ∃ j : Nat, L[j]? = some (mx L) ∧ b + mx L - 1 ≠ 0 ∧ t = wms ((L.take j).sum + mx L - 1) (b + mx L - 1) k.toNat
theorem first_ix {L : List Int} {a : Int} (h : a ∈ L) : ∃ j : Nat, L[j]? = some a ∧ ∀ (m : Nat) (z : Int), m < j → L[m]? = some z → z ≠ a := by
  induction L with
  | nil => cases h
  | cons x L ih =>
    by_cases e : x = a
    · subst e
      exact ⟨0, rfl, fun m z hm => absurd hm (Nat.not_lt_zero _)⟩
    · have h2 : a ∈ L := by
        rcases List.mem_cons.mp h with q | q
        · exact absurd q.symm e
        · exact q
      obtain ⟨j, hj, hn⟩ := ih h2
      refine ⟨j + 1, hj, fun m z hm hz => ?_⟩
      cases m with
      | zero =>
        cases (show some x = some z from hz)
        exact e
      | succ m => exact hn m z (by omega) hz
theorem cut_take {L : List Int} {j : Nat} (h : j ≤ L.length) : cutV (L.map V.int) none (some (j : Int)) = (L.take j).map V.int := by
  unfold cutV
  rw [HT.sIx_none, HT.sIx_nat, List.length_map, List.drop_zero, Nat.min_eq_left h, Nat.sub_zero, List.map_take]
def sp_worst_moments (K : Frag) : Sp := fun vs H Q E => vs.length = 3 ∧ ∃ (F : List (Addr × HO)) (G : List Ft) (p q : Addr) (wk : Work) (ms : List Int) (k : Int), vs = [.ref p, .ref q, .int k] ∧ Sy K F G H ∧ L2.Dp K H (.ref p) (workD wk) ∧ L2.Dp K H (.ref q) (intsD ms) ∧ WkOk wk ∧ MkOk wk ms ∧ ms.length ≤ 1000 ∧ 0 ≤ k ∧ k ≤ 100 ∧
  ∀ t r H', WmIs wk.b (wk.len ms) k t → Sy K F (.dat [.ref r] [intsD t] :: G) H' → Q (.ref r) H'
def sp_shows_worst (K : Frag) : Sp := fun vs H Q E => vs.length = 4 ∧ ∃ (F : List (Addr × HO)) (G : List Ft) (p q : Addr) (wk : Work) (ms : List Int) (k : Int) (v : V), vs = [.ref p, .ref q, .int k, v] ∧ Sy K F G H ∧ L2.Dp K H (.ref p) (workD wk) ∧ L2.Dp K H (.ref q) (intsD ms) ∧ WkOk wk ∧ MkOk wk ms ∧ ms.length ≤ 1000 ∧ 0 ≤ k ∧ k ≤ 100 ∧
  (((∀ H', Sy K F G H' → NT K H' v) ∧ ∀ H', Sy K F G H' → Q (.bl false) H') ∨ (∃ m b, v = .ref m ∧ (∀ H', Sy K F G H' → SqT K H' m [.bl b]) ∧ ∀ H', Sy K F G H' → Q (.bl false) H') ∨
    ∃ m ns, v = .ref m ∧ L2.Dp K H (.ref m) (intsD ns) ∧ ns.length ≤ 1000 ∧ ∀ H', Sy K F G H' → Q (.bl (momB ns && (decide (ns.length ≤ k) && decide (runT wk.b (wk.len ms) 0 ns = worst wk.b (wk.len ms) (mx (wk.len ms)) k)))) H')
end
end LAW

set_option Elab.async false
set_option linter.all false
namespace LAW
/-! ### marks as ways from place to place -/
def pre (l : List Int) (q : Nat) : Int := (l.take q).sum
def cst (c : List Int) (q : Nat) : Int := (c ++ [0]).getD (q - 1) 0
/-- the length of a stretch from place a to place q -/
def edge (w : Work) (a q : Nat) : Int := pre w.l q - pre w.l a + cst w.c q
/-- ways: the places gone by (the last one first), what their marks cost -/
inductive Way (w : Work) (most : Int) : Nat → List Nat → Int → Prop
  | nil : Way w most 0 [] 0
  | step {a q : Nat} {ps : List Nat} {k : Int} : Way w most a ps k → a < q → edge w a q ≤ most → Way w most q (a :: ps) (k + cst w.c q)
def costM (c ms : List Int) : Int := (ms.map fun m => c.getD m.toNat 0).sum
theorem pre_zero {l : List Int} : pre l 0 = 0 := rfl
theorem pre_succ {l : List Int} {q : Nat} {x : Int} (h : l[q]? = some x) : pre l (q + 1) = pre l q + x := by
  unfold pre
  rw [List.take_add_one, h, List.sum_append]
  simp
theorem cst_in {c : List Int} {m : Nat} (h : m < c.length) : cst c (m + 1) = c.getD m 0 := by
  unfold cst
  rw [show m + 1 - 1 = m by omega, List.getD_eq_getElem?_getD, List.getD_eq_getElem?_getD, List.getElem?_append_left h]
theorem cst_end {c : List Int} : cst c (c.length + 1) = 0 := by
  unfold cst
  rw [show c.length + 1 - 1 = c.length by omega, List.getD_eq_getElem?_getD, List.getElem?_append_right (Nat.le_refl _), Nat.sub_self]
  rfl
/-- no mark from p on: one stretch -/
theorem lens_none {c ms : List Int} : ∀ {l : List Int} {p : Nat} {h : Int}, (∀ m ∈ ms, m < p) → lens c ms l p h = [h + l.sum]
  | [], p, h, _ => by
    show [h] = [h + 0]
    rw [Int.add_zero]
  | x :: l, p, h, hm => by
    unfold lens
    rw [if_neg (fun z => by have := hm _ z; omega), lens_none fun m hx => by have := hm m hx; omega, List.sum_cons]
    congr 1
    omega
/-- the next mark at p + k -/
theorem lens_next {c ms : List Int} : ∀ {k : Nat} {l : List Int} {p : Nat} {h : Int}, k < l.length → (∀ m ∈ ms, m < p ∨ (p : Int) + k ≤ m) → ((p : Int) + k) ∈ ms → lens c ms l p h = (h + (l.take (k + 1)).sum + c.getD (p + k) 0) :: lens c ms (l.drop (k + 1)) (p + k + 1) 0
  | 0, [], _, _, hl, _, _ => absurd hl (Nat.lt_irrefl _)
  | 0, x :: l, p, h, _, _, hin => by
    have hin : (p : Int) ∈ ms := by
      rw [show ((0 : Nat) : Int) = 0 from rfl, Int.add_zero] at hin
      exact hin
    conv => lhs; unfold lens
    rw [if_pos hin]
    simp
  | k + 1, [], _, _, hl, _, _ => absurd hl (Nat.not_lt_zero _)
  | k + 1, x :: l, p, h, hl, hm, hin => by
    conv => lhs; unfold lens
    rw [if_neg (fun z => by have := hm _ z; omega)]
    have e := lens_next (c := c) (ms := ms) (k := k) (l := l) (p := p + 1) (h := h + x) (by rw [List.length_cons] at hl; omega) (fun m hx => by have := hm m hx; omega) (by rw [show ((p + 1 : Nat) : Int) + k = (p : Int) + ((k + 1 : Nat) : Int) by omega]; exact hin)
    rw [e, List.take_succ_cons, List.sum_cons, List.drop_succ_cons, show p + 1 + k = p + (k + 1) by omega]
    congr 1
    omega
/-- the total of all lengths -/
theorem lens_total {c ms : List Int} : ∀ {l : List Int} {p : Nat} {h : Int}, (lens c ms l p h).sum = h + l.sum + ((List.range l.length).map fun (i : Nat) => if ((p + i : Nat) : Int) ∈ ms then c.getD (p + i) 0 else 0).sum
  | [], p, h => by
    show h + 0 = h + 0 + 0
    omega
  | x :: l, p, h => by
    have er : ((List.range (x :: l).length).map fun (i : Nat) => if ((p + i : Nat) : Int) ∈ ms then c.getD (p + i) 0 else 0).sum = (if (p : Int) ∈ ms then c.getD p 0 else 0) + ((List.range l.length).map fun (i : Nat) => if ((p + 1 + i : Nat) : Int) ∈ ms then c.getD (p + 1 + i) 0 else 0).sum := by
      rw [List.length_cons, List.range_succ_eq_map, List.map_cons, List.sum_cons, List.map_map]
      congr 2
      apply List.map_congr_left
      intro i _
      show (if ((p + (i + 1) : Nat) : Int) ∈ ms then c.getD (p + (i + 1)) 0 else 0) = _
      rw [show p + (i + 1) = p + 1 + i by omega]
    rw [er]
    unfold lens
    split
    · rw [List.sum_cons, lens_total, List.sum_cons]
      omega
    · rw [lens_total, List.sum_cons]
      omega
theorem pre_diff {l : List Int} {a j : Nat} : ((l.drop a).take j).sum = pre l (a + j) - pre l a := by
  unfold pre
  rw [List.take_add, List.sum_append]
  omega
theorem pre_all {l : List Int} {a : Nat} (h : a ≤ l.length) : (l.drop a).sum = pre l l.length - pre l a := by
  have := pre_diff (l := l) (a := a) (j := l.length - a)
  rw [List.take_of_length_le (by rw [List.length_drop]; exact Nat.le_refl _), show a + (l.length - a) = l.length by omega] at this
  exact this
theorem edge_end {w : Work} (o : WkOk w) {a : Nat} (h : a ≤ w.l.length) : edge w a w.l.length = (w.l.drop a).sum := by
  have cl := o.cl
  unfold edge
  rw [pre_all h, ← cl, cst_end]
  omega
theorem edge_mark {w : Work} {a k : Nat} (h : a + k < w.c.length) : edge w a (a + k + 1) = ((w.l.drop a).take (k + 1)).sum + w.c.getD (a + k) 0 := by
  unfold edge
  rw [pre_diff, cst_in h, show a + (k + 1) = a + k + 1 by omega]
/-- marks that lie behind place a -/
structure Rest (w : Work) (a : Nat) (rs : List Int) : Prop where
  up : rs.Pairwise (· < ·)
  mv : ∀ x ∈ rs, (a : Int) ≤ x ∧ x < w.c.length
/-- from marks to a way -/
theorem way_of {w : Work} (o : WkOk w) {most : Int} {ms : List Int} : ∀ {rs : List Int} {a : Nat} {ps : List Nat} {k : Int}, Rest w a rs → a < w.l.length → (∀ m ∈ ms, m < a ∨ m ∈ rs) → (∀ m ∈ rs, m ∈ ms) →
    (∀ x ∈ lens w.c ms (w.l.drop a) a 0, ∃ a q, a < q ∧ q ≤ w.l.length ∧ x = edge w a q) ∧
    (Way w most a ps k → (∀ x ∈ lens w.c ms (w.l.drop a) a 0, x ≤ most) → ∃ ps', Way w most w.l.length ps' (k + costM w.c rs))
  | [], a, ps, k, _, ha, hm, _ => by
    have cl := o.cl
    have e : lens w.c ms (w.l.drop a) a 0 = [edge w a w.l.length] := by
      rw [lens_none (fun m hx => (hm m hx).resolve_right (fun z => nomatch z)), edge_end o (Nat.le_of_lt ha), Int.zero_add]
    rw [e]
    refine ⟨fun x hx => ⟨a, w.l.length, ha, Nat.le_refl _, List.mem_singleton.mp hx⟩, fun W h => ⟨a :: ps, ?_⟩⟩
    have := Way.step W ha (h _ (List.mem_singleton.mpr rfl))
    rw [← cl, cst_end, cl] at this
    exact this
  | m :: rs, a, ps, k, hr, ha, hm, hin => by
    have cl := o.cl
    obtain ⟨m0, m1⟩ := hr.mv m (List.mem_cons_self ..)
    obtain ⟨p1, p2⟩ := List.pairwise_cons.mp hr.up
    obtain ⟨j, hj⟩ : ∃ j : Nat, m = (a : Int) + j := ⟨(m - a).toNat, by omega⟩
    have hjc : a + j < w.c.length := by omega
    have e : lens w.c ms (w.l.drop a) a 0 = edge w a (a + j + 1) :: lens w.c ms (w.l.drop (a + j + 1)) (a + j + 1) 0 := by
      rw [lens_next (k := j) (by rw [List.length_drop]; omega) (fun x hx => by
        rcases hm x hx with q | q
        · exact .inl q
        · rcases List.mem_cons.mp q with rfl | q
          · exact .inr (by omega)
          · have := p1 x q
            exact .inr (by omega)) (by rw [← hj]; exact hin m (List.mem_cons_self ..)), edge_mark hjc, List.drop_drop, Int.zero_add, show a + (j + 1) = a + j + 1 by omega]
    have hr2 : Rest w (a + j + 1) rs := ⟨p2, fun x hx => ⟨by have := p1 x hx; omega, (hr.mv x (List.mem_cons_of_mem _ hx)).2⟩⟩
    have ih := way_of o (most := most) (ms := ms) (rs := rs) (a := a + j + 1) (ps := a :: ps) (k := k + cst w.c (a + j + 1)) hr2 (by omega) (fun x hx => by
      rcases hm x hx with q | q
      · exact .inl (by omega)
      · rcases List.mem_cons.mp q with rfl | q
        · exact .inl (by omega)
        · exact .inr q) fun x hx => hin x (List.mem_cons_of_mem _ hx)
    rw [e]
    refine ⟨fun x hx => ?_, fun W h => ?_⟩
    · rcases List.mem_cons.mp hx with rfl | hx
      · exact ⟨a, a + j + 1, by omega, by omega, rfl⟩
      · exact ih.1 x hx
    · obtain ⟨ps', W'⟩ := ih.2 (Way.step W (by omega) (h _ (List.mem_cons_self ..))) fun x hx => h x (List.mem_cons_of_mem _ hx)
      refine ⟨ps', ?_⟩
      have ec : k + costM w.c (m :: rs) = k + cst w.c (a + j + 1) + costM w.c rs := by
        unfold costM
        rw [List.map_cons, List.sum_cons, cst_in hjc, show m.toNat = a + j by omega]
        omega
      rw [ec]
      exact W'
/-- the marks of a way: those of all its places, the last one too -/
def marksTo : Nat → List Nat → List Int
  | _, [] => []
  | q, a :: ps => marksTo a ps ++ [(q : Int) - 1]
theorem Way.pos {w : Work} {most : Int} {q : Nat} {ps : List Nat} {k : Int} (h : Way w most q ps k) : (q = 0 ∧ ps = [] ∧ k = 0) ∨ ∃ a ps', ps = a :: ps' ∧ a < q := by
  cases h with
  | nil => exact .inl ⟨rfl, rfl, rfl⟩
  | step W h1 h2 => exact .inr ⟨_, _, rfl, h1⟩
theorem marksTo_lt {w : Work} {most : Int} {q : Nat} {ps : List Nat} {k : Int} (h : Way w most q ps k) : (marksTo q ps).Pairwise (· < ·) ∧ ∀ m ∈ marksTo q ps, 0 ≤ m ∧ m < q := by
  induction h with
  | nil => exact ⟨.nil, fun m hm => nomatch hm⟩
  | step W h1 h2 ih =>
    rename_i a q ps k
    obtain ⟨i1, i2⟩ := ih
    refine ⟨List.pairwise_append.mpr ⟨i1, by simp, fun y hy z hz => ?_⟩, fun m hm => ?_⟩
    · cases List.mem_singleton.mp hz
      have := i2 y hy
      omega
    · rcases List.mem_append.mp hm with hm | hm
      · have := i2 m hm
        omega
      · cases List.mem_singleton.mp hm
        omega
theorem costM_append {c xs ys : List Int} : costM c (xs ++ ys) = costM c xs + costM c ys := by
  unfold costM
  rw [List.map_append, List.sum_append]
theorem marksTo_cost {w : Work} {most : Int} {q : Nat} {ps : List Nat} {k : Int} (h : Way w most q ps k) (hq : q ≤ w.c.length) : costM w.c (marksTo q ps) = k := by
  induction h with
  | nil => rfl
  | step W h1 h2 ih =>
    rename_i a q ps k
    show costM w.c (marksTo a ps ++ [(q : Int) - 1]) = _
    rw [costM_append, ih (by omega)]
    congr 1
    obtain ⟨j, rfl⟩ : ∃ j, q = j + 1 := ⟨q - 1, by omega⟩
    rw [cst_in (by omega)]
    unfold costM
    simp
theorem marksTo_lens {w : Work} {most : Int} {q : Nat} {ps : List Nat} {k : Int} (h : Way w most q ps k) (hq : q ≤ w.c.length) (hl : w.c.length + 1 = w.l.length) : ∀ (rs : List Int), (∀ m ∈ rs, (q : Int) ≤ m) →
    ∃ L1, lens w.c (marksTo q ps ++ rs) w.l 0 0 = L1 ++ lens w.c (marksTo q ps ++ rs) (w.l.drop q) q 0 ∧ ∀ x ∈ L1, x ≤ most := by
  induction h with
  | nil => exact fun rs _ => ⟨[], rfl, fun x hx => nomatch hx⟩
  | step W h1 h2 ih =>
    rename_i a q ps k
    intro rs hrs
    have hlt := (marksTo_lt W).2
    obtain ⟨L1, e1, b1⟩ := ih (by omega) ([(q : Int) - 1] ++ rs) fun m hm => by
      rcases List.mem_append.mp hm with hm | hm
      · cases List.mem_singleton.mp hm
        omega
      · have := hrs m hm
        omega
    rw [← List.append_assoc] at e1
    obtain ⟨j, rfl⟩ : ∃ j, q = a + j + 1 := ⟨q - a - 1, by omega⟩
    have e2 : lens w.c (marksTo a ps ++ [((a + j + 1 : Nat) : Int) - 1] ++ rs) (w.l.drop a) a 0 = edge w a (a + j + 1) :: lens w.c (marksTo a ps ++ [((a + j + 1 : Nat) : Int) - 1] ++ rs) (w.l.drop (a + j + 1)) (a + j + 1) 0 := by
      rw [lens_next (k := j) (by rw [List.length_drop]; omega) (fun m hm => by
        rcases List.mem_append.mp hm with hm | hm
        · rcases List.mem_append.mp hm with hm | hm
          · exact .inl (hlt m hm).2
          · cases List.mem_singleton.mp hm
            exact .inr (by omega)
        · have := hrs m hm
          exact .inr (by omega)) (List.mem_append_left _ (List.mem_append_right _ (List.mem_singleton.mpr (by omega)))), edge_mark (by omega), List.drop_drop, Int.zero_add, show a + (j + 1) = a + j + 1 by omega]
    refine ⟨L1 ++ [edge w a (a + j + 1)], ?_, fun x hx => ?_⟩
    · show lens w.c (marksTo a ps ++ [((a + j + 1 : Nat) : Int) - 1] ++ rs) w.l 0 0 = L1 ++ [edge w a (a + j + 1)] ++ lens w.c (marksTo a ps ++ [((a + j + 1 : Nat) : Int) - 1] ++ rs) (w.l.drop (a + j + 1)) (a + j + 1) 0
      rw [e1, e2, List.append_assoc L1, List.singleton_append]
    · rcases List.mem_append.mp hx with hx | hx
      · exact b1 x hx
      · cases List.mem_singleton.mp hx
        exact h2
/-- a way to the end tells marks: what they cost, and that no stretch is longer than most -/
theorem Way.marks {w : Work} (o : WkOk w) {most : Int} {ps : List Nat} {k : Int} (h : Way w most w.l.length ps k) : ∃ a ps', ps = a :: ps' ∧ a < w.l.length ∧ MkOk w (marksTo a ps') ∧ costM w.c (marksTo a ps') = k ∧ ∀ x ∈ w.len (marksTo a ps'), x ≤ most := by
  have cl := o.cl
  generalize hn : w.l.length = n at h
  cases h with
  | nil => omega
  | step W h1 h2 =>
    rename_i a ps k
    obtain ⟨i1, i2⟩ := marksTo_lt W
    refine ⟨a, ps, rfl, h1, ⟨i1, fun x hx => by have := i2 x hx; omega⟩, ?_, fun x hx => ?_⟩
    · rw [marksTo_cost W (by omega), ← hn, ← cl, cst_end]
      omega
    · obtain ⟨L1, e1, b1⟩ := marksTo_lens W (by omega) cl [] fun m hm => nomatch hm
      rw [List.append_nil] at e1
      unfold Work.len at hx
      rw [e1, lens_none fun m hm => (i2 m hm).2, Int.zero_add, ← edge_end o (by omega)] at hx
      rcases List.mem_append.mp hx with hx | hx
      · exact b1 x hx
      · cases List.mem_singleton.mp hx
        rw [hn]
        exact h2
theorem ind_sum {f : Nat → Int} {n : Nat} : ∀ {ms : List Int}, ms.Nodup → (∀ x ∈ ms, 0 ≤ x ∧ x < n) → ((List.range n).map fun (i : Nat) => if ((i : Nat) : Int) ∈ ms then f i else 0).sum = (ms.map fun m => f m.toNat).sum
  | [], _, _ => by
    have : ∀ (l : List Nat), (l.map fun (i : Nat) => if ((i : Nat) : Int) ∈ ([] : List Int) then f i else 0).sum = 0 := by
      intro l
      induction l with
      | nil => rfl
      | cons x l ih =>
        rw [List.map_cons, List.sum_cons, ih]
        simp
    exact this _
  | m :: ms, nd, hv => by
    obtain ⟨nm, nd2⟩ := List.nodup_cons.mp nd
    obtain ⟨h0, h1⟩ := hv m (List.mem_cons_self ..)
    have ih := ind_sum (f := f) (n := n) nd2 fun x hx => hv x (List.mem_cons_of_mem _ hx)
    have split : ∀ (l : List Nat), l.Nodup → (l.map fun (i : Nat) => if ((i : Nat) : Int) ∈ m :: ms then f i else 0).sum = (l.map fun (i : Nat) => if ((i : Nat) : Int) ∈ ms then f i else 0).sum + (if m.toNat ∈ l then f m.toNat else 0) := by
      intro l hl
      induction l with
      | nil => simp
      | cons x l ih2 =>
        obtain ⟨nx, nl⟩ := List.nodup_cons.mp hl
        rw [List.map_cons, List.sum_cons, ih2 nl, List.map_cons, List.sum_cons]
        by_cases e : (x : Int) = m
        · have ex : m.toNat = x := by omega
          have n2 : ¬ (x : Int) ∈ ms := by rw [e]; exact nm
          have n3 : ¬ m.toNat ∈ l := by rw [ex]; exact nx
          rw [if_pos (by rw [e]; exact List.mem_cons_self ..), if_neg n2, if_neg n3, if_pos (by rw [ex]; exact List.mem_cons_self ..), ex]
          omega
        · have ex : ¬ m.toNat = x := by omega
          have q1 : ((x : Int) ∈ m :: ms) ↔ (x : Int) ∈ ms := ⟨fun z => by
            rcases List.mem_cons.mp z with z | z
            · exact absurd z e
            · exact z, List.mem_cons_of_mem _⟩
          have q2 : (m.toNat ∈ x :: l) ↔ m.toNat ∈ l := ⟨fun z => by
            rcases List.mem_cons.mp z with z | z
            · exact absurd z ex
            · exact z, List.mem_cons_of_mem _⟩
          simp only [q1, q2]
          omega
    rw [split _ List.nodup_range, ih, if_pos (List.mem_range.mpr (by omega)), List.map_cons, List.sum_cons]
    omega
theorem up_nodup {ms : List Int} (h : ms.Pairwise (· < ·)) : ms.Nodup := h.imp fun q => by omega
theorem len_total {w : Work} {ms : List Int} (o : WkOk w) (m : MkOk w ms) : (w.len ms).sum = w.l.sum + costM w.c ms := by
  have cl := o.cl
  unfold Work.len costM
  rw [lens_total, Int.zero_add]
  congr 1
  have := ind_sum (f := fun i => w.c.getD i 0) (n := w.l.length) (up_nodup m.up) fun x hx => by
    have := m.mv x hx
    omega
  rw [← this]
  congr 1
  apply List.map_congr_left
  intro i _
  rw [Nat.zero_add]
end LAW

set_option Elab.async false
set_option linter.all false
namespace LAW
/-! ### the least of all marks -/
def wst (w : Work) (ms : List Int) (k : Int) : Int := worst w.b (w.len ms) (mx (w.len ms)) k
theorem wst_eq {w : Work} {ms : List Int} (o : WkOk w) (m : MkOk w ms) (k : Int) : wst w ms k = w.l.sum + costM w.c ms + k * (w.b + mx (w.len ms) - 1) := by
  unfold wst worst
  rw [len_total o m]
theorem cost_nn {w : Work} {ms : List Int} (o : WkOk w) : 0 ≤ costM w.c ms := by
  unfold costM
  induction ms with
  | nil => exact Int.le_refl _
  | cons m ms ih =>
    have := (getD_in o.cv m.toNat).1
    rw [List.map_cons, List.sum_cons]
    omega
theorem MkOk.nil {w : Work} : MkOk w [] := ⟨.nil, fun x hx => nomatch hx⟩
/-- marks among which, for any marks, there are some that cost no more and have no longer stretch -/
structure AllC (w : Work) (mss : List (List Int)) : Prop where
  ok : ∀ ms ∈ mss, MkOk w ms
  dom : ∀ M, MkOk w M → ∃ ms ∈ mss, costM w.c ms ≤ costM w.c M ∧ mx (w.len ms) ≤ mx (w.len M)
theorem wst_mono {w : Work} {ms M : List Int} (o : WkOk w) (h1 : MkOk w ms) (h2 : MkOk w M) (hc : costM w.c ms ≤ costM w.c M) (hm : mx (w.len ms) ≤ mx (w.len M)) {k : Int} (k0 : 0 ≤ k) : wst w ms k ≤ wst w M k := by
  rw [wst_eq o h1, wst_eq o h2]
  have : k * (w.b + mx (w.len ms) - 1) ≤ k * (w.b + mx (w.len M) - 1) := Int.mul_le_mul_of_nonneg_left (by omega) k0
  omega
/-- v is the least of f on S -/
def Least {α : Type} (S : α → Prop) (f : α → Int) (v : Int) : Prop := (∃ x, S x ∧ f x = v) ∧ ∀ x, S x → v ≤ f x
theorem Least.one {α : Type} {S : α → Prop} {f : α → Int} {u v : Int} (h1 : Least S f u) (h2 : Least S f v) : u = v := by
  obtain ⟨⟨x, hx, ex⟩, lx⟩ := h1
  obtain ⟨⟨y, hy, ey⟩, ly⟩ := h2
  have := lx y hy
  have := ly x hx
  omega
theorem AllC.least {w : Work} {mss : List (List Int)} (a : AllC w mss) {f : List Int → Int} (mono : ∀ ms M, MkOk w ms → MkOk w M → costM w.c ms ≤ costM w.c M → mx (w.len ms) ≤ mx (w.len M) → f ms ≤ f M) {v : Int} (h : Least (· ∈ mss) f v) : Least (MkOk w) f v := by
  obtain ⟨⟨x, hx, ex⟩, lx⟩ := h
  refine ⟨⟨x, a.ok x hx, ex⟩, fun M hM => ?_⟩
  obtain ⟨ms, hms, c1, c2⟩ := a.dom M hM
  exact Int.le_trans (lx ms hms) (mono ms M (a.ok ms hms) hM c1 c2)
/-- the cheapest with no stretch longer than y -/
structure Cheap (w : Work) (y : Int) (ms : List Int) : Prop where
  ok : MkOk w ms
  fit : ∀ x ∈ w.len ms, x ≤ y
  best : ∀ M, MkOk w M → (∀ x ∈ w.len M, x ≤ y) → costM w.c ms ≤ costM w.c M
theorem len_ways {w : Work} (o : WkOk w) {M : List Int} (hM : MkOk w M) : (∀ x ∈ w.len M, ∃ a q, a < q ∧ q ≤ w.l.length ∧ x = edge w a q) ∧ ∀ y, (∀ x ∈ w.len M, x ≤ y) → ∃ ps, Way w y w.l.length ps (costM w.c M) := by
  have l0 := o.l0
  have h := fun y => way_of o (most := y) (ms := M) (rs := M) (a := 0) (ps := []) (k := 0) ⟨hM.up, fun x hx => by have := hM.mv x hx; omega⟩ (by omega) (fun m hm => .inr hm) fun m hm => hm
  refine ⟨fun x hx => (h 0).1 x (by rw [List.drop_zero]; exact hx), fun y hy => ?_⟩
  obtain ⟨ps, W⟩ := (h y).2 .nil fun x hx => hy x (by rw [List.drop_zero] at hx; exact hx)
  rw [Int.zero_add] at W
  exact ⟨ps, W⟩
theorem cheap_of {w : Work} (o : WkOk w) {y k : Int} {a : Nat} {ps : List Nat} (h : Way w y w.l.length (a :: ps) k) (best : ∀ ps' k', Way w y w.l.length ps' k' → k ≤ k') : Cheap w y (marksTo a ps) ∧ costM w.c (marksTo a ps) = k := by
  obtain ⟨a', ps', e, _, m1, m2, m3⟩ := h.marks o
  injection e with e1 e2
  subst e1 e2
  refine ⟨⟨m1, m3, fun M hM hf => ?_⟩, m2⟩
  obtain ⟨ps2, W⟩ := (len_ways o hM).2 y hf
  rw [m2]
  exact best ps2 _ W
theorem mx_le_iff {L : List Int} {y : Int} (h : ∀ x ∈ L, x ≤ y) (ne : L ≠ []) (p : ∀ x ∈ L, 1 ≤ x) : mx L ≤ y := h _ (mx_mem ne p)
/-- the cheapest for all lengths dominate all marks -/
theorem allC_of {w : Work} (o : WkOk w) {mss : List (List Int)} (h1 : ∀ ms ∈ mss, ∃ y, Cheap w y ms) (h2 : ∀ a q, a < q → q ≤ w.l.length → (∃ M, MkOk w M ∧ ∀ x ∈ w.len M, x ≤ edge w a q) → ∃ ms ∈ mss, Cheap w (edge w a q) ms) : AllC w mss := by
  refine ⟨fun ms hm => (h1 ms hm).elim fun y c => c.ok, fun M hM => ?_⟩
  have lk := Work.lok o hM
  have hm := mx_mem lk.ne fun x hx => (lk.v1 x hx).1
  obtain ⟨a, q, aq, qn, e⟩ := (len_ways o hM).1 _ hm
  have fit : ∀ x ∈ w.len M, x ≤ edge w a q := fun x hx => by
    rw [← e]
    exact mx_le x hx
  obtain ⟨ms, hms, c⟩ := h2 a q aq qn ⟨M, hM, fit⟩
  have lk2 := Work.lok o c.ok
  refine ⟨ms, hms, c.best M hM fit, ?_⟩
  rw [e]
  exact mx_le_iff c.fit lk2.ne fun x hx => (lk2.v1 x hx).1
/-! ### regret -/
def rgt (w : Work) (ms : List Int) (k least : Int) : Int := if wst w ms k - least > costM w.c ms then wst w ms k - least else costM w.c ms
theorem rgt_ge {w : Work} {ms : List Int} {k least : Int} : costM w.c ms ≤ rgt w ms k least ∧ wst w ms k - least ≤ rgt w ms k least := by
  unfold rgt
  split <;> omega
theorem rgt_mono {w : Work} {ms M : List Int} (o : WkOk w) (h1 : MkOk w ms) (h2 : MkOk w M) (hc : costM w.c ms ≤ costM w.c M) (hm : mx (w.len ms) ≤ mx (w.len M)) {k least : Int} (k0 : 0 ≤ k) : rgt w ms k least ≤ rgt w M k least := by
  have h3 := wst_mono o h1 h2 hc hm k0
  unfold rgt
  split <;> split <;> omega
/-- in between the regret is no greater than at both ends -/
theorem rgt_mid {w : Work} (o : WkOk w) {M : List Int} (hM : MkOk w M) {j k tj least : Int} (j0 : 0 ≤ j) (jk : j ≤ k) (hj : Least (MkOk w) (fun ms => wst w ms j) tj) (hk : Least (MkOk w) (fun ms => wst w ms k) least) : wst w M j - tj ≤ rgt w M k least := by
  obtain ⟨⟨N, hN, eN⟩, _⟩ := hj
  have hkN := hk.2 N hN
  have cN := cost_nn (ms := N) o
  have g := rgt_ge (w := w) (ms := M) (k := k) (least := least)
  have eN : wst w N j = tj := eN
  have hkN : least ≤ wst w N k := hkN
  rw [← eN]
  have a1 := wst_eq o hM j
  have a2 := wst_eq o hN j
  have a3 := wst_eq o hM k
  have a4 := wst_eq o hN k
  have d1 : j * (w.b + mx (w.len M) - 1) - j * (w.b + mx (w.len N) - 1) = j * (mx (w.len M) - mx (w.len N)) := by
    rw [← Int.mul_sub]
    congr 1
    omega
  have d2 : k * (w.b + mx (w.len M) - 1) - k * (w.b + mx (w.len N) - 1) = k * (mx (w.len M) - mx (w.len N)) := by
    rw [← Int.mul_sub]
    congr 1
    omega
  by_cases h : 0 ≤ mx (w.len M) - mx (w.len N)
  · have : j * (mx (w.len M) - mx (w.len N)) ≤ k * (mx (w.len M) - mx (w.len N)) := Int.mul_le_mul_of_nonneg_right jk h
    omega
  · have : j * (mx (w.len M) - mx (w.len N)) ≤ 0 := Int.mul_nonpos_of_nonneg_of_nonpos j0 (by omega)
    omega
theorem least_zero {w : Work} (o : WkOk w) : Least (MkOk w) (fun ms => wst w ms 0) w.l.sum := by
  refine ⟨⟨[], MkOk.nil, ?_⟩, fun M hM => ?_⟩
  · show wst w [] 0 = w.l.sum
    rw [wst_eq o MkOk.nil, Int.zero_mul]
    show w.l.sum + 0 + 0 = _
    omega
  · show w.l.sum ≤ wst w M 0
    rw [wst_eq o hM, Int.zero_mul]
    have := cost_nn (ms := M) o
    omega
end LAW

set_option Elab.async false
set_option linter.all false
namespace LAW
/-! ### the table of places: (place, what it costs, the place ahead) -/
structure Ent where
  q : Nat
  k : Int
  pr : Option Nat
structure Dp1 (w : Work) (most : Int) (p : Nat) (es : List Ent) : Prop where
  hd : ∃ r, es = ⟨0, 0, none⟩ :: r
  up : es.Pairwise fun x y => x.q < y.q
  le : ∀ e ∈ es, e.q ≤ p
  good : ∀ e ∈ es, e = ⟨0, 0, none⟩ ∨ ∃ f ∈ es, f.q < e.q ∧ edge w f.q e.q ≤ most ∧ e.k = f.k + cst w.c e.q ∧ e.pr = some f.q
  least : ∀ q ps k, Way w most q ps k → q ≤ p → ∃ e ∈ es, e.q = q ∧ e.k ≤ k
theorem Dp1.start {w : Work} {most : Int} : Dp1 w most 0 [⟨0, 0, none⟩] := by
  refine ⟨⟨[], rfl⟩, by simp, fun e he => by cases List.mem_singleton.mp he; exact Nat.le_refl _, fun e he => .inl (List.mem_singleton.mp he), fun q ps k h hq => ?_⟩
  have q0 : q = 0 := by omega
  rcases h.pos with ⟨_, _, e3⟩ | ⟨a, ps', _, ha⟩
  · exact ⟨_, List.mem_singleton.mpr rfl, q0.symm, by show (0 : Int) ≤ k; omega⟩
  · omega
/-- the places from which a place is come to -/
def waysTo (w : Work) (most : Int) (p : Nat) (es : List Ent) : List Ent := es.filter fun e => decide (edge w e.q p ≤ most)
theorem Dp1.stay {w : Work} {most : Int} {p : Nat} {es : List Ent} (h : Dp1 w most p es) (hw : waysTo w most (p + 1) es = []) : Dp1 w most (p + 1) es := by
  refine ⟨h.hd, h.up, fun e he => Nat.le_succ_of_le (h.le e he), h.good, fun q ps k W hq => ?_⟩
  by_cases c : q ≤ p
  · exact h.least q ps k W c
  · have : q = p + 1 := by omega
    subst this
    cases W with
    | step W' h1 h2 =>
      obtain ⟨e, he, e1, _⟩ := h.least _ _ _ W' (by omega)
      have : e ∈ waysTo w most (p + 1) es := List.mem_filter.mpr ⟨he, decide_eq_true (by rw [e1]; exact h2)⟩
      rw [hw] at this
      cases this
theorem Dp1.put {w : Work} {most : Int} {p : Nat} {es : List Ent} (h : Dp1 w most p es) {f : Ent} (hf : f ∈ waysTo w most (p + 1) es) (lf : ∀ e ∈ waysTo w most (p + 1) es, f.k ≤ e.k) : Dp1 w most (p + 1) (es ++ [⟨p + 1, f.k + cst w.c (p + 1), some f.q⟩]) := by
  obtain ⟨f1, f2⟩ := List.mem_filter.mp hf
  have fle := h.le f f1
  obtain ⟨r, er⟩ := h.hd
  refine ⟨⟨r ++ [⟨p + 1, f.k + cst w.c (p + 1), some f.q⟩], by rw [er]; rfl⟩, List.pairwise_append.mpr ⟨h.up, by simp, fun x hx y hy => ?_⟩, fun e he => ?_, fun e he => ?_, fun q ps k W hq => ?_⟩
  · cases List.mem_singleton.mp hy
    have := h.le x hx
    show x.q < p + 1
    omega
  · rcases List.mem_append.mp he with he | he
    · exact Nat.le_succ_of_le (h.le e he)
    · cases List.mem_singleton.mp he
      exact Nat.le_refl _
  · rcases List.mem_append.mp he with he | he
    · rcases h.good e he with q | ⟨g, g1, g2⟩
      · exact .inl q
      · exact .inr ⟨g, List.mem_append_left _ g1, g2⟩
    · cases List.mem_singleton.mp he
      exact .inr ⟨f, List.mem_append_left _ f1, by show f.q < p + 1; omega, of_decide_eq_true f2, rfl, rfl⟩
  · by_cases c : q ≤ p
    · obtain ⟨e, he, q1⟩ := h.least q ps k W c
      exact ⟨e, List.mem_append_left _ he, q1⟩
    · have : q = p + 1 := by omega
      subst this
      refine ⟨_, List.mem_append_right _ (List.mem_singleton.mpr rfl), rfl, ?_⟩
      cases W with
      | step W' h1 h2 =>
        obtain ⟨e, he, e1, e2⟩ := h.least _ _ _ W' (by omega)
        have := lf e (List.mem_filter.mpr ⟨he, decide_eq_true (by rw [e1]; exact h2)⟩)
        show f.k + cst w.c (p + 1) ≤ _
        omega
theorem Dp1.uniq {w : Work} {most : Int} {p : Nat} {es : List Ent} (h : Dp1 w most p es) {e f : Ent} (he : e ∈ es) (hf : f ∈ es) (hq : e.q = f.q) : e = f := by
  obtain ⟨i, hi, ei⟩ := List.mem_iff_getElem.mp he
  obtain ⟨j, hj, ej⟩ := List.mem_iff_getElem.mp hf
  have pw := List.pairwise_iff_getElem.mp h.up
  rcases Nat.lt_trichotomy i j with c | c | c
  · have := pw i j hi hj c
    rw [ei, ej] at this
    omega
  · subst c
    rw [← ei, ← ej]
  · have := pw j i hj hi c
    rw [ei, ej] at this
    omega
/-- marks ahead of a place -/
def ahead : List Nat → List Int
  | [] => []
  | a :: ps => marksTo a ps
/-- the way that an entry tells -/
theorem Dp1.way {w : Work} {most : Int} {p : Nat} {es : List Ent} (h : Dp1 w most p es) : ∀ (n : Nat) (e : Ent), e ∈ es → e.q ≤ n → ∃ ps, Way w most e.q ps e.k ∧ (e.pr = none → ps = []) ∧ ∀ a, e.pr = some a → ∃ f ∈ es, f.q = a ∧ ∃ ps', ps = a :: ps' ∧ Way w most a ps' f.k
  | n, e, he, hn => by
    rcases h.good e he with q | ⟨f, f1, f2, f3, f4, f5⟩
    · subst q
      exact ⟨[], .nil, fun _ => rfl, fun a ha => nomatch ha⟩
    · cases n with
      | zero => omega
      | succ n =>
        obtain ⟨ps, W, _⟩ := h.way n f f1 (by omega)
        refine ⟨f.q :: ps, ?_, ⟨fun z => ?_, fun a ha => ?_⟩⟩
        · rw [f4]
          exact .step W f2 f3
        · rw [f5] at z
          cases z
        · rw [f5] at ha
          injection ha with ha
          subst ha
          exact ⟨f, f1, rfl, ps, rfl, W⟩
end LAW

set_option Elab.async false
set_option linter.all false
set_option maxRecDepth 100000
namespace LAW
open PySem PySem.Spec PyProof.Rows L2 PySem.W OB
local macro_rules | `(tactic| walk_at "obc") => `(tactic| first
  | exact Or.inl ⟨by omega, by omega⟩
  | exact Or.inr ⟨by omega, by omega⟩
  | exact cdiv_ok (by omega) (by omega)
  | (show (0 : Int) < _; omega)
  | exact ⟨by omega, by decide⟩
  | exact ⟨by decide, by decide⟩)
local macro_rules | `(tactic| walk_at "obat") => `(tactic| first
  | exact Sy.at (by assumption) 0 rfl | exact Sy.at (by assumption) 1 rfl | exact Sy.at (by assumption) 2 rfl | exact Sy.at (by assumption) 3 rfl
  | exact Sy.at (by assumption) 4 rfl | exact Sy.at (by assumption) 5 rfl | exact Sy.at (by assumption) 6 rfl | exact Sy.at (by assumption) _ (by assumption) | exact Sy.at (by assumption) (_ + 1) (by assumption) | exact Sy.at (by assumption) (_ + 2) (by assumption))
local macro_rules | `(tactic| walk_at "obt") => `(tactic| first
  | exact Sy.tqs (by assumption) 0 rfl | exact Sy.tqs (by assumption) 1 rfl | exact Sy.tqs (by assumption) 2 rfl | exact Sy.tqs (by assumption) 3 rfl | exact Sy.tqs (by assumption) 4 rfl | exact Sy.tqs (by assumption) 5 rfl
  | exact Sy.tqs (by assumption) 6 rfl | exact Sy.tqs (by assumption) 7 rfl | assumption)
local macro_rules | `(tactic| walk_at "obl") => `(tactic| first
  | exact SqL.of (by walk_at "obat")
  | exact Sy.sq (by assumption) 0 rfl | exact Sy.sq (by assumption) 1 rfl | exact Sy.sq (by assumption) 2 rfl | exact Sy.sq (by assumption) 3 rfl | exact Sy.sq (by assumption) _ (by assumption))
local macro_rules | `(tactic| walk_at "obd") => `(tactic| first
  | exact Dp.int _ | exact Dp.bl _ | exact Dp.str _ | exact Dp.non
  | exact Sy.dp (by assumption) 0 rfl | exact Sy.dp (by assumption) 1 rfl | exact Sy.dp (by assumption) 2 rfl | exact Sy.dp (by assumption) 3 rfl
  | exact Sy.dp (by assumption) 4 rfl | exact Sy.dp (by assumption) 5 rfl | exact Sy.dp (by assumption) 6 rfl | exact Sy.dp (by assumption) 7 rfl
  | exact Sy.dp (by assumption) 8 rfl | exact Sy.dp (by assumption) 9 rfl | exact Sy.dp (by assumption) _ (by assumption) | assumption)
local macro_rules | `(tactic| walk_at "obds") => `(tactic| first
  | exact DpAll.nil
  | (refine' DpAll.cons ?ob1 ?ob2; (case ob1 => walk_at "obd"); (case ob2 => walk_at "obds"))
  | exact Sy.dps (by assumption) 0 rfl | exact Sy.dps (by assumption) 1 rfl | exact Sy.dps (by assumption) 2 rfl | exact Sy.dps (by assumption) 3 rfl | assumption)
local macro_rules | `(tactic| walk_at "obsc") => `(tactic| first
  | exact ScL.nil
  | ((first | refine' ScL.int ?obz | refine' ScL.str ?obz | refine' ScL.bl ?obz | refine' ScL.non ?obz); (case obz => walk_at "obsc")))
local macro_rules | `(tactic| walk_at "ob1") => `(tactic| first
  | ((with_reducible refine' g_var ?obh ?_); (case obh => rfl))
  | with_reducible refine g_c ?_
  | with_reducible refine g_nx ?_
  | with_reducible refine g_rt ?_
  | with_reducible refine g_bk ?_
  | with_reducible refine g_ct ?_
  | with_reducible refine g_op ?_
  | with_reducible refine g_I0 ?_
  | with_reducible refine g_test ?_
  | with_reducible refine g_bl ?_
  | with_reducible refine g_blx ?_
  | with_reducible refine g_B ?_
  | with_reducible refine g_seq ?_
  | with_reducible refine g_asg ?_
  | with_reducible refine g_name ?_
  | with_reducible refine g_ifS ?_
  | with_reducible refine g_ret ?_
  | with_reducible refine g_cb ?_
  | with_reducible refine g_cons ?_
  | with_reducible refine g_nil ?_
  | with_reducible refine g_int ?_
  | with_reducible refine g_intB ?_
  | with_reducible refine g_abs ?_
  | with_reducible refine g_max ?_
  | with_reducible refine g_min ?_
  | with_reducible refine g_un ?_
  | with_reducible refine g_U ?_
  | with_reducible refine g_eqI ?_
  | with_reducible refine g_neI ?_
  | with_reducible refine g_eqS ?_
  | with_reducible refine g_neS ?_
  | with_reducible refine g_tt ?_
  | with_reducible refine g_ff ?_
  | with_reducible refine g_next ?_
  | with_reducible refine g_drop ?_
  | with_reducible refine g_if ?_
  | with_reducible refine g_andV ?_
  | with_reducible refine g_orV ?_
  | with_reducible refine g_notV ?_
  | with_reducible refine g_and ?_
  | with_reducible refine g_or ?_
  | with_reducible refine g_not ?_
  | with_reducible refine g_yes ?_
  | with_reducible refine g_chain ?_
  | with_reducible refine g_cg ?_
  | with_reducible refine g_mg ?_
  | with_reducible refine g_kg ?_
  | with_reducible refine g_pg ?_
  | ((with_reducible refine' g_call ?obh ?obj ?_); (case obh => rfl); (case obj => rfl))
  | with_reducible refine g_par ?_
  | with_reducible refine g_par2 ?_
  | with_reducible refine g_par3 ?_
  | with_reducible refine g_par33 ?_
  | with_reducible refine g_gnil ?_
  | with_reducible refine g_gcons ?_
  | with_reducible refine g_gsub ?_
  | with_reducible refine g_ipI ?_
  | with_reducible refine g_rAdd ?_
  | with_reducible refine g_rSub ?_
  | ((with_reducible refine' g_aug ?obh ?_); (case obh => rfl))
  | with_reducible refine g_tup ?_
  | with_reducible refine g_lst ?_
  | with_reducible refine g_bm ?_
  | with_reducible refine g_bm0 ?_
  | with_reducible refine g_sl ?_
  | with_reducible refine g_nopart ?_
  | with_reducible refine g_part ?_
  | with_reducible refine g_pint ?_
  | with_reducible refine isi_int ?_
  | with_reducible refine isi_intB ?_
  | ((with_reducible refine' g_I ?obh ?_); (case obh => walk_at "obc"))
  | ((with_reducible refine' g_tyl ?obh ?_); (case obh => walk_at "obl"))
  | ((with_reducible refine' g_lenL ?obh ?_); (case obh => walk_at "obl"))
  | with_reducible refine g_ne ?_
  | ((with_reducible refine' g_neN' ?obh ?_); (case obh => rfl))
  | with_reducible refine g_ntt ?_
  | with_reducible refine g_nff ?_
  | with_reducible refine g_star ?_
  | with_reducible refine g_att ?_
  | with_reducible refine g_sfld ?_
  | with_reducible refine g_faug ?_
  | with_reducible refine g_fld ?_
  | ((with_reducible refine' g_nF ?obh ?_); (case obh => omega))
  | ((with_reducible refine' g_nT ?obh ?_); (case obh => omega))
  | ((with_reducible refine' g_TD ?obh ?_); (case obh => omega))
  | ((with_reducible refine' g_FD ?obh ?_); (case obh => omega))
  | ((with_reducible refine' g_ixUL ?obh ?obi ?_); (case obh => walk_at "obl"); (case obi => exact atI_nn (by omega) (by rfl)))
  | ((with_reducible refine' g_setLS ?obs ?obh ?obi ?_); (case obs => assumption); (case obh => assumption); (case obi => rfl); intro _ _ _)
  | ((with_reducible refine' g_newT ?obs ?obh ?obi ?obj ?_); (case obs => assumption); (case obh => walk_at "obds"); (case obi => rfl); (case obj => exact Nat.le_of_ble_eq_true rfl); intro _ _ _ _)
  | ((with_reducible refine' g_newL ?obs ?obj ?_); (case obs => assumption); (case obj => exact Nat.le_of_ble_eq_true rfl); intro _ _ _ _)
  | ((with_reducible refine' isi_tup ?obh ?_); (case obh => walk_at "obt"))
  | ((with_reducible refine' g_lenT ?obh ?_); (case obh => walk_at "obt"))
  | ((with_reducible refine' g_unpT ?obh ?obi ?_); (case obh => walk_at "obt"); (case obi => rfl))
  | ((with_reducible refine' g_divmod ?obs ?obh ?_); (case obs => assumption); (case obh => exact cdivp_ok (by omega) (by omega) (by omega)); intro _ _ _ _)
  | ((with_reducible refine' g_unpD ?obh ?obi ?obj ?_); (case obh => walk_at "obd"); (case obi => walk_at "obsc"); (case obj => rfl))
  | with_reducible refine g_att ?_)
local macro_rules | `(tactic| walk_at "ob") => `(tactic| first
  | walk_at "ob1"
  | refine use_is_integer ?_
  | refine use_is_within ?_
  | with_reducible refine g_lstRg ?_
  | with_reducible refine g_rg1 ?_
  | with_reducible refine g_rg2 ?_
  | with_reducible refine g_tTru ?_
  | ((with_reducible refine' g_truL ?obh ?_); (case obh => walk_at "obl"))
  | ((with_reducible refine' g_ixUT ?obh ?obi ?_); (case obh => walk_at "obt"); (case obi => rfl))
  | with_reducible refine g_forZ ?_
  | with_reducible refine g_forR2 ?_
  | with_reducible refine g_forE ?_
  | with_reducible refine g_lcZ ?_)
section
variable {P : Program} {w : World} {K : Frag} {mg : Str → Option Value} {base : Heap}
def sp_law_work (K : Frag) : Sp := fun vs H Q E => vs.length = 3 ∧ ∃ (F : List (Addr × HO)) (G : List Ft) (i : Nat) (p : Addr) (n : Nat) (a b c : Int), vs = [.ref p, .int 4, .int 6] ∧ Sy K F G H ∧ F[i]? = some (p, potO a b c) ∧ PotOk n a b c ∧ n < 700000 ∧
  ∀ (wk : Work) (q : Addr), WkOk wk → PotK K F (.dat [.ref q] [workD wk] :: G) i p (n + 16) (Q (.ref q))
abbrev names_law_work : List Str := ["pot", "parts", "ticks", "amount", "longs", "lap", "costs"]
theorem sc_law_work : FnScope names_law_work ["pot", "parts", "ticks"] (defScope (top 41)) := ⟨rfl, rfl, rfl, by decide +kernel, rfl, by decide +kernel, by decide +kernel⟩
set_option maxHeartbeats 4000000 in
theorem ok_law_work (T : Tx K mg) : FG P w K mg base CX0 3 T.a_law_work T.d_law_work ["pot", "parts", "ticks"] (sp_law_work K) := by
  refine OB.Fun.fg T.F_law_work sc_law_work (fun vs H Q E h => h.1) (fun cdv A out s H vs Q E g h => ?_)
  obtain ⟨_, F, G, i, p, n, a, b, c, rfl, S, hF, po, hn, k⟩ := h
  refine ⟨_, (pss_cons (ps_set (i := 3) sc_law_work.nd rfl (by first | exact Or.inl rfl | exact Or.inr rfl) (pe_op op_add pe_int (pe_cg (ok_law_take T) (g.mono (by decide : 1 ≤ 2)) (by rfl) T.m_law_take T.F_law_take.kp (OB.Fun.bd T.F_law_take (ps := ["pot", "upto"]) (n := 2) (ks := []) (ix := [0, 1]) (fun _ _ _ _ _ _ us ws h1 h2 => match us, ws, h1, h2 with | [_, _], [], _, _ => rfl)) pass0 (pa_cons (pv 0) (pa_cons (pv 1) pa_nil)) pk_nil)))
      (pss_cons (ps_set (i := 4) sc_law_work.nd rfl (by first | exact Or.inl rfl | exact Or.inr rfl) (pe_callTy (toK (r := rTuple) (K := K) rfl c_tuple) (by rfl) T.n_tuple (by decide +kernel) (pa_cons (pe_lc (own := [("lap", 5)]) (tt := tYes) rfl sc_law_work.nd (pi_range1 rfl T.n_range (pa_cons (pv 3) pa_nil)) (blkOk_by (N := names_law_work) (sc := defScope (top 41)) (own := [("lap", 5)]) (by decide +kernel)) (fun _ _ _ _ _ => (pg_name (i := 5) sc_law_work.nd rfl (by first | exact Or.inl rfl | exact Or.inr rfl))) (fun _ _ _ _ _ => pts_nil) (fun _ _ _ _ _ => (pe_callTy c_int (by rfl) T.n_int (by decide +kernel) (pa_cons (pe_op op_add pe_int (pe_cg (ok_law_take T) (g.mono (by decide : 1 ≤ 2)) (by rfl) T.m_law_take T.F_law_take.kp (OB.Fun.bd T.F_law_take (ps := ["pot", "upto"]) (n := 2) (ks := []) (ix := [0, 1]) (fun _ _ _ _ _ _ us ws h1 h2 => match us, ws, h1, h2 with | [_, _], [], _, _ => rfl)) pass0 (pa_cons (pv 0) (pa_cons (pv 2) pa_nil)) pk_nil)) pa_nil)))) pa_nil)))
      (pss_cons (ps_set (i := 6) sc_law_work.nd rfl (by first | exact Or.inl rfl | exact Or.inr rfl) (pe_callTy (toK (r := rTuple) (K := K) rfl c_tuple) (by rfl) T.n_tuple (by decide +kernel) (pa_cons (pe_lc (own := [("lap", 5)]) (tt := tYes) rfl sc_law_work.nd (pi_range1 rfl T.n_range (pa_cons (pe_op op_sub (pv 3) pe_int) pa_nil)) (blkOk_by (N := names_law_work) (sc := defScope (top 41)) (own := [("lap", 5)]) (by decide +kernel)) (fun _ _ _ _ _ => (pg_name (i := 5) sc_law_work.nd rfl (by first | exact Or.inl rfl | exact Or.inr rfl))) (fun _ _ _ _ _ => pts_nil) (fun _ _ _ _ _ => (pe_callTy c_int (by rfl) T.n_int (by decide +kernel) (pa_cons (pe_cg (ok_law_of T) (g.mono (by decide : 2 ≤ 2)) (by rfl) T.m_law_of T.F_law_of.kp (OB.Fun.bd T.F_law_of (ps := ["pot", "some"]) (n := 2) (ks := []) (ix := [0, 1]) (fun _ _ _ _ _ _ us ws h1 h2 => match us, ws, h1, h2 with | [_, _], [], _, _ => rfl)) pass0 (pa_cons (pv 0) (pa_cons (pe_lst (pa_cons pe_int (pa_cons pe_int (pa_cons pe_int (pa_cons pe_int (pa_cons (pe_cg (ok_law_take T) (g.mono (by decide : 1 ≤ 2)) (by rfl) T.m_law_take T.F_law_take.kp (OB.Fun.bd T.F_law_take (ps := ["pot", "upto"]) (n := 2) (ks := []) (ix := [0, 1]) (fun _ _ _ _ _ _ us ws h1 h2 => match us, ws, h1, h2 with | [_, _], [], _, _ => rfl)) pass0 (pa_cons (pv 0) (pa_cons (pe_op op_add (pv 2) pe_int) pa_nil)) pk_nil) pa_nil)))))) pa_nil)) pk_nil) pa_nil)))) pa_nil)))
      (pss_one (ps_ret (pe_tup (pa_cons (pv 4) (pa_cons (pv 6) (pa_cons (pe_callTy c_int (by rfl) T.n_int (by decide +kernel) (pa_cons (pe_cg (ok_law_of T) (g.mono (by decide : 2 ≤ 2)) (by rfl) T.m_law_of T.F_law_of.kp (OB.Fun.bd T.F_law_of (ps := ["pot", "some"]) (n := 2) (ks := []) (ix := [0, 1]) (fun _ _ _ _ _ _ us ws h1 h2 => match us, ws, h1, h2 with | [_, _], [], _, _ => rfl)) pass0 (pa_cons (pv 0) (pa_cons (pe_lst (pa_cons pe_int (pa_cons pe_int (pa_cons pe_int (pa_cons (pe_cg (ok_law_take T) (g.mono (by decide : 1 ≤ 2)) (by rfl) T.m_law_take T.F_law_take.kp (OB.Fun.bd T.F_law_take (ps := ["pot", "upto"]) (n := 2) (ks := []) (ix := [0, 1]) (fun _ _ _ _ _ _ us ws h1 h2 => match us, ws, h1, h2 with | [_, _], [], _, _ => rfl)) pass0 (pa_cons (pv 0) (pa_cons (pe_op op_add (pv 2) pe_int) pa_nil)) pk_nil) pa_nil))))) pa_nil)) pk_nil) pa_nil)) pa_nil))))))))), ?_⟩
  refine g_start (σ := [some _, some _, some _, none, none, none, none]) rfl ?_
  repeat walk_at "ob"
  refine use_take S hF po (by omega) (by decide) (by decide) fun r1 a1 b1 c1 H1 l1 u1 o1 S1 _ => ?_
  clear S
  repeat walk_at "ob"
  refine g_lcR (K := K) ?_
  repeat walk_at "ob"
  refine g_rgJ (by omega) (by omega) ?_
  refine rglc_of (fun j F' ds => ∃ a b c ns, F' = F.set i (p, potO a b c) ∧ PotOk (n + 1 + j) a b c ∧ ds = ns.map PyData.int ∧ ns.length = j ∧ j ≤ 4 ∧ ∀ x ∈ ns, 1 ≤ x ∧ x ≤ 6) S1 ⟨a1, b1, c1, [], rfl, o1, rfl, rfl, by decide, fun x hx => nomatch hx⟩ (fun j F' ds ⟨_, _, _, ns, _, _, e, e2, _⟩ => by rw [e, List.length_map]; omega) ?_ ?_
  · rintro j hj Da H2 F2 vs ds QE QR ⟨a2, b2, c2, ns, rfl, o2, rfl, hw, hj5, hin⟩ S8 kE kR
    repeat walk_at "ob"
    refine ⟨rfl, ?_⟩
    repeat walk_at "ob"
    refine use_take (i := i + 1) S8 (set_at hF) o2 (by omega) (by decide) (by decide) fun r a3 b3 c3 H3 q0 q1 o3 S9 _ => ?_
    have S10 := pot_under S9
    repeat walk_at "ob"
    refine kE _ (.int (1 + r)) _ _ ⟨a3, b3, c3, ns ++ [1 + r], rfl, o3.mono (by omega), by rw [List.map_append]; rfl, by rw [List.length_append, List.length_singleton, hw], by omega, fun y hy => ?_⟩ (S10.fact (dps_one (L2.Dp.int _)) rfl)
    rcases List.mem_append.mp hy with hy | hy
    · exact hin y hy
    · cases List.mem_singleton.mp hy
      omega
  rintro Da H2 F2 vs ds hD ⟨a2, b2, c2, ls, rfl, o2, rfl, hw, hj5, lin⟩ S8
  have hv := dps_intsV (S8.dps 0 rfl)
  subst hv
  repeat walk_at "ob"
  refine g_tup0 S8 (SqL.of (S8.at 0 rfl)) (dps_ints ls) (ints_imm ls) fun lq H3 _ S9 => ?_
  have S10 := S9.less.drop2
  clear S1 S8 S9
  repeat walk_at "ob"
  refine g_lcR (K := K) ?_
  repeat walk_at "ob"
  refine g_rgJ (by omega) (by omega) ?_
  refine rglc_of (fun j F' ds => ∃ a b c ns, F' = F.set i (p, potO a b c) ∧ PotOk (n + 5 + 2 * j) a b c ∧ ds = ns.map PyData.int ∧ ns.length = j ∧ j ≤ 3 ∧ ∀ x ∈ ns, 0 ≤ x ∧ x ≤ 6) S10 ⟨a2, b2, c2, [], rfl, o2.mono (by omega), rfl, rfl, by decide, fun x hx => nomatch hx⟩ (fun j F' ds ⟨_, _, _, ns, _, _, e, e2, _⟩ => by rw [e, List.length_map]; omega) ?_ ?_
  · rintro j hj Da H2 F2 vs ds QE QR ⟨a2, b2, c2, ns, rfl, o2, rfl, hw2, hj5, hin⟩ S8 kE kR
    repeat walk_at "ob"
    refine ⟨rfl, ?_⟩
    repeat walk_at "ob"
    refine use_take (i := i + 1) S8 (set_at hF) o2 (by omega) (by decide) (by decide) fun r a3 b3 c3 H3 q0 q1 o3 S9 _ => ?_
    have S10 := pot_under S9
    clear S8 S9
    repeat walk_at "ob"
    rename_i nl H4 _ S11
    refine use_of (i := i + 2) (j := 0) (ns := [0, 0, 1, 2, r]) S11 (set_at hF) rfl (by omega) o3 (by omega) (by simp) (by simp) fun x hx a4 b4 c4 H5 o4 S12 _ => ?_
    have S13 := (pot_under2 S12).less
    have hx2 : 0 ≤ x ∧ x ≤ 6 := by
      simp only [List.mem_cons, List.not_mem_nil, or_false] at hx
      rcases hx with rfl | rfl | rfl | rfl | rfl <;> omega
    repeat walk_at "ob"
    refine kE _ (.int x) _ _ ⟨a4, b4, c4, ns ++ [x], rfl, o4.mono (by omega), by rw [List.map_append]; rfl, by rw [List.length_append, List.length_singleton, hw2], by omega, fun y hy => ?_⟩ (S13.fact (dps_one (L2.Dp.int _)) rfl)
    rcases List.mem_append.mp hy with hy | hy
    · exact hin y hy
    · cases List.mem_singleton.mp hy
      exact hx2
  rintro Db H4 F4 vs ds hD4 ⟨a3, b3, c3, cs, rfl, o3, rfl, hw3, hj6, cin⟩ S8
  have hv := dps_intsV (S8.dps 0 rfl)
  subst hv
  repeat walk_at "ob"
  refine g_tup0 S8 (SqL.of (S8.at 0 rfl)) (dps_ints cs) (ints_imm cs) fun cq H5 _ S9 => ?_
  have S10 := S9.less.drop2
  clear S8 S9
  repeat walk_at "ob"
  refine use_take2 S10 hF o3 (by omega) (by decide) (by decide) fun r a4 b4 c4 H6 q0 q1 o4 S11 => ?_
  clear S10
  repeat walk_at "ob"
  rename_i nl H7 _ S12
  refine use_of2 (ns := [0, 1, 2, r]) S12 rfl hF o4 (by omega) rfl rfl fun bg hbg a5 b5 c5 H8 o5 S13 => ?_
  clear S11 S12
  have hb2 : 0 ≤ bg ∧ bg ≤ 6 := by
    simp only [List.mem_cons, List.not_mem_nil, or_false] at hbg
    rcases hbg with rfl | rfl | rfl | rfl <;> omega
  repeat walk_at "ob"
  refine g_newT (ds := [intsD ls, intsD cs, .int bg]) S13 (.cons (S13.dp 1 rfl) (.cons (S13.dp 0 rfl) (.cons (L2.Dp.int _) .nil))) (work_imm ⟨ls, cs, bg⟩) (Nat.le_of_ble_eq_true rfl) fun q9 H9 _ S14 => ?_
  refine (k ⟨ls, cs, bg⟩ q9 ⟨by show 1 ≤ ls.length; omega, by show ls.length ≤ 4; omega, by show cs.length + 1 = ls.length; omega, lin, cin, hb2⟩).use hF (o5.mono (by omega)) (Sy.drop2 (Sy.drop2 S14))
def MksOk (wk : Work) (i : Nat) (ms : List Int) : Prop := ms.Pairwise (· < ·) ∧ (∀ x ∈ ms, 0 ≤ x ∧ x < i) ∧ ms.length ≤ i
theorem mss_imm (mss : List (List Int)) : immAll (mss.map intsD) = true := immAll_of fun x hx => by
  obtain ⟨s, _, rfl⟩ := List.mem_map.mp hx
  exact ints_imm s
theorem all_step {i : Nat} {mss : List (List Int)} (h : ∀ ms : List Int, ms.Pairwise (· < ·) → (∀ x ∈ ms, 0 ≤ x ∧ x < (i : Int)) → ms ∈ mss) (ms : List Int) (hp : ms.Pairwise (· < ·)) (hv : ∀ x ∈ ms, 0 ≤ x ∧ x < ((i + 1 : Nat) : Int)) : ms ∈ mss ++ mss.map fun ms => ms ++ [(i : Int)] := by
  rcases List.eq_nil_or_concat ms with rfl | ⟨l, b, e⟩
  · exact List.mem_append_left _ (h [] .nil fun x hx => nomatch hx)
  · rw [List.concat_eq_append] at e
    subst e
    obtain ⟨p1, _, p3⟩ := List.pairwise_append.mp hp
    have hb := hv b (List.mem_append_right _ (List.mem_singleton.mpr rfl))
    have lt : ∀ x ∈ l, 0 ≤ x ∧ x < b := fun x hx => ⟨(hv x (List.mem_append_left _ hx)).1, p3 x hx b (List.mem_singleton.mpr rfl)⟩
    by_cases c : b = i
    · subst c
      exact List.mem_append_right _ (List.mem_map.mpr ⟨l, h l p1 fun x hx => lt x hx, rfl⟩)
    · refine List.mem_append_left _ (h _ hp fun x hx => ?_)
      rcases List.mem_append.mp hx with hx | hx
      · have := lt x hx
        omega
      · cases List.mem_singleton.mp hx
        omega
def sp_law_all_marks (K : Frag) : Sp := fun vs H Q E => vs.length = 1 ∧ ∃ (F : List (Addr × HO)) (G : List Ft) (p : Addr) (wk : Work), vs = [.ref p] ∧ Sy K F G H ∧ L2.Dp K H (.ref p) (workD wk) ∧ WkOk wk ∧
  ∀ r vs H' (mss : List (List Int)), (∀ ms ∈ mss, MkOk wk ms ∧ ms.length ≤ 3) → (∀ ms, MkOk wk ms → ms ∈ mss) → 0 < mss.length → mss.length ≤ 8 → Sy K ((r, .lst vs) :: F) (.dat vs (mss.map intsD) :: G) H' → Q (.ref r) H'
abbrev names_law_all_marks : List Str := ["work", "found", "part", "marks"]
theorem sc_law_all_marks : FnScope names_law_all_marks ["work"] (defScope (top 42)) := ⟨rfl, rfl, rfl, by decide +kernel, rfl, by decide +kernel, by decide +kernel⟩
set_option maxHeartbeats 4000000 in
theorem ok_law_all_marks (T : Tx K mg) : FG P w K mg base CX0 1 T.a_law_all_marks T.d_law_all_marks ["work"] (sp_law_all_marks K) := by
  refine OB.Fun.fg T.F_law_all_marks sc_law_all_marks (fun vs H Q E h => h.1) (fun cdv A out s H vs Q E g h => ?_)
  obtain ⟨_, F, G, p, wk, rfl, S, hd, wo, k⟩ := h
  refine ⟨_, (pss_cons (ps_set (i := 1) sc_law_all_marks.nd rfl (by first | exact Or.inl rfl | exact Or.inr rfl) (pe_lst (pa_cons (pe_tup pa_nil) pa_nil)))
      (pss_cons (ps_for PassesOwn.never rfl (pi_range1 rfl T.n_range (pa_cons (pe_callB (toK (r := OB.rLen) (K := K) rfl c_len) (by rfl) T.n_len PySem.boot_len (pa_cons (pe_ix (ix_UK (K := K) rfl) (pv 0) pe_int (fun _ _ => rfl)) pa_nil)) pa_nil)) (pg_name (i := 2) sc_law_all_marks.nd rfl (by first | exact Or.inl rfl | exact Or.inr rfl))
      (pss_one (ps_set (i := 1) sc_law_all_marks.nd rfl (by first | exact Or.inl rfl | exact Or.inr rfl) (pe_op op_cat (pv 1) (pe_lc (own := [("marks", 3)]) (tt := tYes) rfl sc_law_all_marks.nd (pi_seq (pv 1)) (blkOk_by (N := names_law_all_marks) (sc := defScope (top 42)) (own := [("marks", 3)]) (by decide +kernel)) (fun _ _ _ _ _ => (pg_name (i := 3) sc_law_all_marks.nd rfl (by first | exact Or.inl rfl | exact Or.inr rfl))) (fun _ _ _ _ _ => pts_nil) (fun _ _ _ _ _ => (pe_op (op_catAK (K := K) rfl) (pv 3) (pe_tup (pa_cons (pe_callTy c_int (by rfl) T.n_int (by decide +kernel) (pa_cons (pv 2) pa_nil)) pa_nil)))))))))
      (pss_one (ps_ret (pv 1))))), ?_⟩
  refine g_start (σ := [some _, none, none, none]) rfl ?_
  obtain ⟨lp, cp, S1⟩ := Sy.work S hd
  clear S
  have c3 : wk.c.length ≤ 3 := by
    have := wo.cl
    have := wo.l1
    omega
  repeat walk_at "ob"
  rename_i e0 H1 _ S2 f H2 _ S3
  clear S1 S2
  refine g_forR ?_
  repeat walk_at "ob"
  refine g_lenT (sqt_ints (S3.dp 3 rfl)) ?_
  rw [List.length_map]
  repeat walk_at "ob"
  refine g_rgJ (by omega) (by omega) ?_
  rw [Int.toNat_natCast]
  refine rgfor_of (fun i σ' H' => ∃ v2 v3 f vs mss, σ' = [some (.ref p), some (.ref f), v2, v3] ∧ (∀ ms ∈ mss, MksOk wk i ms) ∧ (∀ ms : List Int, ms.Pairwise (· < ·) → (∀ x ∈ ms, 0 ≤ x ∧ x < (i : Int)) → ms ∈ mss) ∧ 0 < mss.length ∧ mss.length ≤ 2 ^ i ∧ Sy K ((f, .lst vs) :: F) (.dat vs (mss.map intsD) :: .tq p [.ref lp, .ref cp, .int wk.b] :: .dat [.ref lp] [intsD wk.l] :: .dat [.ref cp] [intsD wk.c] :: G) H')
    ⟨none, none, f, [.ref e0], [[]], rfl, fun ms hm => by
      cases List.mem_singleton.mp hm
      exact ⟨.nil, fun x hx => (nomatch hx), Nat.le_refl _⟩, fun ms _ hv => by
      cases ms with
      | nil => exact List.mem_singleton.mpr rfl
      | cons x ms =>
        have := hv x (List.mem_cons_self ..)
        omega, by decide, by decide, S3⟩ ?_ ?_
  · rintro i σ' H' hi ⟨v2, v3, f, vs, mss, rfl, hm, hall, m0, ml, S4⟩
    clear S3
    have vl := dps_length (S4.dps 0 rfl)
    rw [List.length_map] at vl
    have p8 : 2 ^ i ≤ 2 ^ 2 := Nat.pow_le_pow_right (by decide) (by omega)
    have p9 : 2 ^ (i + 1) = 2 ^ i * 2 := Nat.pow_succ ..
    repeat walk_at "ob"
    refine g_lcS (a := f) (xs := vs) true (fun j F' ds => F' = (f, .lst vs) :: F ∧ ds = ((mss.take j).map fun ms => ms ++ [(i : Int)]).map intsD) S4 (fun Q' q => by walk_at "ob"; exact q) ⟨rfl, rfl⟩ (fun j F' ds H' hi S3 => SqL.of ((hi.1 ▸ S3).at 0 rfl)) (fun j F' ds hi => by
      rw [hi.2, List.length_map, List.length_map, List.length_take]; omega) ?_ ?_
    · intro j x hx Da H2 F2 vs2 ds QE QR hi2 S3 kE kR
      obtain ⟨rfl, rfl⟩ := hi2
      obtain ⟨ms, hms, hds⟩ := dps_map (S3.dps 1 rfl) hx
      obtain ⟨q, ys, rfl, _⟩ := dp_at hds
      have S5 := S3.add _ (dat_ints hds)
      clear S3 S4
      repeat walk_at "ob"
      refine ⟨rfl, ?_⟩
      repeat walk_at "ob"
      rename_i t1 H3 _ S6
      have mm := (hm ms (List.mem_of_getElem? hms)).2.2
      refine g_catU (d1 := ms.map .int) (d2 := [.int (0 + (i : Int))]) S6 (S6.dp 1 rfl) (S6.dp 0 rfl) (ints_imm ms) rfl (by rw [List.length_map, List.length_singleton]; omega) fun r H4 S7 => ?_
      refine kE _ (intsD (ms ++ [(i : Int)])) _ _ ⟨rfl, ?_⟩ ?_
      · rw [List.take_add_one, hms]
        simp
      · have e : (PyData.tuple (ms.map .int ++ [.int (0 + (i : Int))])) = intsD (ms ++ [(i : Int)]) := by
          unfold intsD
          rw [List.map_append, Int.zero_add]
          rfl
        rw [e] at S7
        exact S7.drop2.drop2
    intro Da H2 F2 vs2 ds hD hi2 S3
    obtain ⟨rfl, rfl⟩ := hi2
    rw [vl, List.take_length] at S3
    have v2l := dps_length (S3.dps 0 rfl)
    rw [List.length_map, List.length_map] at v2l
    repeat walk_at "ob"
    refine g_cat (i := 1) (j := 0) S3 rfl rfl (by omega) fun ct H3 S5 => ?_
    repeat walk_at "ob"
    have S6 := S5.fact (vs := vs ++ vs2) (ds := (mss ++ mss.map fun ms => ms ++ [(i : Int)]).map intsD) (by rw [List.map_append]; exact dps_append (S5.dps 1 rfl) (S5.dps 0 rfl)) (mss_imm _)
    refine ⟨_, _, ct, _, mss ++ mss.map fun ms => ms ++ [(i : Int)], rfl, fun ms hx => ?_, all_step hall, by rw [List.length_append]; omega, by rw [List.length_append, List.length_map]; omega, (Sy.less (Sy.swap (Sy.less (Sy.swap S6)))).drop2.drop2⟩
    rcases List.mem_append.mp hx with hx | hx
    · obtain ⟨q1, q2, q3⟩ := hm ms hx
      exact ⟨q1, fun x hx => by have := q2 x hx; omega, by omega⟩
    · obtain ⟨m2, hm2, rfl⟩ := List.mem_map.mp hx
      obtain ⟨q1, q2, q3⟩ := hm m2 hm2
      refine ⟨List.pairwise_append.mpr ⟨q1, by simp, fun y hy z hz => ?_⟩, fun x hx => ?_, by rw [List.length_append, List.length_singleton]; omega⟩
      · cases List.mem_singleton.mp hz
        exact (q2 y hy).2
      · rcases List.mem_append.mp hx with hx | hx
        · have := q2 x hx
          omega
        · cases List.mem_singleton.mp hx
          omega
  · rintro σ' H' ⟨v2, v3, f, vs, mss, rfl, hm, hall, m0, ml, S4⟩
    have p8 : 2 ^ wk.c.length ≤ 2 ^ 3 := Nat.pow_le_pow_right (by decide) c3
    repeat walk_at "ob"
    refine k f vs H' mss (fun ms hx => ?_) (fun ms ok => hall ms ok.up ok.mv) m0 (by omega) S4.drop2.drop2.drop2
    obtain ⟨q1, q2, q3⟩ := hm ms hx
    exact ⟨⟨q1, q2⟩, by omega⟩
end
end LAW

set_option Elab.async false
set_option linter.all false
set_option maxRecDepth 100000
namespace LAW
open PySem PySem.Spec PyProof.Rows L2 PySem.W OB
local macro_rules | `(tactic| walk_at "obc") => `(tactic| first
  | exact Or.inl ⟨by omega, by omega⟩
  | exact Or.inr ⟨by omega, by omega⟩
  | exact cdiv_ok (by omega) (by omega)
  | (show (0 : Int) < _; omega)
  | exact ⟨by omega, by decide⟩
  | exact ⟨by decide, by decide⟩)
local macro_rules | `(tactic| walk_at "obat") => `(tactic| first
  | exact Sy.at (by assumption) 0 rfl | exact Sy.at (by assumption) 1 rfl | exact Sy.at (by assumption) 2 rfl | exact Sy.at (by assumption) 3 rfl
  | exact Sy.at (by assumption) 4 rfl | exact Sy.at (by assumption) 5 rfl | exact Sy.at (by assumption) 6 rfl | exact Sy.at (by assumption) _ (by assumption) | exact Sy.at (by assumption) (_ + 1) (by assumption) | exact Sy.at (by assumption) (_ + 2) (by assumption))
local macro_rules | `(tactic| walk_at "obt") => `(tactic| first
  | exact Sy.tqs (by assumption) 0 rfl | exact Sy.tqs (by assumption) 1 rfl | exact Sy.tqs (by assumption) 2 rfl | exact Sy.tqs (by assumption) 3 rfl | exact Sy.tqs (by assumption) 4 rfl | exact Sy.tqs (by assumption) 5 rfl
  | exact Sy.tqs (by assumption) 6 rfl | exact Sy.tqs (by assumption) 7 rfl | assumption)
local macro_rules | `(tactic| walk_at "obl") => `(tactic| first
  | exact SqL.of (by walk_at "obat")
  | exact Sy.sq (by assumption) 0 rfl | exact Sy.sq (by assumption) 1 rfl | exact Sy.sq (by assumption) 2 rfl | exact Sy.sq (by assumption) 3 rfl | exact Sy.sq (by assumption) _ (by assumption))
local macro_rules | `(tactic| walk_at "obd") => `(tactic| first
  | exact Dp.int _ | exact Dp.bl _ | exact Dp.str _ | exact Dp.non
  | exact Sy.dp (by assumption) 0 rfl | exact Sy.dp (by assumption) 1 rfl | exact Sy.dp (by assumption) 2 rfl | exact Sy.dp (by assumption) 3 rfl
  | exact Sy.dp (by assumption) 4 rfl | exact Sy.dp (by assumption) 5 rfl | exact Sy.dp (by assumption) 6 rfl | exact Sy.dp (by assumption) 7 rfl
  | exact Sy.dp (by assumption) 8 rfl | exact Sy.dp (by assumption) 9 rfl | exact Sy.dp (by assumption) _ (by assumption) | assumption)
local macro_rules | `(tactic| walk_at "obds") => `(tactic| first
  | exact DpAll.nil
  | (refine' DpAll.cons ?ob1 ?ob2; (case ob1 => walk_at "obd"); (case ob2 => walk_at "obds"))
  | exact Sy.dps (by assumption) 0 rfl | exact Sy.dps (by assumption) 1 rfl | exact Sy.dps (by assumption) 2 rfl | exact Sy.dps (by assumption) 3 rfl | assumption)
local macro_rules | `(tactic| walk_at "obsc") => `(tactic| first
  | exact ScL.nil
  | ((first | refine' ScL.int ?obz | refine' ScL.str ?obz | refine' ScL.bl ?obz | refine' ScL.non ?obz); (case obz => walk_at "obsc")))
local macro_rules | `(tactic| walk_at "ob1") => `(tactic| first
  | ((with_reducible refine' g_var ?obh ?_); (case obh => rfl))
  | with_reducible refine g_c ?_
  | with_reducible refine g_nx ?_
  | with_reducible refine g_rt ?_
  | with_reducible refine g_bk ?_
  | with_reducible refine g_ct ?_
  | with_reducible refine g_op ?_
  | with_reducible refine g_I0 ?_
  | with_reducible refine g_test ?_
  | with_reducible refine g_bl ?_
  | with_reducible refine g_blx ?_
  | with_reducible refine g_B ?_
  | with_reducible refine g_seq ?_
  | with_reducible refine g_asg ?_
  | with_reducible refine g_name ?_
  | with_reducible refine g_ifS ?_
  | with_reducible refine g_ret ?_
  | with_reducible refine g_cb ?_
  | with_reducible refine g_cons ?_
  | with_reducible refine g_nil ?_
  | with_reducible refine g_int ?_
  | with_reducible refine g_intB ?_
  | with_reducible refine g_abs ?_
  | with_reducible refine g_max ?_
  | with_reducible refine g_min ?_
  | with_reducible refine g_un ?_
  | with_reducible refine g_U ?_
  | with_reducible refine g_eqI ?_
  | with_reducible refine g_neI ?_
  | with_reducible refine g_eqS ?_
  | with_reducible refine g_neS ?_
  | with_reducible refine g_tt ?_
  | with_reducible refine g_ff ?_
  | with_reducible refine g_next ?_
  | with_reducible refine g_drop ?_
  | with_reducible refine g_if ?_
  | with_reducible refine g_andV ?_
  | with_reducible refine g_orV ?_
  | with_reducible refine g_notV ?_
  | with_reducible refine g_and ?_
  | with_reducible refine g_or ?_
  | with_reducible refine g_not ?_
  | with_reducible refine g_yes ?_
  | with_reducible refine g_chain ?_
  | with_reducible refine g_cg ?_
  | with_reducible refine g_mg ?_
  | with_reducible refine g_kg ?_
  | with_reducible refine g_pg ?_
  | ((with_reducible refine' g_call ?obh ?obj ?_); (case obh => rfl); (case obj => rfl))
  | with_reducible refine g_par ?_
  | with_reducible refine g_par2 ?_
  | with_reducible refine g_par3 ?_
  | with_reducible refine g_par33 ?_
  | with_reducible refine g_gnil ?_
  | with_reducible refine g_gcons ?_
  | with_reducible refine g_gsub ?_
  | with_reducible refine g_ipI ?_
  | with_reducible refine g_rAdd ?_
  | with_reducible refine g_rSub ?_
  | ((with_reducible refine' g_aug ?obh ?_); (case obh => rfl))
  | with_reducible refine g_tup ?_
  | with_reducible refine g_lst ?_
  | with_reducible refine g_bm ?_
  | with_reducible refine g_bm0 ?_
  | with_reducible refine g_sl ?_
  | with_reducible refine g_nopart ?_
  | with_reducible refine g_part ?_
  | with_reducible refine g_pint ?_
  | with_reducible refine isi_int ?_
  | with_reducible refine isi_intB ?_
  | ((with_reducible refine' g_I ?obh ?_); (case obh => walk_at "obc"))
  | ((with_reducible refine' g_tyl ?obh ?_); (case obh => walk_at "obl"))
  | ((with_reducible refine' g_lenL ?obh ?_); (case obh => walk_at "obl"))
  | with_reducible refine g_ne ?_
  | ((with_reducible refine' g_neN' ?obh ?_); (case obh => rfl))
  | with_reducible refine g_ntt ?_
  | with_reducible refine g_nff ?_
  | with_reducible refine g_star ?_
  | with_reducible refine g_att ?_
  | with_reducible refine g_sfld ?_
  | with_reducible refine g_faug ?_
  | with_reducible refine g_fld ?_
  | ((with_reducible refine' g_nF ?obh ?_); (case obh => omega))
  | ((with_reducible refine' g_nT ?obh ?_); (case obh => omega))
  | ((with_reducible refine' g_TD ?obh ?_); (case obh => omega))
  | ((with_reducible refine' g_FD ?obh ?_); (case obh => omega))
  | ((with_reducible refine' g_ixUL ?obh ?obi ?_); (case obh => walk_at "obl"); (case obi => exact atI_nn (by omega) (by rfl)))
  | ((with_reducible refine' g_setLS ?obs ?obh ?obi ?_); (case obs => assumption); (case obh => assumption); (case obi => rfl); intro _ _ _)
  | ((with_reducible refine' g_newT ?obs ?obh ?obi ?obj ?_); (case obs => assumption); (case obh => walk_at "obds"); (case obi => rfl); (case obj => exact Nat.le_of_ble_eq_true rfl); intro _ _ _ _)
  | ((with_reducible refine' g_newL ?obs ?obj ?_); (case obs => assumption); (case obj => exact Nat.le_of_ble_eq_true rfl); intro _ _ _ _)
  | ((with_reducible refine' isi_tup ?obh ?_); (case obh => walk_at "obt"))
  | ((with_reducible refine' g_lenT ?obh ?_); (case obh => walk_at "obt"))
  | ((with_reducible refine' g_unpT ?obh ?obi ?_); (case obh => walk_at "obt"); (case obi => rfl))
  | ((with_reducible refine' g_divmod ?obs ?obh ?_); (case obs => assumption); (case obh => exact cdivp_ok (by omega) (by omega) (by omega)); intro _ _ _ _)
  | ((with_reducible refine' g_unpD ?obh ?obi ?obj ?_); (case obh => walk_at "obd"); (case obi => walk_at "obsc"); (case obj => rfl))
  | with_reducible refine g_att ?_)
local macro_rules | `(tactic| walk_at "ob") => `(tactic| first
  | walk_at "ob1"
  | refine use_is_integer ?_
  | refine use_is_within ?_
  | with_reducible refine g_lstRg ?_
  | with_reducible refine g_rg1 ?_
  | with_reducible refine g_rg2 ?_
  | with_reducible refine g_tTru ?_
  | ((with_reducible refine' g_truL ?obh ?_); (case obh => walk_at "obl"))
  | ((with_reducible refine' g_ixUT ?obh ?obi ?_); (case obh => walk_at "obt"); (case obi => rfl))
  | with_reducible refine g_forZ ?_
  | with_reducible refine g_forR2 ?_
  | with_reducible refine g_forE ?_
  | with_reducible refine g_lcZ ?_)
section
variable {P : Program} {w : World} {K : Frag} {mg : Str → Option Value} {base : Heap}
def sp_law_lengths (K : Frag) : Sp := sp_lengths_of K
abbrev names_law_lengths : List Str := ["work", "marks", "longs", "costs", "begin", "found", "here", "part", "ticks"]
theorem sc_law_lengths : FnScope names_law_lengths ["work", "marks"] (defScope (top 43)) := ⟨rfl, rfl, rfl, by decide +kernel, rfl, by decide +kernel, by decide +kernel⟩
set_option maxHeartbeats 4000000 in
theorem ok_law_lengths (T : Tx K mg) : FG P w K mg base CX0 1 T.a_law_lengths T.d_law_lengths ["work", "marks"] (sp_law_lengths K) := by
  refine OB.Fun.fg T.F_law_lengths sc_law_lengths (fun vs H Q E h => h.1) (fun cdv A out s H vs Q E g h => ?_)
  obtain ⟨_, F, G, p, q, wk, ms, rfl, S, hd, hm, wo, ok, k⟩ := h
  refine ⟨_, (pss_cons (ps_asg (pv 0) (pg_tupK (K := K) rfl (n := 3) rfl (pgs_cons (pg_name (i := 2) sc_law_lengths.nd rfl (by first | exact Or.inl rfl | exact Or.inr rfl)) (pgs_cons (pg_name (i := 3) sc_law_lengths.nd rfl (by first | exact Or.inl rfl | exact Or.inr rfl)) (pgs_cons (pg_name (i := 4) sc_law_lengths.nd rfl (by first | exact Or.inl rfl | exact Or.inr rfl)) pgs_nil)))))
      (pss_cons (ps_par (i := 5) (j := 6) rfl sc_law_lengths.nd rfl rfl (by decide) rfl rfl (pa_cons (pe_lst pa_nil) (pa_cons pe_int pa_nil)) (by rfl))
      (pss_cons (ps_for PassesOwn.never rfl (pi_enumK (by rfl) T.n_enumerate (pa_cons (pv 2) pa_nil)) (pg_tupK (K := K) rfl (n := 2) rfl (pgs_cons (pg_name (i := 7) sc_law_lengths.nd rfl (by first | exact Or.inl rfl | exact Or.inr rfl)) (pgs_cons (pg_name (i := 8) sc_law_lengths.nd rfl (by first | exact Or.inl rfl | exact Or.inr rfl)) pgs_nil)))
      (pss_cons (ps_set (i := 6) sc_law_lengths.nd rfl (by first | exact Or.inl rfl | exact Or.inr rfl) (pe_op op_add (pv 6) (pv 8)))
      (pss_one (ps_if (PW.pt (pw_or (pt_cmpR (op_inK (K := K) rfl) (pv 7) (pv 1) (by rfl)) (pw_or1 (pt_cmpR op_eq (pv 7) (pe_op op_sub (pe_callB (toK (r := OB.rLen) (K := K) rfl c_len) (by rfl) T.n_len PySem.boot_len (pa_cons (pv 2) pa_nil)) pe_int) (nomark _))))) (pss_cons (ps_expr (pe_bm PySem.F.plainAttrs_list PySem.F.slot_list_append PySem.F.type_list_append mt_append (pv 5) (pa_cons (pe_callTy c_int (by rfl) T.n_int (by decide +kernel) (pa_cons (pe_op op_add (pv 6) (pe_ifExp (pt_cmpR (op_inK (K := K) rfl) (pv 7) (pv 1) (by rfl)) (pe_ix (ix_UK (K := K) rfl) (pv 3) (pv 7) (fun _ _ => rfl)) pe_int)) pa_nil)) pa_nil)))
      (pss_one (ps_set (i := 6) sc_law_lengths.nd rfl (by first | exact Or.inl rfl | exact Or.inr rfl) pe_int))) pss_nil))))
      (pss_one (ps_ret (pv 5)))))), ?_⟩
  refine g_start (σ := [some _, some _, none, none, none, none, none, none, none]) rfl ?_
  obtain ⟨lp, cp, S1⟩ := Sy.work (S.add _ (dat_ints hm)) hd
  have S2 := S1.add (.tq lp (wk.l.map V.int)) (sqt_ints (S1.dp 1 rfl))
  clear S S1
  have hl : (wk.l.map V.int).length = wk.l.length := List.length_map ..
  have l0 := wo.l0
  have l1 := wo.l1
  have cl := wo.cl
  repeat walk_at "ob"
  rename_i f H1 _ S3
  clear S2
  refine ⟨false, lp, _, rfl, S3.tqs 0 rfl, ?_⟩
  refine for_enumK (xs := wk.l.map V.int) (fun i σ' H' => ∃ v7 v8 pre h, σ' = [some (.ref p), some (.ref q), some (.ref lp), some (.ref cp), some (.int wk.b), some (.ref f), some (.int h), v7, v8] ∧ i ≤ wk.l.length ∧ pre.length ≤ i ∧ ((i < wk.l.length ∧ pre ++ lens wk.c ms (wk.l.drop i) i h = wk.len ms) ∨ (i = wk.l.length ∧ pre = wk.len ms)) ∧
    Sy K ((f, .lst (pre.map V.int)) :: F) (.tq lp (wk.l.map V.int) :: .tq p [.ref lp, .ref cp, .int wk.b] :: .dat [.ref lp] [intsD wk.l] :: .dat [.ref cp] [intsD wk.c] :: .dat [.ref q] [intsD ms] :: G) H') ⟨none, none, [], 0, rfl, Nat.zero_le _, Nat.le_refl _, .inl ⟨by omega, rfl⟩, S3⟩ (fun i σ' H' ⟨_, _, _, _, _, _, _, _, S4⟩ => S4.tqs 0 rfl) ?_ ?_
  · rintro i x Tn σ' H' hx ⟨v7, v8, pre, h, rfl, hi, pl, e, S4⟩ hT
    refine g_pair S4 hT fun H2 S5 => ?_
    clear S3 S4
    rw [List.getElem?_map] at hx
    obtain ⟨r, hr, rfl⟩ := Option.map_eq_some_iff.mp hx
    have hi1 := (List.getElem?_eq_some_iff.mp hr).1
    rcases e with ⟨_, e⟩ | ⟨e, _⟩
    · rw [lens_step hr] at e
      repeat walk_at "ob"
      refine g_inT (sqt_ints (S5.dp 5 rfl)) ?_
      repeat walk_at "ob"
      refine g_iteD (fun h1 => ?_) (fun h1 => ?_)
      · have hci := (ok.mv _ h1).2
        have hce : wk.c[i]? = some (wk.c.getD i 0) := by
          rw [List.getD_eq_getElem?_getD, List.getElem?_eq_getElem (by omega)]
          rfl
        rw [if_pos h1] at e
        repeat walk_at "ob"
        refine g_inT (sqt_ints (S5.dp 5 rfl)) ?_
        rw [decide_eq_true h1]
        repeat walk_at "ob"
        refine g_ixUT (v := .int (wk.c.getD i 0)) (sqt_ints (S5.dp 4 rfl)) (atI_nn (by omega) (by rw [List.getElem?_map, Int.toNat_natCast, hce]; rfl)) ?_
        repeat walk_at "ob"
        refine g_appS S5 (f := 0) rfl (by rw [List.length_map]; omega) fun H3 S6 => ?_
        repeat walk_at "ob"
        refine ⟨_, _, pre ++ [h + r + wk.c.getD i 0], 0, rfl, hi1, by rw [List.length_append, List.length_singleton]; omega, .inl ⟨by omega, by rw [List.append_assoc]; exact e⟩, ?_⟩
        rw [List.map_append]
        exact S6.drop
      · rw [if_neg h1] at e
        repeat walk_at "ob"
        rw [hl]
        refine g_iteD (fun h2 => ?_) (fun h2 => ?_)
        · repeat walk_at "ob"
          refine g_inT (sqt_ints (S5.dp 5 rfl)) ?_
          rw [decide_eq_false h1]
          repeat walk_at "ob"
          refine g_appS S5 (f := 0) rfl (by rw [List.length_map]; omega) fun H3 S6 => ?_
          repeat walk_at "ob"
          have el : i + 1 = wk.l.length := by omega
          rw [el, List.drop_length] at e
          refine ⟨_, _, pre ++ [h + r + 0], 0, rfl, hi1, by rw [List.length_append, List.length_singleton]; omega, .inr ⟨el, by rw [Int.add_zero]; exact e⟩, ?_⟩
          rw [List.map_append]
          exact S6.drop
        · repeat walk_at "ob"
          exact ⟨_, _, pre, h + r, rfl, hi1, by omega, .inl ⟨by omega, e⟩, S5.drop⟩
    · omega
  · rintro σ' H' ⟨v7, v8, pre, h, rfl, hi, pl, e, S4⟩
    rw [hl] at e
    rcases e with ⟨e, _⟩ | ⟨_, e⟩
    · omega
    · repeat walk_at "ob"
      subst e
      exact k f H' S4.drop.drop.drop.drop.drop
/-- where a run stands -/
def Mid (b x : Int) (Ls ns : List Int) (T clock done rest : Int) : Prop := 0 ≤ done ∧ done < x ∧ 0 ≤ rest ∧ fin b x Ls (clock + rest + x - done) (from' ns (clock + 1)) = T
def RI (b : Int) (L ns : List Int) (T clock : Int) (at' : Nat) (done rest : Int) : Prop :=
  (∃ x, L[at']? = some x ∧ 0 ≤ done ∧ done < x ∧ 0 ≤ rest ∧ fin b x (L.drop (at' + 1)) (clock + rest + x - done) (from' ns clock) = T) ∨ (at' = L.length ∧ clock = T)
theorem Mid.cut {b x : Int} {Ls ns : List Int} {T clock done rest : Int} (up : ns.Pairwise (· < ·)) (hin : clock ∈ ns) (b0 : 0 ≤ b) (d0 : 0 ≤ done) (d1 : done < x) (r0 : 0 ≤ rest) (e : fin b x Ls (clock + rest + x - done) (from' ns clock) = T) : Mid b x Ls ns T clock 0 b := by
  rw [from_in up hin, fin_cut (by omega)] at e
  exact ⟨Int.le_refl _, by omega, b0, by rw [Int.sub_zero]; exact e⟩
theorem Mid.go {b x : Int} {Ls ns : List Int} {T clock done rest : Int} (hin : clock ∉ ns) (d0 : 0 ≤ done) (d1 : done < x) (r0 : 0 ≤ rest) (e : fin b x Ls (clock + rest + x - done) (from' ns clock) = T) : Mid b x Ls ns T clock done rest := by
  rw [from_out hin] at e
  exact ⟨d0, d1, r0, e⟩
theorem Mid.lt {b x : Int} {Ls ns : List Int} {T clock done rest : Int} (m : Mid b x Ls ns T clock done rest) (b0 : 0 ≤ b) (hL : ∀ x ∈ Ls, 0 ≤ x) : clock < T := by
  obtain ⟨d0, d1, r0, e⟩ := m
  have := fin_ge (b := b) (x := x) (L := Ls) (r := from' ns (clock + 1)) (e := clock + rest + x - done) (t := clock + 1) b0 (by omega) hL from_ge (by omega)
  omega
theorem RI.wait {b x : Int} {L ns : List Int} {T clock done rest : Int} {i : Nat} (hx : L[i]? = some x) (m : Mid b x (L.drop (i + 1)) ns T clock done rest) (h : 0 < rest) : RI b L ns T (clock + 1) i done (rest - 1) := by
  obtain ⟨d0, d1, r0, e⟩ := m
  exact .inl ⟨x, hx, d0, d1, by omega, by rw [show clock + 1 + (rest - 1) + x - done = clock + rest + x - done by omega]; exact e⟩
theorem RI.work {b x : Int} {L ns : List Int} {T clock done rest : Int} {i : Nat} (hx : L[i]? = some x) (m : Mid b x (L.drop (i + 1)) ns T clock done rest) (h : ¬ 0 < rest) (hd : done + 1 ≠ x) : RI b L ns T (clock + 1) i (done + 1) rest := by
  obtain ⟨d0, d1, r0, e⟩ := m
  exact .inl ⟨x, hx, by omega, by omega, r0, by rw [show clock + 1 + rest + x - (done + 1) = clock + rest + x - done by omega]; exact e⟩
theorem RI.next {b x : Int} {L ns : List Int} {T clock done rest : Int} {i : Nat} (hL : ∀ x ∈ L, 1 ≤ x) (hx : L[i]? = some x) (m : Mid b x (L.drop (i + 1)) ns T clock done rest) (h : ¬ 0 < rest) (hd : done + 1 = x) : RI b L ns T (clock + 1) (i + 1) 0 rest := by
  obtain ⟨d0, d1, r0, e⟩ := m
  have il := (List.getElem?_eq_some_iff.mp hx).1
  rw [show clock + rest + x - done = clock + 1 by omega] at e
  by_cases c : i + 1 < L.length
  · have hy : L[i + 1]? = some L[i + 1] := List.getElem?_eq_getElem c
    have y1 := hL _ (List.getElem_mem c)
    rw [List.drop_eq_getElem_cons c, fin_end from_ge] at e
    exact .inl ⟨L[i + 1], hy, Int.le_refl _, by omega, r0, by rw [show clock + 1 + rest + L[i + 1] - 0 = clock + 1 + L[i + 1] by omega]; exact e⟩
  · have : i + 1 = L.length := by omega
    rw [List.drop_of_length_le (by omega), fin_nil from_ge] at e
    exact .inr ⟨this, e⟩
def sp_law_run_ticks (K : Frag) : Sp := fun vs H Q E => vs.length = 3 ∧ ∃ (F : List (Addr × HO)) (G : List Ft) (p q m : Addr) (wk : Work) (ms ns : List Int), vs = [.ref p, .ref q, .ref m] ∧ Sy K F G H ∧ L2.Dp K H (.ref p) (workD wk) ∧ L2.Dp K H (.ref q) (intsD ms) ∧ L2.Dp K H (.ref m) (intsD ns) ∧ WkOk wk ∧ MkOk wk ms ∧ ns.Pairwise (· < ·) ∧ (∀ x ∈ ns, 0 ≤ x) ∧
  ∀ H', Sy K F G H' → Q (.int (runT wk.b (wk.len ms) 0 ns)) H'
end
end LAW

set_option Elab.async false
set_option linter.all false
set_option maxRecDepth 100000
namespace LAW
open PySem PySem.Spec PyProof.Rows L2 PySem.W OB
local macro_rules | `(tactic| walk_at "obc") => `(tactic| first
  | exact Or.inl ⟨by omega, by omega⟩
  | exact Or.inr ⟨by omega, by omega⟩
  | exact cdiv_ok (by omega) (by omega)
  | (show (0 : Int) < _; omega)
  | exact ⟨by omega, by decide⟩
  | exact ⟨by decide, by decide⟩)
local macro_rules | `(tactic| walk_at "obat") => `(tactic| first
  | exact Sy.at (by assumption) 0 rfl | exact Sy.at (by assumption) 1 rfl | exact Sy.at (by assumption) 2 rfl | exact Sy.at (by assumption) 3 rfl
  | exact Sy.at (by assumption) 4 rfl | exact Sy.at (by assumption) 5 rfl | exact Sy.at (by assumption) 6 rfl | exact Sy.at (by assumption) _ (by assumption) | exact Sy.at (by assumption) (_ + 1) (by assumption) | exact Sy.at (by assumption) (_ + 2) (by assumption))
local macro_rules | `(tactic| walk_at "obt") => `(tactic| first
  | exact Sy.tqs (by assumption) 0 rfl | exact Sy.tqs (by assumption) 1 rfl | exact Sy.tqs (by assumption) 2 rfl | exact Sy.tqs (by assumption) 3 rfl | exact Sy.tqs (by assumption) 4 rfl | exact Sy.tqs (by assumption) 5 rfl
  | exact Sy.tqs (by assumption) 6 rfl | exact Sy.tqs (by assumption) 7 rfl | assumption)
local macro_rules | `(tactic| walk_at "obl") => `(tactic| first
  | exact SqL.of (by walk_at "obat")
  | exact Sy.sq (by assumption) 0 rfl | exact Sy.sq (by assumption) 1 rfl | exact Sy.sq (by assumption) 2 rfl | exact Sy.sq (by assumption) 3 rfl | exact Sy.sq (by assumption) _ (by assumption))
local macro_rules | `(tactic| walk_at "obd") => `(tactic| first
  | exact Dp.int _ | exact Dp.bl _ | exact Dp.str _ | exact Dp.non
  | exact Sy.dp (by assumption) 0 rfl | exact Sy.dp (by assumption) 1 rfl | exact Sy.dp (by assumption) 2 rfl | exact Sy.dp (by assumption) 3 rfl
  | exact Sy.dp (by assumption) 4 rfl | exact Sy.dp (by assumption) 5 rfl | exact Sy.dp (by assumption) 6 rfl | exact Sy.dp (by assumption) 7 rfl
  | exact Sy.dp (by assumption) 8 rfl | exact Sy.dp (by assumption) 9 rfl | exact Sy.dp (by assumption) _ (by assumption) | assumption)
local macro_rules | `(tactic| walk_at "obds") => `(tactic| first
  | exact DpAll.nil
  | (refine' DpAll.cons ?ob1 ?ob2; (case ob1 => walk_at "obd"); (case ob2 => walk_at "obds"))
  | exact Sy.dps (by assumption) 0 rfl | exact Sy.dps (by assumption) 1 rfl | exact Sy.dps (by assumption) 2 rfl | exact Sy.dps (by assumption) 3 rfl | assumption)
local macro_rules | `(tactic| walk_at "obsc") => `(tactic| first
  | exact ScL.nil
  | ((first | refine' ScL.int ?obz | refine' ScL.str ?obz | refine' ScL.bl ?obz | refine' ScL.non ?obz); (case obz => walk_at "obsc")))
local macro_rules | `(tactic| walk_at "ob1") => `(tactic| first
  | ((with_reducible refine' g_var ?obh ?_); (case obh => rfl))
  | with_reducible refine g_c ?_
  | with_reducible refine g_nx ?_
  | with_reducible refine g_rt ?_
  | with_reducible refine g_bk ?_
  | with_reducible refine g_ct ?_
  | with_reducible refine g_op ?_
  | with_reducible refine g_I0 ?_
  | with_reducible refine g_test ?_
  | with_reducible refine g_bl ?_
  | with_reducible refine g_blx ?_
  | with_reducible refine g_B ?_
  | with_reducible refine g_seq ?_
  | with_reducible refine g_asg ?_
  | with_reducible refine g_name ?_
  | with_reducible refine g_ifS ?_
  | with_reducible refine g_ret ?_
  | with_reducible refine g_cb ?_
  | with_reducible refine g_cons ?_
  | with_reducible refine g_nil ?_
  | with_reducible refine g_int ?_
  | with_reducible refine g_intB ?_
  | with_reducible refine g_abs ?_
  | with_reducible refine g_max ?_
  | with_reducible refine g_min ?_
  | with_reducible refine g_un ?_
  | with_reducible refine g_U ?_
  | with_reducible refine g_eqI ?_
  | with_reducible refine g_neI ?_
  | with_reducible refine g_eqS ?_
  | with_reducible refine g_neS ?_
  | with_reducible refine g_tt ?_
  | with_reducible refine g_ff ?_
  | with_reducible refine g_next ?_
  | with_reducible refine g_drop ?_
  | with_reducible refine g_if ?_
  | with_reducible refine g_andV ?_
  | with_reducible refine g_orV ?_
  | with_reducible refine g_notV ?_
  | with_reducible refine g_and ?_
  | with_reducible refine g_or ?_
  | with_reducible refine g_not ?_
  | with_reducible refine g_yes ?_
  | with_reducible refine g_chain ?_
  | with_reducible refine g_cg ?_
  | with_reducible refine g_mg ?_
  | with_reducible refine g_kg ?_
  | with_reducible refine g_pg ?_
  | ((with_reducible refine' g_call ?obh ?obj ?_); (case obh => rfl); (case obj => rfl))
  | with_reducible refine g_par ?_
  | with_reducible refine g_par2 ?_
  | with_reducible refine g_par3 ?_
  | with_reducible refine g_par33 ?_
  | with_reducible refine g_gnil ?_
  | with_reducible refine g_gcons ?_
  | with_reducible refine g_gsub ?_
  | with_reducible refine g_ipI ?_
  | with_reducible refine g_rAdd ?_
  | with_reducible refine g_rSub ?_
  | ((with_reducible refine' g_aug ?obh ?_); (case obh => rfl))
  | with_reducible refine g_tup ?_
  | with_reducible refine g_lst ?_
  | with_reducible refine g_bm ?_
  | with_reducible refine g_bm0 ?_
  | with_reducible refine g_sl ?_
  | with_reducible refine g_nopart ?_
  | with_reducible refine g_part ?_
  | with_reducible refine g_pint ?_
  | with_reducible refine isi_int ?_
  | with_reducible refine isi_intB ?_
  | ((with_reducible refine' g_I ?obh ?_); (case obh => walk_at "obc"))
  | ((with_reducible refine' g_tyl ?obh ?_); (case obh => walk_at "obl"))
  | ((with_reducible refine' g_lenL ?obh ?_); (case obh => walk_at "obl"))
  | with_reducible refine g_ne ?_
  | ((with_reducible refine' g_neN' ?obh ?_); (case obh => rfl))
  | with_reducible refine g_ntt ?_
  | with_reducible refine g_nff ?_
  | with_reducible refine g_star ?_
  | with_reducible refine g_att ?_
  | with_reducible refine g_sfld ?_
  | with_reducible refine g_faug ?_
  | with_reducible refine g_fld ?_
  | ((with_reducible refine' g_nF ?obh ?_); (case obh => omega))
  | ((with_reducible refine' g_nT ?obh ?_); (case obh => omega))
  | ((with_reducible refine' g_TD ?obh ?_); (case obh => omega))
  | ((with_reducible refine' g_FD ?obh ?_); (case obh => omega))
  | ((with_reducible refine' g_ixUL ?obh ?obi ?_); (case obh => walk_at "obl"); (case obi => exact atI_nn (by omega) (by rfl)))
  | ((with_reducible refine' g_setLS ?obs ?obh ?obi ?_); (case obs => assumption); (case obh => assumption); (case obi => rfl); intro _ _ _)
  | ((with_reducible refine' g_newT ?obs ?obh ?obi ?obj ?_); (case obs => assumption); (case obh => walk_at "obds"); (case obi => rfl); (case obj => exact Nat.le_of_ble_eq_true rfl); intro _ _ _ _)
  | ((with_reducible refine' g_newL ?obs ?obj ?_); (case obs => assumption); (case obj => exact Nat.le_of_ble_eq_true rfl); intro _ _ _ _)
  | ((with_reducible refine' isi_tup ?obh ?_); (case obh => walk_at "obt"))
  | ((with_reducible refine' g_lenT ?obh ?_); (case obh => walk_at "obt"))
  | ((with_reducible refine' g_unpT ?obh ?obi ?_); (case obh => walk_at "obt"); (case obi => rfl))
  | ((with_reducible refine' g_divmod ?obs ?obh ?_); (case obs => assumption); (case obh => exact cdivp_ok (by omega) (by omega) (by omega)); intro _ _ _ _)
  | ((with_reducible refine' g_unpD ?obh ?obi ?obj ?_); (case obh => walk_at "obd"); (case obi => walk_at "obsc"); (case obj => rfl))
  | with_reducible refine g_att ?_)
local macro_rules | `(tactic| walk_at "ob") => `(tactic| first
  | walk_at "ob1"
  | refine use_is_integer ?_
  | refine use_is_within ?_
  | with_reducible refine g_lstRg ?_
  | with_reducible refine g_rg1 ?_
  | with_reducible refine g_rg2 ?_
  | with_reducible refine g_tTru ?_
  | ((with_reducible refine' g_truL ?obh ?_); (case obh => walk_at "obl"))
  | ((with_reducible refine' g_ixUT ?obh ?obi ?_); (case obh => walk_at "obt"); (case obi => rfl))
  | with_reducible refine g_forZ ?_
  | with_reducible refine g_forR2 ?_
  | with_reducible refine g_forE ?_
  | with_reducible refine g_lcZ ?_)
section
variable {P : Program} {w : World} {K : Frag} {mg : Str → Option Value} {base : Heap}
def sp_law_worst_ticks (K : Frag) : Sp := sp_worst_at K
abbrev names_law_worst_ticks : List Str := ["work", "marks", "cuts", "lengths"]
theorem sc_law_worst_ticks : FnScope names_law_worst_ticks ["work", "marks", "cuts"] (defScope (top 44)) := ⟨rfl, rfl, rfl, by decide +kernel, rfl, by decide +kernel, by decide +kernel⟩
set_option maxHeartbeats 4000000 in
theorem ok_law_worst_ticks (T : Tx K mg) : FG P w K mg base CX0 2 T.a_law_worst_ticks T.d_law_worst_ticks ["work", "marks", "cuts"] (sp_law_worst_ticks K) := by
  refine OB.Fun.fg T.F_law_worst_ticks sc_law_worst_ticks (fun vs H Q E h => h.1) (fun cdv A out s H vs Q E g h => ?_)
  obtain ⟨_, F, G, p, q, wk, ms, c, rfl, S, hd, hm, wo, ok, c0, c1, k⟩ := h
  refine ⟨_, (pss_cons (ps_set (i := 3) sc_law_worst_ticks.nd rfl (by first | exact Or.inl rfl | exact Or.inr rfl) (pe_cg (ok_law_lengths T) (g.mono (by decide : 1 ≤ 1)) (by rfl) T.m_law_lengths T.F_law_lengths.kp (OB.Fun.bd T.F_law_lengths (ps := ["work", "marks"]) (n := 2) (ks := []) (ix := [0, 1]) (fun _ _ _ _ _ _ us ws h1 h2 => match us, ws, h1, h2 with | [_, _], [], _, _ => rfl)) pass0 (pa_cons (pv 0) (pa_cons (pv 1) pa_nil)) pk_nil))
      (pss_one (ps_ret (pe_callTy c_int (by rfl) T.n_int (by decide +kernel) (pa_cons (pe_op op_add (pe_callB (toK (r := rSum) (K := K) rfl (cr_sum rfl)) (by rfl) T.n_sum (by decide +kernel) (pa_cons (pv 3) pa_nil)) (pe_op op_mul (pv 2) (pe_op op_sub (pe_op op_add (pe_ix (ix_UK (K := K) rfl) (pv 0) pe_int (fun _ _ => rfl)) (pe_callB (toK (r := OB.rMaxU) (K := K) rfl (c_maxU rfl)) (by rfl) T.n_max (by decide +kernel) (pa_cons (pv 3) pa_nil))) pe_int))) pa_nil))))), ?_⟩
  refine g_start (σ := [some _, some _, some _, none]) rfl ?_
  have S1 := (S.add _ (dat_work hd)).add _ (dat_ints hm)
  clear S
  have lk := Work.lok wo ok
  have b0 := wo.b0
  have m0 := lk.mx
  repeat walk_at "ob"
  refine use_lengths S1 (S1.dp 1 rfl) (S1.dp 0 rfl) wo ok fun r H2 S2 => ?_
  obtain ⟨lp, cp, S3⟩ := Sy.work S2 (S2.dp 1 rfl)
  clear S1 S2
  generalize wk.len ms = L at *
  repeat walk_at "ob"
  refine g_sum (SqL.of (S3.at 0 rfl)) ?_
  repeat walk_at "ob"
  refine g_maxUL (SqL.of (S3.at 0 rfl)) lk.pos fun m h1 h2 => ?_
  rw [mx_eq h1 h2 fun x hx => (lk.v1 x hx).1]
  repeat walk_at "ob"
  exact k _ S3.less.drop.drop.drop.drop.drop
/-! ### all moments -/
def sgl (n : Nat) : List (List Int) := (List.range n).map fun (i : Nat) => [(i : Int)]
def prs (n i : Nat) : List (List Int) := (List.range (n - (i + 1))).map fun (j : Nat) => [(i : Int), (i : Int) + 1 + j]
def prsTo (n m : Nat) : List (List Int) := (List.range m).flatMap (prs n)
theorem prsTo_succ {n m : Nat} : prsTo n (m + 1) = prsTo n m ++ prs n m := by
  unfold prsTo
  rw [List.range_succ, List.flatMap_append]
  simp
theorem prs_len {n i : Nat} : (prs n i).length = n - (i + 1) := by
  unfold prs
  rw [List.length_map, List.length_range]
theorem prsTo_len {n : Nat} (h : n ≤ 26) : ∀ m, (prsTo n m).length ≤ 26 * m
  | 0 => Nat.le_refl _
  | m + 1 => by
    have := prsTo_len h m
    rw [prsTo_succ, List.length_append, prs_len]
    omega
/-- all moments below last, at most so many -/
structure AllM (last cuts : Int) (mss : List (List Int)) : Prop where
  ok : ∀ m ∈ mss, m.Pairwise (· < ·) ∧ (∀ x ∈ m, 0 ≤ x ∧ x < last) ∧ (m.length : Int) ≤ cuts
  all : ∀ m : List Int, m.Pairwise (· < ·) → (∀ x ∈ m, 0 ≤ x ∧ x < last) → (m.length : Int) ≤ cuts → m ∈ mss
theorem sgl_mem {n : Nat} {m : List Int} : m ∈ sgl n ↔ ∃ x : Int, m = [x] ∧ 0 ≤ x ∧ x < n := by
  unfold sgl
  rw [List.mem_map]
  constructor
  · rintro ⟨i, hi, rfl⟩
    have := List.mem_range.mp hi
    exact ⟨_, rfl, by omega, by omega⟩
  · rintro ⟨x, rfl, h0, h1⟩
    exact ⟨x.toNat, List.mem_range.mpr (by omega), by rw [Int.toNat_of_nonneg h0]⟩
theorem prs_mem {n : Nat} {m : List Int} : m ∈ prsTo n n ↔ ∃ x y : Int, m = [x, y] ∧ 0 ≤ x ∧ x < y ∧ y < n := by
  unfold prsTo
  rw [List.mem_flatMap]
  constructor
  · rintro ⟨i, hi, h⟩
    unfold prs at h
    obtain ⟨j, hj, rfl⟩ := List.mem_map.mp h
    have := List.mem_range.mp hj
    exact ⟨_, _, rfl, by omega, by omega, by omega⟩
  · rintro ⟨x, y, rfl, h0, h1, h2⟩
    refine ⟨x.toNat, List.mem_range.mpr (by omega), ?_⟩
    unfold prs
    refine List.mem_map.mpr ⟨(y - x - 1).toNat, List.mem_range.mpr (by omega), ?_⟩
    rw [Int.toNat_of_nonneg h0, Int.toNat_of_nonneg (by omega), show x + 1 + (y - x - 1) = y by omega]
theorem allM0 {last : Int} : AllM last 0 [[]] := ⟨fun m hm => by
  cases List.mem_singleton.mp hm
  exact ⟨.nil, fun x hx => (nomatch hx), Int.le_refl _⟩, fun m _ _ hl => by
  have : m = [] := List.length_eq_zero_iff.mp (by omega)
  subst this
  exact List.mem_singleton.mpr rfl⟩
theorem allM1 {n : Nat} : AllM n 1 ([[]] ++ sgl n) := ⟨fun m hm => by
  rcases List.mem_append.mp hm with hm | hm
  · cases List.mem_singleton.mp hm
    exact ⟨.nil, fun x hx => (nomatch hx), by decide⟩
  · obtain ⟨x, rfl, h0, h1⟩ := sgl_mem.mp hm
    exact ⟨by simp, fun y hy => by cases List.mem_singleton.mp hy; exact ⟨h0, h1⟩, Int.le_refl _⟩, fun m _ hv hl => by
  match m, hv, hl with
  | [], _, _ => exact List.mem_append_left _ (List.mem_singleton.mpr rfl)
  | [x], hv, _ =>
    have := hv x (List.mem_singleton.mpr rfl)
    exact List.mem_append_right _ (sgl_mem.mpr ⟨x, rfl, this.1, this.2⟩)
  | x :: y :: r, _, hl =>
    rw [List.length_cons, List.length_cons] at hl
    omega⟩
theorem allM2 {n : Nat} : AllM n 2 (([[]] ++ sgl n) ++ prsTo n n) := ⟨fun m hm => by
  rcases List.mem_append.mp hm with hm | hm
  · obtain ⟨q1, q2, q3⟩ := allM1.ok m hm
    exact ⟨q1, q2, by omega⟩
  · obtain ⟨x, y, rfl, h0, h1, h2⟩ := prs_mem.mp hm
    refine ⟨?_, fun z hz => ?_, Int.le_refl _⟩
    · rw [List.pairwise_cons]
      exact ⟨fun z hz => by cases List.mem_singleton.mp hz; exact h1, by simp⟩
    · rcases List.mem_cons.mp hz with rfl | hz
      · exact ⟨h0, by omega⟩
      · cases List.mem_singleton.mp hz
        exact ⟨by omega, h2⟩, fun m up hv hl => by
  match m, up, hv, hl with
  | [], up, hv, _ => exact List.mem_append_left _ (allM1.all [] up hv (by decide))
  | [x], up, hv, _ => exact List.mem_append_left _ (allM1.all [x] up hv (Int.le_refl _))
  | [x, y], up, hv, _ =>
    have h1 := hv x (List.mem_cons_self ..)
    have h2 := hv y (List.mem_cons_of_mem _ (List.mem_singleton.mpr rfl))
    have h3 := (List.pairwise_cons.mp up).1 y (List.mem_singleton.mpr rfl)
    exact List.mem_append_right _ (prs_mem.mpr ⟨x, y, rfl, h1.1, h3, h2.2⟩)
  | x :: y :: z :: r, _, _, hl =>
    rw [List.length_cons, List.length_cons, List.length_cons] at hl
    omega⟩
def sp_law_all_moments (K : Frag) : Sp := fun vs H Q E => vs.length = 2 ∧ ∃ (F : List (Addr × HO)) (G : List Ft) (last cuts : Int), vs = [.int last, .int cuts] ∧ Sy K F G H ∧ 0 ≤ last ∧ last ≤ 26 ∧ 0 ≤ cuts ∧ cuts ≤ 2 ∧
  ∀ r vs H' (mss : List (List Int)), AllM last cuts mss → mss.length ≤ 1000 → Sy K ((r, .lst vs) :: F) (.dat vs (mss.map intsD) :: G) H' → Q (.ref r) H'
end
end LAW

set_option Elab.async false
set_option linter.all false
set_option maxRecDepth 100000
namespace LAW
open PySem PySem.Spec PyProof.Rows L2 PySem.W OB
local macro_rules | `(tactic| walk_at "obc") => `(tactic| first
  | exact Or.inl ⟨by omega, by omega⟩
  | exact Or.inr ⟨by omega, by omega⟩
  | exact cdiv_ok (by omega) (by omega)
  | (show (0 : Int) < _; omega)
  | exact ⟨by omega, by decide⟩
  | exact ⟨by decide, by decide⟩)
local macro_rules | `(tactic| walk_at "obat") => `(tactic| first
  | exact Sy.at (by assumption) 0 rfl | exact Sy.at (by assumption) 1 rfl | exact Sy.at (by assumption) 2 rfl | exact Sy.at (by assumption) 3 rfl
  | exact Sy.at (by assumption) 4 rfl | exact Sy.at (by assumption) 5 rfl | exact Sy.at (by assumption) 6 rfl | exact Sy.at (by assumption) _ (by assumption) | exact Sy.at (by assumption) (_ + 1) (by assumption) | exact Sy.at (by assumption) (_ + 2) (by assumption))
local macro_rules | `(tactic| walk_at "obt") => `(tactic| first
  | exact Sy.tqs (by assumption) 0 rfl | exact Sy.tqs (by assumption) 1 rfl | exact Sy.tqs (by assumption) 2 rfl | exact Sy.tqs (by assumption) 3 rfl | exact Sy.tqs (by assumption) 4 rfl | exact Sy.tqs (by assumption) 5 rfl
  | exact Sy.tqs (by assumption) 6 rfl | exact Sy.tqs (by assumption) 7 rfl | assumption)
local macro_rules | `(tactic| walk_at "obl") => `(tactic| first
  | exact SqL.of (by walk_at "obat")
  | exact Sy.sq (by assumption) 0 rfl | exact Sy.sq (by assumption) 1 rfl | exact Sy.sq (by assumption) 2 rfl | exact Sy.sq (by assumption) 3 rfl | exact Sy.sq (by assumption) _ (by assumption))
local macro_rules | `(tactic| walk_at "obd") => `(tactic| first
  | exact Dp.int _ | exact Dp.bl _ | exact Dp.str _ | exact Dp.non
  | exact Sy.dp (by assumption) 0 rfl | exact Sy.dp (by assumption) 1 rfl | exact Sy.dp (by assumption) 2 rfl | exact Sy.dp (by assumption) 3 rfl
  | exact Sy.dp (by assumption) 4 rfl | exact Sy.dp (by assumption) 5 rfl | exact Sy.dp (by assumption) 6 rfl | exact Sy.dp (by assumption) 7 rfl
  | exact Sy.dp (by assumption) 8 rfl | exact Sy.dp (by assumption) 9 rfl | exact Sy.dp (by assumption) _ (by assumption) | assumption)
local macro_rules | `(tactic| walk_at "obds") => `(tactic| first
  | exact DpAll.nil
  | (refine' DpAll.cons ?ob1 ?ob2; (case ob1 => walk_at "obd"); (case ob2 => walk_at "obds"))
  | exact Sy.dps (by assumption) 0 rfl | exact Sy.dps (by assumption) 1 rfl | exact Sy.dps (by assumption) 2 rfl | exact Sy.dps (by assumption) 3 rfl | assumption)
local macro_rules | `(tactic| walk_at "obsc") => `(tactic| first
  | exact ScL.nil
  | ((first | refine' ScL.int ?obz | refine' ScL.str ?obz | refine' ScL.bl ?obz | refine' ScL.non ?obz); (case obz => walk_at "obsc")))
local macro_rules | `(tactic| walk_at "ob1") => `(tactic| first
  | ((with_reducible refine' g_var ?obh ?_); (case obh => rfl))
  | with_reducible refine g_c ?_
  | with_reducible refine g_nx ?_
  | with_reducible refine g_rt ?_
  | with_reducible refine g_bk ?_
  | with_reducible refine g_ct ?_
  | with_reducible refine g_op ?_
  | with_reducible refine g_I0 ?_
  | with_reducible refine g_test ?_
  | with_reducible refine g_bl ?_
  | with_reducible refine g_blx ?_
  | with_reducible refine g_B ?_
  | with_reducible refine g_seq ?_
  | with_reducible refine g_asg ?_
  | with_reducible refine g_name ?_
  | with_reducible refine g_ifS ?_
  | with_reducible refine g_ret ?_
  | with_reducible refine g_cb ?_
  | with_reducible refine g_cons ?_
  | with_reducible refine g_nil ?_
  | with_reducible refine g_int ?_
  | with_reducible refine g_intB ?_
  | with_reducible refine g_abs ?_
  | with_reducible refine g_max ?_
  | with_reducible refine g_min ?_
  | with_reducible refine g_un ?_
  | with_reducible refine g_U ?_
  | with_reducible refine g_eqI ?_
  | with_reducible refine g_neI ?_
  | with_reducible refine g_eqS ?_
  | with_reducible refine g_neS ?_
  | with_reducible refine g_tt ?_
  | with_reducible refine g_ff ?_
  | with_reducible refine g_next ?_
  | with_reducible refine g_drop ?_
  | with_reducible refine g_if ?_
  | with_reducible refine g_andV ?_
  | with_reducible refine g_orV ?_
  | with_reducible refine g_notV ?_
  | with_reducible refine g_and ?_
  | with_reducible refine g_or ?_
  | with_reducible refine g_not ?_
  | with_reducible refine g_yes ?_
  | with_reducible refine g_chain ?_
  | with_reducible refine g_cg ?_
  | with_reducible refine g_mg ?_
  | with_reducible refine g_kg ?_
  | with_reducible refine g_pg ?_
  | ((with_reducible refine' g_call ?obh ?obj ?_); (case obh => rfl); (case obj => rfl))
  | with_reducible refine g_par ?_
  | with_reducible refine g_par2 ?_
  | with_reducible refine g_par3 ?_
  | with_reducible refine g_par33 ?_
  | with_reducible refine g_gnil ?_
  | with_reducible refine g_gcons ?_
  | with_reducible refine g_gsub ?_
  | with_reducible refine g_ipI ?_
  | with_reducible refine g_rAdd ?_
  | with_reducible refine g_rSub ?_
  | ((with_reducible refine' g_aug ?obh ?_); (case obh => rfl))
  | with_reducible refine g_tup ?_
  | with_reducible refine g_lst ?_
  | with_reducible refine g_bm ?_
  | with_reducible refine g_bm0 ?_
  | with_reducible refine g_sl ?_
  | with_reducible refine g_nopart ?_
  | with_reducible refine g_part ?_
  | with_reducible refine g_pint ?_
  | with_reducible refine isi_int ?_
  | with_reducible refine isi_intB ?_
  | ((with_reducible refine' g_I ?obh ?_); (case obh => walk_at "obc"))
  | ((with_reducible refine' g_tyl ?obh ?_); (case obh => walk_at "obl"))
  | ((with_reducible refine' g_lenL ?obh ?_); (case obh => walk_at "obl"))
  | with_reducible refine g_ne ?_
  | ((with_reducible refine' g_neN' ?obh ?_); (case obh => rfl))
  | with_reducible refine g_ntt ?_
  | with_reducible refine g_nff ?_
  | with_reducible refine g_star ?_
  | with_reducible refine g_att ?_
  | with_reducible refine g_sfld ?_
  | with_reducible refine g_faug ?_
  | with_reducible refine g_fld ?_
  | ((with_reducible refine' g_nF ?obh ?_); (case obh => omega))
  | ((with_reducible refine' g_nT ?obh ?_); (case obh => omega))
  | ((with_reducible refine' g_TD ?obh ?_); (case obh => omega))
  | ((with_reducible refine' g_FD ?obh ?_); (case obh => omega))
  | ((with_reducible refine' g_ixUL ?obh ?obi ?_); (case obh => walk_at "obl"); (case obi => exact atI_nn (by omega) (by rfl)))
  | ((with_reducible refine' g_setLS ?obs ?obh ?obi ?_); (case obs => assumption); (case obh => assumption); (case obi => rfl); intro _ _ _)
  | ((with_reducible refine' g_newT ?obs ?obh ?obi ?obj ?_); (case obs => assumption); (case obh => walk_at "obds"); (case obi => rfl); (case obj => exact Nat.le_of_ble_eq_true rfl); intro _ _ _ _)
  | ((with_reducible refine' g_newL ?obs ?obj ?_); (case obs => assumption); (case obj => exact Nat.le_of_ble_eq_true rfl); intro _ _ _ _)
  | ((with_reducible refine' isi_tup ?obh ?_); (case obh => walk_at "obt"))
  | ((with_reducible refine' g_lenT ?obh ?_); (case obh => walk_at "obt"))
  | ((with_reducible refine' g_unpT ?obh ?obi ?_); (case obh => walk_at "obt"); (case obi => rfl))
  | ((with_reducible refine' g_divmod ?obs ?obh ?_); (case obs => assumption); (case obh => exact cdivp_ok (by omega) (by omega) (by omega)); intro _ _ _ _)
  | ((with_reducible refine' g_unpD ?obh ?obi ?obj ?_); (case obh => walk_at "obd"); (case obi => walk_at "obsc"); (case obj => rfl))
  | with_reducible refine g_att ?_)
local macro_rules | `(tactic| walk_at "ob") => `(tactic| first
  | walk_at "ob1"
  | refine use_is_integer ?_
  | refine use_is_within ?_
  | with_reducible refine g_lstRg ?_
  | with_reducible refine g_rg1 ?_
  | with_reducible refine g_rg2 ?_
  | with_reducible refine g_tTru ?_
  | ((with_reducible refine' g_truL ?obh ?_); (case obh => walk_at "obl"))
  | ((with_reducible refine' g_ixUT ?obh ?obi ?_); (case obh => walk_at "obt"); (case obi => rfl))
  | with_reducible refine g_forZ ?_
  | with_reducible refine g_forR2 ?_
  | with_reducible refine g_forE ?_
  | with_reducible refine g_lcZ ?_)
section
variable {P : Program} {w : World} {K : Frag} {mg : Str → Option Value} {base : Heap}
theorem hu1 {k : Nat} {A : Around} (g : RG k A) : A.units + 1 < cLine := by
  have := g.hu64
  omega
/-! ### the table as a dict -/
def entD (e : Ent) : PyData := .tuple [.int e.k, match e.pr with | none => .none | some a => .int a]
def kvOf (es : List Ent) (vs : List V) : List (Key × V) := List.zipWith (fun (e : Ent) (v : V) => ((Sum.inl (e.q : Int) : Key), v)) es vs
theorem kvOf_keys : ∀ {es : List Ent} {vs : List V}, vs.length = es.length → KeysI (kvOf es vs) (es.map fun e => (e.q : Int))
  | [], [], _ => rfl
  | [], _ :: _, h => by cases h
  | _ :: _, [], h => by cases h
  | e :: es, v :: vs, h => by
    show List.map _ (_ :: kvOf es vs) = _
    rw [List.map_cons, kvOf_keys (show vs.length = es.length by simpa using h)]
    rfl
theorem kvOf_len {es : List Ent} {vs : List V} (h : vs.length = es.length) : (kvOf es vs).length = es.length := by
  unfold kvOf
  rw [List.length_zipWith, h, Nat.min_self]
theorem kvOf_get : ∀ {es : List Ent} {vs : List V} {i : Nat} {e : Ent} {v : V}, es.Pairwise (fun x y => x.q < y.q) → es[i]? = some e → vs[i]? = some v → valV (kvOf es vs) (Sum.inl (e.q : Int) : Key) = some v
  | [], _, _, _, _, _, h, _ => nomatch h
  | _ :: _, [], _, _, _, _, _, h => nomatch h
  | f :: es, u :: vs, 0, e, v, _, h1, h2 => by
    cases (show some f = some e from h1)
    cases (show some u = some v from h2)
    unfold valV kvOf
    simp
  | f :: es, u :: vs, i + 1, e, v, pw, h1, h2 => by
    obtain ⟨p1, p2⟩ := List.pairwise_cons.mp pw
    have h1 : es[i]? = some e := h1
    have ne : f.q < e.q := p1 e (List.mem_of_getElem? h1)
    have ih := kvOf_get (vs := vs) p2 h1 (show vs[i]? = some v from h2)
    unfold valV kvOf at ih ⊢
    rw [List.zipWith_cons_cons, List.find?_cons_of_neg]
    · exact ih
    · simp
      omega
theorem kvOf_none : ∀ {es : List Ent} {vs : List V} {q : Int}, (∀ e ∈ es, (e.q : Int) ≠ q) → valV (kvOf es vs) (Sum.inl q : Key) = none
  | [], _, _, _ => rfl
  | _ :: _, [], _, _ => rfl
  | f :: es, u :: vs, q, h => by
    have ih := kvOf_none (es := es) (vs := vs) (q := q) fun e he => h e (List.mem_cons_of_mem _ he)
    have hf := h f (List.mem_cons_self ..)
    unfold valV kvOf at ih ⊢
    rw [List.zipWith_cons_cons, List.find?_cons_of_neg]
    · exact ih
    · simpa using hf
theorem kvOf_put {es : List Ent} {vs : List V} {e : Ent} {v : V} (hl : vs.length = es.length) (h : ∀ f ∈ es, f.q < e.q) : putK (kvOf es vs) (Sum.inl (e.q : Int)) v = kvOf (es ++ [e]) (vs ++ [v]) := by
  have hn : ((kvOf es vs).any fun kv => decide (kv.1 = (Sum.inl (e.q : Int) : Key))) = false := by
    rw [any_key (kvOf_keys hl)]
    apply Bool.eq_false_iff.mpr
    intro z
    obtain ⟨f, hf, ef⟩ := List.mem_map.mp (List.contains_iff_mem.mp z)
    have := h f hf
    omega
  unfold putK
  rw [hn, if_neg Bool.false_ne_true]
  unfold kvOf
  rw [List.zipWith_append hl.symm]
  rfl
/-! ### the cheapest way -/
def wayD (c : Int) (e : Ent) : PyData := .tuple [.int (e.k + c), .int e.q]
def ltE (e f : Ent) : Prop := e.k < f.k ∨ (e.k = f.k ∧ e.q < f.q)
instance (e f : Ent) : Decidable (ltE e f) := inferInstanceAs (Decidable (_ ∨ _))
def minE (e : Ent) (es : List Ent) : Ent := es.foldl (fun a y => if decide (ltE y a) = true then y else a) e
theorem minE_in : ∀ {es : List Ent} {e : Ent}, minE e es ∈ e :: es ∧ (minE e es).k ≤ e.k ∧ ∀ f ∈ es, (minE e es).k ≤ f.k
  | [], e => ⟨List.mem_cons_self .., Int.le_refl _, fun f h => nomatch h⟩
  | y :: es, e => by
    show minE (if decide (ltE y e) = true then y else e) es ∈ _ ∧ _
    by_cases c : ltE y e
    · have ih := minE_in (es := es) (e := y)
      have hk : y.k ≤ e.k := by rcases c with c | c <;> omega
      show minE (if decide (ltE y e) = true then y else e) es ∈ _ ∧ (minE (if decide (ltE y e) = true then y else e) es).k ≤ _ ∧ ∀ f ∈ _, (minE (if decide (ltE y e) = true then y else e) es).k ≤ _
      rw [if_pos (decide_eq_true c)]
      refine ⟨List.mem_cons_of_mem _ ih.1, by omega, fun f hf => ?_⟩
      rcases List.mem_cons.mp hf with rfl | hf
      · exact ih.2.1
      · exact ih.2.2 f hf
    · have ih := minE_in (es := es) (e := e)
      have hk : e.k ≤ y.k := by
        rcases Int.lt_trichotomy y.k e.k with h | h | h
        · exact absurd (.inl h) c
        · omega
        · omega
      show minE (if decide (ltE y e) = true then y else e) es ∈ _ ∧ (minE (if decide (ltE y e) = true then y else e) es).k ≤ _ ∧ ∀ f ∈ _, (minE (if decide (ltE y e) = true then y else e) es).k ≤ _
      rw [if_neg (by rw [decide_eq_false c]; exact Bool.false_ne_true)]
      refine ⟨?_, ih.2.1, fun f hf => ?_⟩
      · rcases List.mem_cons.mp ih.1 with h | h
        · rw [h]; exact List.mem_cons_self ..
        · exact List.mem_cons_of_mem _ (List.mem_cons_of_mem _ h)
      · rcases List.mem_cons.mp hf with rfl | hf
        · have := ih.2.1
          omega
        · exact ih.2.2 f hf
theorem minD_ways {c : Int} : ∀ {es : List Ent} {e : Ent}, minD (wayD c e) (es.map (wayD c)) = wayD c (minE e es)
  | [], e => rfl
  | y :: es, e => by
    have lt : dataLt (wayD c y) (wayD c e) = decide (ltE y e) := by
      unfold wayD
      rw [dataLt_ii]
      apply decide_eq_decide.mpr
      unfold ltE
      omega
    show minD (if dataLt (wayD c y) (wayD c e) then wayD c y else wayD c e) (es.map (wayD c)) = wayD c (minE (if decide (ltE y e) = true then y else e) es)
    rw [lt]
    by_cases h : ltE y e
    · rw [if_pos (decide_eq_true h), if_pos (decide_eq_true h)]
      exact minD_ways
    · rw [if_neg (by rw [decide_eq_false h]; exact Bool.false_ne_true), if_neg (by rw [decide_eq_false h]; exact Bool.false_ne_true)]
      exact minD_ways
theorem ways_imm (c : Int) (es : List Ent) : immAll (es.map (wayD c)) = true := immAll_of fun x hx => by
  obtain ⟨s, _, rfl⟩ := List.mem_map.mp hx
  rfl
theorem ent_imm (es : List Ent) : immAll (es.map entD) = true := immAll_of fun x hx => by
  obtain ⟨s, _, rfl⟩ := List.mem_map.mp hx
  unfold entD
  cases s.pr <;> rfl
def sums (l : List Int) : List Int := (List.range (l.length + 1)).map (pre l)
def sp_sums_of (K : Frag) : Sp := fun vs H Q E => vs.length = 1 ∧ ∃ (F : List (Addr × HO)) (G : List Ft) (p : Addr) (wk : Work), vs = [.ref p] ∧ Sy K F G H ∧ L2.Dp K H (.ref p) (workD wk) ∧ WkOk wk ∧
  ∀ r H', Sy K ((r, .lst ((sums wk.l).map V.int)) :: F) G H' → Q (.ref r) H'
abbrev names_sums_of : List Str := ["work", "found", "taken"]
theorem sc_sums_of : FnScope names_sums_of ["work"] (defScope (top 23)) := ⟨rfl, rfl, rfl, by decide +kernel, rfl, by decide +kernel, by decide +kernel⟩
set_option maxHeartbeats 4000000 in
theorem ok_sums_of (T : Tx K mg) : FG P w K mg base CX0 1 T.a_sums_of T.d_sums_of ["work"] (sp_sums_of K) := by
  refine OB.Fun.fg T.F_sums_of sc_sums_of (fun vs H Q E h => h.1) (fun cdv A out s H vs Q E g h => ?_)
  obtain ⟨_, F, G, p, wk, rfl, S, hd, wo, k⟩ := h
  refine ⟨_, (pss_cons (ps_set (i := 1) sc_sums_of.nd rfl (by first | exact Or.inl rfl | exact Or.inr rfl) (pe_lst (pa_cons pe_int pa_nil)))
      (pss_cons (ps_for PassesOwn.never rfl (pi_seq (pe_ix (ix_UK (K := K) rfl) (pv 0) pe_int (fun _ _ => rfl))) (pg_name (i := 2) sc_sums_of.nd rfl (by first | exact Or.inl rfl | exact Or.inr rfl))
      (pss_one (ps_expr (pe_bm PySem.F.plainAttrs_list PySem.F.slot_list_append PySem.F.type_list_append mt_append (pv 1) (pa_cons (pe_op op_add (pe_ix (ix_UK (K := K) rfl) (pv 1) (pe_un un_neg pe_int) (fun _ _ => rfl)) (pv 2)) pa_nil)))))
      (pss_one (ps_ret (pv 1))))), ?_⟩
  refine g_start (σ := [some _, none, none]) rfl ?_
  obtain ⟨lp, cp, S1⟩ := Sy.work S hd
  have S2 := S1.add (.tq lp (wk.l.map V.int)) (sqt_ints (S1.dp 1 rfl))
  clear S S1
  have hl : (wk.l.map V.int).length = wk.l.length := List.length_map ..
  have l1 := wo.l1
  repeat walk_at "ob"
  rename_i f H1 _ S3
  clear S2
  refine g_tupC ?_
  repeat walk_at "ob"
  refine g_forS (a := lp) (xs := wk.l.map V.int) false (fun i σ' H' => ∃ v2, σ' = [some (.ref p), some (.ref f), v2] ∧ i ≤ wk.l.length ∧ Sy K ((f, .lst (((List.range (i + 1)).map (pre wk.l)).map V.int)) :: F) (.tq lp (wk.l.map V.int) :: .tq p [.ref lp, .ref cp, .int wk.b] :: .dat [.ref lp] [intsD wk.l] :: .dat [.ref cp] [intsD wk.c] :: G) H') (fun Q' q => q)
    ⟨none, rfl, Nat.zero_le _, S3⟩ (fun i σ' H' ⟨_, _, _, S4⟩ => S4.tqs 0 rfl) ?_ ?_
  · rintro i x σ' H' hx ⟨v2, rfl, hi, S4⟩
    rw [List.getElem?_map] at hx
    obtain ⟨r, hr, rfl⟩ := Option.map_eq_some_iff.mp hx
    have hi1 := (List.getElem?_eq_some_iff.mp hr).1
    clear S3
    repeat walk_at "ob"
    have el : ((List.range (i + 1)).map (pre wk.l)).map V.int = ((List.range i).map (pre wk.l)).map V.int ++ [.int (pre wk.l i)] := by
      rw [List.range_succ, List.map_append, List.map_append]
      rfl
    refine g_ixUL (v := .int (pre wk.l i)) (SqL.of (S4.at 0 rfl)) (by rw [el]; exact atI_last) ?_
    repeat walk_at "ob"
    refine g_appS S4 (f := 0) rfl (by rw [List.length_map, List.length_map, List.length_range]; omega) fun H5 S5 => ?_
    repeat walk_at "ob"
    refine ⟨_, rfl, hi1, ?_⟩
    rw [List.range_succ (n := i + 1), List.map_append, List.map_append]
    show Sy K ((f, .lst (_ ++ [V.int (pre wk.l (i + 1))])) :: F) _ _
    rw [pre_succ hr]
    exact S5
  · rintro σ' H' ⟨v2, rfl, hi, S4⟩
    rw [hl] at S4
    repeat walk_at "ob"
    exact k f H' S4.drop.drop.drop.drop
end
end LAW

set_option Elab.async false
set_option linter.all false
set_option maxRecDepth 100000
namespace LAW
open PySem PySem.Spec PyProof.Rows L2 PySem.W OB
local macro_rules | `(tactic| walk_at "obc") => `(tactic| first
  | exact Or.inl ⟨by omega, by omega⟩
  | exact Or.inr ⟨by omega, by omega⟩
  | exact cdiv_ok (by omega) (by omega)
  | (show (0 : Int) < _; omega)
  | exact ⟨by omega, by decide⟩
  | exact ⟨by decide, by decide⟩)
local macro_rules | `(tactic| walk_at "obat") => `(tactic| first
  | exact Sy.at (by assumption) 0 rfl | exact Sy.at (by assumption) 1 rfl | exact Sy.at (by assumption) 2 rfl | exact Sy.at (by assumption) 3 rfl
  | exact Sy.at (by assumption) 4 rfl | exact Sy.at (by assumption) 5 rfl | exact Sy.at (by assumption) 6 rfl | exact Sy.at (by assumption) _ (by assumption) | exact Sy.at (by assumption) (_ + 1) (by assumption) | exact Sy.at (by assumption) (_ + 2) (by assumption))
local macro_rules | `(tactic| walk_at "obt") => `(tactic| first
  | exact Sy.tqs (by assumption) 0 rfl | exact Sy.tqs (by assumption) 1 rfl | exact Sy.tqs (by assumption) 2 rfl | exact Sy.tqs (by assumption) 3 rfl | exact Sy.tqs (by assumption) 4 rfl | exact Sy.tqs (by assumption) 5 rfl
  | exact Sy.tqs (by assumption) 6 rfl | exact Sy.tqs (by assumption) 7 rfl | assumption)
local macro_rules | `(tactic| walk_at "obl") => `(tactic| first
  | exact SqL.of (by walk_at "obat")
  | exact Sy.sq (by assumption) 0 rfl | exact Sy.sq (by assumption) 1 rfl | exact Sy.sq (by assumption) 2 rfl | exact Sy.sq (by assumption) 3 rfl | exact Sy.sq (by assumption) _ (by assumption))
local macro_rules | `(tactic| walk_at "obd") => `(tactic| first
  | exact Dp.int _ | exact Dp.bl _ | exact Dp.str _ | exact Dp.non
  | exact Sy.dp (by assumption) 0 rfl | exact Sy.dp (by assumption) 1 rfl | exact Sy.dp (by assumption) 2 rfl | exact Sy.dp (by assumption) 3 rfl
  | exact Sy.dp (by assumption) 4 rfl | exact Sy.dp (by assumption) 5 rfl | exact Sy.dp (by assumption) 6 rfl | exact Sy.dp (by assumption) 7 rfl
  | exact Sy.dp (by assumption) 8 rfl | exact Sy.dp (by assumption) 9 rfl | exact Sy.dp (by assumption) _ (by assumption) | assumption)
local macro_rules | `(tactic| walk_at "obds") => `(tactic| first
  | exact DpAll.nil
  | (refine' DpAll.cons ?ob1 ?ob2; (case ob1 => walk_at "obd"); (case ob2 => walk_at "obds"))
  | exact Sy.dps (by assumption) 0 rfl | exact Sy.dps (by assumption) 1 rfl | exact Sy.dps (by assumption) 2 rfl | exact Sy.dps (by assumption) 3 rfl | assumption)
local macro_rules | `(tactic| walk_at "obsc") => `(tactic| first
  | exact ScL.nil
  | ((first | refine' ScL.int ?obz | refine' ScL.str ?obz | refine' ScL.bl ?obz | refine' ScL.non ?obz); (case obz => walk_at "obsc")))
local macro_rules | `(tactic| walk_at "ob1") => `(tactic| first
  | ((with_reducible refine' g_var ?obh ?_); (case obh => rfl))
  | with_reducible refine g_c ?_
  | with_reducible refine g_nx ?_
  | with_reducible refine g_rt ?_
  | with_reducible refine g_bk ?_
  | with_reducible refine g_ct ?_
  | with_reducible refine g_op ?_
  | with_reducible refine g_I0 ?_
  | with_reducible refine g_test ?_
  | with_reducible refine g_bl ?_
  | with_reducible refine g_blx ?_
  | with_reducible refine g_B ?_
  | with_reducible refine g_seq ?_
  | with_reducible refine g_asg ?_
  | with_reducible refine g_name ?_
  | with_reducible refine g_ifS ?_
  | with_reducible refine g_ret ?_
  | with_reducible refine g_cb ?_
  | with_reducible refine g_cons ?_
  | with_reducible refine g_nil ?_
  | with_reducible refine g_int ?_
  | with_reducible refine g_intB ?_
  | with_reducible refine g_abs ?_
  | with_reducible refine g_max ?_
  | with_reducible refine g_min ?_
  | with_reducible refine g_un ?_
  | with_reducible refine g_U ?_
  | with_reducible refine g_eqI ?_
  | with_reducible refine g_neI ?_
  | with_reducible refine g_eqS ?_
  | with_reducible refine g_neS ?_
  | with_reducible refine g_tt ?_
  | with_reducible refine g_ff ?_
  | with_reducible refine g_next ?_
  | with_reducible refine g_drop ?_
  | with_reducible refine g_if ?_
  | with_reducible refine g_andV ?_
  | with_reducible refine g_orV ?_
  | with_reducible refine g_notV ?_
  | with_reducible refine g_and ?_
  | with_reducible refine g_or ?_
  | with_reducible refine g_not ?_
  | with_reducible refine g_yes ?_
  | with_reducible refine g_chain ?_
  | with_reducible refine g_cg ?_
  | with_reducible refine g_mg ?_
  | with_reducible refine g_kg ?_
  | with_reducible refine g_pg ?_
  | ((with_reducible refine' g_call ?obh ?obj ?_); (case obh => rfl); (case obj => rfl))
  | with_reducible refine g_par ?_
  | with_reducible refine g_par2 ?_
  | with_reducible refine g_par3 ?_
  | with_reducible refine g_par33 ?_
  | with_reducible refine g_gnil ?_
  | with_reducible refine g_gcons ?_
  | with_reducible refine g_gsub ?_
  | with_reducible refine g_ipI ?_
  | with_reducible refine g_rAdd ?_
  | with_reducible refine g_rSub ?_
  | ((with_reducible refine' g_aug ?obh ?_); (case obh => rfl))
  | with_reducible refine g_tup ?_
  | with_reducible refine g_lst ?_
  | with_reducible refine g_bm ?_
  | with_reducible refine g_bm0 ?_
  | with_reducible refine g_sl ?_
  | with_reducible refine g_nopart ?_
  | with_reducible refine g_part ?_
  | with_reducible refine g_pint ?_
  | with_reducible refine isi_int ?_
  | with_reducible refine isi_intB ?_
  | ((with_reducible refine' g_I ?obh ?_); (case obh => walk_at "obc"))
  | ((with_reducible refine' g_tyl ?obh ?_); (case obh => walk_at "obl"))
  | ((with_reducible refine' g_lenL ?obh ?_); (case obh => walk_at "obl"))
  | with_reducible refine g_ne ?_
  | ((with_reducible refine' g_neN' ?obh ?_); (case obh => rfl))
  | with_reducible refine g_ntt ?_
  | with_reducible refine g_nff ?_
  | with_reducible refine g_star ?_
  | with_reducible refine g_att ?_
  | with_reducible refine g_sfld ?_
  | with_reducible refine g_faug ?_
  | with_reducible refine g_fld ?_
  | ((with_reducible refine' g_nF ?obh ?_); (case obh => omega))
  | ((with_reducible refine' g_nT ?obh ?_); (case obh => omega))
  | ((with_reducible refine' g_TD ?obh ?_); (case obh => omega))
  | ((with_reducible refine' g_FD ?obh ?_); (case obh => omega))
  | ((with_reducible refine' g_ixUL ?obh ?obi ?_); (case obh => walk_at "obl"); (case obi => exact atI_nn (by omega) (by rfl)))
  | ((with_reducible refine' g_setLS ?obs ?obh ?obi ?_); (case obs => assumption); (case obh => assumption); (case obi => rfl); intro _ _ _)
  | ((with_reducible refine' g_newT ?obs ?obh ?obi ?obj ?_); (case obs => assumption); (case obh => walk_at "obds"); (case obi => rfl); (case obj => exact Nat.le_of_ble_eq_true rfl); intro _ _ _ _)
  | ((with_reducible refine' g_newL ?obs ?obj ?_); (case obs => assumption); (case obj => exact Nat.le_of_ble_eq_true rfl); intro _ _ _ _)
  | ((with_reducible refine' isi_tup ?obh ?_); (case obh => walk_at "obt"))
  | ((with_reducible refine' g_lenT ?obh ?_); (case obh => walk_at "obt"))
  | ((with_reducible refine' g_unpT ?obh ?obi ?_); (case obh => walk_at "obt"); (case obi => rfl))
  | ((with_reducible refine' g_divmod ?obs ?obh ?_); (case obs => assumption); (case obh => exact cdivp_ok (by omega) (by omega) (by omega)); intro _ _ _ _)
  | ((with_reducible refine' g_unpD ?obh ?obi ?obj ?_); (case obh => walk_at "obd"); (case obi => walk_at "obsc"); (case obj => rfl))
  | with_reducible refine g_att ?_)
local macro_rules | `(tactic| walk_at "ob") => `(tactic| first
  | walk_at "ob1"
  | refine use_is_integer ?_
  | refine use_is_within ?_
  | with_reducible refine g_lstRg ?_
  | with_reducible refine g_rg1 ?_
  | with_reducible refine g_rg2 ?_
  | with_reducible refine g_tTru ?_
  | ((with_reducible refine' g_truL ?obh ?_); (case obh => walk_at "obl"))
  | ((with_reducible refine' g_ixUT ?obh ?obi ?_); (case obh => walk_at "obt"); (case obi => rfl))
  | with_reducible refine g_forZ ?_
  | with_reducible refine g_forR2 ?_
  | with_reducible refine g_forE ?_
  | with_reducible refine g_lcZ ?_)
section
variable {P : Program} {w : World} {K : Frag} {mg : Str → Option Value} {base : Heap}
/-- the places ahead of an entry -/
inductive Chn (es : List Ent) : Ent → List Nat → Prop
  | nil : Chn es ⟨0, 0, none⟩ []
  | step {e f : Ent} {ps : List Nat} : f ∈ es → f.q < e.q → e.pr = some f.q → Chn es f ps → Chn es e (f.q :: ps)
theorem Dp1.chain {w : Work} {most : Int} {p : Nat} {es : List Ent} (h : Dp1 w most p es) : ∀ (n : Nat) (e : Ent), e ∈ es → e.q ≤ n → ∃ ps, Chn es e ps ∧ Way w most e.q ps e.k
  | n, e, he, hn => by
    rcases h.good e he with q | ⟨f, f1, f2, f3, f4, f5⟩
    · subst q
      exact ⟨[], .nil, .nil⟩
    · cases n with
      | zero => omega
      | succ n =>
        obtain ⟨ps, C, W⟩ := h.chain n f f1 (by omega)
        exact ⟨f.q :: ps, .step f1 f2 f5 C, by rw [f4]; exact .step W f2 f3⟩
theorem Chn.next {es : List Ent} {e : Ent} {ps : List Nat} (h : Chn es e ps) : (∃ f ps2, ps = f.q :: ps2 ∧ f ∈ es ∧ e.pr = some f.q ∧ f.q ≠ 0 ∧ f.q < e.q ∧ Chn es f ps2) ∨ ((e.pr = none ∨ e.pr = some 0) ∧ ahead ps = []) := by
  cases h with
  | nil => exact .inr ⟨.inl rfl, rfl⟩
  | step f1 f2 f3 C =>
    rename_i f ps
    by_cases h0 : f.q = 0
    · refine .inr ⟨.inr (by rw [f3, h0]), ?_⟩
      cases C with
      | nil => rfl
      | step g1 g2 g3 C2 => omega
    · exact .inl ⟨f, ps, rfl, f1, f3, h0, f2, C⟩
theorem Chn.last {es : List Ent} {f : Ent} {ps : List Nat} (h : Chn es f ps) (h0 : f.q ≠ 0) : (ahead (f.q :: ps)).reverse = [(f.q : Int) - 1] ++ (ahead ps).reverse := by
  cases h with
  | nil => exact absurd rfl h0
  | step g1 g2 g3 C2 =>
    rename_i g ps
    show (marksTo g.q ps ++ [(f.q : Int) - 1]).reverse = _
    rw [List.reverse_append]
    rfl
theorem sqt_ent {H : Hp} {a : Addr} {e : Ent} (h : L2.Dp K H (.ref a) (entD e)) : SqT K H a [.int e.k, match e.pr with | none => .non | some a => .int a] := by
  unfold entD at h
  have q := sqt_scal h fun d hd => by
    rcases List.mem_cons.mp hd with rfl | hd
    · rfl
    · cases List.mem_singleton.mp hd
      cases e.pr <;> rfl
  cases hp : e.pr <;> rw [hp] at q <;> exact q
theorem g_lockS {F : List (Addr × HO)} {G : List Ft} {σ : L2.St} {H : Hp} {D : Ends} {t : TS} {d : Addr} {kvs : List (Key × V)} {i : Nat} (S : Sy K F G H) (h : F[i]? = some (d, .dK kvs))
    (k : ∀ od H', Sy K (F.set i (d, .frz od (.dK kvs))) G H' → t ⟨fun σ' H' => H' d = some (.frz od (.dK kvs)) ∧ D.nx σ' (upd H' d (.dK kvs)), fun v H' => H' d = some (.frz od (.dK kvs)) ∧ D.rt v (upd H' d (.dK kvs)), fun σ' H' => H' d = some (.frz od (.dK kvs)) ∧ D.bk σ' (upd H' d (.dK kvs)), fun σ' H' => H' d = some (.frz od (.dK kvs)) ∧ D.ct σ' (upd H' d (.dK kvs))⟩ σ H') : tLock t D σ H :=
  ⟨d, _, S.at i h, trivial, fun od => k od _ (S.put i h rfl)⟩
theorem g_disp3 {σ : L2.St} {H : Hp} {Q : VK} {tk tv : TE} (k : ∀ p, H p = none → tk σ (upd H p (.dK [])) fun x H1 => tv σ H1 fun y H2 => H2 p = some (.dK []) ∧ ∃ kvs : List (Key × V), [(x, y)] = kvs.map (fun kv => (kV kv.1, kv.2)) ∧ kvs.length ≤ 15 ∧ Q (.ref p) (upd H2 p (.dK (mergeK [] kvs)))) : tDisp [(tk, tv)] σ H Q := k
theorem at_map {α : Type} {f : α → Int} {l : List α} {i : Nat} {x : α} {z : Int} (h : l[i]? = some x) (e : z = i) : atI ((l.map f).map V.int) z = some (.int (f x)) := atI_nn (by omega) (by rw [List.getElem?_map, List.getElem?_map, e, Int.toNat_natCast, h]; rfl)
theorem at_cost {c : List Int} {i : Nat} {z : Int} (h : i < c.length + 1) (e : z = i) : atI ((c ++ [0]).map V.int) z = some (.int (cst c (i + 1))) := by
  refine atI_nn (by omega) ?_
  rw [List.getElem?_map, e, Int.toNat_natCast]
  unfold cst
  rw [show i + 1 - 1 = i by omega, List.getD_eq_getElem?_getD]
  have : i < (c ++ [0]).length := by rw [List.length_append, List.length_singleton]; omega
  rw [List.getElem?_eq_getElem this]
  rfl
theorem ways_alike {c : Int} {es : List Ent} : AlikeAll (es.map (wayD c)) := ⟨fun x hx y hy => by
  obtain ⟨e, _, rfl⟩ := List.mem_map.mp hx
  obtain ⟨f, _, rfl⟩ := List.mem_map.mp hy
  rfl, fun x hx z => by
  obtain ⟨e, _, rfl⟩ := List.mem_map.mp hx
  cases z⟩
theorem ways_depth {c : Int} : ∀ (es : List Ent), PyData.depthAll (es.map (wayD c)) ≤ 1
  | [] => Nat.zero_le _
  | e :: es => by
    have ih := ways_depth (c := c) es
    show max (PyData.depth (wayD c e)) (PyData.depthAll (es.map (wayD c))) ≤ 1
    have : PyData.depth (wayD c e) = 1 := rfl
    omega
def sp_cheapest_at (K : Frag) : Sp := fun vs H Q E => vs.length = 2 ∧ ∃ (F : List (Addr × HO)) (G : List Ft) (p : Addr) (wk : Work) (most : Int), vs = [.ref p, .int most] ∧ Sy K F G H ∧ L2.Dp K H (.ref p) (workD wk) ∧ WkOk wk ∧
  ((∀ ps k, ¬ Way wk most wk.l.length ps k) → ∀ H', Sy K F G H' → Q .non H') ∧ ∀ ms q H', Cheap wk most ms → Sy K F (.dat [.ref q] [.tuple [.int (costM wk.c ms), intsD ms]] :: G) H' → Q (.ref q) H'
abbrev names_cheapest_at : List Str := ["work", "most", "sums", "costs", "found", "place", "ways", "ahead", "marks", "cost"]
theorem sc_cheapest_at : FnScope names_cheapest_at ["work", "most"] (defScope (top 24)) := ⟨rfl, rfl, rfl, by decide +kernel, rfl, by decide +kernel, by decide +kernel⟩
set_option maxHeartbeats 4000000 in
theorem ok_cheapest_at (T : Tx K mg) : FG P w K mg base CX0 2 T.a_cheapest_at T.d_cheapest_at ["work", "most"] (sp_cheapest_at K) := by
  refine OB.Fun.fg T.F_cheapest_at sc_cheapest_at (fun vs H Q E h => h.1) (fun cdv A out s H vs Q E g h => ?_)
  obtain ⟨_, F, G, p, wk, most, rfl, S, hd, wo, kn, ks⟩ := h
  refine ⟨_, (pss_cons (ps_asg (pe_tup (pa_cons (pe_cg (ok_sums_of T) (g.mono (by decide : 1 ≤ 1)) (by rfl) T.m_sums_of T.F_sums_of.kp (OB.Fun.bd T.F_sums_of (ps := ["work"]) (n := 1) (ks := []) (ix := [0]) (fun _ _ _ _ _ _ us ws h1 h2 => match us, ws, h1, h2 with | [_], [], _, _ => rfl)) pass0 (pa_cons (pv 0) pa_nil) pk_nil) (pa_cons (pe_lst (StX.pa_star (pe_ix (ix_UK (K := K) rfl) (pv 0) pe_int (fun _ _ => rfl)) (pa_cons pe_int pa_nil))) pa_nil))) (pg_tupK (K := K) rfl (n := 2) rfl (pgs_cons (pg_name (i := 2) sc_cheapest_at.nd rfl (by first | exact Or.inl rfl | exact Or.inr rfl)) (pgs_cons (pg_name (i := 3) sc_cheapest_at.nd rfl (by first | exact Or.inl rfl | exact Or.inr rfl)) pgs_nil))))
      (pss_cons (ps_set (i := 4) sc_cheapest_at.nd rfl (by first | exact Or.inl rfl | exact Or.inr rfl) (pe_disp (pps_cons pe_int (pe_tup (pa_cons pe_int (pa_cons pe_non pa_nil))) pps_nil) (by rfl) (by rfl) (fun z => by cases z) (by decide)))
      (pss_cons (ps_for PassesOwn.never rfl (pi_range2 rfl T.n_range (pa_cons pe_int (pa_cons (pe_callB (toK (r := OB.rLen) (K := K) rfl c_len) (by rfl) T.n_len PySem.boot_len (pa_cons (pv 2) pa_nil)) pa_nil))) (pg_name (i := 5) sc_cheapest_at.nd rfl (by first | exact Or.inl rfl | exact Or.inr rfl))
      (pss_cons (ps_lock (ps_setLc (i := 6) (own := [("ahead", 7)]) rfl sc_cheapest_at.nd rfl rfl (sw_true rfl rfl rfl (by decide +kernel)) (pi_keys (pv 4)) (blkOk_by (N := names_cheapest_at) (sc := defScope (top 24)) (own := [("ahead", 7)]) (by decide +kernel)) (fun _ _ _ _ _ => (pg_name (i := 7) sc_cheapest_at.nd rfl (by first | exact Or.inl rfl | exact Or.inr rfl))) (fun _ _ _ _ _ => pts_one (pt_cmpR op_le (pe_op op_add (pe_op op_sub (pe_ix (ix_UK (K := K) rfl) (pv 2) (pv 5) (fun _ _ => rfl)) (pe_ix (ix_UK (K := K) rfl) (pv 2) (pv 7) (fun _ _ => rfl))) (pe_ix (ix_UK (K := K) rfl) (pv 3) (pe_op op_sub (pv 5) pe_int) (fun _ _ => rfl))) (pv 1) (nomark _))) (fun _ _ _ _ _ => (pe_tup (pa_cons (pe_op op_add (pe_ix (ix_UK (K := K) rfl) (pe_dget (hu1 g) (pv 4) (pv 7) (fun _ _ => rfl)) pe_int (fun _ _ => rfl)) (pe_ix (ix_UK (K := K) rfl) (pv 3) (pe_op op_sub (pv 5) pe_int) (fun _ _ => rfl))) (pa_cons (pv 7) pa_nil))))))
      (pss_one (ps_if (pt_tru (K := K) rfl (pv 6) (fun _ => rfl)) (pss_one (ps_asg (pe_callB (toK (r := OB.rMinD) (K := K) rfl (c_minD rfl g.hu64)) (by rfl) T.n_min (by decide +kernel) (pa_cons (pv 6) pa_nil)) (pg_sub (pv 4) (pv 5) (set_dict (hu1 g))))) pss_nil))))
      (pss_cons (ps_asg (pe_tup (pa_cons (pe_callB (toK (r := OB.rLen) (K := K) rfl c_len) (by rfl) T.n_len PySem.boot_len (pa_cons (pe_ix (ix_UK (K := K) rfl) (pv 0) pe_int (fun _ _ => rfl)) pa_nil)) (pa_cons (pe_lst pa_nil) pa_nil))) (pg_tupK (K := K) rfl (n := 2) rfl (pgs_cons (pg_name (i := 5) sc_cheapest_at.nd rfl (by first | exact Or.inl rfl | exact Or.inr rfl)) (pgs_cons (pg_name (i := 8) sc_cheapest_at.nd rfl (by first | exact Or.inl rfl | exact Or.inr rfl)) pgs_nil))))
      (pss_cons (ps_if (pt_cmp (pc_dnotin (hu1 g) (pv 5) (pv 4)) (by rfl)) (pss_one (ps_ret pe_non)) pss_nil)
      (pss_cons (ps_set (i := 9) sc_cheapest_at.nd rfl (by first | exact Or.inl rfl | exact Or.inr rfl) (pe_ix (ix_UK (K := K) rfl) (pe_dget (hu1 g) (pv 4) (pv 5) (fun _ _ => rfl)) pe_int (fun _ _ => rfl)))
      (pss_cons (ps_while PassesOwn.never (pt_tru (K := K) rfl (pe_ix (ix_UK (K := K) rfl) (pe_dget (hu1 g) (pv 4) (pv 5) (fun _ _ => rfl)) pe_int (fun _ _ => rfl)) (fun _ => rfl))
      (pss_cons (ps_set (i := 5) sc_cheapest_at.nd rfl (by first | exact Or.inl rfl | exact Or.inr rfl) (pe_ix (ix_UK (K := K) rfl) (pe_dget (hu1 g) (pv 4) (pv 5) (fun _ _ => rfl)) pe_int (fun _ _ => rfl)))
      (pss_one (ps_expr (pe_bm PySem.F.plainAttrs_list PySem.F.slot_list_append PySem.F.type_list_append mt_append (pv 8) (pa_cons (pe_op op_sub (pv 5) pe_int) pa_nil))))))
      (pss_one (ps_ret (pe_tup (pa_cons (pv 9) (pa_cons (pe_callTy (toK (r := rTuple) (K := K) rfl c_tuple) (by rfl) T.n_tuple (by decide +kernel) (pa_cons (pe_revLK (K := K) rfl (pv 8)) pa_nil)) pa_nil)))))))))))), ?_⟩
  refine g_start (σ := [some _, some _, none, none, none, none, none, none, none, none]) rfl ?_
  obtain ⟨lp, cp, S1⟩ := Sy.work (S.add _ (dat_work hd)) hd
  clear S
  have l0 := wo.l0
  have l1 := wo.l1
  have cl := wo.cl
  have sl : (sums wk.l).length = wk.l.length + 1 := by unfold sums; rw [List.length_map, List.length_range]
  have hll : (wk.l.map V.int).length = wk.l.length := List.length_map ..
  repeat walk_at "ob"
  refine ⟨rfl, _, _, p, wk, rfl, S1, S1.dp 3 rfl, wo, fun sm H2 S2 => ?_⟩
  clear S1
  repeat walk_at "ob"
  refine ⟨cp, _, rfl, .inl (sqt_ints (S2.dp 2 rfl)), ?_⟩
  repeat walk_at "ob"
  have ec : wk.c.map V.int ++ [V.int 0] = (wk.c ++ [0]).map V.int := by rw [List.map_append]; rfl
  rw [ec]
  refine g_newL S2 (by rw [List.length_map, List.length_append, List.length_singleton]; omega) fun cs H3 _ S3 => ?_
  clear S2
  repeat walk_at "ob"
  refine g_newTq S3 (Nat.le_of_ble_eq_true rfl) fun tq1 H31 _ S31 => ?_
  refine g_unpT (S31.tqs 0 rfl) rfl ?_
  have S32 := S31.drop
  clear S3 S31
  repeat walk_at "ob"
  refine g_disp3 fun fd hfd => ?_
  have S4 := S32.push (o := .dK []) hfd
  clear S32
  repeat walk_at "ob"
  rename_i t0 H5 _ S5
  refine ⟨S5.at 0 rfl, [(.inl 0, .ref t0)], rfl, Nat.le_of_ble_eq_true rfl, ?_⟩
  have S6 : Sy K ((fd, .dK (kvOf [⟨0, 0, none⟩] [.ref t0])) :: (cs, .lst ((wk.c ++ [0]).map V.int)) :: (sm, .lst ((sums wk.l).map V.int)) :: F) (.dat [.ref t0] ([⟨0, 0, none⟩].map entD) :: _) (upd H5 fd (.dK (mergeK [] [(.inl 0, .ref t0)]))) := S5.put (o' := .dK [(.inl 0, .ref t0)]) 0 rfl rfl
  clear S4 S5
  generalize upd H5 fd (.dK (mergeK [] [(.inl 0, .ref t0)])) = H6 at S6 ⊢
  repeat walk_at "ob"
  refine ⟨_, _, rfl, ⟨by decide, by decide, by omega, by rw [List.length_map, sl]; omega⟩, ?_⟩
  rw [show (((((sums wk.l).map V.int).length : Nat) : Int) - 1).toNat = wk.l.length by rw [List.length_map, sl]; omega]
  refine rg2for_of (fun i σ' H' => ∃ v5 v6 es vs, σ' = [some (.ref p), some (.int most), some (.ref sm), some (.ref cs), some (.ref fd), v5, v6, none, none, none] ∧ i ≤ wk.l.length ∧ Dp1 wk most i es ∧ vs.length = es.length ∧ es.length ≤ i + 1 ∧
    Sy K ((fd, .dK (kvOf es vs)) :: (cs, .lst ((wk.c ++ [0]).map V.int)) :: (sm, .lst ((sums wk.l).map V.int)) :: F) (.dat vs (es.map entD) :: .tq p [.ref lp, .ref cp, .int wk.b] :: .dat [.ref lp] [intsD wk.l] :: .dat [.ref cp] [intsD wk.c] :: .dat [.ref p] [workD wk] :: G) H')
    ⟨none, none, [⟨0, 0, none⟩], [.ref t0], rfl, Nat.zero_le _, Dp1.start, rfl, Nat.le_refl _, S6⟩ ?_ ?_
  · rintro i σ' H' hi ⟨v5, v6, es, vs, rfl, hi2, dp, vl, el, S7⟩
    clear S6
    have hs1 : ∀ q, q ≤ wk.l.length → (List.range (wk.l.length + 1))[q]? = some q := fun q hq => List.getElem?_range (by omega)
    repeat walk_at "ob"
    refine g_lockS S7 (i := 0) rfl fun od H8 S8 => ?_
    have S8 : Sy K ((fd, .frz od (.dK (kvOf es vs))) :: (cs, .lst ((wk.c ++ [0]).map V.int)) :: (sm, .lst ((sums wk.l).map V.int)) :: F) _ H8 := S8
    clear S7
    repeat walk_at "ob"
    refine g_lcK (d := fd) (od := od) (kvs := kvOf es vs) (ks := es.map fun e => (e.q : Int)) (fun j F' ds => F' = (fd, .frz od (.dK (kvOf es vs))) :: (cs, .lst ((wk.c ++ [0]).map V.int)) :: (sm, .lst ((sums wk.l).map V.int)) :: F ∧ ds = (waysTo wk most (i + 1) (es.take j)).map (wayD (cst wk.c (i + 1)))) S8 (fun Q' q => by walk_at "ob"; exact q) ⟨rfl, rfl⟩ (fun j F' ds H' hi S3 => (hi.1 ▸ S3).at 0 rfl) (fun j F' ds hi => by
      rw [hi.2, List.length_map]
      unfold waysTo
      have := List.length_filter_le (fun e : Ent => decide (edge wk e.q (i + 1) ≤ most)) (es.take j)
      rw [List.length_take] at this
      omega) (kvOf_keys vl) ?_ ?_
    · intro j n hn Da H2 F2 vs2 ds QE QR hI S3 kE kR
      obtain ⟨rfl, rfl⟩ := hI
      rw [List.getElem?_map] at hn
      obtain ⟨e, he, rfl⟩ := Option.map_eq_some_iff.mp hn
      have hem := List.mem_of_getElem? he
      have eq1 := dp.le e hem
      have step : waysTo wk most (i + 1) (es.take (j + 1)) = waysTo wk most (i + 1) (es.take j) ++ (if edge wk e.q (i + 1) ≤ most then [e] else []) := by
        unfold waysTo
        rw [List.take_add_one, he, List.filter_append]
        congr 1
        by_cases c : edge wk e.q (i + 1) ≤ most <;> simp [c]
      repeat walk_at "ob"
      refine ⟨rfl, ?_⟩
      repeat walk_at "ob"
      refine g_ixUL (SqL.of (S3.at 3 rfl)) (at_map (hs1 (i + 1) (by omega)) (by omega)) ?_
      repeat walk_at "ob"
      refine g_ixUL (SqL.of (S3.at 3 rfl)) (at_map (hs1 e.q (by omega)) (by omega)) ?_
      repeat walk_at "ob"
      refine g_ixUL (SqL.of (S3.at 2 rfl)) (at_cost (i := i) (by omega) (by omega)) ?_
      repeat walk_at "ob"
      refine g_iteD (fun h1 => ?_) (fun h1 => ?_)
      · have h1 : edge wk e.q (i + 1) ≤ most := h1
        obtain ⟨v, hv, hdv⟩ := dps_getD (S3.dps 1 rfl) (show (es.map entD)[j]? = some (entD e) by rw [List.getElem?_map, he]; rfl)
        obtain ⟨va, _, rfl, _⟩ := dp_at (show L2.Dp K H2 v (.tuple [.int e.k, match e.pr with | none => .none | some a => .int a]) from hdv)
        repeat walk_at "ob"
        refine g_dget ?_
        repeat walk_at "ob"
        refine g_dgetI (.inr ⟨od, S3.at 1 rfl⟩) (kvOf_get dp.up he hv) ?_
        repeat walk_at "ob"
        refine g_ixUT (sqt_ent hdv) rfl ?_
        repeat walk_at "ob"
        refine g_ixUL (SqL.of (S3.at 2 rfl)) (at_cost (i := i) (by omega) (by omega)) ?_
        repeat walk_at "ob"
        rename_i t9 H9 _ S9
        refine kE _ (wayD (cst wk.c (i + 1)) e) _ _ ⟨rfl, ?_⟩ S9
        rw [step, if_pos h1, List.map_append]
        rfl
      · have h1 : ¬ edge wk e.q (i + 1) ≤ most := h1
        refine kR _ _ ⟨rfl, ?_⟩ S3
        rw [step, if_neg h1, List.append_nil]
    · intro Da H9 F9 vs2 ds hD hI S9
      obtain ⟨rfl, rfl⟩ := hI
      rw [List.length_map, List.take_length] at S9
      obtain ⟨u1, S10⟩ := Sy.unlock (F := (fd, .dK (kvOf es vs)) :: (cs, .lst ((wk.c ++ [0]).map V.int)) :: (sm, .lst ((sums wk.l).map V.int)) :: F) (i := 0) S9 rfl rfl
      repeat walk_at "ob"
      refine ⟨u1, ?_⟩
      generalize upd H9 fd (HO.dK (kvOf es vs)) = H10 at S10 ⊢
      clear S8 S9
      have w2l := dps_length (S10.dps 0 rfl)
      rw [List.length_map] at w2l
      have hloc : SqL K H10 Da vs2 := SqL.of (S10.at 0 rfl)
      repeat walk_at "ob"
      cases hw : waysTo wk most (i + 1) es with
      | nil =>
        rw [hw] at w2l S10
        have hv0 : vs2 = [] := List.length_eq_zero_iff.mp w2l
        subst hv0
        refine g_F rfl ?_
        repeat walk_at "ob"
        exact ⟨_, _, es, vs, rfl, hi, dp.stay hw, vl, by omega, S10.less.drop⟩
      | cons f0 r =>
        rw [hw] at w2l S10
        have ne : (!vs2.isEmpty) = true := by
          cases vs2 with
          | nil => cases w2l
          | cons x xs => rfl
        refine g_T ne ?_
        repeat walk_at "ob"
        refine ⟨Da, vs2, wayD (cst wk.c (i + 1)) f0, r.map (wayD (cst wk.c (i + 1))), rfl, hloc, S10.dps 0 rfl, ways_alike (es := f0 :: r), fun e he => ?_, Nat.le_trans (ways_depth (f0 :: r)) (by decide), fun j v hv he => ?_⟩
        · obtain ⟨x, _, rfl⟩ := List.mem_map.mp (show e ∈ (f0 :: r).map (wayD (cst wk.c (i + 1))) from he)
          rfl
        obtain ⟨e2, he2, hv2⟩ := dps_get (S10.dps 0 rfl) hv
        have e2e : e2 = entD ⟨i + 1, (minE f0 r).k + cst wk.c (i + 1), some (minE f0 r).q⟩ := by
          have h3 : some e2 = some (minD (wayD (cst wk.c (i + 1)) f0) (r.map (wayD (cst wk.c (i + 1))))) := he2.symm.trans he
          rw [minD_ways] at h3
          exact Option.some.inj h3
        subst e2e
        obtain ⟨m1, m2, m3⟩ := minE_in (es := r) (e := f0)
        have dp2 := dp.put (f := minE f0 r) (by rw [hw]; exact m1) fun e he => by
          rw [hw] at he
          rcases List.mem_cons.mp he with rfl | he
          · exact m2
          · exact m3 e he
        have S11 := S10.fact (vs := [v]) (ds := [entD ⟨i + 1, (minE f0 r).k + cst wk.c (i + 1), some (minE f0 r).q⟩]) (dps_one hv2) (ent_imm [_])
        clear S10 hloc
        repeat walk_at "ob"
        rw [show (1 : Int) + (i : Int) = ((i + 1 : Nat) : Int) by omega]
        refine g_setD S11 (i := 1) rfl (by rw [kvOf_len vl]; omega) fun H12 S12 => ?_
        have S12 : Sy K ((Da, .lst vs2) :: (fd, .dK (putK (kvOf es vs) (.inl ((i + 1 : Nat) : Int)) v)) :: (cs, .lst ((wk.c ++ [0]).map V.int)) :: (sm, .lst ((sums wk.l).map V.int)) :: F) _ H12 := S12
        rw [kvOf_put (e := ⟨i + 1, (minE f0 r).k + cst wk.c (i + 1), some (minE f0 r).q⟩) vl (fun f hf => Nat.lt_succ_of_le (dp.le f hf))] at S12
        clear S11
        repeat walk_at "ob"
        have S13 := S12.fact (vs := vs ++ [v]) (ds := (es ++ [(⟨i + 1, (minE f0 r).k + cst wk.c (i + 1), some (minE f0 r).q⟩ : Ent)]).map entD) (by rw [List.map_append]; exact dps_append (S12.dps 2 rfl) (S12.dps 0 rfl)) (ent_imm _)
        exact ⟨_, _, es ++ [⟨i + 1, (minE f0 r).k + cst wk.c (i + 1), some (minE f0 r).q⟩], vs ++ [v], rfl, hi, dp2, by rw [List.length_append, List.length_append, vl]; rfl, by rw [List.length_append, List.length_singleton]; omega, S13.less.drop2.drop2.drop2⟩
  · rintro σ' H' ⟨v5, v6, es, vs, rfl, hi2, dp, vl, el, S7⟩
    clear S6
    repeat walk_at "ob"
    refine g_lenT (sqt_ints (S7.dp 2 rfl)) ?_
    rw [hll]
    repeat walk_at "ob"
    rename_i ml H9 _ S9
    clear S7
    refine g_newTq S9 (Nat.le_of_ble_eq_true rfl) fun tq2 H10 _ S10 => ?_
    refine g_unpT (S10.tqs 0 rfl) rfl ?_
    have S11 := S10.drop
    clear S9 S10
    repeat walk_at "ob"
    refine g_dnotin ?_
    repeat walk_at "ob"
    refine g_dnotinI (.inl (S11.at 1 rfl)) ?_
    repeat walk_at "ob"
    by_cases hex : ∃ e ∈ es, e.q = wk.l.length
    · obtain ⟨e, he, eq⟩ := hex
      obtain ⟨j, hj⟩ := List.getElem?_of_mem he
      obtain ⟨v, hv, hdv⟩ := dps_getD (S11.dps 0 rfl) (show (es.map entD)[j]? = some (entD e) by rw [List.getElem?_map, hj]; rfl)
      obtain ⟨va, _, rfl, _⟩ := dp_at (show L2.Dp K H10 v (.tuple [.int e.k, match e.pr with | none => .none | some a => .int a]) from hdv)
      have hval := kvOf_get dp.up hj hv
      rw [eq] at hval
      rw [hval]
      refine g_F rfl ?_
      repeat walk_at "ob"
      refine g_dget ?_
      repeat walk_at "ob"
      refine g_dgetI (.inl (S11.at 1 rfl)) hval ?_
      repeat walk_at "ob"
      refine g_ixUT (sqt_ent hdv) rfl ?_
      repeat walk_at "ob"
      obtain ⟨ps, C, W⟩ := dp.chain e.q e he (Nat.le_refl _)
      refine ⟨fun m σ' H' => ∃ e' ps' D, e' ∈ es ∧ Chn es e' ps' ∧ m = e'.q ∧ σ' = [some (.ref p), some (.int most), some (.ref sm), some (.ref cs), some (.ref fd), some (.int (e'.q : Int)), v6, none, some (.ref ml), some (.int e.k)] ∧ D.length + e'.q ≤ wk.l.length ∧ D ++ (ahead ps').reverse = (ahead ps).reverse ∧
        Sy K ((ml, HO.lst (List.map V.int D)) :: (fd, HO.dK (kvOf es vs)) :: (cs, HO.lst (List.map V.int (wk.c ++ ([0] : List Int)))) :: (sm, HO.lst (List.map V.int (sums wk.l))) :: F) (.dat vs (es.map entD) :: .tq p [.ref lp, .ref cp, .int wk.b] :: .dat [.ref lp] [intsD wk.l] :: .dat [.ref cp] [intsD wk.c] :: .dat [.ref p] [workD wk] :: G) H', ⟨e.q, e, ps, [], he, C, rfl, by rw [eq]; rfl, by rw [eq]; exact Nat.le_of_eq (Nat.zero_add _), rfl, S11⟩, ?_⟩
      rintro m σ' H' ⟨e', ps', D, he', C', rfl, rfl, dl, hD, S12⟩
      clear S11
      obtain ⟨j', hj'⟩ := List.getElem?_of_mem he'
      obtain ⟨v', hv', hdv'⟩ := dps_getD (S12.dps 0 rfl) (show (es.map entD)[j']? = some (entD e') by rw [List.getElem?_map, hj']; rfl)
      obtain ⟨va', _, rfl, _⟩ := dp_at (show L2.Dp K H' v' (.tuple [.int e'.k, match e'.pr with | none => .none | some a => .int a]) from hdv')
      have hval' := kvOf_get dp.up hj' hv'
      repeat walk_at "ob"
      refine g_dget ?_
      repeat walk_at "ob"
      refine g_dgetI (.inl (S12.at 1 rfl)) hval' ?_
      repeat walk_at "ob"
      refine g_ixUT (sqt_ent hdv') rfl ?_
      rcases C'.next with ⟨f, ps2, rfl, f1, f2, f3, f4, C2⟩ | ⟨hpr, ha⟩
      · rw [f2]
        refine g_truI ?_
        refine g_T (by simpa using f3) ?_
        refine ⟨_, fun _ _ h => h, ?_⟩
        repeat walk_at "ob"
        refine g_dget ?_
        repeat walk_at "ob"
        refine g_dgetI (.inl (S12.at 1 rfl)) hval' ?_
        repeat walk_at "ob"
        refine g_ixUT (sqt_ent hdv') rfl ?_
        rw [f2]
        repeat walk_at "ob"
        refine g_appS S12 (f := 0) rfl (by rw [List.length_map]; omega) fun H13 S13 => ?_
        repeat walk_at "ob"
        refine ⟨f.q, f4, f, ps2, D ++ [(f.q : Int) - 1], f1, C2, rfl, rfl, by rw [List.length_append, List.length_singleton]; omega, ?_, ?_⟩
        · rw [← hD, List.append_assoc]
          congr 1
          exact (C2.last f3).symm
        · rw [List.map_append]
          exact S13
      · have hf : ∀ (QB : Bool → Hp → Prop) (H : Hp), QB false H → rTruK K (match e'.pr with | none => V.non | some a => .int (a : Nat)) H QB := by
          intro QB H q
          rcases hpr with h | h
          · rw [h]; exact g_truN q
          · rw [h]; exact g_truI q
        refine hf _ _ ?_
        rw [ha, List.reverse_nil, List.append_nil] at hD
        repeat walk_at "ob"
        refine g_revL ?_
        repeat walk_at "ob"
        refine g_revL1 S12 (SqL.of (S12.at 0 rfl)) fun rv H13 S13 => ?_
        rw [hD, List.map_reverse, List.reverse_reverse] at S13
        repeat walk_at "ob"
        refine g_tup0 S13 (SqL.of (S13.at 0 rfl)) (dps_ints _) (ints_imm _) fun tq3 H14 _ S14 => ?_
        repeat walk_at "ob"
        refine g_newT (ds := [.int e.k, intsD (ahead ps)]) S14 (.cons (L2.Dp.int _) (.cons (S14.dp 0 rfl) .nil)) (by show (immAll ((ahead ps).map .int) && true) = true; rw [ints_imm]; rfl) (Nat.le_of_ble_eq_true rfl) fun tq4 H15 _ S15 => ?_
        rw [eq] at W
        rcases W.pos with ⟨z, _⟩ | ⟨a, ps1, rfl, _⟩
        · omega
        · obtain ⟨ch, ck⟩ := cheap_of wo W fun ps' k' W' => by
            obtain ⟨e2, he2, q1, q2⟩ := dp.least _ _ _ W' (Nat.le_refl _)
            have := dp.uniq he2 he (q1.trans eq.symm)
            rw [this] at q2
            exact q2
          refine ks (marksTo a ps1) tq4 H15 ch ?_
          rw [ck]
          exact S15.drop2.drop2.drop2.drop2.drop2.drop2.less.less.less.less.less
    · rw [kvOf_none fun e he z => hex ⟨e, he, by omega⟩]
      refine g_T rfl ?_
      repeat walk_at "ob"
      refine kn (fun ps k W => ?_) _ S11.less.less.less.less.drop.drop.drop.drop.drop
      obtain ⟨e2, he2, q1, _⟩ := dp.least _ _ _ W (Nat.le_refl _)
      exact hex ⟨e2, he2, q1⟩
end
end LAW

set_option Elab.async false
set_option linter.all false
set_option maxRecDepth 100000
namespace LAW
open PySem PySem.Spec PyProof.Rows L2 PySem.W OB
local macro_rules | `(tactic| walk_at "obc") => `(tactic| first
  | exact Or.inl ⟨by omega, by omega⟩
  | exact Or.inr ⟨by omega, by omega⟩
  | exact cdiv_ok (by omega) (by omega)
  | (show (0 : Int) < _; omega)
  | exact ⟨by omega, by decide⟩
  | exact ⟨by decide, by decide⟩)
local macro_rules | `(tactic| walk_at "obat") => `(tactic| first
  | exact Sy.at (by assumption) 0 rfl | exact Sy.at (by assumption) 1 rfl | exact Sy.at (by assumption) 2 rfl | exact Sy.at (by assumption) 3 rfl
  | exact Sy.at (by assumption) 4 rfl | exact Sy.at (by assumption) 5 rfl | exact Sy.at (by assumption) 6 rfl | exact Sy.at (by assumption) _ (by assumption) | exact Sy.at (by assumption) (_ + 1) (by assumption) | exact Sy.at (by assumption) (_ + 2) (by assumption))
local macro_rules | `(tactic| walk_at "obt") => `(tactic| first
  | exact Sy.tqs (by assumption) 0 rfl | exact Sy.tqs (by assumption) 1 rfl | exact Sy.tqs (by assumption) 2 rfl | exact Sy.tqs (by assumption) 3 rfl | exact Sy.tqs (by assumption) 4 rfl | exact Sy.tqs (by assumption) 5 rfl
  | exact Sy.tqs (by assumption) 6 rfl | exact Sy.tqs (by assumption) 7 rfl | assumption)
local macro_rules | `(tactic| walk_at "obl") => `(tactic| first
  | exact SqL.of (by walk_at "obat")
  | exact Sy.sq (by assumption) 0 rfl | exact Sy.sq (by assumption) 1 rfl | exact Sy.sq (by assumption) 2 rfl | exact Sy.sq (by assumption) 3 rfl | exact Sy.sq (by assumption) _ (by assumption))
local macro_rules | `(tactic| walk_at "obd") => `(tactic| first
  | exact Dp.int _ | exact Dp.bl _ | exact Dp.str _ | exact Dp.non
  | exact Sy.dp (by assumption) 0 rfl | exact Sy.dp (by assumption) 1 rfl | exact Sy.dp (by assumption) 2 rfl | exact Sy.dp (by assumption) 3 rfl
  | exact Sy.dp (by assumption) 4 rfl | exact Sy.dp (by assumption) 5 rfl | exact Sy.dp (by assumption) 6 rfl | exact Sy.dp (by assumption) 7 rfl
  | exact Sy.dp (by assumption) 8 rfl | exact Sy.dp (by assumption) 9 rfl | exact Sy.dp (by assumption) _ (by assumption) | assumption)
local macro_rules | `(tactic| walk_at "obds") => `(tactic| first
  | exact DpAll.nil
  | (refine' DpAll.cons ?ob1 ?ob2; (case ob1 => walk_at "obd"); (case ob2 => walk_at "obds"))
  | exact Sy.dps (by assumption) 0 rfl | exact Sy.dps (by assumption) 1 rfl | exact Sy.dps (by assumption) 2 rfl | exact Sy.dps (by assumption) 3 rfl | assumption)
local macro_rules | `(tactic| walk_at "obsc") => `(tactic| first
  | exact ScL.nil
  | ((first | refine' ScL.int ?obz | refine' ScL.str ?obz | refine' ScL.bl ?obz | refine' ScL.non ?obz); (case obz => walk_at "obsc")))
local macro_rules | `(tactic| walk_at "ob1") => `(tactic| first
  | ((with_reducible refine' g_var ?obh ?_); (case obh => rfl))
  | with_reducible refine g_c ?_
  | with_reducible refine g_nx ?_
  | with_reducible refine g_rt ?_
  | with_reducible refine g_bk ?_
  | with_reducible refine g_ct ?_
  | with_reducible refine g_op ?_
  | with_reducible refine g_I0 ?_
  | with_reducible refine g_test ?_
  | with_reducible refine g_bl ?_
  | with_reducible refine g_blx ?_
  | with_reducible refine g_B ?_
  | with_reducible refine g_seq ?_
  | with_reducible refine g_asg ?_
  | with_reducible refine g_name ?_
  | with_reducible refine g_ifS ?_
  | with_reducible refine g_ret ?_
  | with_reducible refine g_cb ?_
  | with_reducible refine g_cons ?_
  | with_reducible refine g_nil ?_
  | with_reducible refine g_int ?_
  | with_reducible refine g_intB ?_
  | with_reducible refine g_abs ?_
  | with_reducible refine g_max ?_
  | with_reducible refine g_min ?_
  | with_reducible refine g_un ?_
  | with_reducible refine g_U ?_
  | with_reducible refine g_eqI ?_
  | with_reducible refine g_neI ?_
  | with_reducible refine g_eqS ?_
  | with_reducible refine g_neS ?_
  | with_reducible refine g_tt ?_
  | with_reducible refine g_ff ?_
  | with_reducible refine g_next ?_
  | with_reducible refine g_drop ?_
  | with_reducible refine g_if ?_
  | with_reducible refine g_andV ?_
  | with_reducible refine g_orV ?_
  | with_reducible refine g_notV ?_
  | with_reducible refine g_and ?_
  | with_reducible refine g_or ?_
  | with_reducible refine g_not ?_
  | with_reducible refine g_yes ?_
  | with_reducible refine g_chain ?_
  | with_reducible refine g_cg ?_
  | with_reducible refine g_mg ?_
  | with_reducible refine g_kg ?_
  | with_reducible refine g_pg ?_
  | ((with_reducible refine' g_call ?obh ?obj ?_); (case obh => rfl); (case obj => rfl))
  | with_reducible refine g_par ?_
  | with_reducible refine g_par2 ?_
  | with_reducible refine g_par3 ?_
  | with_reducible refine g_par33 ?_
  | with_reducible refine g_gnil ?_
  | with_reducible refine g_gcons ?_
  | with_reducible refine g_gsub ?_
  | with_reducible refine g_ipI ?_
  | with_reducible refine g_rAdd ?_
  | with_reducible refine g_rSub ?_
  | ((with_reducible refine' g_aug ?obh ?_); (case obh => rfl))
  | with_reducible refine g_tup ?_
  | with_reducible refine g_lst ?_
  | with_reducible refine g_bm ?_
  | with_reducible refine g_bm0 ?_
  | with_reducible refine g_sl ?_
  | with_reducible refine g_nopart ?_
  | with_reducible refine g_part ?_
  | with_reducible refine g_pint ?_
  | with_reducible refine isi_int ?_
  | with_reducible refine isi_intB ?_
  | ((with_reducible refine' g_I ?obh ?_); (case obh => walk_at "obc"))
  | ((with_reducible refine' g_tyl ?obh ?_); (case obh => walk_at "obl"))
  | ((with_reducible refine' g_lenL ?obh ?_); (case obh => walk_at "obl"))
  | with_reducible refine g_ne ?_
  | ((with_reducible refine' g_neN' ?obh ?_); (case obh => rfl))
  | with_reducible refine g_ntt ?_
  | with_reducible refine g_nff ?_
  | with_reducible refine g_star ?_
  | with_reducible refine g_att ?_
  | with_reducible refine g_sfld ?_
  | with_reducible refine g_faug ?_
  | with_reducible refine g_fld ?_
  | ((with_reducible refine' g_nF ?obh ?_); (case obh => omega))
  | ((with_reducible refine' g_nT ?obh ?_); (case obh => omega))
  | ((with_reducible refine' g_TD ?obh ?_); (case obh => omega))
  | ((with_reducible refine' g_FD ?obh ?_); (case obh => omega))
  | ((with_reducible refine' g_ixUL ?obh ?obi ?_); (case obh => walk_at "obl"); (case obi => exact atI_nn (by omega) (by rfl)))
  | ((with_reducible refine' g_setLS ?obs ?obh ?obi ?_); (case obs => assumption); (case obh => assumption); (case obi => rfl); intro _ _ _)
  | ((with_reducible refine' g_newT ?obs ?obh ?obi ?obj ?_); (case obs => assumption); (case obh => walk_at "obds"); (case obi => rfl); (case obj => exact Nat.le_of_ble_eq_true rfl); intro _ _ _ _)
  | ((with_reducible refine' g_newL ?obs ?obj ?_); (case obs => assumption); (case obj => exact Nat.le_of_ble_eq_true rfl); intro _ _ _ _)
  | ((with_reducible refine' isi_tup ?obh ?_); (case obh => walk_at "obt"))
  | ((with_reducible refine' g_lenT ?obh ?_); (case obh => walk_at "obt"))
  | ((with_reducible refine' g_unpT ?obh ?obi ?_); (case obh => walk_at "obt"); (case obi => rfl))
  | ((with_reducible refine' g_divmod ?obs ?obh ?_); (case obs => assumption); (case obh => exact cdivp_ok (by omega) (by omega) (by omega)); intro _ _ _ _)
  | ((with_reducible refine' g_unpD ?obh ?obi ?obj ?_); (case obh => walk_at "obd"); (case obi => walk_at "obsc"); (case obj => rfl))
  | with_reducible refine g_att ?_)
local macro_rules | `(tactic| walk_at "ob") => `(tactic| first
  | walk_at "ob1"
  | refine use_is_integer ?_
  | refine use_is_within ?_
  | with_reducible refine g_lstRg ?_
  | with_reducible refine g_rg1 ?_
  | with_reducible refine g_rg2 ?_
  | with_reducible refine g_tTru ?_
  | ((with_reducible refine' g_truL ?obh ?_); (case obh => walk_at "obl"))
  | ((with_reducible refine' g_ixUT ?obh ?obi ?_); (case obh => walk_at "obt"); (case obi => rfl))
  | with_reducible refine g_forZ ?_
  | with_reducible refine g_forR2 ?_
  | with_reducible refine g_forE ?_
  | with_reducible refine g_lcZ ?_)
section
variable {P : Program} {w : World} {K : Frag} {mg : Str → Option Value} {base : Heap}
/-! ### dict comprehensions over range(n) -/
section
variable {F : List (Addr × HO)} {G : List Ft} {σ : L2.St} {H : Hp} {Q : VK} {own : List Nat} {g : TG} {tt : TT} {tk tv : TE}
def RgDc (g : TG) (tt : TT) (tk tv : TE) (own : List Nat) (σ : L2.St) (Q : VK) (n : Nat) (H : Hp) : Prop := ∀ D, H D = none → ∃ W : Nat → Nat → Hp → Prop, (∃ m, W 0 m (upd H D (.dK []))) ∧ ∀ i m H, W i m H →
  ((Itr 0 n).stop i H ∧ Q (.ref D) H) ∨ ((Itr 0 n).go i H ∧ ∃ Nx : Hp → Prop, (∀ H', Nx H' → ∃ m', m' < m ∧ W (i + 1) m' H') ∧ ∀ x H', (Itr 0 n).yld i H x H' → g x (wipe σ own) H' fun σ2 H2 => wipe σ2 own = wipe σ own ∧ tt σ2 H2 fun b H3 =>
    if b = true then tk σ2 H3 fun y H4 => tv σ2 H4 fun z H5 => ∃ kvs k, y = kV k ∧ H5 D = some (.dK kvs) ∧ kvs.length < sizeLine ∧ Nx (upd H5 D (.dK (putK kvs k z))) else Nx H3)
theorem g_dcR {ta : TA} (k : ta σ H fun vs H1 => ∃ j : Int, vs = [.int j] ∧ -(2 ^ 62) ≤ j ∧ j < 2 ^ 62 ∧ RgDc g tt tk tv own σ Q j.toNat H1) : tDc (iRng1 ta) g tt tk tv own σ H Q := k
theorem rgdc_of {n : Nat} (I : Nat → List (Key × V) → Prop) (S : Sy K F G H) (h0 : I 0 []) (hl : ∀ i kvs, I i kvs → kvs.length < 100000)
    (turn : ∀ i, i < n → ∀ (Da : Addr) (H2 : Hp) (kvs : List (Key × V)) (QE : V → V → Hp → Prop) (QR : Hp → Prop), I i kvs → Sy K ((Da, .dK kvs) :: F) G H2 →
      (∀ (m : Int) z H', I (i + 1) (putK kvs (.inl m) z) → Sy K ((Da, .dK kvs) :: F) G H' → QE (.int m) z H') →
      (∀ H', I (i + 1) kvs → Sy K ((Da, .dK kvs) :: F) G H' → QR H') →
      g (.int (0 + i)) (wipe σ own) H2 fun σ2 H3 => wipe σ2 own = wipe σ own ∧ tt σ2 H3 fun b H4 => if b = true then tk σ2 H4 fun y H5 => tv σ2 H5 fun z H6 => QE y z H6 else QR H4)
    (done : ∀ Da H' kvs, H Da = none → I n kvs → Sy K ((Da, .dK kvs) :: F) G H' → Q (.ref Da) H') : RgDc g tt tk tv own σ Q n H := fun D hD => by
  refine ⟨fun i m H' => m = n - i ∧ i ≤ n ∧ ∃ kvs, I i kvs ∧ Sy K ((D, .dK kvs) :: F) G H', ⟨n, by simp, Nat.zero_le _, [], h0, S.push hD⟩, ?_⟩
  rintro i m H' ⟨rfl, hi, kvs, hI, S'⟩
  by_cases hlt : i < n
  · refine .inr ⟨hlt, fun H2 => ∃ kvs, I (i + 1) kvs ∧ Sy K ((D, .dK kvs) :: F) G H2, fun H2 p => ⟨n - (i + 1), by omega, rfl, hlt, p⟩, fun x H2 y => ?_⟩
    obtain ⟨rfl, rfl⟩ := y
    refine turn i hlt D _ kvs _ (fun H2 => ∃ kvs, I (i + 1) kvs ∧ Sy K ((D, .dK kvs) :: F) G H2) hI S' (fun m z H3 hi2 S2 => ?_) fun H3 hi2 S2 => ⟨kvs, hi2, S2⟩
    exact ⟨kvs, .inl m, rfl, S2.at 0 rfl, Nat.lt_of_lt_of_le (hl i kvs hI) (by decide), _, hi2, S2.put (o' := .dK (putK kvs (.inl m) z)) 0 rfl rfl⟩
  · have e : i = n := by omega
    subst e
    exact .inl ⟨Nat.le_refl _, done D H' kvs hD hI S'⟩
end
theorem g_dnewK {F : List (Addr × HO)} {G : List Ft} {σ : L2.St} {H : Hp} {Q : VK} (S : Sy K F G H) (k : ∀ p H', Sy K ((p, .dK []) :: F) G H' → Q (.ref p) H') : tDNewK σ H Q := fun p hp => k p _ (S.push hp)
/-! ### all lengths that a stretch can have -/
def IsB (w : Work) (y : Int) (n : Nat) : Prop := ∃ a q, a < q ∧ q ≤ n ∧ y = edge w a q
def sp_bounds_of (K : Frag) : Sp := fun vs H Q E => vs.length = 1 ∧ ∃ (F : List (Addr × HO)) (G : List Ft) (p : Addr) (wk : Work), vs = [.ref p] ∧ Sy K F G H ∧ L2.Dp K H (.ref p) (workD wk) ∧ WkOk wk ∧
  ∀ r (bs : List Int) H', (∀ y, y ∈ bs ↔ IsB wk y wk.l.length) → bs.length < 64 → Sy K ((r, .lst (bs.map V.int)) :: F) G H' → Q (.ref r) H'
abbrev names_bounds_of : List Str := ["work", "sums", "costs", "found", "place", "ahead"]
theorem sc_bounds_of : FnScope names_bounds_of ["work"] (defScope (top 25)) := ⟨rfl, rfl, rfl, by decide +kernel, rfl, by decide +kernel, by decide +kernel⟩
set_option maxHeartbeats 4000000 in
theorem ok_bounds_of (T : Tx K mg) : FG P w K mg base CX0 2 T.a_bounds_of T.d_bounds_of ["work"] (sp_bounds_of K) := by
  refine OB.Fun.fg T.F_bounds_of sc_bounds_of (fun vs H Q E h => h.1) (fun cdv A out s H vs Q E g h => ?_)
  obtain ⟨_, F, G, p, wk, rfl, S, hd, wo, k⟩ := h
  refine ⟨_, (pss_cons (ps_asg (pe_tup (pa_cons (pe_cg (ok_sums_of T) (g.mono (by decide : 1 ≤ 1)) (by rfl) T.m_sums_of T.F_sums_of.kp (OB.Fun.bd T.F_sums_of (ps := ["work"]) (n := 1) (ks := []) (ix := [0]) (fun _ _ _ _ _ _ us ws h1 h2 => match us, ws, h1, h2 with | [_], [], _, _ => rfl)) pass0 (pa_cons (pv 0) pa_nil) pk_nil) (pa_cons (pe_lst (StX.pa_star (pe_ix (ix_UK (K := K) rfl) (pv 0) pe_int (fun _ _ => rfl)) (pa_cons pe_int pa_nil))) (pa_cons pe_dnewK pa_nil)))) (pg_tupK (K := K) rfl (n := 3) rfl (pgs_cons (pg_name (i := 1) sc_bounds_of.nd rfl (by first | exact Or.inl rfl | exact Or.inr rfl)) (pgs_cons (pg_name (i := 2) sc_bounds_of.nd rfl (by first | exact Or.inl rfl | exact Or.inr rfl)) (pgs_cons (pg_name (i := 3) sc_bounds_of.nd rfl (by first | exact Or.inl rfl | exact Or.inr rfl)) pgs_nil)))))
      (pss_cons (ps_for PassesOwn.never rfl (pi_range2 rfl T.n_range (pa_cons pe_int (pa_cons (pe_callB (toK (r := OB.rLen) (K := K) rfl c_len) (by rfl) T.n_len PySem.boot_len (pa_cons (pv 1) pa_nil)) pa_nil))) (pg_name (i := 4) sc_bounds_of.nd rfl (by first | exact Or.inl rfl | exact Or.inr rfl))
      (pss_one (ps_expr (pe_bm PySem.F.plainAttrs_dict PySem.F.slot_dict_update PySem.F.type_dict_update mt_dupdate (pv 3) (pa_cons (pe_dc (own := [("ahead", 5)]) (tt := tYes) rfl sc_bounds_of.nd (pi_range1 rfl T.n_range (pa_cons (pv 4) pa_nil)) (blkOk_by (N := names_bounds_of) (sc := defScope (top 25)) (own := [("ahead", 5)]) (by decide +kernel)) (fun _ _ _ _ _ => (pg_name (i := 5) sc_bounds_of.nd rfl (by first | exact Or.inl rfl | exact Or.inr rfl))) (fun _ _ _ _ _ => pts_nil) (fun _ _ _ _ _ => (pe_op op_add (pe_op op_sub (pe_ix (ix_UK (K := K) rfl) (pv 1) (pv 4) (fun _ _ => rfl)) (pe_ix (ix_UK (K := K) rfl) (pv 1) (pv 5) (fun _ _ => rfl))) (pe_ix (ix_UK (K := K) rfl) (pv 2) (pe_op op_sub (pv 4) pe_int) (fun _ _ => rfl)))) (fun _ _ _ _ _ => pe_bl)) pa_nil)))))
      (pss_one (ps_ret (pe_callB (c_sortDI rfl) (by rfl) T.n_sorted (by decide +kernel) (pa_cons (pv 3) pa_nil)))))), ?_⟩
  refine g_start (σ := [some _, none, none, none, none, none]) rfl ?_
  obtain ⟨lp, cp, S1⟩ := Sy.work (S.add _ (dat_work hd)) hd
  clear S
  have l0 := wo.l0
  have l1 := wo.l1
  have cl := wo.cl
  have sl : (sums wk.l).length = wk.l.length + 1 := by unfold sums; rw [List.length_map, List.length_range]
  repeat walk_at "ob"
  refine ⟨rfl, _, _, p, wk, rfl, S1, S1.dp 3 rfl, wo, fun sm H2 S2 => ?_⟩
  clear S1
  repeat walk_at "ob"
  refine ⟨cp, _, rfl, .inl (sqt_ints (S2.dp 2 rfl)), ?_⟩
  repeat walk_at "ob"
  have ec : wk.c.map V.int ++ [V.int 0] = (wk.c ++ [0]).map V.int := by rw [List.map_append]; rfl
  rw [ec]
  refine g_newL S2 (by rw [List.length_map, List.length_append, List.length_singleton]; omega) fun cs H3 _ S3 => ?_
  clear S2
  repeat walk_at "ob"
  refine g_dnewK S3 fun fd H4 S4 => ?_
  clear S3
  repeat walk_at "ob"
  refine g_newTq S4 (Nat.le_of_ble_eq_true rfl) fun tq1 H31 _ S31 => ?_
  refine g_unpT (S31.tqs 0 rfl) rfl ?_
  have S32 := S31.drop
  clear S4 S31
  repeat walk_at "ob"
  refine ⟨_, _, rfl, ⟨by decide, by decide, by omega, by rw [List.length_map, sl]; omega⟩, ?_⟩
  rw [show (((((sums wk.l).map V.int).length : Nat) : Int) - 1).toNat = wk.l.length by rw [List.length_map, sl]; omega]
  refine rg2for_of (fun i σ' H' => ∃ v4 kvs ks, σ' = [some (.ref p), some (.ref sm), some (.ref cs), some (.ref fd), v4, none] ∧ i ≤ wk.l.length ∧ KeysI kvs ks ∧ ks.Nodup ∧ (∀ y, y ∈ ks ↔ IsB wk y i) ∧ ks.length ≤ 6 * i ∧
    Sy K ((fd, .dK kvs) :: (cs, .lst ((wk.c ++ [0]).map V.int)) :: (sm, .lst ((sums wk.l).map V.int)) :: F) (.tq p [.ref lp, .ref cp, .int wk.b] :: .dat [.ref lp] [intsD wk.l] :: .dat [.ref cp] [intsD wk.c] :: .dat [.ref p] [workD wk] :: G) H')
    ⟨none, [], [], rfl, Nat.zero_le _, rfl, .nil, fun y => ⟨(fun h => nomatch h), fun ⟨a, q, h1, h2, _⟩ => by omega⟩, Nat.zero_le _, S32⟩ ?_ ?_
  · rintro i σ' H' hi ⟨v4, kvs, ks, rfl, hi2, hk, nd, hm, hkl, S7⟩
    clear S32
    have hs1 : ∀ q, q ≤ wk.l.length → (List.range (wk.l.length + 1))[q]? = some q := fun q hq => List.getElem?_range (by omega)
    repeat walk_at "ob"
    refine g_tyd (S7.at 0 rfl) ?_
    repeat walk_at "ob"
    refine g_dcR ?_
    repeat walk_at "ob"
    refine g_rgJ (by omega) (by omega) ?_
    rw [show ((1 : Int) + (i : Int)).toNat = i + 1 by omega]
    refine rgdc_of (K := K) (fun j kv => ∃ ms, KeysI kv ms ∧ (∀ y, y ∈ ms ↔ ∃ a, a < j ∧ y = edge wk a (i + 1)) ∧ ms.length ≤ j ∧ j ≤ i + 1) S7 ⟨[], rfl, fun y => ⟨(fun h => nomatch h), fun ⟨a, h, _⟩ => absurd h (Nat.not_lt_zero _)⟩, Nat.le_refl _, Nat.zero_le _⟩ (fun j kv ⟨ms, q1, _, q2, q3⟩ => by
      have e := congrArg List.length q1
      rw [List.length_map, List.length_map] at e
      omega) ?_ ?_
    · rintro j hj Da H2 kv QE QR ⟨ms, m1, m2, m3, m4⟩ S3 kE kR
      repeat walk_at "ob"
      refine ⟨rfl, ?_⟩
      repeat walk_at "ob"
      refine g_ixUL (SqL.of (S3.at 3 rfl)) (at_map (hs1 (i + 1) (by omega)) (by omega)) ?_
      repeat walk_at "ob"
      refine g_ixUL (SqL.of (S3.at 3 rfl)) (at_map (hs1 j (by omega)) (by omega)) ?_
      repeat walk_at "ob"
      refine g_ixUL (SqL.of (S3.at 2 rfl)) (at_cost (i := i) (by omega) (by omega)) ?_
      repeat walk_at "ob"
      refine kE _ _ _ ⟨_, keys_put m1, fun y => ?_, ?_, hj⟩ S3
      · have ee : pre wk.l (i + 1) - pre wk.l j + cst wk.c (i + 1) = edge wk j (i + 1) := rfl
        rw [ee]
        have split : (∃ a, a < j + 1 ∧ y = edge wk a (i + 1)) ↔ (∃ a, a < j ∧ y = edge wk a (i + 1)) ∨ y = edge wk j (i + 1) := by
          constructor
          · rintro ⟨a, h1, h2⟩
            by_cases c : a = j
            · subst c; exact .inr h2
            · exact .inl ⟨a, by omega, h2⟩
          · rintro (⟨a, h1, h2⟩ | h)
            · exact ⟨a, by omega, h2⟩
            · exact ⟨j, by omega, h⟩
        rw [split, ← m2]
        by_cases c : ms.contains (edge wk j (i + 1)) = true
        · rw [if_pos c]
          constructor
          · exact .inl
          · rintro (q | q)
            · exact q
            · exact q ▸ List.contains_iff_mem.mp c
        · rw [if_neg c, List.mem_append, List.mem_singleton]
      · split
        · omega
        · rw [List.length_append, List.length_singleton]
          omega
    · rintro Da H3 kv hD ⟨ms, m1, m2, m3, m4⟩ S6
      repeat walk_at "ob"
      have k1 := congrArg List.length m1
      have k2 := congrArg List.length hk
      rw [List.length_map, List.length_map] at k1 k2
      refine g_dupd (i := 1) (j := 0) S6 rfl rfl (by decide) (by omega) fun H4 S8 => ?_
      repeat walk_at "ob"
      obtain ⟨ls, f1, f2, f3, f4⟩ := keys_merge m1 hk
      refine ⟨_, _, ls, rfl, hi, f1, f3 nd, fun y => ?_, by omega, (Sy.less (x := (Da, _)) S8)⟩
      rw [f2, hm, m2]
      constructor
      · rintro (⟨a, q, q1, q2, q3⟩ | ⟨a, q1, q2⟩)
        · exact ⟨a, q, q1, by omega, q3⟩
        · exact ⟨a, i + 1, q1, Nat.le_refl _, q2⟩
      · rintro ⟨a, q, q1, q2, q3⟩
        by_cases c : q ≤ i
        · exact .inl ⟨a, q, q1, c, q3⟩
        · have : q = i + 1 := by omega
          subst this
          exact .inr ⟨a, q1, q3⟩
  · rintro σ' H' ⟨v4, kvs, ks, rfl, hi2, hk, nd, hm, hkl, S7⟩
    clear S32
    repeat walk_at "ob"
    refine g_sortDI (i := 0) S7 rfl hk (by omega) fun bs r H4 pc ps S8 => ?_
    exact k r bs H4 (fun y => by rw [pc.mem_iff, hm]) (by rw [pc.length_eq]; omega) S8.swap.less.swap.less.swap.less.drop.drop.drop.drop
end
end LAW

set_option Elab.async false
set_option linter.all false
set_option maxRecDepth 100000
namespace LAW
open PySem PySem.Spec PyProof.Rows L2 PySem.W OB
local macro_rules | `(tactic| walk_at "obc") => `(tactic| first
  | exact Or.inl ⟨by omega, by omega⟩
  | exact Or.inr ⟨by omega, by omega⟩
  | exact cdiv_ok (by omega) (by omega)
  | (show (0 : Int) < _; omega)
  | exact ⟨by omega, by decide⟩
  | exact ⟨by decide, by decide⟩)
local macro_rules | `(tactic| walk_at "obat") => `(tactic| first
  | exact Sy.at (by assumption) 0 rfl | exact Sy.at (by assumption) 1 rfl | exact Sy.at (by assumption) 2 rfl | exact Sy.at (by assumption) 3 rfl
  | exact Sy.at (by assumption) 4 rfl | exact Sy.at (by assumption) 5 rfl | exact Sy.at (by assumption) 6 rfl | exact Sy.at (by assumption) _ (by assumption) | exact Sy.at (by assumption) (_ + 1) (by assumption) | exact Sy.at (by assumption) (_ + 2) (by assumption))
local macro_rules | `(tactic| walk_at "obt") => `(tactic| first
  | exact Sy.tqs (by assumption) 0 rfl | exact Sy.tqs (by assumption) 1 rfl | exact Sy.tqs (by assumption) 2 rfl | exact Sy.tqs (by assumption) 3 rfl | exact Sy.tqs (by assumption) 4 rfl | exact Sy.tqs (by assumption) 5 rfl
  | exact Sy.tqs (by assumption) 6 rfl | exact Sy.tqs (by assumption) 7 rfl | assumption)
local macro_rules | `(tactic| walk_at "obl") => `(tactic| first
  | exact SqL.of (by walk_at "obat")
  | exact Sy.sq (by assumption) 0 rfl | exact Sy.sq (by assumption) 1 rfl | exact Sy.sq (by assumption) 2 rfl | exact Sy.sq (by assumption) 3 rfl | exact Sy.sq (by assumption) _ (by assumption))
local macro_rules | `(tactic| walk_at "obd") => `(tactic| first
  | exact Dp.int _ | exact Dp.bl _ | exact Dp.str _ | exact Dp.non
  | exact Sy.dp (by assumption) 0 rfl | exact Sy.dp (by assumption) 1 rfl | exact Sy.dp (by assumption) 2 rfl | exact Sy.dp (by assumption) 3 rfl
  | exact Sy.dp (by assumption) 4 rfl | exact Sy.dp (by assumption) 5 rfl | exact Sy.dp (by assumption) 6 rfl | exact Sy.dp (by assumption) 7 rfl
  | exact Sy.dp (by assumption) 8 rfl | exact Sy.dp (by assumption) 9 rfl | exact Sy.dp (by assumption) _ (by assumption) | assumption)
local macro_rules | `(tactic| walk_at "obds") => `(tactic| first
  | exact DpAll.nil
  | (refine' DpAll.cons ?ob1 ?ob2; (case ob1 => walk_at "obd"); (case ob2 => walk_at "obds"))
  | exact Sy.dps (by assumption) 0 rfl | exact Sy.dps (by assumption) 1 rfl | exact Sy.dps (by assumption) 2 rfl | exact Sy.dps (by assumption) 3 rfl | assumption)
local macro_rules | `(tactic| walk_at "obsc") => `(tactic| first
  | exact ScL.nil
  | ((first | refine' ScL.int ?obz | refine' ScL.str ?obz | refine' ScL.bl ?obz | refine' ScL.non ?obz); (case obz => walk_at "obsc")))
local macro_rules | `(tactic| walk_at "ob1") => `(tactic| first
  | ((with_reducible refine' g_var ?obh ?_); (case obh => rfl))
  | with_reducible refine g_c ?_
  | with_reducible refine g_nx ?_
  | with_reducible refine g_rt ?_
  | with_reducible refine g_bk ?_
  | with_reducible refine g_ct ?_
  | with_reducible refine g_op ?_
  | with_reducible refine g_I0 ?_
  | with_reducible refine g_test ?_
  | with_reducible refine g_bl ?_
  | with_reducible refine g_blx ?_
  | with_reducible refine g_B ?_
  | with_reducible refine g_seq ?_
  | with_reducible refine g_asg ?_
  | with_reducible refine g_name ?_
  | with_reducible refine g_ifS ?_
  | with_reducible refine g_ret ?_
  | with_reducible refine g_cb ?_
  | with_reducible refine g_cons ?_
  | with_reducible refine g_nil ?_
  | with_reducible refine g_int ?_
  | with_reducible refine g_intB ?_
  | with_reducible refine g_abs ?_
  | with_reducible refine g_max ?_
  | with_reducible refine g_min ?_
  | with_reducible refine g_un ?_
  | with_reducible refine g_U ?_
  | with_reducible refine g_eqI ?_
  | with_reducible refine g_neI ?_
  | with_reducible refine g_eqS ?_
  | with_reducible refine g_neS ?_
  | with_reducible refine g_tt ?_
  | with_reducible refine g_ff ?_
  | with_reducible refine g_next ?_
  | with_reducible refine g_drop ?_
  | with_reducible refine g_if ?_
  | with_reducible refine g_andV ?_
  | with_reducible refine g_orV ?_
  | with_reducible refine g_notV ?_
  | with_reducible refine g_and ?_
  | with_reducible refine g_or ?_
  | with_reducible refine g_not ?_
  | with_reducible refine g_yes ?_
  | with_reducible refine g_chain ?_
  | with_reducible refine g_cg ?_
  | with_reducible refine g_mg ?_
  | with_reducible refine g_kg ?_
  | with_reducible refine g_pg ?_
  | ((with_reducible refine' g_call ?obh ?obj ?_); (case obh => rfl); (case obj => rfl))
  | with_reducible refine g_par ?_
  | with_reducible refine g_par2 ?_
  | with_reducible refine g_par3 ?_
  | with_reducible refine g_par33 ?_
  | with_reducible refine g_gnil ?_
  | with_reducible refine g_gcons ?_
  | with_reducible refine g_gsub ?_
  | with_reducible refine g_ipI ?_
  | with_reducible refine g_rAdd ?_
  | with_reducible refine g_rSub ?_
  | ((with_reducible refine' g_aug ?obh ?_); (case obh => rfl))
  | with_reducible refine g_tup ?_
  | with_reducible refine g_lst ?_
  | with_reducible refine g_bm ?_
  | with_reducible refine g_bm0 ?_
  | with_reducible refine g_sl ?_
  | with_reducible refine g_nopart ?_
  | with_reducible refine g_part ?_
  | with_reducible refine g_pint ?_
  | with_reducible refine isi_int ?_
  | with_reducible refine isi_intB ?_
  | ((with_reducible refine' g_I ?obh ?_); (case obh => walk_at "obc"))
  | ((with_reducible refine' g_tyl ?obh ?_); (case obh => walk_at "obl"))
  | ((with_reducible refine' g_lenL ?obh ?_); (case obh => walk_at "obl"))
  | with_reducible refine g_ne ?_
  | ((with_reducible refine' g_neN' ?obh ?_); (case obh => rfl))
  | with_reducible refine g_ntt ?_
  | with_reducible refine g_nff ?_
  | with_reducible refine g_star ?_
  | with_reducible refine g_att ?_
  | with_reducible refine g_sfld ?_
  | with_reducible refine g_faug ?_
  | with_reducible refine g_fld ?_
  | ((with_reducible refine' g_nF ?obh ?_); (case obh => omega))
  | ((with_reducible refine' g_nT ?obh ?_); (case obh => omega))
  | ((with_reducible refine' g_TD ?obh ?_); (case obh => omega))
  | ((with_reducible refine' g_FD ?obh ?_); (case obh => omega))
  | ((with_reducible refine' g_ixUL ?obh ?obi ?_); (case obh => walk_at "obl"); (case obi => exact atI_nn (by omega) (by rfl)))
  | ((with_reducible refine' g_setLS ?obs ?obh ?obi ?_); (case obs => assumption); (case obh => assumption); (case obi => rfl); intro _ _ _)
  | ((with_reducible refine' g_newT ?obs ?obh ?obi ?obj ?_); (case obs => assumption); (case obh => walk_at "obds"); (case obi => rfl); (case obj => exact Nat.le_of_ble_eq_true rfl); intro _ _ _ _)
  | ((with_reducible refine' g_newL ?obs ?obj ?_); (case obs => assumption); (case obj => exact Nat.le_of_ble_eq_true rfl); intro _ _ _ _)
  | ((with_reducible refine' isi_tup ?obh ?_); (case obh => walk_at "obt"))
  | ((with_reducible refine' g_lenT ?obh ?_); (case obh => walk_at "obt"))
  | ((with_reducible refine' g_unpT ?obh ?obi ?_); (case obh => walk_at "obt"); (case obi => rfl))
  | ((with_reducible refine' g_divmod ?obs ?obh ?_); (case obs => assumption); (case obh => exact cdivp_ok (by omega) (by omega) (by omega)); intro _ _ _ _)
  | ((with_reducible refine' g_unpD ?obh ?obi ?obj ?_); (case obh => walk_at "obd"); (case obi => walk_at "obsc"); (case obj => rfl))
  | with_reducible refine g_att ?_)
local macro_rules | `(tactic| walk_at "ob") => `(tactic| first
  | walk_at "ob1"
  | refine use_is_integer ?_
  | refine use_is_within ?_
  | with_reducible refine g_lstRg ?_
  | with_reducible refine g_rg1 ?_
  | with_reducible refine g_rg2 ?_
  | with_reducible refine g_tTru ?_
  | ((with_reducible refine' g_truL ?obh ?_); (case obh => walk_at "obl"))
  | ((with_reducible refine' g_ixUT ?obh ?obi ?_); (case obh => walk_at "obt"); (case obi => rfl))
  | with_reducible refine g_forZ ?_
  | with_reducible refine g_forR2 ?_
  | with_reducible refine g_forE ?_
  | with_reducible refine g_lcZ ?_)
section
variable {P : Program} {w : World} {K : Frag} {mg : Str → Option Value} {base : Heap}
/-! ### pairs of a number and marks -/
def pairD (f : List Int → Int) (ms : List Int) : PyData := .tuple [.int (f ms), intsD ms]
theorem ints_alike : ∀ (xs ys : List Int), alikeAll (xs.map .int) (ys.map .int) = true
  | [], _ => by cases ‹List Int› <;> rfl
  | _ :: _, [] => rfl
  | x :: xs, y :: ys => by
    show (true && alikeAll (xs.map .int) (ys.map .int)) = true
    rw [ints_alike xs ys]
    rfl
theorem pair_alike1 {f : List Int → Int} (x y : List Int) : alike (pairD f x) (pairD f y) = true := by
  show (true && (alikeAll (x.map .int) (y.map .int) && true)) = true
  rw [ints_alike]
  rfl
theorem pairs_alike {f : List Int → Int} {mss : List (List Int)} : AlikeAll (mss.map (pairD f)) := ⟨fun x hx y hy => by
  obtain ⟨e, _, rfl⟩ := List.mem_map.mp hx
  obtain ⟨g, _, rfl⟩ := List.mem_map.mp hy
  exact pair_alike1 e g, fun x hx z => by
  obtain ⟨e, _, rfl⟩ := List.mem_map.mp hx
  cases z⟩
theorem ints_lay : ∀ (xs : List Int), PyData.canLayAll0 (xs.map .int) = true
  | [] => rfl
  | x :: xs => by
    show (true && PyData.canLayAll0 (xs.map .int)) = true
    rw [ints_lay xs]
    rfl
theorem pair_lay {f : List Int → Int} (ms : List Int) : (pairD f ms).canLay0 = true := by
  show (true && (PyData.canLayAll0 (ms.map .int) && true)) = true
  rw [ints_lay]
  rfl
theorem ints_depth : ∀ (xs : List Int), PyData.depthAll (xs.map .int) = 0
  | [] => rfl
  | x :: xs => by
    show max 0 (PyData.depthAll (xs.map .int)) = 0
    rw [ints_depth xs]
    rfl
theorem pair_depth {f : List Int → Int} : ∀ (mss : List (List Int)), PyData.depthAll (mss.map (pairD f)) ≤ 2
  | [] => Nat.zero_le _
  | e :: es => by
    have ih := pair_depth (f := f) es
    show max (PyData.depth (pairD f e)) (PyData.depthAll (es.map (pairD f))) ≤ 2
    have : PyData.depth (pairD f e) = 2 := by
      show max 0 (max (PyData.depthAll (e.map .int) + 1) 0) + 1 = 2
      rw [ints_depth]
      rfl
    omega
theorem pair_lt {f : List Int → Int} {x y : List Int} : (f x < f y → dataLt (pairD f x) (pairD f y) = true) ∧ (f y < f x → dataLt (pairD f x) (pairD f y) = false) := by
  have e := dataLt_pair (x := .int (f x)) (y := intsD x) (x' := .int (f y)) (y' := intsD y) rfl (ints_alike x y)
  have e2 : PyData.eqv (.int (f x)) (.int (f y)) = (f x == f y) := rfl
  unfold pairD
  rw [e, e2]
  constructor
  · intro h
    rw [if_neg (by simp; omega), dataLt_int]
    exact decide_eq_true h
  · intro h
    rw [if_neg (by simp; omega), dataLt_int]
    exact decide_eq_false (by omega)
theorem min_pairs {f : List Int → Int} : ∀ {r : List (List Int)} {m0 : List Int}, ∃ m ∈ m0 :: r, minD (pairD f m0) (r.map (pairD f)) = pairD f m ∧ ∀ x ∈ m0 :: r, f m ≤ f x
  | [], m0 => ⟨m0, List.mem_cons_self .., rfl, fun x hx => by cases List.mem_singleton.mp hx; exact Int.le_refl _⟩
  | y :: r, m0 => by
    have st : minD (pairD f m0) ((y :: r).map (pairD f)) = minD (if dataLt (pairD f y) (pairD f m0) = true then pairD f y else pairD f m0) (r.map (pairD f)) := rfl
    rw [st]
    obtain ⟨l1, l2⟩ := pair_lt (f := f) (x := y) (y := m0)
    by_cases c : dataLt (pairD f y) (pairD f m0) = true
    · rw [if_pos c]
      obtain ⟨m, hm, e, hle⟩ := min_pairs (f := f) (r := r) (m0 := y)
      have h2 : f y ≤ f m0 := by
        rcases Int.lt_or_le (f m0) (f y) with h | h
        · rw [l2 h] at c; cases c
        · exact h
      refine ⟨m, List.mem_cons_of_mem _ hm, e, fun x hx => ?_⟩
      rcases List.mem_cons.mp hx with rfl | hx
      · exact Int.le_trans (hle y (List.mem_cons_self ..)) h2
      · exact hle x hx
    · rw [if_neg c]
      obtain ⟨m, hm, e, hle⟩ := min_pairs (f := f) (r := r) (m0 := m0)
      have h2 : f m0 ≤ f y := by
        rcases Int.lt_or_le (f y) (f m0) with h | h
        · exact absurd (l1 h) c
        · exact h
      refine ⟨m, ?_, e, fun x hx => ?_⟩
      · rcases List.mem_cons.mp hm with rfl | hm
        · exact List.mem_cons_self ..
        · exact List.mem_cons_of_mem _ (List.mem_cons_of_mem _ hm)
      · rcases List.mem_cons.mp hx with rfl | hx
        · exact hle _ (List.mem_cons_self ..)
        · rcases List.mem_cons.mp hx with rfl | hx
          · exact Int.le_trans (hle m0 (List.mem_cons_self ..)) h2
          · exact hle x (List.mem_cons_of_mem _ hx)
theorem sqt_pair {H : Hp} {q : Addr} {k : Int} {m : List Int} (h : L2.Dp K H (.ref q) (.tuple [.int k, intsD m])) : ∃ mq, L2.Dp K H mq (intsD m) ∧ SqT K H q [.int k, mq] := by
  obtain ⟨a, xs, e, h1, h2⟩ := dp_at h
  cases e
  cases h2 with
  | cons a1 h2 =>
    cases h2 with
    | cons a2 h2 =>
      cases h2
      cases a1
      exact ⟨_, a2, h1⟩
theorem pair_imm {f : List Int → Int} (ms : List Int) : imm (pairD f ms) = true := by
  show (true && (immAll (ms.map .int) && true)) = true
  rw [ints_imm]
  rfl
/-- the least pair of a list of pairs -/
theorem g_minP {F : List (Addr × HO)} {G : List Ft} {H : Hp} {Q : VK} {l : Addr} {vs : List V} {f : List Int → Int} {mss : List (List Int)} (S : Sy K F G H) (h : SqL K H l vs) (hd : DpAll K H vs (mss.map (pairD f))) (ne : mss ≠ [])
    (k : ∀ m v, m ∈ mss → (∀ x ∈ mss, f m ≤ f x) → Sy K F (.dat [v] [pairD f m] :: G) H → Q v H) : rMinD K [.ref l] H Q := by
  cases mss with
  | nil => exact absurd rfl ne
  | cons m0 r =>
    refine ⟨l, vs, pairD f m0, r.map (pairD f), rfl, h, hd, pairs_alike (mss := m0 :: r), fun e he => ?_, Nat.le_trans (pair_depth (m0 :: r)) (by decide), fun i v hv he => ?_⟩
    · obtain ⟨x, _, rfl⟩ := List.mem_map.mp (show e ∈ (m0 :: r).map (pairD f) from he)
      exact pair_lay x
    · obtain ⟨e2, he2, hv2⟩ := dps_get hd hv
      obtain ⟨m, hm, e3, hle⟩ := min_pairs (f := f) (r := r) (m0 := m0)
      have h3 : some e2 = some (minD (pairD f m0) (r.map (pairD f))) := he2.symm.trans he
      rw [e3] at h3
      cases Option.some.inj h3
      exact k m v hm hle (S.fact (dps_one hv2) (by show (imm (pairD f m) && true) = true; rw [pair_imm]; rfl))
/-! ### all cheapest -/
def optD (w : Work) : Option (List Int) → PyData
  | none => .none
  | some ms => .tuple [.int (costM w.c ms), intsD ms]
def OptOk (w : Work) (y : Int) : Option (List Int) → Prop
  | none => ∀ ps k, ¬ Way w y w.l.length ps k
  | some ms => Cheap w y ms
theorem opt_imm (w : Work) (t : Option (List Int)) : imm (optD w t) = true := by
  cases t with
  | none => rfl
  | some ms =>
    show (true && (immAll (ms.map .int) && true)) = true
    rw [ints_imm]
    rfl
theorem opts_imm (w : Work) (ts : List (Option (List Int))) : immAll (ts.map (optD w)) = true := immAll_of fun x hx => by
  obtain ⟨t, _, rfl⟩ := List.mem_map.mp hx
  exact opt_imm w t
def sp_all_cheapest (K : Frag) : Sp := fun vs H Q E => vs.length = 1 ∧ ∃ (F : List (Addr × HO)) (G : List Ft) (p : Addr) (wk : Work), vs = [.ref p] ∧ Sy K F G H ∧ L2.Dp K H (.ref p) (workD wk) ∧ WkOk wk ∧
  ∀ r vs H' (mss : List (List Int)), AllC wk mss → mss.length < 64 → Sy K ((r, .lst vs) :: F) (.dat vs (mss.map intsD) :: G) H' → Q (.ref r) H'
abbrev names_all_cheapest : List Str := ["work", "some", "most", "told"]
theorem sc_all_cheapest : FnScope names_all_cheapest ["work"] (defScope (top 26)) := ⟨rfl, rfl, rfl, by decide +kernel, rfl, by decide +kernel, by decide +kernel⟩
set_option maxHeartbeats 4000000 in
theorem ok_all_cheapest (T : Tx K mg) : FG P w K mg base CX0 3 T.a_all_cheapest T.d_all_cheapest ["work"] (sp_all_cheapest K) := by
  refine OB.Fun.fg T.F_all_cheapest sc_all_cheapest (fun vs H Q E h => h.1) (fun cdv A out s H vs Q E g h => ?_)
  obtain ⟨_, F, G, p, wk, rfl, S, hd, wo, k⟩ := h
  refine ⟨_, (pss_cons (ps_setLc (i := 1) (own := [("most", 2)]) (tt := tYes) rfl sc_all_cheapest.nd rfl rfl (sw_true rfl rfl rfl (by decide +kernel)) (pi_seq (pe_cg (ok_bounds_of T) (g.mono (by decide : 2 ≤ 2)) (by rfl) T.m_bounds_of T.F_bounds_of.kp (OB.Fun.bd T.F_bounds_of (ps := ["work"]) (n := 1) (ks := []) (ix := [0]) (fun _ _ _ _ _ _ us ws h1 h2 => match us, ws, h1, h2 with | [_], [], _, _ => rfl)) pass0 (pa_cons (pv 0) pa_nil) pk_nil)) (blkOk_by (N := names_all_cheapest) (sc := defScope (top 26)) (own := [("most", 2)]) (by decide +kernel)) (fun _ _ _ _ _ => (pg_name (i := 2) sc_all_cheapest.nd rfl (by first | exact Or.inl rfl | exact Or.inr rfl))) (fun _ _ _ _ _ => pts_nil) (fun _ _ _ _ _ => (pe_cg (ok_cheapest_at T) (g.mono (by decide : 2 ≤ 2)) (by rfl) T.m_cheapest_at T.F_cheapest_at.kp (OB.Fun.bd T.F_cheapest_at (ps := ["work", "most"]) (n := 2) (ks := []) (ix := [0, 1]) (fun _ _ _ _ _ _ us ws h1 h2 => match us, ws, h1, h2 with | [_, _], [], _, _ => rfl)) pass0 (pa_cons (pv 0) (pa_cons (pv 2) pa_nil)) pk_nil)))
      (pss_one (ps_ret (pe_lc (own := [("told", 3)]) rfl sc_all_cheapest.nd (pi_seq (pv 1)) (blkOk_by (N := names_all_cheapest) (sc := defScope (top 26)) (own := [("told", 3)]) (by decide +kernel)) (fun _ _ _ _ _ => (pg_name (i := 3) sc_all_cheapest.nd rfl (by first | exact Or.inl rfl | exact Or.inr rfl))) (fun _ _ _ _ _ => pts_one (pt_cmpR op_notN (pv 3) pe_non (nomark _))) (fun _ _ _ _ _ => (pe_ix (ix_UK (K := K) rfl) (pv 3) pe_int (fun _ _ => rfl))))))), ?_⟩
  refine g_start (σ := [some _, none, none, none]) rfl ?_
  have S0 := S.add _ (dat_work hd)
  clear S
  repeat walk_at "ob"
  refine g_lcE2 ?_
  repeat walk_at "ob"
  refine ⟨rfl, _, _, p, wk, rfl, S0, S0.dp 0 rfl, wo, fun r bs H2 hb bl S1 => ?_⟩
  clear S0
  have hbl : (bs.map V.int).length = bs.length := List.length_map ..
  repeat walk_at "ob"
  refine g_lcS (a := r) (xs := bs.map V.int) true (fun j F' ds => F' = (r, .lst (bs.map V.int)) :: F ∧ ∃ ts : List (Option (List Int)), ds = ts.map (optD wk) ∧ ts.length = j ∧ j ≤ bs.length ∧ ∀ (i : Nat) (y : Int) (t : Option (List Int)), bs[i]? = some y → ts[i]? = some t → OptOk wk y t) S1 (fun Q' q => q) ?_ (fun j F' ds H' hi S3 => SqL.of ((hi.1 ▸ S3).at 0 rfl)) (fun j F' ds hi => by
    obtain ⟨_, ts, e, e2, e3, _⟩ := hi
    rw [e, List.length_map]; omega) ?_ ?_
  · exact ⟨rfl, [], rfl, rfl, Nat.zero_le _, fun i y t _ h => by cases h⟩
  · intro j x hx Da H3 F2 vs2 ds QE QR hi2 S3 kE kR
    obtain ⟨rfl, ts, rfl, tl, jl, hts⟩ := hi2
    rw [List.getElem?_map] at hx
    obtain ⟨y, hy, rfl⟩ := Option.map_eq_some_iff.mp hx
    have hj1 := (List.getElem?_eq_some_iff.mp hy).1
    have more : ∀ t, OptOk wk y t → ∀ i z u, bs[i]? = some z → (ts ++ [t])[i]? = some u → OptOk wk z u := fun t ht i z u hz hu => by
      by_cases c : i < ts.length
      · rw [List.getElem?_append_left c] at hu
        exact hts i z u hz hu
      · have l2 := (List.getElem?_eq_some_iff.mp hu).1
        rw [List.length_append, List.length_singleton] at l2
        have : i = j := by omega
        subst this
        rw [hy] at hz
        cases hz
        rw [List.getElem?_append_right (by omega), tl, Nat.sub_self] at hu
        cases hu
        exact ht
    repeat walk_at "ob"
    refine ⟨rfl, ?_⟩
    repeat walk_at "ob"
    refine ⟨rfl, _, _, p, wk, y, rfl, S3, S3.dp 1 rfl, wo, fun no H4 S4 => ?_, fun ms q H4 ch S4 => ?_⟩
    · refine kE _ (optD wk none) _ _ ⟨rfl, ts ++ [none], by rw [List.map_append]; rfl, by rw [List.length_append, List.length_singleton, tl], hj1, more none no⟩ (S4.fact (dps_one L2.Dp.non) rfl)
    · exact kE _ (optD wk (some ms)) _ _ ⟨rfl, ts ++ [some ms], by rw [List.map_append]; rfl, by rw [List.length_append, List.length_singleton, tl], hj1, more (some ms) ch⟩ S4
  intro Da H3 F2 vs2 ds hD hi2 S3
  obtain ⟨rfl, ts, rfl, tl, jl, hts⟩ := hi2
  rw [hbl] at tl
  have v2l := dps_length (S3.dps 0 rfl)
  rw [List.length_map] at v2l
  repeat walk_at "ob"
  refine g_lcS (a := Da) (xs := vs2) true (fun j F' ds => F' = (Da, .lst vs2) :: (r, .lst (bs.map V.int)) :: F ∧ ds = ((ts.take j).filterMap id).map intsD) S3 (fun Q' q => by walk_at "ob"; exact q) ⟨rfl, rfl⟩ (fun j F' ds H' hi S3 => SqL.of ((hi.1 ▸ S3).at 0 rfl)) (fun j F' ds hi => by
    have := List.length_filterMap_le (id : Option (List Int) → Option (List Int)) (ts.take j)
    rw [List.length_take] at this
    rw [hi.2, List.length_map]; omega) ?_ ?_
  · intro j x hx Db H4 F3 vs3 ds QE QR hi2 S4 kE kR
    obtain ⟨rfl, rfl⟩ := hi2
    obtain ⟨t, ht, hdt⟩ := dps_map (S4.dps 1 rfl) hx
    have step : (ts.take (j + 1)).filterMap id = (ts.take j).filterMap id ++ t.toList := by
      rw [List.take_add_one, ht, List.filterMap_append]
      cases t <;> rfl
    cases t with
    | none =>
      cases (show L2.Dp K H4 x .none from hdt)
      repeat walk_at "ob"
      refine ⟨rfl, ?_⟩
      repeat walk_at "ob"
      refine ⟨rfl, ?_⟩
      refine ⟨false, rfl, ?_⟩
      rw [if_neg Bool.false_ne_true]
      exact kR _ _ ⟨rfl, by rw [step]; show _ = List.map intsD (_ ++ []); rw [List.append_nil]⟩ S4
    | some m =>
      obtain ⟨q, _, rfl, _⟩ := dp_at (show L2.Dp K H4 x (.tuple [.int (costM wk.c m), intsD m]) from hdt)
      repeat walk_at "ob"
      refine ⟨rfl, ?_⟩
      repeat walk_at "ob"
      refine ⟨rfl, ?_⟩
      refine ⟨true, rfl, ?_⟩
      rw [if_pos rfl]
      obtain ⟨mq, hmq, hst⟩ := sqt_pair hdt
      repeat walk_at "ob"
      refine kE _ (intsD m) _ _ ⟨rfl, by rw [step, List.map_append]; rfl⟩ (S4.fact (dps_one hmq) (by show (immAll (m.map .int) && true) = true; rw [ints_imm]; rfl))
  · intro Db H4 F3 vs3 ds hD2 hi2 S4
    obtain ⟨rfl, rfl⟩ := hi2
    rw [v2l, List.take_length] at S4
    refine k Db vs3 H4 (ts.filterMap id) (allC_of wo (fun ms hm => ?_) fun a q h1 h2 ⟨M, hM, hf⟩ => ?_) ?_ (Sy.less (Sy.swap (Sy.less (Sy.swap S4)))).drop2.drop2
    · obtain ⟨t, ht, e⟩ := List.mem_filterMap.mp hm
      cases (show t = some ms from e)
      obtain ⟨i, hi⟩ := List.getElem?_of_mem ht
      have il := (List.getElem?_eq_some_iff.mp hi).1
      have hb2 : bs[i]? = some bs[i] := List.getElem?_eq_getElem (by omega)
      exact ⟨_, hts i _ _ hb2 hi⟩
    · obtain ⟨i, hi⟩ := List.getElem?_of_mem ((hb _).mpr ⟨a, q, h1, h2, rfl⟩)
      have il := (List.getElem?_eq_some_iff.mp hi).1
      have ht2 : ts[i]? = some ts[i] := List.getElem?_eq_getElem (by omega)
      have o := hts i _ _ hi ht2
      generalize ts[i] = t at ht2 o
      cases t with
      | none =>
        obtain ⟨ps, W⟩ := (len_ways wo hM).2 _ hf
        exact absurd W (o ps _)
      | some ms => exact ⟨ms, List.mem_filterMap.mpr ⟨some ms, List.mem_of_getElem? ht2, rfl⟩, o⟩
    · have := List.length_filterMap_le (id : Option (List Int) → Option (List Int)) ts
      omega
end
end LAW

set_option Elab.async false
set_option linter.all false
set_option maxRecDepth 100000
namespace LAW
open PySem PySem.Spec PyProof.Rows L2 PySem.W OB
local macro_rules | `(tactic| walk_at "obc") => `(tactic| first
  | exact Or.inl ⟨by omega, by omega⟩
  | exact Or.inr ⟨by omega, by omega⟩
  | exact cdiv_ok (by omega) (by omega)
  | (show (0 : Int) < _; omega)
  | exact ⟨by omega, by decide⟩
  | exact ⟨by decide, by decide⟩)
local macro_rules | `(tactic| walk_at "obat") => `(tactic| first
  | exact Sy.at (by assumption) 0 rfl | exact Sy.at (by assumption) 1 rfl | exact Sy.at (by assumption) 2 rfl | exact Sy.at (by assumption) 3 rfl
  | exact Sy.at (by assumption) 4 rfl | exact Sy.at (by assumption) 5 rfl | exact Sy.at (by assumption) 6 rfl | exact Sy.at (by assumption) _ (by assumption) | exact Sy.at (by assumption) (_ + 1) (by assumption) | exact Sy.at (by assumption) (_ + 2) (by assumption))
local macro_rules | `(tactic| walk_at "obt") => `(tactic| first
  | exact Sy.tqs (by assumption) 0 rfl | exact Sy.tqs (by assumption) 1 rfl | exact Sy.tqs (by assumption) 2 rfl | exact Sy.tqs (by assumption) 3 rfl | exact Sy.tqs (by assumption) 4 rfl | exact Sy.tqs (by assumption) 5 rfl
  | exact Sy.tqs (by assumption) 6 rfl | exact Sy.tqs (by assumption) 7 rfl | assumption)
local macro_rules | `(tactic| walk_at "obl") => `(tactic| first
  | exact SqL.of (by walk_at "obat")
  | exact Sy.sq (by assumption) 0 rfl | exact Sy.sq (by assumption) 1 rfl | exact Sy.sq (by assumption) 2 rfl | exact Sy.sq (by assumption) 3 rfl | exact Sy.sq (by assumption) _ (by assumption))
local macro_rules | `(tactic| walk_at "obd") => `(tactic| first
  | exact Dp.int _ | exact Dp.bl _ | exact Dp.str _ | exact Dp.non
  | exact Sy.dp (by assumption) 0 rfl | exact Sy.dp (by assumption) 1 rfl | exact Sy.dp (by assumption) 2 rfl | exact Sy.dp (by assumption) 3 rfl
  | exact Sy.dp (by assumption) 4 rfl | exact Sy.dp (by assumption) 5 rfl | exact Sy.dp (by assumption) 6 rfl | exact Sy.dp (by assumption) 7 rfl
  | exact Sy.dp (by assumption) 8 rfl | exact Sy.dp (by assumption) 9 rfl | exact Sy.dp (by assumption) _ (by assumption) | assumption)
local macro_rules | `(tactic| walk_at "obds") => `(tactic| first
  | exact DpAll.nil
  | (refine' DpAll.cons ?ob1 ?ob2; (case ob1 => walk_at "obd"); (case ob2 => walk_at "obds"))
  | exact Sy.dps (by assumption) 0 rfl | exact Sy.dps (by assumption) 1 rfl | exact Sy.dps (by assumption) 2 rfl | exact Sy.dps (by assumption) 3 rfl | assumption)
local macro_rules | `(tactic| walk_at "obsc") => `(tactic| first
  | exact ScL.nil
  | ((first | refine' ScL.int ?obz | refine' ScL.str ?obz | refine' ScL.bl ?obz | refine' ScL.non ?obz); (case obz => walk_at "obsc")))
local macro_rules | `(tactic| walk_at "ob1") => `(tactic| first
  | ((with_reducible refine' g_var ?obh ?_); (case obh => rfl))
  | with_reducible refine g_c ?_
  | with_reducible refine g_nx ?_
  | with_reducible refine g_rt ?_
  | with_reducible refine g_bk ?_
  | with_reducible refine g_ct ?_
  | with_reducible refine g_op ?_
  | with_reducible refine g_I0 ?_
  | with_reducible refine g_test ?_
  | with_reducible refine g_bl ?_
  | with_reducible refine g_blx ?_
  | with_reducible refine g_B ?_
  | with_reducible refine g_seq ?_
  | with_reducible refine g_asg ?_
  | with_reducible refine g_name ?_
  | with_reducible refine g_ifS ?_
  | with_reducible refine g_ret ?_
  | with_reducible refine g_cb ?_
  | with_reducible refine g_cons ?_
  | with_reducible refine g_nil ?_
  | with_reducible refine g_int ?_
  | with_reducible refine g_intB ?_
  | with_reducible refine g_abs ?_
  | with_reducible refine g_max ?_
  | with_reducible refine g_min ?_
  | with_reducible refine g_un ?_
  | with_reducible refine g_U ?_
  | with_reducible refine g_eqI ?_
  | with_reducible refine g_neI ?_
  | with_reducible refine g_eqS ?_
  | with_reducible refine g_neS ?_
  | with_reducible refine g_tt ?_
  | with_reducible refine g_ff ?_
  | with_reducible refine g_next ?_
  | with_reducible refine g_drop ?_
  | with_reducible refine g_if ?_
  | with_reducible refine g_andV ?_
  | with_reducible refine g_orV ?_
  | with_reducible refine g_notV ?_
  | with_reducible refine g_and ?_
  | with_reducible refine g_or ?_
  | with_reducible refine g_not ?_
  | with_reducible refine g_yes ?_
  | with_reducible refine g_chain ?_
  | with_reducible refine g_cg ?_
  | with_reducible refine g_mg ?_
  | with_reducible refine g_kg ?_
  | with_reducible refine g_pg ?_
  | ((with_reducible refine' g_call ?obh ?obj ?_); (case obh => rfl); (case obj => rfl))
  | with_reducible refine g_par ?_
  | with_reducible refine g_par2 ?_
  | with_reducible refine g_par3 ?_
  | with_reducible refine g_par33 ?_
  | with_reducible refine g_gnil ?_
  | with_reducible refine g_gcons ?_
  | with_reducible refine g_gsub ?_
  | with_reducible refine g_ipI ?_
  | with_reducible refine g_rAdd ?_
  | with_reducible refine g_rSub ?_
  | ((with_reducible refine' g_aug ?obh ?_); (case obh => rfl))
  | with_reducible refine g_tup ?_
  | with_reducible refine g_lst ?_
  | with_reducible refine g_bm ?_
  | with_reducible refine g_bm0 ?_
  | with_reducible refine g_sl ?_
  | with_reducible refine g_nopart ?_
  | with_reducible refine g_part ?_
  | with_reducible refine g_pint ?_
  | with_reducible refine isi_int ?_
  | with_reducible refine isi_intB ?_
  | ((with_reducible refine' g_I ?obh ?_); (case obh => walk_at "obc"))
  | ((with_reducible refine' g_tyl ?obh ?_); (case obh => walk_at "obl"))
  | ((with_reducible refine' g_lenL ?obh ?_); (case obh => walk_at "obl"))
  | with_reducible refine g_ne ?_
  | ((with_reducible refine' g_neN' ?obh ?_); (case obh => rfl))
  | with_reducible refine g_ntt ?_
  | with_reducible refine g_nff ?_
  | with_reducible refine g_star ?_
  | with_reducible refine g_att ?_
  | with_reducible refine g_sfld ?_
  | with_reducible refine g_faug ?_
  | with_reducible refine g_fld ?_
  | ((with_reducible refine' g_nF ?obh ?_); (case obh => omega))
  | ((with_reducible refine' g_nT ?obh ?_); (case obh => omega))
  | ((with_reducible refine' g_TD ?obh ?_); (case obh => omega))
  | ((with_reducible refine' g_FD ?obh ?_); (case obh => omega))
  | ((with_reducible refine' g_ixUL ?obh ?obi ?_); (case obh => walk_at "obl"); (case obi => exact atI_nn (by omega) (by rfl)))
  | ((with_reducible refine' g_setLS ?obs ?obh ?obi ?_); (case obs => assumption); (case obh => assumption); (case obi => rfl); intro _ _ _)
  | ((with_reducible refine' g_newT ?obs ?obh ?obi ?obj ?_); (case obs => assumption); (case obh => walk_at "obds"); (case obi => rfl); (case obj => exact Nat.le_of_ble_eq_true rfl); intro _ _ _ _)
  | ((with_reducible refine' g_newL ?obs ?obj ?_); (case obs => assumption); (case obj => exact Nat.le_of_ble_eq_true rfl); intro _ _ _ _)
  | ((with_reducible refine' isi_tup ?obh ?_); (case obh => walk_at "obt"))
  | ((with_reducible refine' g_lenT ?obh ?_); (case obh => walk_at "obt"))
  | ((with_reducible refine' g_unpT ?obh ?obi ?_); (case obh => walk_at "obt"); (case obi => rfl))
  | ((with_reducible refine' g_divmod ?obs ?obh ?_); (case obs => assumption); (case obh => exact cdivp_ok (by omega) (by omega) (by omega)); intro _ _ _ _)
  | ((with_reducible refine' g_unpD ?obh ?obi ?obj ?_); (case obh => walk_at "obd"); (case obi => walk_at "obsc"); (case obj => rfl))
  | with_reducible refine g_att ?_)
local macro_rules | `(tactic| walk_at "ob") => `(tactic| first
  | walk_at "ob1"
  | refine use_is_integer ?_
  | refine use_is_within ?_
  | with_reducible refine g_lstRg ?_
  | with_reducible refine g_rg1 ?_
  | with_reducible refine g_rg2 ?_
  | with_reducible refine g_tTru ?_
  | ((with_reducible refine' g_truL ?obh ?_); (case obh => walk_at "obl"))
  | ((with_reducible refine' g_ixUT ?obh ?obi ?_); (case obh => walk_at "obt"); (case obi => rfl))
  | with_reducible refine g_forZ ?_
  | with_reducible refine g_forR2 ?_
  | with_reducible refine g_forE ?_
  | with_reducible refine g_lcZ ?_)
section
variable {P : Program} {w : World} {K : Frag} {mg : Str → Option Value} {base : Heap}
theorem up_len : ∀ {ms : List Int} {lo hi : Int}, ms.Pairwise (· < ·) → (∀ x ∈ ms, lo ≤ x ∧ x < hi) → lo ≤ hi → (ms.length : Int) ≤ hi - lo
  | [], lo, hi, _, _, h => by show ((0 : Nat) : Int) ≤ _; omega
  | m :: ms, lo, hi, pw, hv, h => by
    obtain ⟨p1, p2⟩ := List.pairwise_cons.mp pw
    have hm := hv m (List.mem_cons_self ..)
    have ih := up_len (lo := m + 1) (hi := hi) p2 (fun x hx => by
      have := p1 x hx
      have := hv x (List.mem_cons_of_mem _ hx)
      omega) (by omega)
    rw [List.length_cons]
    omega
theorem MkOk.len {w : Work} {ms : List Int} (m : MkOk w ms) : ms.length ≤ w.c.length := by
  have := up_len m.up m.mv (by omega)
  omega
theorem g_minI {H : Hp} {Q : VK} {l : Addr} {ns : List Int} (h : SqL K H l (ns.map V.int)) (ne : 0 < ns.length) (k : ∀ m, m ∈ ns → (∀ x ∈ ns, m ≤ x) → Q (.int m) H) : rMinD K [.ref l] H Q := by
  cases ns with
  | nil => cases ne
  | cons n0 r =>
    have mn : ∀ (r : List Int) (n0 : Int), ∃ m ∈ n0 :: r, minD (.int n0) (r.map PyData.int) = .int m ∧ ∀ x ∈ n0 :: r, m ≤ x := by
      intro r
      induction r with
      | nil => exact fun n0 => ⟨n0, List.mem_cons_self .., rfl, fun x hx => by cases List.mem_singleton.mp hx; exact Int.le_refl _⟩
      | cons y r ih =>
        intro n0
        have st : minD (.int n0) ((y :: r).map PyData.int) = minD (if dataLt (.int y) (.int n0) = true then .int y else .int n0) (r.map PyData.int) := rfl
        rw [st, dataLt_int]
        by_cases c : y < n0
        · obtain ⟨m, hm, e, hle⟩ := ih y
          rw [if_pos (decide_eq_true c)]
          refine ⟨m, List.mem_cons_of_mem _ hm, e, fun x hx => ?_⟩
          rcases List.mem_cons.mp hx with rfl | hx
          · have := hle y (List.mem_cons_self ..)
            omega
          · exact hle x hx
        · obtain ⟨m, hm, e, hle⟩ := ih n0
          rw [if_neg (by rw [decide_eq_false c]; exact Bool.false_ne_true)]
          refine ⟨m, ?_, e, fun x hx => ?_⟩
          · rcases List.mem_cons.mp hm with rfl | hm
            · exact List.mem_cons_self ..
            · exact List.mem_cons_of_mem _ (List.mem_cons_of_mem _ hm)
          · rcases List.mem_cons.mp hx with rfl | hx
            · exact hle _ (List.mem_cons_self ..)
            · rcases List.mem_cons.mp hx with rfl | hx
              · have := hle n0 (List.mem_cons_self ..)
                omega
              · exact hle x (List.mem_cons_of_mem _ hx)
    have dpa : DpAll K H ((n0 :: r).map V.int) (.int n0 :: r.map PyData.int) := dps_ints (n0 :: r)
    refine ⟨l, (n0 :: r).map V.int, .int n0, r.map PyData.int, rfl, h, dpa, ⟨fun x hx y hy => ?_, fun x hx z => ?_⟩, fun e he => ?_, Nat.le_trans (Nat.le_of_eq (ints_depth (n0 :: r))) (by decide), fun i v hv he => ?_⟩
    · obtain ⟨a, _, rfl⟩ := List.mem_map.mp (show x ∈ (n0 :: r).map PyData.int from hx)
      obtain ⟨b, _, rfl⟩ := List.mem_map.mp (show y ∈ (n0 :: r).map PyData.int from hy)
      rfl
    · obtain ⟨a, _, rfl⟩ := List.mem_map.mp (show x ∈ (n0 :: r).map PyData.int from hx)
      cases z
    · obtain ⟨a, _, rfl⟩ := List.mem_map.mp (show e ∈ (n0 :: r).map PyData.int from he)
      rfl
    · obtain ⟨m, hm, e3, hle⟩ := mn r n0
      obtain ⟨e2, he2, hv2⟩ := dps_get dpa hv
      have h3 : some e2 = some (minD (.int n0) (r.map PyData.int)) := he2.symm.trans he
      rw [e3] at h3
      cases Option.some.inj h3
      cases hv2
      exact k m hm hle
def sp_cost_of (K : Frag) : Sp := fun vs H Q E => vs.length = 2 ∧ ∃ (F : List (Addr × HO)) (G : List Ft) (p q : Addr) (wk : Work) (ms : List Int), vs = [.ref p, .ref q] ∧ Sy K F G H ∧ L2.Dp K H (.ref p) (workD wk) ∧ L2.Dp K H (.ref q) (intsD ms) ∧ WkOk wk ∧ MkOk wk ms ∧
  ∀ H', Sy K F G H' → Q (.int (costM wk.c ms)) H'
abbrev names_cost_of : List Str := ["work", "marks", "mark"]
theorem sc_cost_of : FnScope names_cost_of ["work", "marks"] (defScope (top 29)) := ⟨rfl, rfl, rfl, by decide +kernel, rfl, by decide +kernel, by decide +kernel⟩
set_option maxHeartbeats 4000000 in
theorem ok_cost_of (T : Tx K mg) : FG P w K mg base CX0 1 T.a_cost_of T.d_cost_of ["work", "marks"] (sp_cost_of K) := by
  refine OB.Fun.fg T.F_cost_of sc_cost_of (fun vs H Q E h => h.1) (fun cdv A out s H vs Q E g h => ?_)
  obtain ⟨_, F, G, p, q, wk, ms, rfl, S, hd, hm, wo, ok, k⟩ := h
  refine ⟨_, (pss_one (ps_ret (pe_callB (toK (r := rSum) (K := K) rfl (cr_sum rfl)) (by rfl) T.n_sum (by decide +kernel) (pa_cons (pe_lc (own := [("mark", 2)]) (tt := tYes) rfl sc_cost_of.nd (pi_seq (pv 1)) (blkOk_by (N := names_cost_of) (sc := defScope (top 29)) (own := [("mark", 2)]) (by decide +kernel)) (fun _ _ _ _ _ => (pg_name (i := 2) sc_cost_of.nd rfl (by first | exact Or.inl rfl | exact Or.inr rfl))) (fun _ _ _ _ _ => pts_nil) (fun _ _ _ _ _ => (pe_ix (ix_UK (K := K) rfl) (pe_ix (ix_UK (K := K) rfl) (pv 0) pe_int (fun _ _ => rfl)) (pv 2) (fun _ _ => rfl)))) pa_nil)))), ?_⟩
  refine g_start (σ := [some _, some _, none]) rfl ?_
  obtain ⟨lp, cp, S1⟩ := Sy.work (S.add _ (dat_ints hm)) hd
  have S2 := S1.add (.tq q (ms.map V.int)) (sqt_ints (S1.dp 3 rfl))
  have ml := ok.len
  have l1 := wo.l1
  have cl := wo.cl
  clear S S1
  repeat walk_at "ob"
  refine g_lcS (a := q) (xs := ms.map V.int) false (fun j F' ds => F' = F ∧ ds = ((ms.take j).map fun m => wk.c.getD m.toNat 0).map PyData.int) S2 (fun Q' q => by walk_at "ob"; exact q) ⟨rfl, rfl⟩ (fun j F' ds H' hi S3 => S3.tqs 0 rfl) (fun j F' ds hi => by
    rw [hi.2, List.length_map, List.length_map, List.length_take]; omega) ?_ ?_
  · intro j x hx Da H2 F2 vs2 ds QE QR hi2 S3 kE kR
    obtain ⟨rfl, rfl⟩ := hi2
    rw [List.getElem?_map] at hx
    obtain ⟨m, hm, rfl⟩ := Option.map_eq_some_iff.mp hx
    have hmv := ok.mv m (List.mem_of_getElem? hm)
    have hce : wk.c[m.toNat]? = some (wk.c.getD m.toNat 0) := by
      rw [List.getD_eq_getElem?_getD, List.getElem?_eq_getElem (by omega)]
      rfl
    repeat walk_at "ob"
    refine ⟨rfl, ?_⟩
    repeat walk_at "ob"
    refine g_ixUT (v := .int (wk.c.getD m.toNat 0)) (sqt_ints (S3.dp 4 rfl)) (atI_nn (by omega) (by rw [List.getElem?_map, hce]; rfl)) ?_
    refine kE _ (.int (wk.c.getD m.toNat 0)) _ _ ⟨rfl, ?_⟩ (S3.fact (dps_one (L2.Dp.int _)) rfl)
    rw [List.take_add_one, hm, List.map_append, List.map_append]
    rfl
  · intro Da H2 F2 vs2 ds hD hi2 S3
    obtain ⟨rfl, rfl⟩ := hi2
    have hv := dps_intsV (S3.dps 0 rfl)
    subst hv
    repeat walk_at "ob"
    refine g_sum (SqL.of (S3.at 0 rfl)) ?_
    have e : (((ms.take (ms.map V.int).length).map fun m => wk.c.getD m.toNat 0)).sum = costM wk.c ms := by
      rw [List.length_map, List.take_length]
      rfl
    rw [e]
    exact k H2 S3.less.drop.drop.drop.drop.drop.drop
def sp_cheapest_marks (K : Frag) : Sp := fun vs H Q E => vs.length = 2 ∧ ∃ (F : List (Addr × HO)) (G : List Ft) (p : Addr) (wk : Work) (most : Int), vs = [.ref p, .int most] ∧ Sy K F G H ∧ L2.Dp K H (.ref p) (workD wk) ∧ WkOk wk ∧ 1 ≤ most ∧ most ≤ 1000000000 ∧
  ((∀ ps k, ¬ Way wk most wk.l.length ps k) → ∀ H', Sy K F G H' → Q .non H') ∧ ∀ ms q H', Cheap wk most ms → Sy K F (.dat [.ref q] [.tuple [.int (costM wk.c ms), intsD ms]] :: G) H' → Q (.ref q) H'
abbrev names_cheapest_marks : List Str := ["work", "most"]
theorem sc_cheapest_marks : FnScope names_cheapest_marks ["work", "most"] (defScope (top 27)) := ⟨rfl, rfl, rfl, by decide +kernel, rfl, by decide +kernel, by decide +kernel⟩
set_option maxHeartbeats 4000000 in
theorem ok_cheapest_marks (T : Tx K mg) : FG P w K mg base CX0 6 T.a_cheapest_marks T.d_cheapest_marks ["work", "most"] (sp_cheapest_marks K) := by
  refine OB.Fun.fg T.F_cheapest_marks sc_cheapest_marks (fun vs H Q E h => h.1) (fun cdv A out s H vs Q E g h => ?_)
  obtain ⟨_, F, G, p, wk, most, rfl, S, hd, wo, h0, h1, kn, ks⟩ := h
  refine ⟨_, (pss_cons (ps_expr (pe_cg (ok_check_work T) (g.mono (by decide : 5 ≤ 5)) (by rfl) T.m_check_work T.F_check_work.kp (OB.Fun.bd T.F_check_work (ps := ["work"]) (n := 1) (ks := []) (ix := [0]) (fun _ _ _ _ _ _ us ws h1 h2 => match us, ws, h1, h2 with | [_], [], _, _ => rfl)) pass0 (pa_cons (pv 0) pa_nil) pk_nil))
      (pss_cons (ps_if (pt_not (pt_val (pe_cg (ok_is_within T) (g.mono (by decide : 2 ≤ 5)) (by rfl) T.m_is_within T.F_is_within.kp (OB.Fun.bd T.F_is_within (ps := ["value", "least", "most"]) (n := 3) (ks := []) (ix := [0, 1, 2]) (fun _ _ _ _ _ _ us ws h1 h2 => match us, ws, h1, h2 with | [_, _, _], [], _, _ => rfl)) pass0 (pa_cons (pv 1) (pa_cons pe_int (pa_cons (pe_glob (v := .int 1000000000) (by rfl) T.g_MOST_LENGTH ⟨_, rfl⟩) pa_nil))) pk_nil))) (pss_one ps_never) pss_nil)
      (pss_one (ps_ret (pe_cg (ok_cheapest_at T) (g.mono (by decide : 2 ≤ 5)) (by rfl) T.m_cheapest_at T.F_cheapest_at.kp (OB.Fun.bd T.F_cheapest_at (ps := ["work", "most"]) (n := 2) (ks := []) (ix := [0, 1]) (fun _ _ _ _ _ _ us ws h1 h2 => match us, ws, h1, h2 with | [_, _], [], _, _ => rfl)) pass0 (pa_cons (pv 0) (pa_cons (pv 1) pa_nil)) pk_nil))))), ?_⟩
  refine g_start (σ := [some _, some _]) rfl ?_
  have S0 := S.add _ (dat_work hd)
  clear S
  repeat walk_at "ob"
  refine use_check_work S0 (S0.dp 0 rfl) wo fun H2 S2 => ?_
  clear S0
  repeat walk_at "ob"
  exact ⟨rfl, _, _, p, wk, most, rfl, S2, S2.dp 0 rfl, wo, fun no H' S3 => kn no H' S3.drop, fun ms q H' c S3 => ks ms q H' c S3.drop2⟩
def pw (w : Work) (c : Int) : List Int → Int := fun ms => wst w ms c
def sp_least_worst (K : Frag) : Sp := fun vs H Q E => vs.length = 2 ∧ ∃ (F : List (Addr × HO)) (G : List Ft) (p : Addr) (wk : Work) (c : Int), vs = [.ref p, .int c] ∧ Sy K F G H ∧ L2.Dp K H (.ref p) (workD wk) ∧ WkOk wk ∧ 0 ≤ c ∧ c ≤ 100 ∧
  ∀ ms q H', MkOk wk ms → Least (MkOk wk) (pw wk c) (pw wk c ms) → Sy K F (.dat [.ref q] [pairD (pw wk c) ms] :: G) H' → Q (.ref q) H'
abbrev names_least_worst : List Str := ["work", "cuts", "marks"]
theorem sc_least_worst : FnScope names_least_worst ["work", "cuts"] (defScope (top 31)) := ⟨rfl, rfl, rfl, by decide +kernel, rfl, by decide +kernel, by decide +kernel⟩
set_option maxHeartbeats 4000000 in
theorem ok_least_worst (T : Tx K mg) : FG P w K mg base CX0 6 T.a_least_worst T.d_least_worst ["work", "cuts"] (sp_least_worst K) := by
  refine OB.Fun.fg T.F_least_worst sc_least_worst (fun vs H Q E h => h.1) (fun cdv A out s H vs Q E g h => ?_)
  obtain ⟨_, F, G, p, wk, c, rfl, S, hd, wo, c0, c1, k⟩ := h
  refine ⟨_, (pss_cons (ps_expr (pe_cg (ok_check_work T) (g.mono (by decide : 5 ≤ 5)) (by rfl) T.m_check_work T.F_check_work.kp (OB.Fun.bd T.F_check_work (ps := ["work"]) (n := 1) (ks := []) (ix := [0]) (fun _ _ _ _ _ _ us ws h1 h2 => match us, ws, h1, h2 with | [_], [], _, _ => rfl)) pass0 (pa_cons (pv 0) pa_nil) pk_nil))
      (pss_cons (ps_expr (pe_cg (ok_check_cuts T) (g.mono (by decide : 3 ≤ 5)) (by rfl) T.m_check_cuts T.F_check_cuts.kp (OB.Fun.bd T.F_check_cuts (ps := ["cuts"]) (n := 1) (ks := []) (ix := [0]) (fun _ _ _ _ _ _ us ws h1 h2 => match us, ws, h1, h2 with | [_], [], _, _ => rfl)) pass0 (pa_cons (pv 1) pa_nil) pk_nil))
      (pss_one (ps_ret (pe_callB (toK (r := OB.rMinD) (K := K) rfl (c_minD rfl g.hu64)) (by rfl) T.n_min (by decide +kernel) (pa_cons (pe_lc (own := [("marks", 2)]) (tt := tYes) rfl sc_least_worst.nd (pi_seq (pe_cg (ok_all_cheapest T) (g.mono (by decide : 3 ≤ 5)) (by rfl) T.m_all_cheapest T.F_all_cheapest.kp (OB.Fun.bd T.F_all_cheapest (ps := ["work"]) (n := 1) (ks := []) (ix := [0]) (fun _ _ _ _ _ _ us ws h1 h2 => match us, ws, h1, h2 with | [_], [], _, _ => rfl)) pass0 (pa_cons (pv 0) pa_nil) pk_nil)) (blkOk_by (N := names_least_worst) (sc := defScope (top 31)) (own := [("marks", 2)]) (by decide +kernel)) (fun _ _ _ _ _ => (pg_name (i := 2) sc_least_worst.nd rfl (by first | exact Or.inl rfl | exact Or.inr rfl))) (fun _ _ _ _ _ => pts_nil) (fun _ _ _ _ _ => (pe_tup (pa_cons (pe_cg (ok_worst_at T) (g.mono (by decide : 2 ≤ 5)) (by rfl) T.m_worst_at T.F_worst_at.kp (OB.Fun.bd T.F_worst_at (ps := ["work", "marks", "cuts"]) (n := 3) (ks := []) (ix := [0, 1, 2]) (fun _ _ _ _ _ _ us ws h1 h2 => match us, ws, h1, h2 with | [_, _, _], [], _, _ => rfl)) pass0 (pa_cons (pv 0) (pa_cons (pv 2) (pa_cons (pv 1) pa_nil))) pk_nil) (pa_cons (pv 2) pa_nil))))) pa_nil)))))), ?_⟩
  refine g_start (σ := [some _, some _, none]) rfl ?_
  have S0 := S.add _ (dat_work hd)
  clear S
  repeat walk_at "ob"
  refine use_check_work S0 (S0.dp 0 rfl) wo fun H2 S2 => ?_
  clear S0
  repeat walk_at "ob"
  refine ⟨rfl, c, rfl, c0, c1, ?_⟩
  repeat walk_at "ob"
  refine g_lcE2 ?_
  repeat walk_at "ob"
  refine ⟨rfl, _, _, p, wk, rfl, S2, S2.dp 0 rfl, wo, fun r vs H3 mss all ml S3 => ?_⟩
  clear S2
  have vl := dps_length (S3.dps 0 rfl)
  rw [List.length_map] at vl
  repeat walk_at "ob"
  refine g_lcS (a := r) (xs := vs) true (fun j F' ds => F' = (r, .lst vs) :: F ∧ ds = (mss.take j).map (pairD (pw wk c))) S3 (fun Q' q => q) ⟨rfl, rfl⟩ (fun j F' ds H' hi S3 => SqL.of ((hi.1 ▸ S3).at 0 rfl)) (fun j F' ds hi => by
    rw [hi.2, List.length_map, List.length_take]; omega) ?_ ?_
  · intro j x hx Da H2 F2 vs2 ds QE QR hi2 S4 kE kR
    obtain ⟨rfl, rfl⟩ := hi2
    obtain ⟨ms, hms, hds⟩ := dps_map (S4.dps 1 rfl) hx
    obtain ⟨q, _, rfl, _⟩ := dp_at hds
    have S5 := S4.add _ (dat_ints hds)
    clear S3 S4
    have ok := all.ok ms (List.mem_of_getElem? hms)
    repeat walk_at "ob"
    refine ⟨rfl, ?_⟩
    repeat walk_at "ob"
    refine ⟨rfl, _, _, p, q, wk, ms, c, rfl, S5, S5.dp 3 rfl, S5.dp 0 rfl, wo, ok, c0, c1, fun H6 S6 => ?_⟩
    repeat walk_at "ob"
    refine g_newT (ds := [.int (pw wk c ms), intsD ms]) S6 (.cons (L2.Dp.int _) (.cons (S6.dp 0 rfl) .nil)) (pair_imm (f := pw wk c) ms) (Nat.le_of_ble_eq_true rfl) fun q9 H7 _ S8 => ?_
    refine kE _ (pairD (pw wk c) ms) _ _ ⟨rfl, ?_⟩ S8.drop2
    rw [List.take_add_one, hms, List.map_append]
    rfl
  · intro Da H4 F2 vs2 ds hD hi2 S4
    obtain ⟨rfl, rfl⟩ := hi2
    rw [vl, List.take_length] at S4
    repeat walk_at "ob"
    have ne : mss ≠ [] := fun z => by
      obtain ⟨ms, hms, _⟩ := all.dom [] MkOk.nil
      rw [z] at hms
      cases hms
    refine g_minP S4 (SqL.of (S4.at 0 rfl)) (S4.dps 0 rfl) ne fun m v hm hle S5 => ?_
    obtain ⟨q, _, rfl, _⟩ := dp_at (show L2.Dp K H4 v (.tuple [.int (pw wk c m), intsD m]) from S5.dp 0 rfl)
    exact k m q H4 (all.ok m hm) (all.least (fun ms M h1 h2 h3 h4 => wst_mono wo h1 h2 h3 h4 c0) ⟨⟨m, hm, rfl⟩, hle⟩) S5.less.less.drop2.drop2.drop2
def rg (w : Work) (c least : Int) : List Int → Int := fun ms => rgt w ms c least
def sp_regret_of (K : Frag) : Sp := fun vs H Q E => vs.length = 4 ∧ ∃ (F : List (Addr × HO)) (G : List Ft) (p q : Addr) (wk : Work) (ms : List Int) (c least : Int), vs = [.ref p, .ref q, .int c, .int least] ∧ Sy K F G H ∧ L2.Dp K H (.ref p) (workD wk) ∧ L2.Dp K H (.ref q) (intsD ms) ∧ WkOk wk ∧ MkOk wk ms ∧ 0 ≤ c ∧ c ≤ 100 ∧
  ∀ H', Sy K F G H' → Q (.int (rgt wk ms c least)) H'
abbrev names_regret_of : List Str := ["work", "marks", "cuts", "least"]
theorem sc_regret_of : FnScope names_regret_of ["work", "marks", "cuts", "least"] (defScope (top 33)) := ⟨rfl, rfl, rfl, by decide +kernel, rfl, by decide +kernel, by decide +kernel⟩
set_option maxHeartbeats 4000000 in
theorem ok_regret_of (T : Tx K mg) : FG P w K mg base CX0 3 T.a_regret_of T.d_regret_of ["work", "marks", "cuts", "least"] (sp_regret_of K) := by
  refine OB.Fun.fg T.F_regret_of sc_regret_of (fun vs H Q E h => h.1) (fun cdv A out s H vs Q E g h => ?_)
  obtain ⟨_, F, G, p, q, wk, ms, c, least, rfl, S, hd, hm, wo, ok, c0, c1, k⟩ := h
  refine ⟨_, (pss_one (ps_ret (pe_callB (c_max rfl) (by rfl) T.n_max (by decide +kernel) (pa_cons (pe_cg (ok_cost_of T) (g.mono (by decide : 1 ≤ 2)) (by rfl) T.m_cost_of T.F_cost_of.kp (OB.Fun.bd T.F_cost_of (ps := ["work", "marks"]) (n := 2) (ks := []) (ix := [0, 1]) (fun _ _ _ _ _ _ us ws h1 h2 => match us, ws, h1, h2 with | [_, _], [], _, _ => rfl)) pass0 (pa_cons (pv 0) (pa_cons (pv 1) pa_nil)) pk_nil) (pa_cons (pe_op op_sub (pe_cg (ok_worst_at T) (g.mono (by decide : 2 ≤ 2)) (by rfl) T.m_worst_at T.F_worst_at.kp (OB.Fun.bd T.F_worst_at (ps := ["work", "marks", "cuts"]) (n := 3) (ks := []) (ix := [0, 1, 2]) (fun _ _ _ _ _ _ us ws h1 h2 => match us, ws, h1, h2 with | [_, _, _], [], _, _ => rfl)) pass0 (pa_cons (pv 0) (pa_cons (pv 1) (pa_cons (pv 2) pa_nil))) pk_nil) (pv 3)) pa_nil))))), ?_⟩
  refine g_start (σ := [some _, some _, some _, some _]) rfl ?_
  have S0 := (S.add _ (dat_work hd)).add _ (dat_ints hm)
  clear S
  repeat walk_at "ob"
  refine ⟨rfl, _, _, p, q, wk, ms, rfl, S0, S0.dp 1 rfl, S0.dp 0 rfl, wo, ok, fun H2 S2 => ?_⟩
  repeat walk_at "ob"
  refine ⟨rfl, _, _, p, q, wk, ms, c, rfl, S2, S2.dp 1 rfl, S2.dp 0 rfl, wo, ok, c0, c1, fun H3 S3 => ?_⟩
  repeat walk_at "ob"
  exact k H3 S3.drop.drop
def sp_least_regret (K : Frag) : Sp := fun vs H Q E => vs.length = 2 ∧ ∃ (F : List (Addr × HO)) (G : List Ft) (p : Addr) (wk : Work) (c : Int), vs = [.ref p, .int c] ∧ Sy K F G H ∧ L2.Dp K H (.ref p) (workD wk) ∧ WkOk wk ∧ 0 ≤ c ∧ c ≤ 100 ∧
  ∀ least ms q H', MkOk wk ms → Least (MkOk wk) (pw wk c) least → Least (MkOk wk) (rg wk c least) (rg wk c least ms) → Sy K F (.dat [.ref q] [pairD (rg wk c least) ms] :: G) H' → Q (.ref q) H'
abbrev names_least_regret : List Str := ["work", "cuts", "least", "marks"]
theorem sc_least_regret : FnScope names_least_regret ["work", "cuts"] (defScope (top 34)) := ⟨rfl, rfl, rfl, by decide +kernel, rfl, by decide +kernel, by decide +kernel⟩
set_option maxHeartbeats 4000000 in
theorem ok_least_regret (T : Tx K mg) : FG P w K mg base CX0 7 T.a_least_regret T.d_least_regret ["work", "cuts"] (sp_least_regret K) := by
  refine OB.Fun.fg T.F_least_regret sc_least_regret (fun vs H Q E h => h.1) (fun cdv A out s H vs Q E g h => ?_)
  obtain ⟨_, F, G, p, wk, c, rfl, S, hd, wo, c0, c1, k⟩ := h
  refine ⟨_, (pss_cons (ps_set (i := 2) sc_least_regret.nd rfl (by first | exact Or.inl rfl | exact Or.inr rfl) (pe_ix (ix_UK (K := K) rfl) (pe_cg (ok_least_worst T) (g.mono (by decide : 6 ≤ 6)) (by rfl) T.m_least_worst T.F_least_worst.kp (OB.Fun.bd T.F_least_worst (ps := ["work", "cuts"]) (n := 2) (ks := []) (ix := [0, 1]) (fun _ _ _ _ _ _ us ws h1 h2 => match us, ws, h1, h2 with | [_, _], [], _, _ => rfl)) pass0 (pa_cons (pv 0) (pa_cons (pv 1) pa_nil)) pk_nil) pe_int (fun _ _ => rfl)))
      (pss_one (ps_ret (pe_callB (toK (r := OB.rMinD) (K := K) rfl (c_minD rfl g.hu64)) (by rfl) T.n_min (by decide +kernel) (pa_cons (pe_lc (own := [("marks", 3)]) (tt := tYes) rfl sc_least_regret.nd (pi_seq (pe_cg (ok_all_cheapest T) (g.mono (by decide : 3 ≤ 6)) (by rfl) T.m_all_cheapest T.F_all_cheapest.kp (OB.Fun.bd T.F_all_cheapest (ps := ["work"]) (n := 1) (ks := []) (ix := [0]) (fun _ _ _ _ _ _ us ws h1 h2 => match us, ws, h1, h2 with | [_], [], _, _ => rfl)) pass0 (pa_cons (pv 0) pa_nil) pk_nil)) (blkOk_by (N := names_least_regret) (sc := defScope (top 34)) (own := [("marks", 3)]) (by decide +kernel)) (fun _ _ _ _ _ => (pg_name (i := 3) sc_least_regret.nd rfl (by first | exact Or.inl rfl | exact Or.inr rfl))) (fun _ _ _ _ _ => pts_nil) (fun _ _ _ _ _ => (pe_tup (pa_cons (pe_cg (ok_regret_of T) (g.mono (by decide : 3 ≤ 6)) (by rfl) T.m_regret_of T.F_regret_of.kp (OB.Fun.bd T.F_regret_of (ps := ["work", "marks", "cuts", "least"]) (n := 4) (ks := []) (ix := [0, 1, 2, 3]) (fun _ _ _ _ _ _ us ws h1 h2 => match us, ws, h1, h2 with | [_, _, _, _], [], _, _ => rfl)) pass0 (pa_cons (pv 0) (pa_cons (pv 3) (pa_cons (pv 1) (pa_cons (pv 2) pa_nil)))) pk_nil) (pa_cons (pv 3) pa_nil))))) pa_nil))))), ?_⟩
  refine g_start (σ := [some _, some _, none, none]) rfl ?_
  have S0 := S.add _ (dat_work hd)
  clear S
  repeat walk_at "ob"
  refine ⟨rfl, _, _, p, wk, c, rfl, S0, S0.dp 0 rfl, wo, c0, c1, fun ms q H1 ok1 lst S1 => ?_⟩
  clear S0
  obtain ⟨mq, _, hst⟩ := sqt_pair (S1.dp 0 rfl)
  generalize pw wk c ms = least at lst hst
  repeat walk_at "ob"
  refine g_lcE2 ?_
  repeat walk_at "ob"
  refine ⟨rfl, _, _, p, wk, rfl, S1, S1.dp 1 rfl, wo, fun r vs H3 mss all ml S3 => ?_⟩
  clear S1 hst
  have vl := dps_length (S3.dps 0 rfl)
  rw [List.length_map] at vl
  repeat walk_at "ob"
  refine g_lcS (a := r) (xs := vs) true (fun j F' ds => F' = (r, .lst vs) :: F ∧ ds = (mss.take j).map (pairD (rg wk c least))) S3 (fun Q' q => q) ⟨rfl, rfl⟩ (fun j F' ds H' hi S3 => SqL.of ((hi.1 ▸ S3).at 0 rfl)) (fun j F' ds hi => by
    rw [hi.2, List.length_map, List.length_take]; omega) ?_ ?_
  · intro j x hx Da H2 F2 vs2 ds QE QR hi2 S4 kE kR
    obtain ⟨rfl, rfl⟩ := hi2
    obtain ⟨ms, hms, hds⟩ := dps_map (S4.dps 1 rfl) hx
    obtain ⟨q, _, rfl, _⟩ := dp_at hds
    have S5 := S4.add _ (dat_ints hds)
    clear S3 S4
    have ok := all.ok ms (List.mem_of_getElem? hms)
    repeat walk_at "ob"
    refine ⟨rfl, ?_⟩
    repeat walk_at "ob"
    refine ⟨rfl, _, _, p, q, wk, ms, c, least, rfl, S5, S5.dp 4 rfl, S5.dp 0 rfl, wo, ok, c0, c1, fun H6 S6 => ?_⟩
    repeat walk_at "ob"
    refine g_newT (ds := [.int (rg wk c least ms), intsD ms]) S6 (.cons (L2.Dp.int _) (.cons (S6.dp 0 rfl) .nil)) (pair_imm (f := rg wk c least) ms) (Nat.le_of_ble_eq_true rfl) fun q9 H7 _ S8 => ?_
    refine kE _ (pairD (rg wk c least) ms) _ _ ⟨rfl, ?_⟩ S8.drop2
    rw [List.take_add_one, hms, List.map_append]
    rfl
  · intro Da H4 F2 vs2 ds hD hi2 S4
    obtain ⟨rfl, rfl⟩ := hi2
    rw [vl, List.take_length] at S4
    repeat walk_at "ob"
    have ne : mss ≠ [] := fun z => by
      obtain ⟨ms, hms, _⟩ := all.dom [] MkOk.nil
      rw [z] at hms
      cases hms
    refine g_minP S4 (SqL.of (S4.at 0 rfl)) (S4.dps 0 rfl) ne fun m v hm hle S5 => ?_
    obtain ⟨q, _, rfl, _⟩ := dp_at (show L2.Dp K H4 v (.tuple [.int (rg wk c least m), intsD m]) from S5.dp 0 rfl)
    exact k least m q H4 (all.ok m hm) lst (all.least (fun ms M h1 h2 h3 h4 => rgt_mono wo h1 h2 h3 h4 c0) ⟨⟨m, hm, rfl⟩, hle⟩) S5.less.less.drop2.drop2.drop2.drop2
end
end LAW

set_option Elab.async false
set_option linter.all false
set_option maxRecDepth 100000
namespace LAW
open PySem PySem.Spec PyProof.Rows L2 PySem.W OB
local macro_rules | `(tactic| walk_at "obc") => `(tactic| first
  | exact Or.inl ⟨by omega, by omega⟩
  | exact Or.inr ⟨by omega, by omega⟩
  | exact cdiv_ok (by omega) (by omega)
  | (show (0 : Int) < _; omega)
  | exact ⟨by omega, by decide⟩
  | exact ⟨by decide, by decide⟩)
local macro_rules | `(tactic| walk_at "obat") => `(tactic| first
  | exact Sy.at (by assumption) 0 rfl | exact Sy.at (by assumption) 1 rfl | exact Sy.at (by assumption) 2 rfl | exact Sy.at (by assumption) 3 rfl
  | exact Sy.at (by assumption) 4 rfl | exact Sy.at (by assumption) 5 rfl | exact Sy.at (by assumption) 6 rfl | exact Sy.at (by assumption) _ (by assumption) | exact Sy.at (by assumption) (_ + 1) (by assumption) | exact Sy.at (by assumption) (_ + 2) (by assumption))
local macro_rules | `(tactic| walk_at "obt") => `(tactic| first
  | exact Sy.tqs (by assumption) 0 rfl | exact Sy.tqs (by assumption) 1 rfl | exact Sy.tqs (by assumption) 2 rfl | exact Sy.tqs (by assumption) 3 rfl | exact Sy.tqs (by assumption) 4 rfl | exact Sy.tqs (by assumption) 5 rfl
  | exact Sy.tqs (by assumption) 6 rfl | exact Sy.tqs (by assumption) 7 rfl | assumption)
local macro_rules | `(tactic| walk_at "obl") => `(tactic| first
  | exact SqL.of (by walk_at "obat")
  | exact Sy.sq (by assumption) 0 rfl | exact Sy.sq (by assumption) 1 rfl | exact Sy.sq (by assumption) 2 rfl | exact Sy.sq (by assumption) 3 rfl | exact Sy.sq (by assumption) _ (by assumption))
local macro_rules | `(tactic| walk_at "obd") => `(tactic| first
  | exact Dp.int _ | exact Dp.bl _ | exact Dp.str _ | exact Dp.non
  | exact Sy.dp (by assumption) 0 rfl | exact Sy.dp (by assumption) 1 rfl | exact Sy.dp (by assumption) 2 rfl | exact Sy.dp (by assumption) 3 rfl
  | exact Sy.dp (by assumption) 4 rfl | exact Sy.dp (by assumption) 5 rfl | exact Sy.dp (by assumption) 6 rfl | exact Sy.dp (by assumption) 7 rfl
  | exact Sy.dp (by assumption) 8 rfl | exact Sy.dp (by assumption) 9 rfl | exact Sy.dp (by assumption) _ (by assumption) | assumption)
local macro_rules | `(tactic| walk_at "obds") => `(tactic| first
  | exact DpAll.nil
  | (refine' DpAll.cons ?ob1 ?ob2; (case ob1 => walk_at "obd"); (case ob2 => walk_at "obds"))
  | exact Sy.dps (by assumption) 0 rfl | exact Sy.dps (by assumption) 1 rfl | exact Sy.dps (by assumption) 2 rfl | exact Sy.dps (by assumption) 3 rfl | assumption)
local macro_rules | `(tactic| walk_at "obsc") => `(tactic| first
  | exact ScL.nil
  | ((first | refine' ScL.int ?obz | refine' ScL.str ?obz | refine' ScL.bl ?obz | refine' ScL.non ?obz); (case obz => walk_at "obsc")))
local macro_rules | `(tactic| walk_at "ob1") => `(tactic| first
  | ((with_reducible refine' g_var ?obh ?_); (case obh => rfl))
  | with_reducible refine g_c ?_
  | with_reducible refine g_nx ?_
  | with_reducible refine g_rt ?_
  | with_reducible refine g_bk ?_
  | with_reducible refine g_ct ?_
  | with_reducible refine g_op ?_
  | with_reducible refine g_I0 ?_
  | with_reducible refine g_test ?_
  | with_reducible refine g_bl ?_
  | with_reducible refine g_blx ?_
  | with_reducible refine g_B ?_
  | with_reducible refine g_seq ?_
  | with_reducible refine g_asg ?_
  | with_reducible refine g_name ?_
  | with_reducible refine g_ifS ?_
  | with_reducible refine g_ret ?_
  | with_reducible refine g_cb ?_
  | with_reducible refine g_cons ?_
  | with_reducible refine g_nil ?_
  | with_reducible refine g_int ?_
  | with_reducible refine g_intB ?_
  | with_reducible refine g_abs ?_
  | with_reducible refine g_max ?_
  | with_reducible refine g_min ?_
  | with_reducible refine g_un ?_
  | with_reducible refine g_U ?_
  | with_reducible refine g_eqI ?_
  | with_reducible refine g_neI ?_
  | with_reducible refine g_eqS ?_
  | with_reducible refine g_neS ?_
  | with_reducible refine g_tt ?_
  | with_reducible refine g_ff ?_
  | with_reducible refine g_next ?_
  | with_reducible refine g_drop ?_
  | with_reducible refine g_if ?_
  | with_reducible refine g_andV ?_
  | with_reducible refine g_orV ?_
  | with_reducible refine g_notV ?_
  | with_reducible refine g_and ?_
  | with_reducible refine g_or ?_
  | with_reducible refine g_not ?_
  | with_reducible refine g_yes ?_
  | with_reducible refine g_chain ?_
  | with_reducible refine g_cg ?_
  | with_reducible refine g_mg ?_
  | with_reducible refine g_kg ?_
  | with_reducible refine g_pg ?_
  | ((with_reducible refine' g_call ?obh ?obj ?_); (case obh => rfl); (case obj => rfl))
  | with_reducible refine g_par ?_
  | with_reducible refine g_par2 ?_
  | with_reducible refine g_par3 ?_
  | with_reducible refine g_par33 ?_
  | with_reducible refine g_gnil ?_
  | with_reducible refine g_gcons ?_
  | with_reducible refine g_gsub ?_
  | with_reducible refine g_ipI ?_
  | with_reducible refine g_rAdd ?_
  | with_reducible refine g_rSub ?_
  | ((with_reducible refine' g_aug ?obh ?_); (case obh => rfl))
  | with_reducible refine g_tup ?_
  | with_reducible refine g_lst ?_
  | with_reducible refine g_bm ?_
  | with_reducible refine g_bm0 ?_
  | with_reducible refine g_sl ?_
  | with_reducible refine g_nopart ?_
  | with_reducible refine g_part ?_
  | with_reducible refine g_pint ?_
  | with_reducible refine isi_int ?_
  | with_reducible refine isi_intB ?_
  | ((with_reducible refine' g_I ?obh ?_); (case obh => walk_at "obc"))
  | ((with_reducible refine' g_tyl ?obh ?_); (case obh => walk_at "obl"))
  | ((with_reducible refine' g_lenL ?obh ?_); (case obh => walk_at "obl"))
  | with_reducible refine g_ne ?_
  | ((with_reducible refine' g_neN' ?obh ?_); (case obh => rfl))
  | with_reducible refine g_ntt ?_
  | with_reducible refine g_nff ?_
  | with_reducible refine g_star ?_
  | with_reducible refine g_att ?_
  | with_reducible refine g_sfld ?_
  | with_reducible refine g_faug ?_
  | with_reducible refine g_fld ?_
  | ((with_reducible refine' g_nF ?obh ?_); (case obh => omega))
  | ((with_reducible refine' g_nT ?obh ?_); (case obh => omega))
  | ((with_reducible refine' g_TD ?obh ?_); (case obh => omega))
  | ((with_reducible refine' g_FD ?obh ?_); (case obh => omega))
  | ((with_reducible refine' g_ixUL ?obh ?obi ?_); (case obh => walk_at "obl"); (case obi => exact atI_nn (by omega) (by rfl)))
  | ((with_reducible refine' g_setLS ?obs ?obh ?obi ?_); (case obs => assumption); (case obh => assumption); (case obi => rfl); intro _ _ _)
  | ((with_reducible refine' g_newT ?obs ?obh ?obi ?obj ?_); (case obs => assumption); (case obh => walk_at "obds"); (case obi => rfl); (case obj => exact Nat.le_of_ble_eq_true rfl); intro _ _ _ _)
  | ((with_reducible refine' g_newL ?obs ?obj ?_); (case obs => assumption); (case obj => exact Nat.le_of_ble_eq_true rfl); intro _ _ _ _)
  | ((with_reducible refine' isi_tup ?obh ?_); (case obh => walk_at "obt"))
  | ((with_reducible refine' g_lenT ?obh ?_); (case obh => walk_at "obt"))
  | ((with_reducible refine' g_unpT ?obh ?obi ?_); (case obh => walk_at "obt"); (case obi => rfl))
  | ((with_reducible refine' g_divmod ?obs ?obh ?_); (case obs => assumption); (case obh => exact cdivp_ok (by omega) (by omega) (by omega)); intro _ _ _ _)
  | ((with_reducible refine' g_unpD ?obh ?obi ?obj ?_); (case obh => walk_at "obd"); (case obi => walk_at "obsc"); (case obj => rfl))
  | with_reducible refine g_att ?_)
local macro_rules | `(tactic| walk_at "ob") => `(tactic| first
  | walk_at "ob1"
  | refine use_is_integer ?_
  | refine use_is_within ?_
  | with_reducible refine g_lstRg ?_
  | with_reducible refine g_rg1 ?_
  | with_reducible refine g_rg2 ?_
  | with_reducible refine g_tTru ?_
  | ((with_reducible refine' g_truL ?obh ?_); (case obh => walk_at "obl"))
  | ((with_reducible refine' g_ixUT ?obh ?obi ?_); (case obh => walk_at "obt"); (case obi => rfl))
  | with_reducible refine g_forZ ?_
  | with_reducible refine g_forR2 ?_
  | with_reducible refine g_forE ?_
  | with_reducible refine g_lcZ ?_)
section
variable {P : Program} {w : World} {K : Frag} {mg : Str → Option Value} {base : Heap}
/-- lists of lengths -/
def FO (objs : List (Addr × List Int)) : List (Addr × HO) := objs.map fun o => (o.1, .lst (o.2.map V.int))
theorem FO_at {objs : List (Addr × List Int)} {F : List (Addr × HO)} {o : Addr × List Int} (h : o ∈ objs) : ∃ i : Nat, (FO objs ++ F)[i]? = some (o.1, HO.lst (o.2.map V.int)) := by
  obtain ⟨i, hi⟩ := List.getElem?_of_mem h
  refine ⟨i, ?_⟩
  have il := (List.getElem?_eq_some_iff.mp hi).1
  unfold FO
  rw [List.getElem?_append_left (by rw [List.length_map]; exact il), List.getElem?_map, hi]
  rfl
structure Lsts (w : Work) (mss : List (List Int)) (objs : List (Addr × List Int)) (vs : List V) : Prop where
  v : vs = objs.reverse.map fun o => V.ref o.1
  l : objs.reverse.map (·.2) = mss.map w.len
theorem Lsts.at {w : Work} {mss : List (List Int)} {objs : List (Addr × List Int)} {vs : List V} {j : Nat} {x : V} (h : Lsts w mss objs vs) (hx : vs[j]? = some x) : ∃ r ms, x = .ref r ∧ mss[j]? = some ms ∧ (r, w.len ms) ∈ objs := by
  rw [h.v, List.getElem?_map] at hx
  obtain ⟨o, ho, rfl⟩ := Option.map_eq_some_iff.mp hx
  have e := congrArg (·[j]?) h.l
  simp only [List.getElem?_map, ho] at e
  obtain ⟨ms, hms, e2⟩ := Option.map_eq_some_iff.mp e.symm
  refine ⟨o.1, ms, rfl, hms, ?_⟩
  rw [e2]
  exact List.mem_reverse.mp (List.mem_of_getElem? ho)
theorem Lsts.len {w : Work} {mss : List (List Int)} {objs : List (Addr × List Int)} {vs : List V} (h : Lsts w mss objs vs) : vs.length = mss.length := by
  have e := congrArg List.length h.l
  rw [List.length_map, List.length_map] at e
  rw [h.v, List.length_map, e]
def sp_least_times (K : Frag) : Sp := fun vs H Q E => vs.length = 2 ∧ ∃ (F : List (Addr × HO)) (G : List Ft) (p : Addr) (wk : Work) (c : Int), vs = [.ref p, .int c] ∧ Sy K F G H ∧ L2.Dp K H (.ref p) (workD wk) ∧ WkOk wk ∧ 0 ≤ c ∧ c ≤ 100 ∧
  ∀ ts q H', (ts.length : Int) = c + 1 → (∀ (i : Nat) (t : Int), ts[i]? = some t → Least (MkOk wk) (pw wk i) t) → Sy K F (.dat [.ref q] [intsD ts] :: G) H' → Q (.ref q) H'
end
end LAW

set_option Elab.async false
set_option linter.all false
set_option maxRecDepth 100000
namespace LAW
open PySem PySem.Spec PyProof.Rows L2 PySem.W OB
local macro_rules | `(tactic| walk_at "obc") => `(tactic| first
  | exact Or.inl ⟨by omega, by omega⟩
  | exact Or.inr ⟨by omega, by omega⟩
  | exact cdiv_ok (by omega) (by omega)
  | (show (0 : Int) < _; omega)
  | exact ⟨by omega, by decide⟩
  | exact ⟨by decide, by decide⟩)
local macro_rules | `(tactic| walk_at "obat") => `(tactic| first
  | exact Sy.at (by assumption) 0 rfl | exact Sy.at (by assumption) 1 rfl | exact Sy.at (by assumption) 2 rfl | exact Sy.at (by assumption) 3 rfl
  | exact Sy.at (by assumption) 4 rfl | exact Sy.at (by assumption) 5 rfl | exact Sy.at (by assumption) 6 rfl | exact Sy.at (by assumption) _ (by assumption) | exact Sy.at (by assumption) (_ + 1) (by assumption) | exact Sy.at (by assumption) (_ + 2) (by assumption))
local macro_rules | `(tactic| walk_at "obt") => `(tactic| first
  | exact Sy.tqs (by assumption) 0 rfl | exact Sy.tqs (by assumption) 1 rfl | exact Sy.tqs (by assumption) 2 rfl | exact Sy.tqs (by assumption) 3 rfl | exact Sy.tqs (by assumption) 4 rfl | exact Sy.tqs (by assumption) 5 rfl
  | exact Sy.tqs (by assumption) 6 rfl | exact Sy.tqs (by assumption) 7 rfl | assumption)
local macro_rules | `(tactic| walk_at "obl") => `(tactic| first
  | exact SqL.of (by walk_at "obat")
  | exact Sy.sq (by assumption) 0 rfl | exact Sy.sq (by assumption) 1 rfl | exact Sy.sq (by assumption) 2 rfl | exact Sy.sq (by assumption) 3 rfl | exact Sy.sq (by assumption) _ (by assumption))
local macro_rules | `(tactic| walk_at "obd") => `(tactic| first
  | exact Dp.int _ | exact Dp.bl _ | exact Dp.str _ | exact Dp.non
  | exact Sy.dp (by assumption) 0 rfl | exact Sy.dp (by assumption) 1 rfl | exact Sy.dp (by assumption) 2 rfl | exact Sy.dp (by assumption) 3 rfl
  | exact Sy.dp (by assumption) 4 rfl | exact Sy.dp (by assumption) 5 rfl | exact Sy.dp (by assumption) 6 rfl | exact Sy.dp (by assumption) 7 rfl
  | exact Sy.dp (by assumption) 8 rfl | exact Sy.dp (by assumption) 9 rfl | exact Sy.dp (by assumption) _ (by assumption) | assumption)
local macro_rules | `(tactic| walk_at "obds") => `(tactic| first
  | exact DpAll.nil
  | (refine' DpAll.cons ?ob1 ?ob2; (case ob1 => walk_at "obd"); (case ob2 => walk_at "obds"))
  | exact Sy.dps (by assumption) 0 rfl | exact Sy.dps (by assumption) 1 rfl | exact Sy.dps (by assumption) 2 rfl | exact Sy.dps (by assumption) 3 rfl | assumption)
local macro_rules | `(tactic| walk_at "obsc") => `(tactic| first
  | exact ScL.nil
  | ((first | refine' ScL.int ?obz | refine' ScL.str ?obz | refine' ScL.bl ?obz | refine' ScL.non ?obz); (case obz => walk_at "obsc")))
local macro_rules | `(tactic| walk_at "ob1") => `(tactic| first
  | ((with_reducible refine' g_var ?obh ?_); (case obh => rfl))
  | with_reducible refine g_c ?_
  | with_reducible refine g_nx ?_
  | with_reducible refine g_rt ?_
  | with_reducible refine g_bk ?_
  | with_reducible refine g_ct ?_
  | with_reducible refine g_op ?_
  | with_reducible refine g_I0 ?_
  | with_reducible refine g_test ?_
  | with_reducible refine g_bl ?_
  | with_reducible refine g_blx ?_
  | with_reducible refine g_B ?_
  | with_reducible refine g_seq ?_
  | with_reducible refine g_asg ?_
  | with_reducible refine g_name ?_
  | with_reducible refine g_ifS ?_
  | with_reducible refine g_ret ?_
  | with_reducible refine g_cb ?_
  | with_reducible refine g_cons ?_
  | with_reducible refine g_nil ?_
  | with_reducible refine g_int ?_
  | with_reducible refine g_intB ?_
  | with_reducible refine g_abs ?_
  | with_reducible refine g_max ?_
  | with_reducible refine g_min ?_
  | with_reducible refine g_un ?_
  | with_reducible refine g_U ?_
  | with_reducible refine g_eqI ?_
  | with_reducible refine g_neI ?_
  | with_reducible refine g_eqS ?_
  | with_reducible refine g_neS ?_
  | with_reducible refine g_tt ?_
  | with_reducible refine g_ff ?_
  | with_reducible refine g_next ?_
  | with_reducible refine g_drop ?_
  | with_reducible refine g_if ?_
  | with_reducible refine g_andV ?_
  | with_reducible refine g_orV ?_
  | with_reducible refine g_notV ?_
  | with_reducible refine g_and ?_
  | with_reducible refine g_or ?_
  | with_reducible refine g_not ?_
  | with_reducible refine g_yes ?_
  | with_reducible refine g_chain ?_
  | with_reducible refine g_cg ?_
  | with_reducible refine g_mg ?_
  | with_reducible refine g_kg ?_
  | with_reducible refine g_pg ?_
  | ((with_reducible refine' g_call ?obh ?obj ?_); (case obh => rfl); (case obj => rfl))
  | with_reducible refine g_par ?_
  | with_reducible refine g_par2 ?_
  | with_reducible refine g_par3 ?_
  | with_reducible refine g_par33 ?_
  | with_reducible refine g_gnil ?_
  | with_reducible refine g_gcons ?_
  | with_reducible refine g_gsub ?_
  | with_reducible refine g_ipI ?_
  | with_reducible refine g_rAdd ?_
  | with_reducible refine g_rSub ?_
  | ((with_reducible refine' g_aug ?obh ?_); (case obh => rfl))
  | with_reducible refine g_tup ?_
  | with_reducible refine g_lst ?_
  | with_reducible refine g_bm ?_
  | with_reducible refine g_bm0 ?_
  | with_reducible refine g_sl ?_
  | with_reducible refine g_nopart ?_
  | with_reducible refine g_part ?_
  | with_reducible refine g_pint ?_
  | with_reducible refine isi_int ?_
  | with_reducible refine isi_intB ?_
  | ((with_reducible refine' g_I ?obh ?_); (case obh => walk_at "obc"))
  | ((with_reducible refine' g_tyl ?obh ?_); (case obh => walk_at "obl"))
  | ((with_reducible refine' g_lenL ?obh ?_); (case obh => walk_at "obl"))
  | with_reducible refine g_ne ?_
  | ((with_reducible refine' g_neN' ?obh ?_); (case obh => rfl))
  | with_reducible refine g_ntt ?_
  | with_reducible refine g_nff ?_
  | with_reducible refine g_star ?_
  | with_reducible refine g_att ?_
  | with_reducible refine g_sfld ?_
  | with_reducible refine g_faug ?_
  | with_reducible refine g_fld ?_
  | ((with_reducible refine' g_nF ?obh ?_); (case obh => omega))
  | ((with_reducible refine' g_nT ?obh ?_); (case obh => omega))
  | ((with_reducible refine' g_TD ?obh ?_); (case obh => omega))
  | ((with_reducible refine' g_FD ?obh ?_); (case obh => omega))
  | ((with_reducible refine' g_ixUL ?obh ?obi ?_); (case obh => walk_at "obl"); (case obi => exact atI_nn (by omega) (by rfl)))
  | ((with_reducible refine' g_setLS ?obs ?obh ?obi ?_); (case obs => assumption); (case obh => assumption); (case obi => rfl); intro _ _ _)
  | ((with_reducible refine' g_newT ?obs ?obh ?obi ?obj ?_); (case obs => assumption); (case obh => walk_at "obds"); (case obi => rfl); (case obj => exact Nat.le_of_ble_eq_true rfl); intro _ _ _ _)
  | ((with_reducible refine' g_newL ?obs ?obj ?_); (case obs => assumption); (case obj => exact Nat.le_of_ble_eq_true rfl); intro _ _ _ _)
  | ((with_reducible refine' isi_tup ?obh ?_); (case obh => walk_at "obt"))
  | ((with_reducible refine' g_lenT ?obh ?_); (case obh => walk_at "obt"))
  | ((with_reducible refine' g_unpT ?obh ?obi ?_); (case obh => walk_at "obt"); (case obi => rfl))
  | ((with_reducible refine' g_divmod ?obs ?obh ?_); (case obs => assumption); (case obh => exact cdivp_ok (by omega) (by omega) (by omega)); intro _ _ _ _)
  | ((with_reducible refine' g_unpD ?obh ?obi ?obj ?_); (case obh => walk_at "obd"); (case obi => walk_at "obsc"); (case obj => rfl))
  | with_reducible refine g_att ?_)
local macro_rules | `(tactic| walk_at "ob") => `(tactic| first
  | walk_at "ob1"
  | refine use_is_integer ?_
  | refine use_is_within ?_
  | with_reducible refine g_lstRg ?_
  | with_reducible refine g_rg1 ?_
  | with_reducible refine g_rg2 ?_
  | with_reducible refine g_tTru ?_
  | ((with_reducible refine' g_truL ?obh ?_); (case obh => walk_at "obl"))
  | ((with_reducible refine' g_ixUT ?obh ?obi ?_); (case obh => walk_at "obt"); (case obi => rfl))
  | with_reducible refine g_forZ ?_
  | with_reducible refine g_forR2 ?_
  | with_reducible refine g_forE ?_
  | with_reducible refine g_lcZ ?_)
section
variable {P : Program} {w : World} {K : Frag} {mg : Str → Option Value} {base : Heap}
theorem least_all {w : Work} {mss : List (List Int)} (h : ∀ ms ∈ mss, MkOk w ms) (h2 : ∀ ms, MkOk w ms → ms ∈ mss) {f : List Int → Int} {v : Int} (l : Least (· ∈ mss) f v) : Least (MkOk w) f v := by
  obtain ⟨⟨x, hx, ex⟩, lx⟩ := l
  exact ⟨⟨x, h x hx, ex⟩, fun M hM => lx M (h2 M hM)⟩
def sp_law_cost (K : Frag) : Sp := sp_cost_of K
abbrev names_law_cost : List Str := ["work", "marks", "part"]
theorem sc_law_cost : FnScope names_law_cost ["work", "marks"] (defScope (top 45)) := ⟨rfl, rfl, rfl, by decide +kernel, rfl, by decide +kernel, by decide +kernel⟩
set_option maxHeartbeats 4000000 in
theorem ok_law_cost (T : Tx K mg) : FG P w K mg base CX0 1 T.a_law_cost T.d_law_cost ["work", "marks"] (sp_law_cost K) := by
  refine OB.Fun.fg T.F_law_cost sc_law_cost (fun vs H Q E h => h.1) (fun cdv A out s H vs Q E g h => ?_)
  obtain ⟨_, F, G, p, q, wk, ms, rfl, S, hd, hm, wo, ok, k⟩ := h
  refine ⟨_, (pss_one (ps_ret (pe_callTy c_int (by rfl) T.n_int (by decide +kernel) (pa_cons (pe_callB (toK (r := rSum) (K := K) rfl (cr_sum rfl)) (by rfl) T.n_sum (by decide +kernel) (pa_cons (pe_lc (own := [("part", 2)]) (tt := tYes) rfl sc_law_cost.nd (pi_seq (pv 1)) (blkOk_by (N := names_law_cost) (sc := defScope (top 45)) (own := [("part", 2)]) (by decide +kernel)) (fun _ _ _ _ _ => (pg_name (i := 2) sc_law_cost.nd rfl (by first | exact Or.inl rfl | exact Or.inr rfl))) (fun _ _ _ _ _ => pts_nil) (fun _ _ _ _ _ => (pe_ix (ix_UK (K := K) rfl) (pe_ix (ix_UK (K := K) rfl) (pv 0) pe_int (fun _ _ => rfl)) (pv 2) (fun _ _ => rfl)))) pa_nil)) pa_nil)))), ?_⟩
  refine g_start (σ := [some _, some _, none]) rfl ?_
  obtain ⟨lp, cp, S1⟩ := Sy.work (S.add _ (dat_ints hm)) hd
  have S2 := S1.add (.tq q (ms.map V.int)) (sqt_ints (S1.dp 3 rfl))
  have ml := ok.len
  have l1 := wo.l1
  have cl := wo.cl
  clear S S1
  repeat walk_at "ob"
  refine g_lcS (a := q) (xs := ms.map V.int) false (fun j F' ds => F' = F ∧ ds = ((ms.take j).map fun m => wk.c.getD m.toNat 0).map PyData.int) S2 (fun Q' q => by walk_at "ob"; exact q) ⟨rfl, rfl⟩ (fun j F' ds H' hi S3 => S3.tqs 0 rfl) (fun j F' ds hi => by
    rw [hi.2, List.length_map, List.length_map, List.length_take]; omega) ?_ ?_
  · intro j x hx Da H2 F2 vs2 ds QE QR hi2 S3 kE kR
    obtain ⟨rfl, rfl⟩ := hi2
    rw [List.getElem?_map] at hx
    obtain ⟨m, hm, rfl⟩ := Option.map_eq_some_iff.mp hx
    have hmv := ok.mv m (List.mem_of_getElem? hm)
    have hce : wk.c[m.toNat]? = some (wk.c.getD m.toNat 0) := by
      rw [List.getD_eq_getElem?_getD, List.getElem?_eq_getElem (by omega)]
      rfl
    repeat walk_at "ob"
    refine ⟨rfl, ?_⟩
    repeat walk_at "ob"
    refine g_ixUT (v := .int (wk.c.getD m.toNat 0)) (sqt_ints (S3.dp 4 rfl)) (atI_nn (by omega) (by rw [List.getElem?_map, hce]; rfl)) ?_
    refine kE _ (.int (wk.c.getD m.toNat 0)) _ _ ⟨rfl, ?_⟩ (S3.fact (dps_one (L2.Dp.int _)) rfl)
    rw [List.take_add_one, hm, List.map_append, List.map_append]
    rfl
  · intro Da H2 F2 vs2 ds hD hi2 S3
    obtain ⟨rfl, rfl⟩ := hi2
    have hv := dps_intsV (S3.dps 0 rfl)
    subst hv
    repeat walk_at "ob"
    refine g_sum (SqL.of (S3.at 0 rfl)) ?_
    have e : (((ms.take (ms.map V.int).length).map fun m => wk.c.getD m.toNat 0)).sum = costM wk.c ms := by
      rw [List.length_map, List.take_length]
      rfl
    rw [e]
    repeat walk_at "ob"
    exact k H2 S3.less.drop.drop.drop.drop.drop.drop
def sp_law_least_times (K : Frag) : Sp := fun vs H Q E => vs.length = 2 ∧ ∃ (F : List (Addr × HO)) (G : List Ft) (p : Addr) (wk : Work) (c : Int), vs = [.ref p, .int c] ∧ Sy K F G H ∧ L2.Dp K H (.ref p) (workD wk) ∧ WkOk wk ∧ 0 ≤ c ∧ c ≤ 100 ∧
  ∀ (ts : List Int) (r : Addr) (H' : Hp), (ts.length : Int) = c + 1 → (∀ (i : Nat) (t : Int), ts[i]? = some t → Least (MkOk wk) (pw wk i) t) → Sy K ((r, .lst (ts.map V.int)) :: F) G H' → Q (.ref r) H'
abbrev names_law_least_times : List Str := ["work", "cuts", "marks", "number", "some"]
theorem sc_law_least_times : FnScope names_law_least_times ["work", "cuts"] (defScope (top 46)) := ⟨rfl, rfl, rfl, by decide +kernel, rfl, by decide +kernel, by decide +kernel⟩
set_option maxHeartbeats 4000000 in
theorem ok_law_least_times (T : Tx K mg) : FG P w K mg base CX0 3 T.a_law_least_times T.d_law_least_times ["work", "cuts"] (sp_law_least_times K) := by
  refine OB.Fun.fg T.F_law_least_times sc_law_least_times (fun vs H Q E h => h.1) (fun cdv A out s H vs Q E g h => ?_)
  obtain ⟨_, F, G, p, wk, c, rfl, S, hd, wo, c0, c1, k⟩ := h
  refine ⟨_, (pss_cons (ps_set (i := 2) sc_law_least_times.nd rfl (by first | exact Or.inl rfl | exact Or.inr rfl) (pe_cg (ok_law_all_marks T) (g.mono (by decide : 1 ≤ 2)) (by rfl) T.m_law_all_marks T.F_law_all_marks.kp (OB.Fun.bd T.F_law_all_marks (ps := ["work"]) (n := 1) (ks := []) (ix := [0]) (fun _ _ _ _ _ _ us ws h1 h2 => match us, ws, h1, h2 with | [_], [], _, _ => rfl)) pass0 (pa_cons (pv 0) pa_nil) pk_nil))
      (pss_one (ps_ret (pe_lc (own := [("number", 3)]) (tt := tYes) rfl sc_law_least_times.nd (pi_range1 rfl T.n_range (pa_cons (pe_op op_add (pv 1) pe_int) pa_nil)) (blkOk_by (N := names_law_least_times) (sc := defScope (top 46)) (own := [("number", 3)]) (by decide +kernel)) (fun _ _ _ _ _ => (pg_name (i := 3) sc_law_least_times.nd rfl (by first | exact Or.inl rfl | exact Or.inr rfl))) (fun _ _ _ _ _ => pts_nil) (fun _ _ _ _ _ => (pe_callTy c_int (by rfl) T.n_int (by decide +kernel) (pa_cons (pe_callB (toK (r := OB.rMinD) (K := K) rfl (c_minD rfl g.hu64)) (by rfl) T.n_min (by decide +kernel) (pa_cons (pe_lc (own := [("some", 4)]) (tt := tYes) rfl sc_law_least_times.nd (pi_seqK (K := K) rfl (pv 2)) (blkOk_by (N := names_law_least_times) (own := [("some", 4)]) (by show blkC _ (relS _ (defScope (top 46))) _ _ = true; decide +kernel)) (fun _ _ _ _ _ => (pg_name (i := 4) sc_law_least_times.nd rfl (by first | exact Or.inl rfl | exact Or.inr rfl))) (fun _ _ _ _ _ => pts_nil) (fun _ _ _ _ _ => (pe_cg (ok_law_worst_ticks T) (g.mono (by decide : 2 ≤ 2)) (by rfl) T.m_law_worst_ticks T.F_law_worst_ticks.kp (OB.Fun.bd T.F_law_worst_ticks (ps := ["work", "marks", "cuts"]) (n := 3) (ks := []) (ix := [0, 1, 2]) (fun _ _ _ _ _ _ us ws h1 h2 => match us, ws, h1, h2 with | [_, _, _], [], _, _ => rfl)) pass0 (pa_cons (pv 0) (pa_cons (pv 4) (pa_cons (pv 3) pa_nil))) pk_nil))) pa_nil)) pa_nil))))))), ?_⟩
  refine g_start (σ := [some _, some _, none, none, none]) rfl ?_
  have S0 := S.add _ (dat_work hd)
  clear S
  repeat walk_at "ob"
  refine ⟨rfl, _, _, p, wk, rfl, S0, S0.dp 0 rfl, wo, fun r vs H2 mss hm hall m0 m8 S3 => ?_⟩
  clear S0
  have vl := dps_length (S3.dps 0 rfl)
  rw [List.length_map] at vl
  repeat walk_at "ob"
  refine g_lcR (K := K) ?_
  repeat walk_at "ob"
  refine g_rgJ (by omega) (by omega) ?_
  refine rglc_of (fun j F' ds => ∃ ts : List Int, F' = (r, .lst vs) :: F ∧ ds = ts.map PyData.int ∧ ts.length = j ∧ j ≤ 101 ∧ ∀ (i : Nat) (t : Int), ts[i]? = some t → Least (MkOk wk) (pw wk i) t) S3 ⟨[], rfl, rfl, rfl, by decide, fun i t h => by cases h⟩ (fun j F' ds ⟨ts, _, e, e2, e3, _⟩ => by rw [e, List.length_map]; omega) ?_ ?_
  · rintro j hj Db H5 F5 vs5 ds QE QR ⟨ts, rfl, rfl, tl, j1, hts⟩ S5 kE kR
    clear S3
    repeat walk_at "ob"
    refine ⟨rfl, ?_⟩
    repeat walk_at "ob"
    refine g_lcS (a := r) (xs := vs) true (fun i F' ds => F' = (Db, .lst vs5) :: (r, .lst vs) :: F ∧ ds = ((mss.take i).map (pw wk j)).map PyData.int) S5 (fun Q' q => by walk_at "ob"; exact q) ⟨rfl, rfl⟩ (fun j F' ds H' hi S3 => SqL.of ((hi.1 ▸ S3).at 1 rfl)) (fun j F' ds hi => by
      rw [hi.2, List.length_map, List.length_map, List.length_take]; omega) ?_ ?_
    · intro i x hx Dc H6 F6 vs6 ds QE QR hi2 S6 kE kR
      obtain ⟨rfl, rfl⟩ := hi2
      obtain ⟨ms, hms, hds⟩ := dps_map (S6.dps 2 rfl) hx
      obtain ⟨q, _, rfl, _⟩ := dp_at hds
      have ok := (hm ms (List.mem_of_getElem? hms)).1
      clear S5
      repeat walk_at "ob"
      refine ⟨rfl, ?_⟩
      repeat walk_at "ob"
      refine ⟨rfl, _, _, p, q, wk, ms, 0 + (j : Int), rfl, S6, S6.dp 3 rfl, hds, wo, ok, by omega, by omega, fun H7 S7 => ?_⟩
      refine kE _ (.int (pw wk j ms)) _ _ ⟨rfl, ?_⟩ ?_
      · rw [List.take_add_one, hms, List.map_append, List.map_append]
        rfl
      · rw [Int.zero_add]
        exact S7.fact (dps_one (L2.Dp.int _)) rfl
    · intro Dc H6 F6 vs6 ds hD6 hi2 S6
      obtain ⟨rfl, rfl⟩ := hi2
      rw [vl, List.take_length] at S6
      have hv := dps_intsV (S6.dps 0 rfl)
      subst hv
      clear S5
      repeat walk_at "ob"
      refine g_minI (SqL.of (S6.at 0 rfl)) (by rw [List.length_map]; exact m0) fun m hm2 hle => ?_
      obtain ⟨M, hM, rfl⟩ := List.mem_map.mp hm2
      have lst : Least (MkOk wk) (pw wk j) (pw wk j M) := least_all (fun ms h => (hm ms h).1) hall ⟨⟨M, hM, rfl⟩, fun x hx => hle _ (List.mem_map.mpr ⟨x, hx, rfl⟩)⟩
      repeat walk_at "ob"
      refine kE _ (.int (pw wk j M)) _ _ ⟨ts ++ [pw wk j M], rfl, by rw [List.map_append]; rfl, by rw [List.length_append, List.length_singleton, tl], by omega, fun i t hi => ?_⟩ ((S6.less.drop).fact (dps_one (L2.Dp.int _)) rfl)
      by_cases ci : i < ts.length
      · rw [List.getElem?_append_left ci] at hi
        exact hts i t hi
      · have l2 := (List.getElem?_eq_some_iff.mp hi).1
        rw [List.length_append, List.length_singleton] at l2
        have : i = j := by omega
        subst this
        rw [List.getElem?_append_right (by omega), tl, Nat.sub_self] at hi
        cases hi
        exact lst
  · rintro Db H5 F5 vs5 ds hD5 ⟨ts, rfl, rfl, tl, j1, hts⟩ S5
    have hv := dps_intsV (S5.dps 0 rfl)
    subst hv
    clear S3
    repeat walk_at "ob"
    exact k ts Db H5 (by omega) hts S5.swap.less.drop.drop.drop
/-- the least times up to c -/
structure TmOk (w : Work) (c : Int) (ts : List Int) : Prop where
  len : (ts.length : Int) = c + 1
  lst : ∀ (i : Nat) (t : Int), ts[i]? = some t → Least (MkOk w) (pw w i) t
theorem TmOk.one {w : Work} {c : Int} {ts us : List Int} (h1 : TmOk w c ts) (h2 : TmOk w c us) : ts = us := by
  have e1 := h1.len
  have e2 := h2.len
  refine List.ext_getElem? fun i => ?_
  by_cases ci : i < ts.length
  · have q1 : ts[i]? = some ts[i] := List.getElem?_eq_getElem ci
    have q2 : us[i]? = some us[i] := List.getElem?_eq_getElem (by omega)
    rw [q1, q2, (h1.lst i _ q1).one (h2.lst i _ q2)]
  · rw [List.getElem?_eq_none (by omega), List.getElem?_eq_none (by omega)]
/-- the greatest of all differences is the regret -/
theorem rgt_max {w : Work} (o : WkOk w) {M ts : List Int} (hM : MkOk w M) {c least m : Int} (c0 : 0 ≤ c) (tm : TmOk w c ts) (hl : Least (MkOk w) (pw w c) least)
    (h1 : ∃ (i : Nat) (t : Int), ts[i]? = some t ∧ m = wst w M i - t) (h2 : ∀ (i : Nat) (t : Int), ts[i]? = some t → wst w M i - t ≤ m) : m = rgt w M c least := by
  obtain ⟨i, t, ht, rfl⟩ := h1
  have tl := tm.len
  have il := (List.getElem?_eq_some_iff.mp ht).1
  have up : wst w M i - t ≤ rgt w M c least := rgt_mid o hM (by omega) (by omega) (tm.lst i t ht) hl
  have q0 : ts[0]? = some ts[0] := List.getElem?_eq_getElem (by omega)
  have qc : ts[c.toNat]? = some ts[c.toNat] := List.getElem?_eq_getElem (by omega)
  have a0 := h2 0 _ q0
  have ac := h2 c.toNat _ qc
  have e0 : ts[0] = w.l.sum := (tm.lst 0 _ q0).one (least_zero o)
  have ec : ts[c.toNat] = least := by
    have q := tm.lst c.toNat _ qc
    rw [Int.toNat_of_nonneg c0] at q
    exact q.one hl
  rw [e0] at a0
  rw [ec, Int.toNat_of_nonneg c0] at ac
  have z := wst_eq o hM ((0 : Nat) : Int)
  rw [show ((0 : Nat) : Int) = 0 from rfl, Int.zero_mul] at z
  rw [show ((0 : Nat) : Int) = 0 from rfl] at a0
  have lo : rgt w M c least ≤ wst w M i - t := by
    unfold rgt
    split <;> omega
  omega
def sp_law_regret_by (K : Frag) : Sp := fun vs H Q E => vs.length = 3 ∧ ∃ (F : List (Addr × HO)) (G : List Ft) (i : Nat) (p q r : Addr) (wk : Work) (ms ts : List Int) (c least : Int), vs = [.ref p, .ref q, .ref r] ∧ Sy K F G H ∧ F[i]? = some (r, .lst (ts.map V.int)) ∧ L2.Dp K H (.ref p) (workD wk) ∧ L2.Dp K H (.ref q) (intsD ms) ∧ WkOk wk ∧ MkOk wk ms ∧ 0 ≤ c ∧ c ≤ 100 ∧ TmOk wk c ts ∧ Least (MkOk wk) (pw wk c) least ∧
  ∀ H', Sy K F G H' → Q (.int (rgt wk ms c least)) H'
abbrev names_law_regret_by : List Str := ["work", "marks", "times", "number", "least"]
theorem sc_law_regret_by : FnScope names_law_regret_by ["work", "marks", "times"] (defScope (top 47)) := ⟨rfl, rfl, rfl, by decide +kernel, rfl, by decide +kernel, by decide +kernel⟩
set_option maxHeartbeats 4000000 in
theorem ok_law_regret_by (T : Tx K mg) : FG P w K mg base CX0 3 T.a_law_regret_by T.d_law_regret_by ["work", "marks", "times"] (sp_law_regret_by K) := by
  refine OB.Fun.fg T.F_law_regret_by sc_law_regret_by (fun vs H Q E h => h.1) (fun cdv A out s H vs Q E g h => ?_)
  obtain ⟨_, F, G, ix, p, q, r, wk, ms, ts, c, least, rfl, S, hr, hd, hm, wo, ok, c0, c1, tm, lst, k⟩ := h
  refine ⟨_, (pss_one (ps_ret (pe_callTy c_int (by rfl) T.n_int (by decide +kernel) (pa_cons (pe_callB (toK (r := OB.rMaxU) (K := K) rfl (c_maxU rfl)) (by rfl) T.n_max (by decide +kernel) (pa_cons (pe_lc (own := [("number", 3), ("least", 4)]) (tt := tYes) rfl sc_law_regret_by.nd (pi_enumK (by rfl) T.n_enumerate (pa_cons (pv 2) pa_nil)) (blkOk_by (N := names_law_regret_by) (sc := defScope (top 47)) (own := [("number", 3), ("least", 4)]) (by decide +kernel)) (fun _ _ _ _ _ => (pg_tupK (K := K) rfl (n := 2) rfl (pgs_cons (pg_name (i := 3) sc_law_regret_by.nd rfl (by first | exact Or.inl rfl | exact Or.inr rfl)) (pgs_cons (pg_name (i := 4) sc_law_regret_by.nd rfl (by first | exact Or.inl rfl | exact Or.inr rfl)) pgs_nil)))) (fun _ _ _ _ _ => pts_nil) (fun _ _ _ _ _ => (pe_op op_sub (pe_cg (ok_law_worst_ticks T) (g.mono (by decide : 2 ≤ 2)) (by rfl) T.m_law_worst_ticks T.F_law_worst_ticks.kp (OB.Fun.bd T.F_law_worst_ticks (ps := ["work", "marks", "cuts"]) (n := 3) (ks := []) (ix := [0, 1, 2]) (fun _ _ _ _ _ _ us ws h1 h2 => match us, ws, h1, h2 with | [_, _, _], [], _, _ => rfl)) pass0 (pa_cons (pv 0) (pa_cons (pv 1) (pa_cons (pv 3) pa_nil))) pk_nil) (pv 4)))) pa_nil)) pa_nil)))), ?_⟩
  refine g_start (σ := [some _, some _, some _, none, none]) rfl ?_
  have S0 := (S.add _ (dat_work hd)).add _ (dat_ints hm)
  clear S
  have tl := tm.len
  repeat walk_at "ob"
  refine g_lcEn ?_
  repeat walk_at "ob"
  refine enlc_of (k := true) (xs := ts.map V.int) (fun j F' ds => F' = F ∧ ds = ((List.range j).map fun (i : Nat) => wst wk ms i - ts.getD i 0).map PyData.int ∧ j ≤ ts.length) S0 ⟨rfl, rfl, Nat.zero_le _⟩ (fun j F' ds H' hi S3 => SqL.of ((hi.1 ▸ S3).at ix hr)) (fun j F' ds hi => by
    rw [hi.2.1, List.length_map, List.length_map, List.length_range]; omega) ?_ ?_
  · intro j x hx Da T H2 F2 vs ds QE QR hi hT S3 kE kR
    obtain ⟨rfl, rfl, hj⟩ := hi
    rw [List.getElem?_map] at hx
    obtain ⟨t, ht, rfl⟩ := Option.map_eq_some_iff.mp hx
    have jl := (List.getElem?_eq_some_iff.mp ht).1
    refine g_pair S3 hT fun H3 S4 => ?_
    repeat walk_at "ob"
    refine ⟨rfl, ?_⟩
    repeat walk_at "ob"
    refine ⟨rfl, _, _, p, q, wk, ms, (j : Int), rfl, S4, S4.dp 3 rfl, S4.dp 2 rfl, wo, ok, by omega, by omega, fun H7 S7 => ?_⟩
    repeat walk_at "ob"
    refine kE _ (.int (wst wk ms j - t)) _ _ ⟨rfl, ?_, jl⟩ (S7.drop.fact (dps_one (L2.Dp.int _)) rfl)
    rw [List.range_succ, List.map_append, List.map_append]
    have e : ts.getD j 0 = t := by
      rw [List.getD_eq_getElem?_getD, ht]
      rfl
    show _ = _ ++ [PyData.int (wst wk ms j - ts.getD j 0)]
    rw [e]
  · intro Da H6 F6 vs ds hD6 hi S10
    obtain ⟨rfl, rfl, _⟩ := hi
    have hv := dps_intsV (S10.dps 0 rfl)
    subst hv
    have hl : (ts.map V.int).length = ts.length := List.length_map ..
    repeat walk_at "ob"
    refine g_maxUL (SqL.of (S10.at 0 rfl)) (by rw [List.length_map, List.length_range, hl]; omega) fun m h1 h2 => ?_
    have e : m = rgt wk ms c least := by
      have gd : ∀ (i : Nat) (t : Int), ts[i]? = some t → ts.getD i 0 = t := fun i t ht => by
        rw [List.getD_eq_getElem?_getD, ht]
        rfl
      refine rgt_max wo ok c0 tm lst ?_ fun i t ht => ?_
      · obtain ⟨i, hi, e⟩ := List.mem_map.mp h1
        have il := List.mem_range.mp hi
        rw [hl] at il
        exact ⟨i, ts[i], List.getElem?_eq_getElem il, by rw [← e, gd i _ (List.getElem?_eq_getElem il)]⟩
      · have il := (List.getElem?_eq_some_iff.mp ht).1
        have := h2 _ (List.mem_map.mpr ⟨i, List.mem_range.mpr (by rw [hl]; exact il), rfl⟩)
        rw [gd i t ht] at this
        exact this
    subst e
    repeat walk_at "ob"
    exact k H6 S10.less.drop.drop.drop
end
end LAW

set_option Elab.async false
set_option linter.all false
set_option maxRecDepth 100000
namespace LAW
open PySem PySem.Spec PyProof.Rows L2 PySem.W OB
local macro_rules | `(tactic| walk_at "obc") => `(tactic| first
  | exact Or.inl ⟨by omega, by omega⟩
  | exact Or.inr ⟨by omega, by omega⟩
  | exact cdiv_ok (by omega) (by omega)
  | (show (0 : Int) < _; omega)
  | exact ⟨by omega, by decide⟩
  | exact ⟨by decide, by decide⟩)
local macro_rules | `(tactic| walk_at "obat") => `(tactic| first
  | exact Sy.at (by assumption) 0 rfl | exact Sy.at (by assumption) 1 rfl | exact Sy.at (by assumption) 2 rfl | exact Sy.at (by assumption) 3 rfl
  | exact Sy.at (by assumption) 4 rfl | exact Sy.at (by assumption) 5 rfl | exact Sy.at (by assumption) 6 rfl | exact Sy.at (by assumption) _ (by assumption) | exact Sy.at (by assumption) (_ + 1) (by assumption) | exact Sy.at (by assumption) (_ + 2) (by assumption))
local macro_rules | `(tactic| walk_at "obt") => `(tactic| first
  | exact Sy.tqs (by assumption) 0 rfl | exact Sy.tqs (by assumption) 1 rfl | exact Sy.tqs (by assumption) 2 rfl | exact Sy.tqs (by assumption) 3 rfl | exact Sy.tqs (by assumption) 4 rfl | exact Sy.tqs (by assumption) 5 rfl
  | exact Sy.tqs (by assumption) 6 rfl | exact Sy.tqs (by assumption) 7 rfl | assumption)
local macro_rules | `(tactic| walk_at "obl") => `(tactic| first
  | exact SqL.of (by walk_at "obat")
  | exact Sy.sq (by assumption) 0 rfl | exact Sy.sq (by assumption) 1 rfl | exact Sy.sq (by assumption) 2 rfl | exact Sy.sq (by assumption) 3 rfl | exact Sy.sq (by assumption) _ (by assumption))
local macro_rules | `(tactic| walk_at "obd") => `(tactic| first
  | exact Dp.int _ | exact Dp.bl _ | exact Dp.str _ | exact Dp.non
  | exact Sy.dp (by assumption) 0 rfl | exact Sy.dp (by assumption) 1 rfl | exact Sy.dp (by assumption) 2 rfl | exact Sy.dp (by assumption) 3 rfl
  | exact Sy.dp (by assumption) 4 rfl | exact Sy.dp (by assumption) 5 rfl | exact Sy.dp (by assumption) 6 rfl | exact Sy.dp (by assumption) 7 rfl
  | exact Sy.dp (by assumption) 8 rfl | exact Sy.dp (by assumption) 9 rfl | exact Sy.dp (by assumption) _ (by assumption) | assumption)
local macro_rules | `(tactic| walk_at "obds") => `(tactic| first
  | exact DpAll.nil
  | (refine' DpAll.cons ?ob1 ?ob2; (case ob1 => walk_at "obd"); (case ob2 => walk_at "obds"))
  | exact Sy.dps (by assumption) 0 rfl | exact Sy.dps (by assumption) 1 rfl | exact Sy.dps (by assumption) 2 rfl | exact Sy.dps (by assumption) 3 rfl | assumption)
local macro_rules | `(tactic| walk_at "obsc") => `(tactic| first
  | exact ScL.nil
  | ((first | refine' ScL.int ?obz | refine' ScL.str ?obz | refine' ScL.bl ?obz | refine' ScL.non ?obz); (case obz => walk_at "obsc")))
local macro_rules | `(tactic| walk_at "ob1") => `(tactic| first
  | ((with_reducible refine' g_var ?obh ?_); (case obh => rfl))
  | with_reducible refine g_c ?_
  | with_reducible refine g_nx ?_
  | with_reducible refine g_rt ?_
  | with_reducible refine g_bk ?_
  | with_reducible refine g_ct ?_
  | with_reducible refine g_op ?_
  | with_reducible refine g_I0 ?_
  | with_reducible refine g_test ?_
  | with_reducible refine g_bl ?_
  | with_reducible refine g_blx ?_
  | with_reducible refine g_B ?_
  | with_reducible refine g_seq ?_
  | with_reducible refine g_asg ?_
  | with_reducible refine g_name ?_
  | with_reducible refine g_ifS ?_
  | with_reducible refine g_ret ?_
  | with_reducible refine g_cb ?_
  | with_reducible refine g_cons ?_
  | with_reducible refine g_nil ?_
  | with_reducible refine g_int ?_
  | with_reducible refine g_intB ?_
  | with_reducible refine g_abs ?_
  | with_reducible refine g_max ?_
  | with_reducible refine g_min ?_
  | with_reducible refine g_un ?_
  | with_reducible refine g_U ?_
  | with_reducible refine g_eqI ?_
  | with_reducible refine g_neI ?_
  | with_reducible refine g_eqS ?_
  | with_reducible refine g_neS ?_
  | with_reducible refine g_tt ?_
  | with_reducible refine g_ff ?_
  | with_reducible refine g_next ?_
  | with_reducible refine g_drop ?_
  | with_reducible refine g_if ?_
  | with_reducible refine g_andV ?_
  | with_reducible refine g_orV ?_
  | with_reducible refine g_notV ?_
  | with_reducible refine g_and ?_
  | with_reducible refine g_or ?_
  | with_reducible refine g_not ?_
  | with_reducible refine g_yes ?_
  | with_reducible refine g_chain ?_
  | with_reducible refine g_cg ?_
  | with_reducible refine g_mg ?_
  | with_reducible refine g_kg ?_
  | with_reducible refine g_pg ?_
  | ((with_reducible refine' g_call ?obh ?obj ?_); (case obh => rfl); (case obj => rfl))
  | with_reducible refine g_par ?_
  | with_reducible refine g_par2 ?_
  | with_reducible refine g_par3 ?_
  | with_reducible refine g_par33 ?_
  | with_reducible refine g_gnil ?_
  | with_reducible refine g_gcons ?_
  | with_reducible refine g_gsub ?_
  | with_reducible refine g_ipI ?_
  | with_reducible refine g_rAdd ?_
  | with_reducible refine g_rSub ?_
  | ((with_reducible refine' g_aug ?obh ?_); (case obh => rfl))
  | with_reducible refine g_tup ?_
  | with_reducible refine g_lst ?_
  | with_reducible refine g_bm ?_
  | with_reducible refine g_bm0 ?_
  | with_reducible refine g_sl ?_
  | with_reducible refine g_nopart ?_
  | with_reducible refine g_part ?_
  | with_reducible refine g_pint ?_
  | with_reducible refine isi_int ?_
  | with_reducible refine isi_intB ?_
  | ((with_reducible refine' g_I ?obh ?_); (case obh => walk_at "obc"))
  | ((with_reducible refine' g_tyl ?obh ?_); (case obh => walk_at "obl"))
  | ((with_reducible refine' g_lenL ?obh ?_); (case obh => walk_at "obl"))
  | with_reducible refine g_ne ?_
  | ((with_reducible refine' g_neN' ?obh ?_); (case obh => rfl))
  | with_reducible refine g_ntt ?_
  | with_reducible refine g_nff ?_
  | with_reducible refine g_star ?_
  | with_reducible refine g_att ?_
  | with_reducible refine g_sfld ?_
  | with_reducible refine g_faug ?_
  | with_reducible refine g_fld ?_
  | ((with_reducible refine' g_nF ?obh ?_); (case obh => omega))
  | ((with_reducible refine' g_nT ?obh ?_); (case obh => omega))
  | ((with_reducible refine' g_TD ?obh ?_); (case obh => omega))
  | ((with_reducible refine' g_FD ?obh ?_); (case obh => omega))
  | ((with_reducible refine' g_ixUL ?obh ?obi ?_); (case obh => walk_at "obl"); (case obi => exact atI_nn (by omega) (by rfl)))
  | ((with_reducible refine' g_setLS ?obs ?obh ?obi ?_); (case obs => assumption); (case obh => assumption); (case obi => rfl); intro _ _ _)
  | ((with_reducible refine' g_newT ?obs ?obh ?obi ?obj ?_); (case obs => assumption); (case obh => walk_at "obds"); (case obi => rfl); (case obj => exact Nat.le_of_ble_eq_true rfl); intro _ _ _ _)
  | ((with_reducible refine' g_newL ?obs ?obj ?_); (case obs => assumption); (case obj => exact Nat.le_of_ble_eq_true rfl); intro _ _ _ _)
  | ((with_reducible refine' isi_tup ?obh ?_); (case obh => walk_at "obt"))
  | ((with_reducible refine' g_lenT ?obh ?_); (case obh => walk_at "obt"))
  | ((with_reducible refine' g_unpT ?obh ?obi ?_); (case obh => walk_at "obt"); (case obi => rfl))
  | ((with_reducible refine' g_divmod ?obs ?obh ?_); (case obs => assumption); (case obh => exact cdivp_ok (by omega) (by omega) (by omega)); intro _ _ _ _)
  | ((with_reducible refine' g_unpD ?obh ?obi ?obj ?_); (case obh => walk_at "obd"); (case obi => walk_at "obsc"); (case obj => rfl))
  | with_reducible refine g_att ?_)
local macro_rules | `(tactic| walk_at "ob") => `(tactic| first
  | walk_at "ob1"
  | refine use_is_integer ?_
  | refine use_is_within ?_
  | with_reducible refine g_lstRg ?_
  | with_reducible refine g_rg1 ?_
  | with_reducible refine g_rg2 ?_
  | with_reducible refine g_tTru ?_
  | ((with_reducible refine' g_truL ?obh ?_); (case obh => walk_at "obl"))
  | ((with_reducible refine' g_ixUT ?obh ?obi ?_); (case obh => walk_at "obt"); (case obi => rfl))
  | with_reducible refine g_forZ ?_
  | with_reducible refine g_forR2 ?_
  | with_reducible refine g_forE ?_
  | with_reducible refine g_lcZ ?_)
section
variable {P : Program} {w : World} {K : Frag} {mg : Str → Option Value} {base : Heap}
theorem g_any {H : Hp} {Q : VK} {l : Addr} {bs : List Bool} (h : SqL K H l (bs.map V.bl)) (k : Q (.bl (bs.any id)) H) : L2.rAny K [.ref l] H Q := ⟨l, bs, rfl, h, k⟩
theorem any_false {n : Nat} : ((List.replicate n false).any id) = false := by
  induction n with
  | zero => rfl
  | succ n ih =>
    rw [List.replicate_succ, List.any_cons, ih]
    rfl
theorem falses {H : Hp} {vs : List V} {n : Nat} (h : DpAll K H vs (List.replicate n (.bool false))) : vs = (List.replicate n false).map V.bl := by
  rw [dps_scal h fun d hd => by rw [(List.mem_replicate.mp hd).2]; rfl, List.map_replicate, List.map_replicate]
  rfl
theorem all_in {ms : List Int} {n : Int} : (ms.all fun r => decide (0 ≤ r ∧ r < n)) = decide (∀ x ∈ ms, 0 ≤ x ∧ x ≤ n - 1) := by
  by_cases h : ∀ x ∈ ms, 0 ≤ x ∧ x ≤ n - 1
  · rw [decide_eq_true h]
    exact List.all_eq_true.mpr fun x hx => decide_eq_true (by have := h x hx; omega)
  · rw [decide_eq_false h]
    apply Bool.eq_false_iff.mpr
    intro z
    exact h fun x hx => by
      have := of_decide_eq_true (List.all_eq_true.mp z x hx)
      omega
def sp_law_are_marks (K : Frag) : Sp := fun vs H Q E => vs.length = 2 ∧ ∃ (F : List (Addr × HO)) (G : List Ft) (p : Addr) (v : V) (wk : Work) (m : Mk), vs = [.ref p, v] ∧ Sy K F G H ∧ L2.Dp K H (.ref p) (workD wk) ∧ MkV K H v m ∧ ∀ H', Sy K F G H' → Q (.bl (mkB wk m)) H'
abbrev names_law_are_marks : List Str := ["work", "value", "part", "one", "other"]
theorem sc_law_are_marks : FnScope names_law_are_marks ["work", "value"] (defScope (top 48)) := ⟨rfl, rfl, rfl, by decide +kernel, rfl, by decide +kernel, by decide +kernel⟩
set_option maxHeartbeats 4000000 in
theorem ok_law_are_marks (T : Tx K mg) : FG P w K mg base CX0 1 T.a_law_are_marks T.d_law_are_marks ["work", "value"] (sp_law_are_marks K) := by
  refine OB.Fun.fg T.F_law_are_marks sc_law_are_marks (fun vs H Q E h => h.1) (fun cdv A out s H vs Q E g h => ?_)
  obtain ⟨_, F, G, p, v, wk, m, rfl, S, hd, hm, k⟩ := h
  refine ⟨_, (pss_cons (ps_if (PW.pt (pw_or (pt_not (pt_val (pe_callB (toK (r := rIsi) (K := K) rfl call_isi) (by rfl) T.n_isinstance (by decide +kernel) (pa_cons (pv 1) (pa_cons (pe_bltn (v := .ty "tuple") (by rfl) T.n_tuple (by decide +kernel) rfl) pa_nil))))) (pw_or1 (pt_not (pt_val (pe_callB (toK (r := rAll) (K := K) rfl (cr_all rfl)) (by rfl) T.n_all (by decide +kernel) (pa_cons (pe_lc (own := [("part", 2)]) (tt := tYes) rfl sc_law_are_marks.nd (pi_seq (pv 1)) (blkOk_by (N := names_law_are_marks) (sc := defScope (top 48)) (own := [("part", 2)]) (by decide +kernel)) (fun _ _ _ _ _ => (pg_name (i := 2) sc_law_are_marks.nd rfl (by first | exact Or.inl rfl | exact Or.inr rfl))) (fun _ _ _ _ _ => pts_nil) (fun _ _ _ _ _ => (pe_callB (toK (r := rIsi) (K := K) rfl call_isi) (by rfl) T.n_isinstance (by decide +kernel) (pa_cons (pv 2) (pa_cons (pe_bltn (v := .ty "int") (by rfl) T.n_int (by decide +kernel) rfl) pa_nil))))) pa_nil))))))) (pss_one (ps_ret pe_bl)) pss_nil)
      (pss_cons (ps_if (PW.pt (pw_or (pt_val (pe_callB (toK (r := L2.rAny) (K := K) rfl (cr_any rfl)) (by rfl) T.n_any (by decide +kernel) (pa_cons (pe_lc (own := [("part", 2)]) (tt := tYes) rfl sc_law_are_marks.nd (pi_seq (pv 1)) (blkOk_by (N := names_law_are_marks) (sc := defScope (top 48)) (own := [("part", 2)]) (by decide +kernel)) (fun _ _ _ _ _ => (pg_name (i := 2) sc_law_are_marks.nd rfl (by first | exact Or.inl rfl | exact Or.inr rfl))) (fun _ _ _ _ _ => pts_nil) (fun _ _ _ _ _ => (pe_callB (toK (r := rIsi) (K := K) rfl call_isi) (by rfl) T.n_isinstance (by decide +kernel) (pa_cons (pv 2) (pa_cons (pe_bltn (v := .ty "bool") (by rfl) T.n_bool (by decide +kernel) rfl) pa_nil))))) pa_nil))) (pw_or1 (pt_not (pt_val (pe_callB (toK (r := rAll) (K := K) rfl (cr_all rfl)) (by rfl) T.n_all (by decide +kernel) (pa_cons (pe_lc (own := [("part", 2)]) (tt := tYes) rfl sc_law_are_marks.nd (pi_seq (pv 1)) (blkOk_by (N := names_law_are_marks) (sc := defScope (top 48)) (own := [("part", 2)]) (by decide +kernel)) (fun _ _ _ _ _ => (pg_name (i := 2) sc_law_are_marks.nd rfl (by first | exact Or.inl rfl | exact Or.inr rfl))) (fun _ _ _ _ _ => pts_nil) (fun _ _ _ _ _ => (pe_chain op_le op_lt pe_int (pv 2) (pe_callB (toK (r := OB.rLen) (K := K) rfl c_len) (by rfl) T.n_len PySem.boot_len (pa_cons (pe_ix (ix_UK (K := K) rfl) (pv 0) pe_int (fun _ _ => rfl)) pa_nil))))) pa_nil))))))) (pss_one (ps_ret pe_bl)) pss_nil)
      (pss_one (ps_ret (pe_callB (toK (r := rAll) (K := K) rfl (cr_all rfl)) (by rfl) T.n_all (by decide +kernel) (pa_cons (pe_lc (own := [("one", 3), ("other", 4)]) (tt := tYes) rfl sc_law_are_marks.nd (pi_zipK (by rfl) T.n_zip (pa_cons (pv 1) (pa_cons (pe_slice (sl_UK (K := K) rfl) (pv 1) (po_some pe_int) po_none) pa_nil))) (blkOk_by (N := names_law_are_marks) (sc := defScope (top 48)) (own := [("one", 3), ("other", 4)]) (by decide +kernel)) (fun _ _ _ _ _ => (pg_tupK (K := K) rfl (n := 2) rfl (pgs_cons (pg_name (i := 3) sc_law_are_marks.nd rfl (by first | exact Or.inl rfl | exact Or.inr rfl)) (pgs_cons (pg_name (i := 4) sc_law_are_marks.nd rfl (by first | exact Or.inl rfl | exact Or.inr rfl)) pgs_nil)))) (fun _ _ _ _ _ => pts_nil) (fun _ _ _ _ _ => (pe_cmpR op_lt (pv 3) (pv 4) (nomark _)))) pa_nil)))))), ?_⟩
  refine g_start (σ := [some _, some _, none, none, none]) rfl ?_
  obtain ⟨lp, cp, S1⟩ := Sy.work S hd
  have hc : (wk.c.map V.int).length = wk.c.length := List.length_map ..
  clear S
  have two : MkV K H v .nt ∧ m = .nt ∨ ∃ q xs, v = .ref q ∧ SqT K H q xs ∧ (∀ x ∈ xs, Nb x) ∧ xs.length ≤ 1000 ∧ ((∃ b, m = .bl b ∧ xs = [.bl b]) ∨ ∃ ms, m = .ns ms ∧ xs = ms.map V.int) := by
    cases m with
    | nt => exact .inl ⟨hm, rfl⟩
    | bl b =>
      obtain ⟨q, rfl, hs⟩ := hm
      exact .inr ⟨q, _, rfl, hs, fun x hx => by cases List.mem_singleton.mp hx; exact .inr ⟨b, rfl⟩, Nat.le_of_ble_eq_true rfl, .inl ⟨b, rfl, rfl⟩⟩
    | ns ms =>
      obtain ⟨q, rfl, hs, ml⟩ := hm
      exact .inr ⟨q, _, rfl, sqt_ints hs, nb_ints ms, by rw [List.length_map]; exact ml, .inr ⟨ms, rfl, rfl⟩⟩
  rcases two with ⟨hn, rfl⟩ | ⟨q, xs, rfl, hs, nb, xl, hx2⟩
  · repeat walk_at "ob"
    refine hn _ ?_
    repeat walk_at "ob"
    exact k _ S1.drop.drop.drop
  have S2 := S1.add (.tq q xs) hs
  clear S1 hm
  repeat walk_at "ob"
  refine g_lcS (a := q) (xs := xs) false (fun i F' ds => F' = F ∧ ds = List.replicate i (.bool true) ∧ i ≤ xs.length) S2 (fun Q' q => by walk_at "ob"; exact q) ⟨rfl, rfl, Nat.zero_le _⟩ (fun i F' ds H' _ S3 => S3.tqs 0 rfl) (fun i F' ds hi => by
    rw [hi.2.1, List.length_replicate]; omega) ?_ ?_
  · intro i x hx Da H2 F2 vs ds QE QR hi S3 kE kR
    obtain ⟨rfl, rfl, hi2⟩ := hi
    have il := (List.getElem?_eq_some_iff.mp hx).1
    rcases nb x (List.mem_of_getElem? hx) with ⟨r, rfl⟩ | ⟨b, rfl⟩
    · repeat walk_at "ob"
      refine ⟨rfl, ?_⟩
      repeat walk_at "ob"
      exact kE _ (.bool true) _ _ ⟨rfl, by rw [List.replicate_succ'], il⟩ (S3.fact (dps_one (L2.Dp.bl true)) rfl)
    · repeat walk_at "ob"
      refine ⟨rfl, ?_⟩
      repeat walk_at "ob"
      refine isi_bl ?_
      repeat walk_at "ob"
      exact kE _ (.bool true) _ _ ⟨rfl, by rw [List.replicate_succ'], il⟩ (S3.fact (dps_one (L2.Dp.bl true)) rfl)
  intro Da H2 F2 vs ds hD hi S3
  obtain ⟨rfl, rfl, _⟩ := hi
  have hv := trues (S3.dps 0 rfl)
  subst hv
  repeat walk_at "ob"
  refine g_all (by walk_at "obl") ?_
  rw [all_true]
  have S4 := S3.less.drop
  clear S3 S2
  rcases hx2 with ⟨b, rfl, rfl⟩ | ⟨ms, rfl, rfl⟩
  · repeat walk_at "ob"
    refine g_lcS (a := q) (xs := [.bl b]) false (fun i F' ds => F' = F2 ∧ ds = List.replicate i (.bool true) ∧ i ≤ 1) S4 (fun Q' q => by walk_at "ob"; exact q) ⟨rfl, rfl, Nat.zero_le _⟩ (fun i F' ds H' _ S3 => S3.tqs 0 rfl) (fun i F' ds hi => by
      rw [hi.2.1, List.length_replicate]; omega) ?_ ?_
    · intro i x hx Da H2 F2 vs ds QE QR hi S3 kE kR
      obtain ⟨rfl, rfl, hi2⟩ := hi
      have il : i < 1 := (List.getElem?_eq_some_iff.mp hx).1
      obtain rfl : i = 0 := by omega
      cases hx
      repeat walk_at "ob"
      refine ⟨rfl, ?_⟩
      repeat walk_at "ob"
      refine isi_blB ?_
      repeat walk_at "ob"
      exact kE _ (.bool true) _ _ ⟨rfl, rfl, Nat.le_refl _⟩ (S3.fact (dps_one (L2.Dp.bl true)) rfl)
    intro Db H4 F4 vs ds hD hi S5
    obtain ⟨rfl, rfl, _⟩ := hi
    have hv := trues (S5.dps 0 rfl)
    subst hv
    repeat walk_at "ob"
    refine g_any (by walk_at "obl") ?_
    rw [show ((List.replicate [V.bl b].length true).any id) = true from rfl]
    repeat walk_at "ob"
    exact k _ S5.less.drop.drop.drop.drop.drop
  have hl : (ms.map V.int).length = ms.length := List.length_map ..
  rw [hl] at xl
  repeat walk_at "ob"
  refine g_lcS (a := q) (xs := ms.map V.int) false (fun i F' ds => F' = F2 ∧ ds = List.replicate i (.bool false) ∧ i ≤ ms.length) S4 (fun Q' q => by walk_at "ob"; exact q) ⟨rfl, rfl, Nat.zero_le _⟩ (fun i F' ds H' _ S3 => S3.tqs 0 rfl) (fun i F' ds hi => by
    rw [hi.2.1, List.length_replicate]; omega) ?_ ?_
  · intro i x hx Da H2 F2 vs ds QE QR hi S3 kE kR
    obtain ⟨rfl, rfl, hi2⟩ := hi
    rw [List.getElem?_map] at hx
    obtain ⟨r, hr, rfl⟩ := Option.map_eq_some_iff.mp hx
    repeat walk_at "ob"
    refine ⟨rfl, ?_⟩
    repeat walk_at "ob"
    refine kE _ (.bool false) _ _ ⟨rfl, by rw [List.replicate_succ'], (List.getElem?_eq_some_iff.mp hr).1⟩ (S3.fact (dps_one (L2.Dp.bl false)) rfl)
  intro Db H4 F4 vs ds hD hi S5
  obtain ⟨rfl, rfl, _⟩ := hi
  have hv := falses (S5.dps 0 rfl)
  subst hv
  repeat walk_at "ob"
  refine g_any (by walk_at "obl") ?_
  rw [any_false]
  have S6 := S5.less.drop
  clear S4 S5
  repeat walk_at "ob"
  refine g_lcS (a := q) (xs := ms.map V.int) false (fun i F' ds => F' = F4 ∧ ds = (ms.take i).map fun r => .bool (decide (0 ≤ r ∧ r < (wk.c.length : Int)))) S6 (fun Q' q => by walk_at "ob"; exact q) ⟨rfl, rfl⟩ (fun i F' ds H' _ S3 => S3.tqs 0 rfl) (fun i F' ds hi => by
    rw [hi.2, List.length_map, List.length_take]; omega) ?_ ?_
  · intro i x hx Da H2 F2 vs ds QE QR hi S3 kE kR
    obtain ⟨rfl, rfl⟩ := hi
    rw [List.getElem?_map] at hx
    obtain ⟨r, hr, rfl⟩ := Option.map_eq_some_iff.mp hx
    have e2 : (ms.take (i + 1)).map (fun r => PyData.bool (decide (0 ≤ r ∧ r < (wk.c.length : Int)))) = (ms.take i).map (fun r => PyData.bool (decide (0 ≤ r ∧ r < (wk.c.length : Int)))) ++ [.bool (decide (0 ≤ r ∧ r < (wk.c.length : Int)))] := by
      rw [List.take_add_one, hr]
      simp
    repeat walk_at "ob"
    refine ⟨rfl, ?_⟩
    repeat walk_at "ob"
    refine g_iteD (fun h1 => ?_) (fun h1 => ?_)
    · repeat walk_at "ob"
      refine g_lenT (sqt_ints (S3.dp 4 rfl)) ?_
      rw [hc]
      repeat walk_at "ob"
      refine kE _ (.bool (decide (0 ≤ r ∧ r < (wk.c.length : Int)))) _ _ ⟨rfl, e2.symm⟩ ?_
      rw [show decide (0 ≤ r ∧ r < (wk.c.length : Int)) = decide (r < (wk.c.length : Int)) by simp [h1]]
      exact S3.fact (dps_one (L2.Dp.bl _)) rfl
    · repeat walk_at "ob"
      refine kE _ (.bool (decide (0 ≤ r ∧ r < (wk.c.length : Int)))) _ _ ⟨rfl, e2.symm⟩ ?_
      rw [show decide (0 ≤ r ∧ r < (wk.c.length : Int)) = false by simp [h1]]
      exact S3.fact (dps_one (L2.Dp.bl _)) rfl
  intro Dc H6 F vs ds hD hi S7
  obtain ⟨rfl, rfl⟩ := hi
  rw [hl, List.take_length] at S7
  have hv : vs = (ms.map fun r => decide (0 ≤ r ∧ r < (wk.c.length : Int))).map V.bl := by
    have := S7.dps 0 rfl
    rw [show (ms.map fun r => PyData.bool (decide (0 ≤ r ∧ r < (wk.c.length : Int)))) = (ms.map fun r => decide (0 ≤ r ∧ r < (wk.c.length : Int))).map PyData.bool by rw [List.map_map]; rfl] at this
    exact bls this
  subst hv
  repeat walk_at "ob"
  refine g_all (by walk_at "obl") ?_
  have e3 : (((ms.map fun r => decide (0 ≤ r ∧ r < (wk.c.length : Int))).all id)) = decide (∀ x ∈ ms, 0 ≤ x ∧ x ≤ (wk.c.length : Int) - 1) := by
    rw [List.all_map]
    exact all_in
  rw [e3]
  rw [mkB_ns] at k
  have S8 := S7.less.drop
  clear S6 S7
  by_cases h1 : ∀ x ∈ ms, 0 ≤ x ∧ x ≤ (wk.c.length : Int) - 1
  · rw [decide_eq_true h1] at k ⊢
    repeat walk_at "ob"
    refine g_slA S8 (S8.tqs 0 rfl) fun p2 H5 S9 => ?_
    clear S8
    repeat walk_at "ob"
    refine ziplc_of (k := false) (l := false) (xs := ms.map V.int) (ys := (ms.map V.int).drop 1) (fun i F' ds => F' = F ∧ ds = (zipD ms).take i) S9 ⟨rfl, rfl⟩
      (fun i F' ds H' hi S3 => ⟨S3.tqs 1 rfl, S3.tqs 0 rfl⟩) (fun i F' ds hi => by
        rw [hi.2, List.length_take]
        have : (zipD ms).length ≤ ms.length := by
          unfold zipD
          rw [List.length_map, zip_len]
          omega
        omega) ?_ ?_
    · intro i x y hx hy Da T H2 F2 vs ds QE QR hi hT S3 kE kR
      obtain ⟨rfl, rfl⟩ := hi
      rw [List.getElem?_map] at hx
      obtain ⟨r, hr, rfl⟩ := Option.map_eq_some_iff.mp hx
      rw [List.getElem?_drop, List.getElem?_map] at hy
      obtain ⟨r2, hr2, rfl⟩ := Option.map_eq_some_iff.mp hy
      refine g_pair S3 hT fun H3 S4 => ?_
      repeat walk_at "ob"
      refine ⟨rfl, ?_⟩
      repeat walk_at "ob"
      refine kE _ (.bool (decide (r < r2))) _ _ ⟨rfl, ?_⟩ (S4.drop.fact (dps_one (L2.Dp.bl _)) rfl)
      rw [List.take_add_one]
      unfold zipD
      rw [List.getElem?_map, zip_at hr (by rw [List.getElem?_drop]; exact hr2)]
      rfl
    intro Dd H6 F6 vs ds hD6 hi S10
    obtain ⟨rfl, rfl⟩ := hi
    have hv : vs = ((ms.zip (ms.drop 1)).map fun p => decide (p.1 < p.2)).map V.bl := by
      have := S10.dps 0 rfl
      rw [List.take_of_length_le (by unfold zipD; rw [List.length_map, zip_len, List.length_drop, List.length_drop, List.length_map]; exact Nat.le_refl _)] at this
      unfold zipD at this
      rw [show ((ms.zip (ms.drop 1)).map fun p => PyData.bool (decide (p.1 < p.2))) = ((ms.zip (ms.drop 1)).map fun p => decide (p.1 < p.2)).map PyData.bool by rw [List.map_map]; rfl] at this
      exact bls this
    subst hv
    repeat walk_at "ob"
    refine g_all (by walk_at "obl") ?_
    rw [List.all_map, show ((ms.zip (ms.drop 1)).all (id ∘ fun p => decide (p.1 < p.2))) = upB ms from rfl]

    repeat walk_at "ob"
    exact k _ S10.less.drop.drop.drop.drop.drop.drop
  · rw [decide_eq_false h1] at k ⊢
    repeat walk_at "ob"
    exact k _ S8.drop.drop.drop.drop
/-! ### values that are near to a pair of a number and marks -/
inductive Fs where
  | i (n : Int)
  | b (b : Bool)
  | t (l : List Int)
def Fs.d : Fs → PyData
  | .i x => .int x
  | .b x => .bool x
  | .t x => intsD x
def FsV (K : Frag) (H : Hp) (x : V) : Fs → Prop
  | .i n => x = .int n ∧ n.natAbs < 10 ^ 60
  | .b b => x = .bl b
  | .t l => (∃ a, x = .ref a) ∧ L2.Dp K H x (intsD l) ∧ Small 1000 1 (intsD l)
inductive Nv where
  | nt
  | odd
  | pr (f : Fs) (m : Mk)
def NvV (K : Frag) (H : Hp) (v : V) : Nv → Prop
  | .nt => NT K H v
  | .odd => ∃ q xs, v = .ref q ∧ SqT K H q xs ∧ xs.length ≠ 2
  | .pr f m => ∃ q x y, v = .ref q ∧ SqT K H q [x, y] ∧ FsV K H x f ∧ MkV K H y m
def pairB (t : Int) : Nv → Bool
  | .pr f _ => decide (f.d.shown = (PyData.int t).shown)
  | _ => false
theorem fs_dp {H : Hp} {x : V} {f : Fs} (h : FsV K H x f) : L2.Dp K H x f.d := by
  cases f with
  | i n => obtain ⟨rfl, _⟩ := h; exact L2.Dp.int n
  | b b => cases h; exact L2.Dp.bl b
  | t l => exact h.2.1
theorem fs_small {H : Hp} {x : V} {f : Fs} (h : FsV K H x f) : Small 1000 1 f.d := by
  cases f with
  | i n => exact (Small.int h.2).mono (by decide) (by decide)
  | b b => exact Small.bl.mono (by decide) (by decide)
  | t l => exact h.2.2
def sp_law_is_pair (K : Frag) : Sp := fun vs H Q E => vs.length = 2 ∧ ∃ (F : List (Addr × HO)) (G : List Ft) (v : V) (t : Int) (nv : Nv), vs = [v, .int t] ∧ Sy K F G H ∧ NvV K H v nv ∧ t.natAbs < 10 ^ 60 ∧ ∀ H', Sy K F G H' → Q (.bl (pairB t nv)) H'
abbrev names_law_is_pair : List Str := ["value", "first"]
theorem sc_law_is_pair : FnScope names_law_is_pair ["value", "first"] (defScope (top 49)) := ⟨rfl, rfl, rfl, by decide +kernel, rfl, by decide +kernel, by decide +kernel⟩
set_option maxHeartbeats 4000000 in
theorem ok_law_is_pair (T : Tx K mg) : FG P w K mg base CX0 1 T.a_law_is_pair T.d_law_is_pair ["value", "first"] (sp_law_is_pair K) := by
  refine OB.Fun.fg T.F_law_is_pair sc_law_is_pair (fun vs H Q E h => h.1) (fun cdv A out s H vs Q E g h => ?_)
  obtain ⟨_, F, G, v, t, nv, rfl, S, hv, ht, k⟩ := h
  refine ⟨_, (pss_one (ps_ret (pe_and (pe_callB (toK (r := rIsi) (K := K) rfl call_isi) (by rfl) T.n_isinstance (by decide +kernel) (pa_cons (pv 0) (pa_cons (pe_bltn (v := .ty "tuple") (by rfl) T.n_tuple (by decide +kernel) rfl) pa_nil))) (pe_and (pe_cmpR op_eq (pe_callB (toK (r := OB.rLen) (K := K) rfl c_len) (by rfl) T.n_len PySem.boot_len (pa_cons (pv 0) pa_nil)) pe_int (nomark _)) (pe_one (pe_cmpR op_eq (pe_callB (toK (r := rRepr) (K := K) rfl (call_repr g)) (by rfl) T.n_repr (by decide +kernel) (pa_cons (pe_ix (ix_UK (K := K) rfl) (pv 0) pe_int (fun _ _ => rfl)) pa_nil)) (pe_callB (toK (r := rRepr) (K := K) rfl (call_repr g)) (by rfl) T.n_repr (by decide +kernel) (pa_cons (pv 1) pa_nil)) (nomark _))))))), ?_⟩
  refine g_start (σ := [some _, some _]) rfl ?_
  cases nv with
  | nt =>
    repeat walk_at "ob"
    refine hv _ ?_
    repeat walk_at "ob"
    exact k _ S
  | odd =>
    obtain ⟨q, xs, rfl, hs, hne⟩ := hv
    have S1 := S.add (.tq q xs) hs
    clear S
    repeat walk_at "ob"
    exact k _ S1.drop
  | pr f m =>
    obtain ⟨q, x, y, rfl, hs, hf, hm⟩ := hv
    have S1 := S.add (.tq q [x, y]) hs
    clear S
    repeat walk_at "ob"
    rw [if_pos (by rfl)]
    repeat walk_at "ob"
    refine g_reprS (fs_dp hf) (fs_small hf) (by decide) (by decide) ?_
    repeat walk_at "ob"
    refine g_reprS (L2.Dp.int t) (Small.int ht) (by decide) (by decide) ?_
    repeat walk_at "ob"
    exact k _ S1.drop
end
end LAW

set_option Elab.async false
set_option linter.all false
set_option maxRecDepth 100000
namespace LAW
open PySem PySem.Spec PyProof.Rows L2 PySem.W OB
local macro_rules | `(tactic| walk_at "obc") => `(tactic| first
  | exact Or.inl ⟨by omega, by omega⟩
  | exact Or.inr ⟨by omega, by omega⟩
  | exact cdiv_ok (by omega) (by omega)
  | (show (0 : Int) < _; omega)
  | exact ⟨by omega, by decide⟩
  | exact ⟨by decide, by decide⟩)
local macro_rules | `(tactic| walk_at "obat") => `(tactic| first
  | exact Sy.at (by assumption) 0 rfl | exact Sy.at (by assumption) 1 rfl | exact Sy.at (by assumption) 2 rfl | exact Sy.at (by assumption) 3 rfl
  | exact Sy.at (by assumption) 4 rfl | exact Sy.at (by assumption) 5 rfl | exact Sy.at (by assumption) 6 rfl | exact Sy.at (by assumption) _ (by assumption) | exact Sy.at (by assumption) (_ + 1) (by assumption) | exact Sy.at (by assumption) (_ + 2) (by assumption))
local macro_rules | `(tactic| walk_at "obt") => `(tactic| first
  | exact Sy.tqs (by assumption) 0 rfl | exact Sy.tqs (by assumption) 1 rfl | exact Sy.tqs (by assumption) 2 rfl | exact Sy.tqs (by assumption) 3 rfl | exact Sy.tqs (by assumption) 4 rfl | exact Sy.tqs (by assumption) 5 rfl
  | exact Sy.tqs (by assumption) 6 rfl | exact Sy.tqs (by assumption) 7 rfl | assumption)
local macro_rules | `(tactic| walk_at "obl") => `(tactic| first
  | exact SqL.of (by walk_at "obat")
  | exact Sy.sq (by assumption) 0 rfl | exact Sy.sq (by assumption) 1 rfl | exact Sy.sq (by assumption) 2 rfl | exact Sy.sq (by assumption) 3 rfl | exact Sy.sq (by assumption) _ (by assumption))
local macro_rules | `(tactic| walk_at "obd") => `(tactic| first
  | exact Dp.int _ | exact Dp.bl _ | exact Dp.str _ | exact Dp.non
  | exact Sy.dp (by assumption) 0 rfl | exact Sy.dp (by assumption) 1 rfl | exact Sy.dp (by assumption) 2 rfl | exact Sy.dp (by assumption) 3 rfl
  | exact Sy.dp (by assumption) 4 rfl | exact Sy.dp (by assumption) 5 rfl | exact Sy.dp (by assumption) 6 rfl | exact Sy.dp (by assumption) 7 rfl
  | exact Sy.dp (by assumption) 8 rfl | exact Sy.dp (by assumption) 9 rfl | exact Sy.dp (by assumption) _ (by assumption) | assumption)
local macro_rules | `(tactic| walk_at "obds") => `(tactic| first
  | exact DpAll.nil
  | (refine' DpAll.cons ?ob1 ?ob2; (case ob1 => walk_at "obd"); (case ob2 => walk_at "obds"))
  | exact Sy.dps (by assumption) 0 rfl | exact Sy.dps (by assumption) 1 rfl | exact Sy.dps (by assumption) 2 rfl | exact Sy.dps (by assumption) 3 rfl | assumption)
local macro_rules | `(tactic| walk_at "obsc") => `(tactic| first
  | exact ScL.nil
  | ((first | refine' ScL.int ?obz | refine' ScL.str ?obz | refine' ScL.bl ?obz | refine' ScL.non ?obz); (case obz => walk_at "obsc")))
local macro_rules | `(tactic| walk_at "ob1") => `(tactic| first
  | ((with_reducible refine' g_var ?obh ?_); (case obh => rfl))
  | with_reducible refine g_c ?_
  | with_reducible refine g_nx ?_
  | with_reducible refine g_rt ?_
  | with_reducible refine g_bk ?_
  | with_reducible refine g_ct ?_
  | with_reducible refine g_op ?_
  | with_reducible refine g_I0 ?_
  | with_reducible refine g_test ?_
  | with_reducible refine g_bl ?_
  | with_reducible refine g_blx ?_
  | with_reducible refine g_B ?_
  | with_reducible refine g_seq ?_
  | with_reducible refine g_asg ?_
  | with_reducible refine g_name ?_
  | with_reducible refine g_ifS ?_
  | with_reducible refine g_ret ?_
  | with_reducible refine g_cb ?_
  | with_reducible refine g_cons ?_
  | with_reducible refine g_nil ?_
  | with_reducible refine g_int ?_
  | with_reducible refine g_intB ?_
  | with_reducible refine g_abs ?_
  | with_reducible refine g_max ?_
  | with_reducible refine g_min ?_
  | with_reducible refine g_un ?_
  | with_reducible refine g_U ?_
  | with_reducible refine g_eqI ?_
  | with_reducible refine g_neI ?_
  | with_reducible refine g_eqS ?_
  | with_reducible refine g_neS ?_
  | with_reducible refine g_tt ?_
  | with_reducible refine g_ff ?_
  | with_reducible refine g_next ?_
  | with_reducible refine g_drop ?_
  | with_reducible refine g_if ?_
  | with_reducible refine g_andV ?_
  | with_reducible refine g_orV ?_
  | with_reducible refine g_notV ?_
  | with_reducible refine g_and ?_
  | with_reducible refine g_or ?_
  | with_reducible refine g_not ?_
  | with_reducible refine g_yes ?_
  | with_reducible refine g_chain ?_
  | with_reducible refine g_cg ?_
  | with_reducible refine g_mg ?_
  | with_reducible refine g_kg ?_
  | with_reducible refine g_pg ?_
  | ((with_reducible refine' g_call ?obh ?obj ?_); (case obh => rfl); (case obj => rfl))
  | with_reducible refine g_par ?_
  | with_reducible refine g_par2 ?_
  | with_reducible refine g_par3 ?_
  | with_reducible refine g_par33 ?_
  | with_reducible refine g_gnil ?_
  | with_reducible refine g_gcons ?_
  | with_reducible refine g_gsub ?_
  | with_reducible refine g_ipI ?_
  | with_reducible refine g_rAdd ?_
  | with_reducible refine g_rSub ?_
  | ((with_reducible refine' g_aug ?obh ?_); (case obh => rfl))
  | with_reducible refine g_tup ?_
  | with_reducible refine g_lst ?_
  | with_reducible refine g_bm ?_
  | with_reducible refine g_bm0 ?_
  | with_reducible refine g_sl ?_
  | with_reducible refine g_nopart ?_
  | with_reducible refine g_part ?_
  | with_reducible refine g_pint ?_
  | with_reducible refine isi_int ?_
  | with_reducible refine isi_intB ?_
  | ((with_reducible refine' g_I ?obh ?_); (case obh => walk_at "obc"))
  | ((with_reducible refine' g_tyl ?obh ?_); (case obh => walk_at "obl"))
  | ((with_reducible refine' g_lenL ?obh ?_); (case obh => walk_at "obl"))
  | with_reducible refine g_ne ?_
  | ((with_reducible refine' g_neN' ?obh ?_); (case obh => rfl))
  | with_reducible refine g_ntt ?_
  | with_reducible refine g_nff ?_
  | with_reducible refine g_star ?_
  | with_reducible refine g_att ?_
  | with_reducible refine g_sfld ?_
  | with_reducible refine g_faug ?_
  | with_reducible refine g_fld ?_
  | ((with_reducible refine' g_nF ?obh ?_); (case obh => omega))
  | ((with_reducible refine' g_nT ?obh ?_); (case obh => omega))
  | ((with_reducible refine' g_TD ?obh ?_); (case obh => omega))
  | ((with_reducible refine' g_FD ?obh ?_); (case obh => omega))
  | ((with_reducible refine' g_ixUL ?obh ?obi ?_); (case obh => walk_at "obl"); (case obi => exact atI_nn (by omega) (by rfl)))
  | ((with_reducible refine' g_setLS ?obs ?obh ?obi ?_); (case obs => assumption); (case obh => assumption); (case obi => rfl); intro _ _ _)
  | ((with_reducible refine' g_newT ?obs ?obh ?obi ?obj ?_); (case obs => assumption); (case obh => walk_at "obds"); (case obi => rfl); (case obj => exact Nat.le_of_ble_eq_true rfl); intro _ _ _ _)
  | ((with_reducible refine' g_newL ?obs ?obj ?_); (case obs => assumption); (case obj => exact Nat.le_of_ble_eq_true rfl); intro _ _ _ _)
  | ((with_reducible refine' isi_tup ?obh ?_); (case obh => walk_at "obt"))
  | ((with_reducible refine' g_lenT ?obh ?_); (case obh => walk_at "obt"))
  | ((with_reducible refine' g_unpT ?obh ?obi ?_); (case obh => walk_at "obt"); (case obi => rfl))
  | ((with_reducible refine' g_divmod ?obs ?obh ?_); (case obs => assumption); (case obh => exact cdivp_ok (by omega) (by omega) (by omega)); intro _ _ _ _)
  | ((with_reducible refine' g_unpD ?obh ?obi ?obj ?_); (case obh => walk_at "obd"); (case obi => walk_at "obsc"); (case obj => rfl))
  | with_reducible refine g_att ?_)
local macro_rules | `(tactic| walk_at "ob") => `(tactic| first
  | walk_at "ob1"
  | refine use_is_integer ?_
  | refine use_is_within ?_
  | with_reducible refine g_lstRg ?_
  | with_reducible refine g_rg1 ?_
  | with_reducible refine g_rg2 ?_
  | with_reducible refine g_tTru ?_
  | ((with_reducible refine' g_truL ?obh ?_); (case obh => walk_at "obl"))
  | ((with_reducible refine' g_ixUT ?obh ?obi ?_); (case obh => walk_at "obt"); (case obi => rfl))
  | with_reducible refine g_forZ ?_
  | with_reducible refine g_forR2 ?_
  | with_reducible refine g_forE ?_
  | with_reducible refine g_lcZ ?_)
section
variable {P : Program} {w : World} {K : Frag} {mg : Str → Option Value} {base : Heap}
structure Bnd (w : Work) (c : Int) (ms : List Int) : Prop where
  w0 : 0 ≤ wst w ms c
  w1 : wst w ms c ≤ 1000000
  c0 : 0 ≤ costM w.c ms
  c1 : costM w.c ms ≤ 1000000
  l0 : 0 ≤ w.l.sum
  l1 : w.l.sum ≤ 1000000
theorem bnd {w : Work} {ms : List Int} (o : WkOk w) (m : MkOk w ms) {c : Int} (c0 : 0 ≤ c) (c1 : c ≤ 100) : Bnd w c ms := by
  have e := len_total o m
  have e0 := len_total o (MkOk.nil (w := w))
  have lk := Work.lok o m
  have lk0 := Work.lok o (MkOk.nil (w := w))
  have b0 := o.b0
  have m0 := lk.mx
  have s0 := lk.s0
  have s1 := lk.sm
  have t0 := lk0.s0
  have t1 := lk0.sm
  have cn := cost_nn (ms := ms) o
  have z : costM w.c [] = 0 := rfl
  have q0 : 0 ≤ c * (w.b + mx (w.len ms) - 1) := Int.mul_nonneg c0 (by omega)
  have q1 : c * (w.b + mx (w.len ms) - 1) ≤ 100 * (w.b + mx (w.len ms) - 1) := Int.mul_le_mul_of_nonneg_right c1 (by omega)
  have ew : wst w ms c = (w.len ms).sum + c * (w.b + mx (w.len ms) - 1) := rfl
  refine ⟨?_, ?_, ?_, ?_, ?_, ?_⟩ <;> omega
theorem ni_tup {H : Hp} {a : Addr} {xs : List V} (h : SqT K H a xs) : NI K H (.ref a) where
  i := rfl
  w := fun _ _ => rfl
  k := fun Q k => by
    refine ⟨_, _, .type "tuple", _, false, rfl, .ty "int", ?_, kit_ty (by decide +kernel), k⟩
    rcases h with (h | ⟨o, h⟩) | ⟨o, its, n, e, c, _⟩
    · exact .base (.tup h)
    · exact .fTuple h
    · exact .kTuple e c
def toldB (w : Work) : Nv → Bool
  | .pr (.i n) m => decide (0 ≤ n ∧ n ≤ 1000000000000) && mkB w m
  | _ => false
theorem told_i {w : Work} {n : Int} {m : Mk} : toldB w (.pr (.i n) m) = (decide (0 ≤ n ∧ n ≤ 1000000000000) && mkB w m) := rfl
theorem told_iff {w : Work} {nv : Nv} (h : toldB w nv = true) : ∃ n ms, nv = .pr (.i n) (.ns ms) ∧ MkOk w ms := by
  rcases nv with _ | _ | ⟨f, m⟩
  · cases h
  · cases h
  · rcases f with n | b | l
    · rcases m with _ | b | ms
      · rw [told_i, show mkB w .nt = false from rfl, Bool.and_false] at h
        cases h
      · rw [told_i, show mkB w (.bl b) = false from rfl, Bool.and_false] at h
        cases h
      · rw [told_i, Bool.and_eq_true] at h
        exact ⟨n, ms, rfl, mkB_iff.mp h.2⟩
    · cases h
    · cases h
/-- a number n that is t, and marks with f -/
def shB (w : Work) (t : Int) (f : List Int → Bool) : Nv → Bool
  | .pr (.i n) (.ns ms) => mkB w (.ns ms) && (decide (n = t) && f ms)
  | _ => false
theorem sh_i {w : Work} {t n : Int} {f : List Int → Bool} {ms : List Int} : shB w t f (.pr (.i n) (.ns ms)) = (mkB w (.ns ms) && (decide (n = t) && f ms)) := rfl
theorem sh_false {w : Work} {t : Int} {f : List Int → Bool} {nv : Nv} (t0 : 0 ≤ t) (t1 : t ≤ 1000000) (h : ¬ toldB w nv = true) : shB w t f nv = false := by
  rcases nv with _ | _ | ⟨f, m⟩
  · rfl
  · rfl
  · rcases f with n | b | l
    · rcases m with _ | b | ms
      · rfl
      · rfl
      · rw [sh_i]
        rw [told_i, Bool.and_eq_true, decide_eq_true_eq] at h
        by_cases c : n = t
        · have : mkB w (.ns ms) = false := Bool.eq_false_iff.mpr fun z => h ⟨by omega, z⟩
          rw [this]
          rfl
        · rw [decide_eq_false c, Bool.false_and, Bool.and_false]
    · rfl
    · rfl
def sp_is_told (K : Frag) : Sp := fun vs H Q E => vs.length = 2 ∧ ∃ (F : List (Addr × HO)) (G : List Ft) (p : Addr) (v : V) (wk : Work) (nv : Nv), vs = [.ref p, v] ∧ Sy K F G H ∧ L2.Dp K H (.ref p) (workD wk) ∧ NvV K H v nv ∧ ∀ H', Sy K F G H' → Q (.bl (toldB wk nv)) H'
abbrev names_is_told : List Str := ["work", "value"]
theorem sc_is_told : FnScope names_is_told ["work", "value"] (defScope (top 28)) := ⟨rfl, rfl, rfl, by decide +kernel, rfl, by decide +kernel, by decide +kernel⟩
set_option maxHeartbeats 4000000 in
theorem ok_is_told (T : Tx K mg) : FG P w K mg base CX0 5 T.a_is_told T.d_is_told ["work", "value"] (sp_is_told K) := by
  refine OB.Fun.fg T.F_is_told sc_is_told (fun vs H Q E h => h.1) (fun cdv A out s H vs Q E g h => ?_)
  obtain ⟨_, F, G, p, v, wk, nv, rfl, S, hd, hv, k⟩ := h
  refine ⟨_, (pss_cons (ps_if (PW.pt (pw_or (pt_not (pt_val (pe_callB (toK (r := rIsi) (K := K) rfl call_isi) (by rfl) T.n_isinstance (by decide +kernel) (pa_cons (pv 1) (pa_cons (pe_bltn (v := .ty "tuple") (by rfl) T.n_tuple (by decide +kernel) rfl) pa_nil))))) (pw_or (pt_cmpR op_ne (pe_callB (toK (r := OB.rLen) (K := K) rfl c_len) (by rfl) T.n_len PySem.boot_len (pa_cons (pv 1) pa_nil)) (pe_glob (v := .int 2) (by rfl) T.g_PAIR ⟨_, rfl⟩) (nomark _)) (pw_or1 (pt_not (pt_val (pe_cg (ok_is_within T) (g.mono (by decide : 2 ≤ 4)) (by rfl) T.m_is_within T.F_is_within.kp (OB.Fun.bd T.F_is_within (ps := ["value", "least", "most"]) (n := 3) (ks := []) (ix := [0, 1, 2]) (fun _ _ _ _ _ _ us ws h1 h2 => match us, ws, h1, h2 with | [_, _, _], [], _, _ => rfl)) pass0 (pa_cons (pe_ix (ix_UK (K := K) rfl) (pv 1) pe_int (fun _ _ => rfl)) (pa_cons pe_int (pa_cons (pe_glob (v := .int 1000000000000) (by rfl) T.g_MOST_MOMENT ⟨_, rfl⟩) pa_nil))) pk_nil))))))) (pss_one (ps_ret pe_bl)) pss_nil)
      (pss_one (ps_ret (pe_cg (ok_are_marks T) (g.mono (by decide : 4 ≤ 4)) (by rfl) T.m_are_marks T.F_are_marks.kp (OB.Fun.bd T.F_are_marks (ps := ["work", "value"]) (n := 2) (ks := []) (ix := [0, 1]) (fun _ _ _ _ _ _ us ws h1 h2 => match us, ws, h1, h2 with | [_, _], [], _, _ => rfl)) pass0 (pa_cons (pv 0) (pa_cons (pe_ix (ix_UK (K := K) rfl) (pv 1) pe_int (fun _ _ => rfl)) pa_nil)) pk_nil)))), ?_⟩
  refine g_start (σ := [some _, some _]) rfl ?_
  cases nv with
  | nt =>
    repeat walk_at "ob"
    refine hv _ ?_
    repeat walk_at "ob"
    exact k _ S
  | odd =>
    obtain ⟨q, xs, rfl, hs, hne⟩ := hv
    have S1 := S.add (.tq q xs) hs
    clear S
    repeat walk_at "ob"
    exact k _ S1.drop
  | pr f m =>
    obtain ⟨q, x, y, rfl, hs, hf, hm⟩ := hv
    have S1 := S.add (.tq q [x, y]) hs
    clear S
    cases f with
    | i n =>
      obtain ⟨rfl, _⟩ := hf
      rw [told_i] at k
      repeat walk_at "ob"
      by_cases h1 : 0 ≤ n ∧ n ≤ 1000000000000
      · rw [decide_eq_true h1] at k ⊢
        repeat walk_at "ob"
        exact ⟨rfl, _, _, p, y, wk, m, rfl, S1, hd, hm, fun H' S' => k _ S'.drop⟩
      · rw [decide_eq_false h1] at k ⊢
        repeat walk_at "ob"
        exact k _ S1.drop
    | b b =>
      cases hf
      repeat walk_at "ob"
      refine ⟨rfl, .bl b, _, _, rfl, .inl (.inr ⟨b, rfl⟩), ?_⟩
      unfold inW
      repeat walk_at "ob"
      exact k _ S1.drop
    | t l =>
      obtain ⟨⟨a, rfl⟩, hdl, _⟩ := hf
      repeat walk_at "ob"
      refine ⟨rfl, .ref a, _, _, rfl, .inr (ni_tup (sqt_ints hdl)), ?_⟩
      unfold inW
      repeat walk_at "ob"
      exact k _ S1.drop
def sp_shows_least (K : Frag) : Sp := fun vs H Q E => vs.length = 3 ∧ ∃ (F : List (Addr × HO)) (G : List Ft) (p : Addr) (v : V) (wk : Work) (nv : Nv) (c t : Int), vs = [.ref p, .int c, v] ∧ Sy K F G H ∧ L2.Dp K H (.ref p) (workD wk) ∧ WkOk wk ∧ 0 ≤ c ∧ c ≤ 100 ∧ Least (MkOk wk) (pw wk c) t ∧
  (∀ H', Sy K F G H' → NvV K H' v nv) ∧ ∀ H', Sy K F G H' → Q (.bl (shB wk t (fun ms => decide (t = pw wk c ms)) nv)) H'
abbrev names_shows_least : List Str := ["work", "cuts", "value", "least"]
theorem sc_shows_least : FnScope names_shows_least ["work", "cuts", "value"] (defScope (top 32)) := ⟨rfl, rfl, rfl, by decide +kernel, rfl, by decide +kernel, by decide +kernel⟩
set_option maxHeartbeats 4000000 in
theorem ok_shows_least (T : Tx K mg) : FG P w K mg base CX0 7 T.a_shows_least T.d_shows_least ["work", "cuts", "value"] (sp_shows_least K) := by
  refine OB.Fun.fg T.F_shows_least sc_shows_least (fun vs H Q E h => h.1) (fun cdv A out s H vs Q E g h => ?_)
  obtain ⟨_, F, G, p, v, wk, nv, c, t, rfl, S, hd, wo, c0, c1, lst, hv, k⟩ := h
  refine ⟨_, (pss_cons (ps_set (i := 3) sc_shows_least.nd rfl (by first | exact Or.inl rfl | exact Or.inr rfl) (pe_ix (ix_UK (K := K) rfl) (pe_cg (ok_least_worst T) (g.mono (by decide : 6 ≤ 6)) (by rfl) T.m_least_worst T.F_least_worst.kp (OB.Fun.bd T.F_least_worst (ps := ["work", "cuts"]) (n := 2) (ks := []) (ix := [0, 1]) (fun _ _ _ _ _ _ us ws h1 h2 => match us, ws, h1, h2 with | [_, _], [], _, _ => rfl)) pass0 (pa_cons (pv 0) (pa_cons (pv 1) pa_nil)) pk_nil) pe_int (fun _ _ => rfl)))
      (pss_one (ps_ret (pe_and (pe_cg (ok_is_told T) (g.mono (by decide : 5 ≤ 6)) (by rfl) T.m_is_told T.F_is_told.kp (OB.Fun.bd T.F_is_told (ps := ["work", "value"]) (n := 2) (ks := []) (ix := [0, 1]) (fun _ _ _ _ _ _ us ws h1 h2 => match us, ws, h1, h2 with | [_, _], [], _, _ => rfl)) pass0 (pa_cons (pv 0) (pa_cons (pv 2) pa_nil)) pk_nil) (pe_one (pe_chain op_eq op_eq (pe_ix (ix_UK (K := K) rfl) (pv 2) pe_int (fun _ _ => rfl)) (pv 3) (pe_cg (ok_worst_at T) (g.mono (by decide : 2 ≤ 6)) (by rfl) T.m_worst_at T.F_worst_at.kp (OB.Fun.bd T.F_worst_at (ps := ["work", "marks", "cuts"]) (n := 3) (ks := []) (ix := [0, 1, 2]) (fun _ _ _ _ _ _ us ws h1 h2 => match us, ws, h1, h2 with | [_, _, _], [], _, _ => rfl)) pass0 (pa_cons (pv 0) (pa_cons (pe_ix (ix_UK (K := K) rfl) (pv 2) pe_int (fun _ _ => rfl)) (pa_cons (pv 1) pa_nil))) pk_nil))))))), ?_⟩
  refine g_start (σ := [some _, some _, some _, none]) rfl ?_
  have S0 := S.add _ (dat_work hd)
  clear S
  repeat walk_at "ob"
  refine ⟨rfl, _, _, p, wk, c, rfl, S0, S0.dp 0 rfl, wo, c0, c1, fun ms1 q1 H1 ok1 lst1 S1 => ?_⟩
  clear S0
  obtain ⟨mq, _, hst⟩ := sqt_pair (S1.dp 0 rfl)
  obtain rfl : pw wk c ms1 = t := lst1.one lst
  have tb := bnd wo ok1 c0 c1
  have t0 : 0 ≤ pw wk c ms1 := tb.w0
  have t1 : pw wk c ms1 ≤ 1000000 := tb.w1
  clear tb
  generalize pw wk c ms1 = t at *
  repeat walk_at "ob"
  refine ⟨rfl, _, _, p, v, wk, nv, rfl, S1, S1.dp 1 rfl, hv _ S1.drop.drop, fun H2 S2 => ?_⟩
  clear S1 hst
  by_cases ht : toldB wk nv = true
  · rw [ht]
    obtain ⟨n, ms, rfl, ok⟩ := told_iff ht
    obtain ⟨q, x, y, rfl, hs, ⟨rfl, _⟩, ⟨q2, rfl, hd2, ml⟩⟩ := hv _ S2.drop.drop
    have S3 := (S2.add _ (dat_ints hd2)).add (.tq q [.int n, .ref q2]) hs
    rw [sh_i, mkB_iff.mpr ok, Bool.true_and] at k
    clear S2 ht
    repeat walk_at "ob"
    refine g_iteD (fun h1 => ?_) (fun h1 => ?_)
    · rw [decide_eq_true h1, Bool.true_and] at k
      repeat walk_at "ob"
      refine ⟨rfl, _, _, p, q2, wk, ms, c, rfl, S3, S3.dp 3 rfl, S3.dp 1 rfl, wo, ok, c0, c1, fun H4 S4 => ?_⟩
      repeat walk_at "ob"
      exact k _ S4.drop.drop.drop.drop
    · rw [decide_eq_false h1, Bool.false_and] at k
      repeat walk_at "ob"
      exact k _ S3.drop.drop.drop.drop
  · rw [sh_false t0 t1 ht] at k
    rw [Bool.eq_false_iff.mpr ht]
    repeat walk_at "ob"
    exact k _ S2.drop.drop
def sp_shows_regret (K : Frag) : Sp := fun vs H Q E => vs.length = 3 ∧ ∃ (F : List (Addr × HO)) (G : List Ft) (p : Addr) (v : V) (wk : Work) (nv : Nv) (c least t : Int), vs = [.ref p, .int c, v] ∧ Sy K F G H ∧ L2.Dp K H (.ref p) (workD wk) ∧ WkOk wk ∧ 0 ≤ c ∧ c ≤ 100 ∧ Least (MkOk wk) (pw wk c) least ∧ Least (MkOk wk) (rg wk c least) t ∧ 0 ≤ t ∧ t ≤ 1000000 ∧
  (∀ H', Sy K F G H' → NvV K H' v nv) ∧ ∀ H', Sy K F G H' → Q (.bl (shB wk t (fun ms => decide (t = rg wk c least ms)) nv)) H'
abbrev names_shows_regret : List Str := ["work", "cuts", "value", "told", "least"]
theorem sc_shows_regret : FnScope names_shows_regret ["work", "cuts", "value"] (defScope (top 35)) := ⟨rfl, rfl, rfl, by decide +kernel, rfl, by decide +kernel, by decide +kernel⟩
set_option maxHeartbeats 4000000 in
theorem ok_shows_regret (T : Tx K mg) : FG P w K mg base CX0 8 T.a_shows_regret T.d_shows_regret ["work", "cuts", "value"] (sp_shows_regret K) := by
  refine OB.Fun.fg T.F_shows_regret sc_shows_regret (fun vs H Q E h => h.1) (fun cdv A out s H vs Q E g h => ?_)
  obtain ⟨_, F, G, p, v, wk, nv, c, least, t, rfl, S, hd, wo, c0, c1, lst, rl, t0, t1, hv, k⟩ := h
  refine ⟨_, (pss_cons (ps_par (i := 3) (j := 4) rfl sc_shows_regret.nd rfl rfl (by decide) rfl rfl (pa_cons (pe_cg (ok_least_regret T) (g.mono (by decide : 7 ≤ 7)) (by rfl) T.m_least_regret T.F_least_regret.kp (OB.Fun.bd T.F_least_regret (ps := ["work", "cuts"]) (n := 2) (ks := []) (ix := [0, 1]) (fun _ _ _ _ _ _ us ws h1 h2 => match us, ws, h1, h2 with | [_, _], [], _, _ => rfl)) pass0 (pa_cons (pv 0) (pa_cons (pv 1) pa_nil)) pk_nil) (pa_cons (pe_ix (ix_UK (K := K) rfl) (pe_cg (ok_least_worst T) (g.mono (by decide : 6 ≤ 7)) (by rfl) T.m_least_worst T.F_least_worst.kp (OB.Fun.bd T.F_least_worst (ps := ["work", "cuts"]) (n := 2) (ks := []) (ix := [0, 1]) (fun _ _ _ _ _ _ us ws h1 h2 => match us, ws, h1, h2 with | [_, _], [], _, _ => rfl)) pass0 (pa_cons (pv 0) (pa_cons (pv 1) pa_nil)) pk_nil) pe_int (fun _ _ => rfl)) pa_nil)) (by rfl))
      (pss_one (ps_ret (pe_and (pe_cg (ok_is_told T) (g.mono (by decide : 5 ≤ 7)) (by rfl) T.m_is_told T.F_is_told.kp (OB.Fun.bd T.F_is_told (ps := ["work", "value"]) (n := 2) (ks := []) (ix := [0, 1]) (fun _ _ _ _ _ _ us ws h1 h2 => match us, ws, h1, h2 with | [_, _], [], _, _ => rfl)) pass0 (pa_cons (pv 0) (pa_cons (pv 2) pa_nil)) pk_nil) (pe_one (pe_chain op_eq op_eq (pe_ix (ix_UK (K := K) rfl) (pv 2) pe_int (fun _ _ => rfl)) (pe_ix (ix_UK (K := K) rfl) (pv 3) pe_int (fun _ _ => rfl)) (pe_cg (ok_regret_of T) (g.mono (by decide : 3 ≤ 7)) (by rfl) T.m_regret_of T.F_regret_of.kp (OB.Fun.bd T.F_regret_of (ps := ["work", "marks", "cuts", "least"]) (n := 4) (ks := []) (ix := [0, 1, 2, 3]) (fun _ _ _ _ _ _ us ws h1 h2 => match us, ws, h1, h2 with | [_, _, _, _], [], _, _ => rfl)) pass0 (pa_cons (pv 0) (pa_cons (pe_ix (ix_UK (K := K) rfl) (pv 2) pe_int (fun _ _ => rfl)) (pa_cons (pv 1) (pa_cons (pv 4) pa_nil)))) pk_nil))))))), ?_⟩
  refine g_start (σ := [some _, some _, some _, none, none]) rfl ?_
  have S0 := S.add _ (dat_work hd)
  clear S
  repeat walk_at "ob"
  refine ⟨rfl, _, _, p, wk, c, rfl, S0, S0.dp 0 rfl, wo, c0, c1, fun least1 ms1 q1 H1 ok1 lst1 rl1 S1 => ?_⟩
  clear S0
  obtain rfl : least1 = least := lst1.one lst
  obtain rfl : rg wk c least1 ms1 = t := rl1.one rl
  repeat walk_at "ob"
  refine ⟨rfl, _, _, p, wk, c, rfl, S1, S1.dp 1 rfl, wo, c0, c1, fun ms2 q2 H2 ok2 lst2 S2 => ?_⟩
  clear S1
  obtain ⟨mq2, _, hst2⟩ := sqt_pair (S2.dp 0 rfl)
  have e2 : pw wk c ms2 = least1 := lst2.one lst
  rw [e2] at hst2
  have S3 := (S2.add (.tq q2 [.int least1, mq2]) hst2)
  clear S2 hst2 e2
  repeat walk_at "ob"
  refine ⟨rfl, _, _, p, v, wk, nv, rfl, S3, S3.dp 3 rfl, hv _ S3.drop.drop.drop.drop, fun H4 S4 => ?_⟩
  clear S3
  obtain ⟨mq1, _, hst⟩ := sqt_pair (S4.dp 2 rfl)
  generalize rg wk c least1 ms1 = t at *
  have S5 := S4.add (.tq q1 [.int t, mq1]) hst
  clear S4 hst
  by_cases ht : toldB wk nv = true
  · rw [ht]
    obtain ⟨n, ms, rfl, ok⟩ := told_iff ht
    obtain ⟨q, x, y, rfl, hs, ⟨rfl, _⟩, ⟨q2, rfl, hd2, ml⟩⟩ := hv _ S5.drop.drop.drop.drop.drop
    have S6 := (S5.add _ (dat_ints hd2)).add (.tq q [.int n, .ref q2]) hs
    rw [sh_i, mkB_iff.mpr ok, Bool.true_and] at k
    clear S5 ht
    repeat walk_at "ob"
    refine g_iteD (fun h1 => ?_) (fun h1 => ?_)
    · rw [decide_eq_true h1, Bool.true_and] at k
      repeat walk_at "ob"
      refine ⟨rfl, _, _, p, q2, wk, ms, c, least1, rfl, S6, S6.dp 6 rfl, S6.dp 1 rfl, wo, ok, c0, c1, fun H7 S7 => ?_⟩
      repeat walk_at "ob"
      exact k _ S7.drop.drop.drop.drop.drop.drop.drop
    · rw [decide_eq_false h1, Bool.false_and] at k
      repeat walk_at "ob"
      exact k _ S6.drop.drop.drop.drop.drop.drop.drop
  · rw [sh_false t0 t1 ht] at k
    rw [Bool.eq_false_iff.mpr ht]
    repeat walk_at "ob"
    exact k _ S5.drop.drop.drop.drop.drop
def sp_shows_cheapest (K : Frag) : Sp := fun vs H Q E => vs.length = 3 ∧ ∃ (F : List (Addr × HO)) (G : List Ft) (p : Addr) (v : V) (wk : Work) (nv : Nv) (most : Int), vs = [.ref p, .int most, v] ∧ Sy K F G H ∧ L2.Dp K H (.ref p) (workD wk) ∧ WkOk wk ∧ 1 ≤ most ∧ most ≤ 1000000000 ∧
  (∀ H', Sy K F G H' → NvV K H' v nv) ∧ ((∀ ps k, ¬ Way wk most wk.l.length ps k) → ∀ H', Sy K F G H' → Q (.bl (decide (v = .non))) H') ∧ ∀ M, Cheap wk most M → ∀ H', Sy K F G H' → Q (.bl (shB wk (costM wk.c M) (fun ms => decide (costM wk.c ms = costM wk.c M) && decide (mx (wk.len ms) ≤ most)) nv)) H'
abbrev names_shows_cheapest : List Str := ["work", "most", "value", "told"]
theorem sc_shows_cheapest : FnScope names_shows_cheapest ["work", "most", "value"] (defScope (top 30)) := ⟨rfl, rfl, rfl, by decide +kernel, rfl, by decide +kernel, by decide +kernel⟩
set_option maxHeartbeats 4000000 in
theorem ok_shows_cheapest (T : Tx K mg) : FG P w K mg base CX0 7 T.a_shows_cheapest T.d_shows_cheapest ["work", "most", "value"] (sp_shows_cheapest K) := by
  refine OB.Fun.fg T.F_shows_cheapest sc_shows_cheapest (fun vs H Q E h => h.1) (fun cdv A out s H vs Q E g h => ?_)
  obtain ⟨_, F, G, p, v, wk, nv, most, rfl, S, hd, wo, m0, m1, hv, kn, ks⟩ := h
  refine ⟨_, (pss_cons (ps_set (i := 3) sc_shows_cheapest.nd rfl (by first | exact Or.inl rfl | exact Or.inr rfl) (pe_cg (ok_cheapest_marks T) (g.mono (by decide : 6 ≤ 6)) (by rfl) T.m_cheapest_marks T.F_cheapest_marks.kp (OB.Fun.bd T.F_cheapest_marks (ps := ["work", "most"]) (n := 2) (ks := []) (ix := [0, 1]) (fun _ _ _ _ _ _ us ws h1 h2 => match us, ws, h1, h2 with | [_, _], [], _, _ => rfl)) pass0 (pa_cons (pv 0) (pa_cons (pv 1) pa_nil)) pk_nil))
      (pss_cons (ps_if (pt_cmpR op_isN (pv 3) pe_non (nomark _)) (pss_one (ps_ret (pe_cmpR op_isN (pv 2) pe_non (nomark _)))) pss_nil)
      (pss_cons (ps_if (PW.pt (pw_or (pt_not (pt_val (pe_cg (ok_is_told T) (g.mono (by decide : 5 ≤ 6)) (by rfl) T.m_is_told T.F_is_told.kp (OB.Fun.bd T.F_is_told (ps := ["work", "value"]) (n := 2) (ks := []) (ix := [0, 1]) (fun _ _ _ _ _ _ us ws h1 h2 => match us, ws, h1, h2 with | [_, _], [], _, _ => rfl)) pass0 (pa_cons (pv 0) (pa_cons (pv 2) pa_nil)) pk_nil))) (pw_or1 (pt_cmpR op_ne (pe_ix (ix_UK (K := K) rfl) (pv 2) pe_int (fun _ _ => rfl)) (pe_ix (ix_UK (K := K) rfl) (pv 3) pe_int (fun _ _ => rfl)) (nomark _))))) (pss_one (ps_ret pe_bl)) pss_nil)
      (pss_one (ps_ret (pe_and (pe_cmpR op_eq (pe_cg (ok_cost_of T) (g.mono (by decide : 1 ≤ 6)) (by rfl) T.m_cost_of T.F_cost_of.kp (OB.Fun.bd T.F_cost_of (ps := ["work", "marks"]) (n := 2) (ks := []) (ix := [0, 1]) (fun _ _ _ _ _ _ us ws h1 h2 => match us, ws, h1, h2 with | [_, _], [], _, _ => rfl)) pass0 (pa_cons (pv 0) (pa_cons (pe_ix (ix_UK (K := K) rfl) (pv 2) pe_int (fun _ _ => rfl)) pa_nil)) pk_nil) (pe_ix (ix_UK (K := K) rfl) (pv 3) pe_int (fun _ _ => rfl)) (nomark _)) (pe_one (pe_cmpR op_le (pe_callB (toK (r := OB.rMaxU) (K := K) rfl (c_maxU rfl)) (by rfl) T.n_max (by decide +kernel) (pa_cons (pe_cg (ok_lengths_of T) (g.mono (by decide : 1 ≤ 6)) (by rfl) T.m_lengths_of T.F_lengths_of.kp (OB.Fun.bd T.F_lengths_of (ps := ["work", "marks"]) (n := 2) (ks := []) (ix := [0, 1]) (fun _ _ _ _ _ _ us ws h1 h2 => match us, ws, h1, h2 with | [_, _], [], _, _ => rfl)) pass0 (pa_cons (pv 0) (pa_cons (pe_ix (ix_UK (K := K) rfl) (pv 2) pe_int (fun _ _ => rfl)) pa_nil)) pk_nil) pa_nil)) (pv 1) (nomark _))))))))), ?_⟩
  refine g_start (σ := [some _, some _, some _, none]) rfl ?_
  have S0 := S.add _ (dat_work hd)
  clear S
  repeat walk_at "ob"
  refine ⟨rfl, _, _, p, wk, most, rfl, S0, S0.dp 0 rfl, wo, m0, m1, fun no H1 S1 => ?_, fun M q1 H1 ch S1 => ?_⟩
  · clear S0
    repeat walk_at "ob"
    refine ⟨rfl, ?_⟩
    rw [decide_eq_true (rfl : V.non = V.non)]
    repeat walk_at "ob"
    exact ⟨rfl, kn no _ S1.drop⟩
  · clear S0
    have k := ks M ch
    clear ks kn
    obtain ⟨mq, _, hst⟩ := sqt_pair (S1.dp 0 rfl)
    have tb := bnd wo ch.ok (c := 0) (by decide) (by decide)
    have t0 := tb.c0
    have t1 := tb.c1
    clear tb ch
    generalize costM wk.c M = t at *
    have S2 := S1.add (.tq q1 [.int t, mq]) hst
    clear S1 hst
    repeat walk_at "ob"
    refine ⟨rfl, ?_⟩
    rw [decide_eq_false (fun z => V.noConfusion z : ¬ V.ref q1 = V.non)]
    repeat walk_at "ob"
    refine ⟨rfl, _, _, p, v, wk, nv, rfl, S2, S2.dp 2 rfl, hv _ S2.drop.drop.drop, fun H3 S3 => ?_⟩
    clear S2
    by_cases ht : toldB wk nv = true
    · rw [ht]
      obtain ⟨n, ms, rfl, ok⟩ := told_iff ht
      obtain ⟨q, x, y, rfl, hs, ⟨rfl, _⟩, ⟨q2, rfl, hd2, ml⟩⟩ := hv _ S3.drop.drop.drop
      have S4 := (S3.add _ (dat_ints hd2)).add (.tq q [.int n, .ref q2]) hs
      rw [sh_i, mkB_iff.mpr ok, Bool.true_and] at k
      clear S3 ht
      have lk := Work.lok wo ok
      repeat walk_at "ob"
      refine g_iteD (fun h1 => ?_) (fun h1 => ?_)
      · rw [decide_eq_false h1, Bool.false_and] at k
        repeat walk_at "ob"
        exact k _ S4.drop.drop.drop.drop.drop
      · rw [decide_eq_true (Classical.not_not.mp h1), Bool.true_and] at k
        repeat walk_at "ob"
        refine ⟨rfl, _, _, p, q2, wk, ms, rfl, S4, S4.dp 4 rfl, S4.dp 1 rfl, wo, ok, fun H5 S5 => ?_⟩
        clear S4
        repeat walk_at "ob"
        refine g_iteD (fun h2 => ?_) (fun h2 => ?_)
        · rw [decide_eq_true h2, Bool.true_and] at k
          repeat walk_at "ob"
          refine ⟨rfl, _, _, p, q2, wk, ms, rfl, S5, S5.dp 4 rfl, S5.dp 1 rfl, wo, ok, fun lr H6 S6 => ?_⟩
          repeat walk_at "ob"
          refine g_maxUL (SqL.of (S6.at 0 rfl)) lk.pos fun m h3 h4 => ?_
          rw [mx_eq h3 h4 fun x hx => (lk.v1 x hx).1]
          repeat walk_at "ob"
          exact k _ S6.less.drop.drop.drop.drop.drop
        · rw [decide_eq_false h2, Bool.false_and] at k
          repeat walk_at "ob"
          exact k _ S5.drop.drop.drop.drop.drop
    · rw [sh_false t0 t1 ht] at k
      rw [Bool.eq_false_iff.mpr ht]
      repeat walk_at "ob"
      exact k _ S3.drop.drop.drop
end
end LAW

set_option Elab.async false
set_option linter.all false
set_option maxRecDepth 100000
namespace LAW
open PySem PySem.Spec PyProof.Rows L2 PySem.W OB
local macro_rules | `(tactic| walk_at "obc") => `(tactic| first
  | exact Or.inl ⟨by omega, by omega⟩
  | exact Or.inr ⟨by omega, by omega⟩
  | exact cdiv_ok (by omega) (by omega)
  | (show (0 : Int) < _; omega)
  | exact ⟨by omega, by decide⟩
  | exact ⟨by decide, by decide⟩)
local macro_rules | `(tactic| walk_at "obat") => `(tactic| first
  | exact Sy.at (by assumption) 0 rfl | exact Sy.at (by assumption) 1 rfl | exact Sy.at (by assumption) 2 rfl | exact Sy.at (by assumption) 3 rfl
  | exact Sy.at (by assumption) 4 rfl | exact Sy.at (by assumption) 5 rfl | exact Sy.at (by assumption) 6 rfl | exact Sy.at (by assumption) _ (by assumption) | exact Sy.at (by assumption) (_ + 1) (by assumption) | exact Sy.at (by assumption) (_ + 2) (by assumption))
local macro_rules | `(tactic| walk_at "obt") => `(tactic| first
  | exact Sy.tqs (by assumption) 0 rfl | exact Sy.tqs (by assumption) 1 rfl | exact Sy.tqs (by assumption) 2 rfl | exact Sy.tqs (by assumption) 3 rfl | exact Sy.tqs (by assumption) 4 rfl | exact Sy.tqs (by assumption) 5 rfl
  | exact Sy.tqs (by assumption) 6 rfl | exact Sy.tqs (by assumption) 7 rfl | assumption)
local macro_rules | `(tactic| walk_at "obl") => `(tactic| first
  | exact SqL.of (by walk_at "obat")
  | exact Sy.sq (by assumption) 0 rfl | exact Sy.sq (by assumption) 1 rfl | exact Sy.sq (by assumption) 2 rfl | exact Sy.sq (by assumption) 3 rfl | exact Sy.sq (by assumption) _ (by assumption))
local macro_rules | `(tactic| walk_at "obd") => `(tactic| first
  | exact Dp.int _ | exact Dp.bl _ | exact Dp.str _ | exact Dp.non
  | exact Sy.dp (by assumption) 0 rfl | exact Sy.dp (by assumption) 1 rfl | exact Sy.dp (by assumption) 2 rfl | exact Sy.dp (by assumption) 3 rfl
  | exact Sy.dp (by assumption) 4 rfl | exact Sy.dp (by assumption) 5 rfl | exact Sy.dp (by assumption) 6 rfl | exact Sy.dp (by assumption) 7 rfl
  | exact Sy.dp (by assumption) 8 rfl | exact Sy.dp (by assumption) 9 rfl | exact Sy.dp (by assumption) _ (by assumption) | assumption)
local macro_rules | `(tactic| walk_at "obds") => `(tactic| first
  | exact DpAll.nil
  | (refine' DpAll.cons ?ob1 ?ob2; (case ob1 => walk_at "obd"); (case ob2 => walk_at "obds"))
  | exact Sy.dps (by assumption) 0 rfl | exact Sy.dps (by assumption) 1 rfl | exact Sy.dps (by assumption) 2 rfl | exact Sy.dps (by assumption) 3 rfl | assumption)
local macro_rules | `(tactic| walk_at "obsc") => `(tactic| first
  | exact ScL.nil
  | ((first | refine' ScL.int ?obz | refine' ScL.str ?obz | refine' ScL.bl ?obz | refine' ScL.non ?obz); (case obz => walk_at "obsc")))
local macro_rules | `(tactic| walk_at "ob1") => `(tactic| first
  | ((with_reducible refine' g_var ?obh ?_); (case obh => rfl))
  | with_reducible refine g_c ?_
  | with_reducible refine g_nx ?_
  | with_reducible refine g_rt ?_
  | with_reducible refine g_bk ?_
  | with_reducible refine g_ct ?_
  | with_reducible refine g_op ?_
  | with_reducible refine g_I0 ?_
  | with_reducible refine g_test ?_
  | with_reducible refine g_bl ?_
  | with_reducible refine g_blx ?_
  | with_reducible refine g_B ?_
  | with_reducible refine g_seq ?_
  | with_reducible refine g_asg ?_
  | with_reducible refine g_name ?_
  | with_reducible refine g_ifS ?_
  | with_reducible refine g_ret ?_
  | with_reducible refine g_cb ?_
  | with_reducible refine g_cons ?_
  | with_reducible refine g_nil ?_
  | with_reducible refine g_int ?_
  | with_reducible refine g_intB ?_
  | with_reducible refine g_abs ?_
  | with_reducible refine g_max ?_
  | with_reducible refine g_min ?_
  | with_reducible refine g_un ?_
  | with_reducible refine g_U ?_
  | with_reducible refine g_eqI ?_
  | with_reducible refine g_neI ?_
  | with_reducible refine g_eqS ?_
  | with_reducible refine g_neS ?_
  | with_reducible refine g_tt ?_
  | with_reducible refine g_ff ?_
  | with_reducible refine g_next ?_
  | with_reducible refine g_drop ?_
  | with_reducible refine g_if ?_
  | with_reducible refine g_andV ?_
  | with_reducible refine g_orV ?_
  | with_reducible refine g_notV ?_
  | with_reducible refine g_and ?_
  | with_reducible refine g_or ?_
  | with_reducible refine g_not ?_
  | with_reducible refine g_yes ?_
  | with_reducible refine g_chain ?_
  | with_reducible refine g_cg ?_
  | with_reducible refine g_mg ?_
  | with_reducible refine g_kg ?_
  | with_reducible refine g_pg ?_
  | ((with_reducible refine' g_call ?obh ?obj ?_); (case obh => rfl); (case obj => rfl))
  | with_reducible refine g_par ?_
  | with_reducible refine g_par2 ?_
  | with_reducible refine g_par3 ?_
  | with_reducible refine g_par33 ?_
  | with_reducible refine g_gnil ?_
  | with_reducible refine g_gcons ?_
  | with_reducible refine g_gsub ?_
  | with_reducible refine g_ipI ?_
  | with_reducible refine g_rAdd ?_
  | with_reducible refine g_rSub ?_
  | ((with_reducible refine' g_aug ?obh ?_); (case obh => rfl))
  | with_reducible refine g_tup ?_
  | with_reducible refine g_lst ?_
  | with_reducible refine g_bm ?_
  | with_reducible refine g_bm0 ?_
  | with_reducible refine g_sl ?_
  | with_reducible refine g_nopart ?_
  | with_reducible refine g_part ?_
  | with_reducible refine g_pint ?_
  | with_reducible refine isi_int ?_
  | with_reducible refine isi_intB ?_
  | ((with_reducible refine' g_I ?obh ?_); (case obh => walk_at "obc"))
  | ((with_reducible refine' g_tyl ?obh ?_); (case obh => walk_at "obl"))
  | ((with_reducible refine' g_lenL ?obh ?_); (case obh => walk_at "obl"))
  | with_reducible refine g_ne ?_
  | ((with_reducible refine' g_neN' ?obh ?_); (case obh => rfl))
  | with_reducible refine g_ntt ?_
  | with_reducible refine g_nff ?_
  | with_reducible refine g_star ?_
  | with_reducible refine g_att ?_
  | with_reducible refine g_sfld ?_
  | with_reducible refine g_faug ?_
  | with_reducible refine g_fld ?_
  | ((with_reducible refine' g_nF ?obh ?_); (case obh => omega))
  | ((with_reducible refine' g_nT ?obh ?_); (case obh => omega))
  | ((with_reducible refine' g_TD ?obh ?_); (case obh => omega))
  | ((with_reducible refine' g_FD ?obh ?_); (case obh => omega))
  | ((with_reducible refine' g_ixUL ?obh ?obi ?_); (case obh => walk_at "obl"); (case obi => exact atI_nn (by omega) (by rfl)))
  | ((with_reducible refine' g_setLS ?obs ?obh ?obi ?_); (case obs => assumption); (case obh => assumption); (case obi => rfl); intro _ _ _)
  | ((with_reducible refine' g_newT ?obs ?obh ?obi ?obj ?_); (case obs => assumption); (case obh => walk_at "obds"); (case obi => rfl); (case obj => exact Nat.le_of_ble_eq_true rfl); intro _ _ _ _)
  | ((with_reducible refine' g_newL ?obs ?obj ?_); (case obs => assumption); (case obj => exact Nat.le_of_ble_eq_true rfl); intro _ _ _ _)
  | ((with_reducible refine' isi_tup ?obh ?_); (case obh => walk_at "obt"))
  | ((with_reducible refine' g_lenT ?obh ?_); (case obh => walk_at "obt"))
  | ((with_reducible refine' g_unpT ?obh ?obi ?_); (case obh => walk_at "obt"); (case obi => rfl))
  | ((with_reducible refine' g_divmod ?obs ?obh ?_); (case obs => assumption); (case obh => exact cdivp_ok (by omega) (by omega) (by omega)); intro _ _ _ _)
  | ((with_reducible refine' g_unpD ?obh ?obi ?obj ?_); (case obh => walk_at "obd"); (case obi => walk_at "obsc"); (case obj => rfl))
  | with_reducible refine g_att ?_)
local macro_rules | `(tactic| walk_at "ob") => `(tactic| first
  | walk_at "ob1"
  | refine use_is_integer ?_
  | refine use_is_within ?_
  | with_reducible refine g_lstRg ?_
  | with_reducible refine g_rg1 ?_
  | with_reducible refine g_rg2 ?_
  | with_reducible refine g_tTru ?_
  | ((with_reducible refine' g_truL ?obh ?_); (case obh => walk_at "obl"))
  | ((with_reducible refine' g_ixUT ?obh ?obi ?_); (case obh => walk_at "obt"); (case obi => rfl))
  | with_reducible refine g_forZ ?_
  | with_reducible refine g_forR2 ?_
  | with_reducible refine g_forE ?_
  | with_reducible refine g_lcZ ?_)
section
variable {P : Program} {w : World} {K : Frag} {mg : Str → Option Value} {base : Heap}
theorem Sy.perm {F F2 : List (Addr × HO)} {G : List Ft} {H : Hp} (S : Sy K F G H) (h : F.Perm F2) : Sy K F2 G H := ⟨fun q hq => S.st q (h.mem_iff.mpr hq), (h.map _).nodup_iff.mp S.nd, S.ft⟩
theorem nt_int {H : Hp} {n : Int} : NT K H (.int n) := fun Q k => ⟨_, _, _, _, false, rfl, .ty "tuple", .base (.int n), kit_ty (by decide +kernel), k⟩
/-- data that is near to a pair -/
def CN (d : PyData) : Prop := ∃ nv, ∀ (K : Frag) (H : Hp) (v : V), L2.Dp K H v d → NvV K H v nv
theorem dp_bl {H : Hp} {v : V} {b : Bool} (h : L2.Dp K H v (.bool b)) : v = .bl b := by
  cases h
  rfl
theorem cn_non : CN .none := ⟨.nt, fun K H v h => by cases h; exact nt_non⟩
theorem cn_int {n : Int} : CN (.int n) := ⟨.nt, fun K H v h => by cases dp_int h; exact nt_int⟩
theorem cn_odd {ds : List PyData} (h : ds.length ≠ 2) : CN (.tuple ds) := ⟨.odd, fun K H v hd => by
  obtain ⟨a, xs, rfl, hs, hx⟩ := dp_tuple hd
  exact ⟨a, xs, rfl, hs, by rw [dps_length hx]; exact h⟩⟩
theorem fsv {f : Fs} (h : match f with | .i n => n.natAbs < 10 ^ 60 | .b _ => True | .t l => Small 1000 1 (intsD l)) {H : Hp} {x : V} (hd : L2.Dp K H x f.d) : FsV K H x f := by
  cases f with
  | i n => exact ⟨dp_int hd, h⟩
  | b b => exact dp_bl hd
  | t l =>
    obtain ⟨a, _, rfl, _⟩ := dp_at (show L2.Dp K H x (.tuple _) from hd)
    exact ⟨⟨a, rfl⟩, hd, h⟩
theorem cn_pair {f : Fs} (h : match f with | .i n => n.natAbs < 10 ^ 60 | .b _ => True | .t l => Small 1000 1 (intsD l)) {m : Mk} {d : PyData} (hm : ∀ (K : Frag) (H : Hp) (v : V), L2.Dp K H v d → MkV K H v m) : CN (.tuple [f.d, d]) := ⟨.pr f m, fun K H v hd => by
  obtain ⟨a, xs, rfl, hs, hx⟩ := dp_tuple hd
  cases hx with
  | cons h1 hx =>
    cases hx with
    | cons h2 hx =>
      cases hx
      exact ⟨a, _, _, rfl, hs, fsv h h1, hm K H _ h2⟩⟩
theorem mk_ints {l : List Int} (h : l.length ≤ 1000) : ∀ (K : Frag) (H : Hp) (v : V), L2.Dp K H v (intsD l) → MkV K H v (.ns l) := fun K H v hd => by
  obtain ⟨a, _, rfl, _⟩ := dp_at (show L2.Dp K H v (.tuple _) from hd)
  exact ⟨a, rfl, hd, h⟩
theorem mk_bl {b : Bool} : ∀ (K : Frag) (H : Hp) (v : V), L2.Dp K H v (.tuple [.bool b]) → MkV K H v (.bl b) := fun K H v hd => by
  obtain ⟨a, xs, rfl, hs, hx⟩ := dp_tuple hd
  cases hx with
  | cons h1 hx =>
    cases hx
    cases dp_bl h1
    exact ⟨a, rfl, hs⟩
theorem mk_non : ∀ (K : Frag) (H : Hp) (v : V), L2.Dp K H v .none → MkV K H v .nt := fun K H v h => by cases h; exact nt_non
theorem mk_int {n : Int} : ∀ (K : Frag) (H : Hp) (v : V), L2.Dp K H v (.int n) → MkV K H v .nt := fun K H v h => by cases dp_int h; exact nt_int
theorem cn_dps {H : Hp} : ∀ {vs : List V} {ds : List PyData}, DpAll K H vs ds → (∀ d ∈ ds, CN d) → ∀ v ∈ vs, ∃ d, d ∈ ds ∧ L2.Dp K H v d
  | _, _, .nil, _ => fun v hv => nomatch hv
  | _, _, .cons h t, c => fun v hv => by
    rcases List.mem_cons.mp hv with rfl | hv
    · exact ⟨_, List.mem_cons_self .., h⟩
    · obtain ⟨d, hd, h2⟩ := cn_dps t (fun d hd => c d (List.mem_cons_of_mem _ hd)) v hv
      exact ⟨d, List.mem_cons_of_mem _ hd, h2⟩
/-- all of them are near to a pair, wherever F and G stand -/
def Nr (K : Frag) (F : List (Addr × HO)) (G : List Ft) (vs : List V) : Prop := ∀ v ∈ vs, ∃ nv, ∀ H, Sy K F G H → NvV K H v nv
theorem Nr.mono {F F2 : List (Addr × HO)} {G G2 : List Ft} {vs : List V} (n : Nr K F G vs) (h : ∀ H, Sy K F2 G2 H → Sy K F G H) : Nr K F2 G2 vs := fun v hv => by
  obtain ⟨nv, q⟩ := n v hv
  exact ⟨nv, fun H S => q H (h H S)⟩
theorem Nr.append {F : List (Addr × HO)} {G : List Ft} {vs ws : List V} (n : Nr K F G vs) (m : Nr K F G ws) : Nr K F G (vs ++ ws) := fun v hv => by
  rcases List.mem_append.mp hv with hv | hv
  · exact n v hv
  · exact m v hv
theorem Nr.dat {F : List (Addr × HO)} {G : List Ft} {vs : List V} {ds : List PyData} {i : Nat} (h : G[i]? = some (.dat vs ds)) (c : ∀ d ∈ ds, CN d) (hl : vs.length = ds.length) : Nr K F G vs := fun v hv => by
  obtain ⟨j, hj⟩ := List.getElem?_of_mem hv
  have jl := (List.getElem?_eq_some_iff.mp hj).1
  obtain ⟨nv, q⟩ := c ds[j] (List.getElem_mem (by omega))
  refine ⟨nv, fun H S => ?_⟩
  obtain ⟨d, hd, hv2⟩ := dps_get (S.dps i h) hj
  rw [List.getElem?_eq_getElem (by omega)] at hd
  cases hd
  exact q K H v hv2
theorem g_slLs {F : List (Addr × HO)} {G : List Ft} {H : Hp} {Q : VK} {l : Addr} {vs : List V} {lo hi : Option Int} (S : Sy K F G H) (h : SqL K H l vs) (k : ∀ p H', Sy K ((p, .lst (cutV vs lo hi)) :: F) G H' → Q (.ref p) H') : rSlU K (.ref l) lo hi H Q := .inr ⟨l, vs, rfl, h, fun p hp => k p _ (S.push hp)⟩
theorem cut_mem {vs : List V} {lo hi : Option Int} {i : Nat} {x : V} (h : (cutV vs lo hi)[i]? = some x) : x ∈ vs := by
  have := List.mem_of_getElem? h
  unfold cutV at this
  exact List.mem_of_mem_drop (List.mem_of_mem_take this)
theorem atI_m1 {xs : List V} (h : 0 < xs.length) : ∃ (i : Nat) (x : V), xs[i]? = some x ∧ atI xs (-1) = some x := by
  refine ⟨xs.length - 1, xs[xs.length - 1], List.getElem?_eq_getElem (by omega), ?_⟩
  unfold atI ixN
  rw [if_neg (by decide), if_pos (by omega)]
  show xs[(-1 + (xs.length : Int)).toNat]? = _
  rw [show (-1 + (xs.length : Int)).toNat = xs.length - 1 by omega]
  exact List.getElem?_eq_getElem (by omega)
structure NSt (K : Frag) (F : List (Addr × HO)) (G : List Ft) (mr : Addr) (mv : List V) (F1 : List (Addr × HO)) (G1 : List Ft) (V0 : List V) : Prop where
  nr : Nr K F1 G1 V0
  bk : ∀ H, Sy K F1 G1 H → Sy K F G H
  mr : ∀ H, Sy K F1 G1 H → H mr = some (.lst mv)
  sub : ∀ x ∈ F, x ∈ F1
theorem NSt.more {F : List (Addr × HO)} {G : List Ft} {mr : Addr} {mv : List V} {F1 F2 : List (Addr × HO)} {G1 G2 : List Ft} {V0 V1 : List V} (n : NSt K F G mr mv F1 G1 V0) (h : ∀ H, Sy K F2 G2 H → Sy K F1 G1 H) (hs : ∀ x ∈ F1, x ∈ F2) (m : Nr K F2 G2 V1) : NSt K F G mr mv F2 G2 (V0 ++ V1) :=
  ⟨(n.nr.mono h).append m, fun H S => n.bk H (h H S), fun H S => n.mr H (h H S), fun x hx => hs x (n.sub x hx)⟩
theorem g_newTF {F : List (Addr × HO)} {G : List Ft} {H : Hp} {Q : VK} {vs : List V} (S : Sy K F G H) (hl : vs.length ≤ 100000) (k : ∀ p H', Sy K ((p, .tup vs) :: F) G H' → Q (.ref p) H') : rNewT vs H Q := ⟨Nat.le_trans hl (by decide), fun p hp => k p _ (S.push hp)⟩
def lastI (t : List Int) : List Int := t.drop (t.length - 1)
theorem g_slLast {F : List (Addr × HO)} {G : List Ft} {H : Hp} {Q : VK} {l : Addr} {t : List Int} (S : Sy K F G H) (h : L2.Dp K H (.ref l) (intsD t)) (k : ∀ p H', Sy K F (.dat [.ref p] [intsD (lastI t)] :: G) H' → Q (.ref p) H') : rSlU K (.ref l) (some (-1)) none H Q := by
  have hl : (t.map V.int).length = t.length := List.length_map ..
  have hi : HT.sIx (t.map V.int).length 0 (some (-1)) = t.length - 1 := by
    unfold HT.sIx
    rw [hl]
    simp
    omega
  refine .inl ⟨l, t.map V.int, rfl, sqt_ints h, fun z => ?_, fun _ p hp => ?_⟩
  · have z1 := z.1
    rw [hi] at z1
    have e : lastI t = t := by
      unfold lastI
      rw [z1]
      rfl
    have S2 := S.add _ (dat_ints h)
    rw [← e] at S2
    exact k l H S2
  · have e : cutV (t.map V.int) (some (-1)) none = (lastI t).map V.int := by
      unfold cutV lastI
      rw [hi, HT.sIx_none, hl, List.take_of_length_le (by rw [List.length_drop, hl]; exact Nat.le_refl _), List.map_drop]
    rw [e]
    exact k p _ (S.lay hp (dps_ints _) (ints_imm _))
def sp_law_near (K : Frag) : Sp := fun vs H Q E => vs.length = 2 ∧ ∃ (F : List (Addr × HO)) (G : List Ft) (p : Addr) (wk : Work) (n : Int), vs = [.ref p, .int n] ∧ Sy K F G H ∧ L2.Dp K H (.ref p) (workD wk) ∧ WkOk wk ∧ n.natAbs ≤ 2000000 ∧
  ∀ (r : Addr) (vs : List V) (F1 : List (Addr × HO)) (G1 : List Ft) (H' : Hp), vs.length ≤ 200 → Sy K ((r, .lst vs) :: F1) G1 H' → (∀ H'', Sy K F1 G1 H'' → Sy K F G H'') → (∀ x ∈ F, x ∈ F1) → (∀ v ∈ vs, ∃ nv, ∀ H'', Sy K F1 G1 H'' → NvV K H'' v nv) → Q (.ref r) H'
abbrev names_law_near : List Str := ["work", "number", "marks", "found", "some"]
theorem sc_law_near : FnScope names_law_near ["work", "number"] (defScope (top 50)) := ⟨rfl, rfl, rfl, by decide +kernel, rfl, by decide +kernel, by decide +kernel⟩
set_option maxHeartbeats 4000000 in
theorem ok_law_near (T : Tx K mg) : FG P w K mg base CX0 2 T.a_law_near T.d_law_near ["work", "number"] (sp_law_near K) := by
  refine OB.Fun.fg T.F_law_near sc_law_near (fun vs H Q E h => h.1) (fun cdv A out s H vs Q E g h => ?_)
  obtain ⟨_, F, G, p, wk, n, rfl, S, hd, wo, n1, k⟩ := h
  refine ⟨_, (pss_cons (ps_set (i := 2) sc_law_near.nd rfl (by first | exact Or.inl rfl | exact Or.inr rfl) (pe_cg (ok_law_all_marks T) (g.mono (by decide : 1 ≤ 1)) (by rfl) T.m_law_all_marks T.F_law_all_marks.kp (OB.Fun.bd T.F_law_all_marks (ps := ["work"]) (n := 1) (ks := []) (ix := [0]) (fun _ _ _ _ _ _ us ws h1 h2 => match us, ws, h1, h2 with | [_], [], _, _ => rfl)) pass0 (pa_cons (pv 0) pa_nil) pk_nil))
      (pss_cons (ps_set (i := 3) sc_law_near.nd rfl (by first | exact Or.inl rfl | exact Or.inr rfl) (pe_lst (pa_cons pe_non (pa_cons (pe_tup pa_nil) (pa_cons (pe_tup (pa_cons (pv 1) pa_nil)) (pa_cons (pe_lst (pa_cons (pv 1) (pa_cons (pe_tup pa_nil) pa_nil))) (pa_cons (pe_tup (pa_cons (pv 1) (pa_cons pe_non pa_nil))) (pa_cons (pe_tup (pa_cons pe_bl (pa_cons (pe_tup pa_nil) pa_nil))) (pa_cons (pe_tup (pa_cons (pe_op op_add (pv 1) pe_int) (pa_cons (pe_tup pa_nil) pa_nil))) (pa_cons (pe_tup (pa_cons (pe_op op_sub (pv 1) pe_int) (pa_cons (pe_tup pa_nil) pa_nil))) pa_nil))))))))))
      (pss_cons (ps_expr (pe_bm PySem.F.plainAttrs_list PySem.F.slot_list_append PySem.F.type_list_append mt_append (pv 3) (pa_cons (pe_tup (pa_cons (pv 1) (pa_cons (pe_tup pa_nil) (pa_cons (pe_tup pa_nil) pa_nil)))) pa_nil)))
      (pss_cons (ps_expr (pe_bm PySem.F.plainAttrs_list PySem.F.slot_list_extend PySem.F.type_list_extend mt_extend (pv 3) (pa_cons (pe_lc (own := [("some", 4)]) (tt := tYes) rfl sc_law_near.nd (pi_seq (pv 2)) (blkOk_by (N := names_law_near) (sc := defScope (top 50)) (own := [("some", 4)]) (by decide +kernel)) (fun _ _ _ _ _ => (pg_name (i := 4) sc_law_near.nd rfl (by first | exact Or.inl rfl | exact Or.inr rfl))) (fun _ _ _ _ _ => pts_nil) (fun _ _ _ _ _ => (pe_tup (pa_cons (pv 1) (pa_cons (pv 4) pa_nil))))) pa_nil)))
      (pss_cons (ps_expr (pe_bm PySem.F.plainAttrs_list PySem.F.slot_list_extend PySem.F.type_list_extend mt_extend (pv 3) (pa_cons (pe_lc (own := [("some", 4)]) (tt := tYes) rfl sc_law_near.nd (pi_seq (pe_slice (sl_UK (K := K) rfl) (pv 2) (po_some (pe_un un_neg pe_int)) po_none)) (blkOk_by (N := names_law_near) (sc := defScope (top 50)) (own := [("some", 4)]) (by decide +kernel)) (fun _ _ _ _ _ => (pg_name (i := 4) sc_law_near.nd rfl (by first | exact Or.inl rfl | exact Or.inr rfl))) (fun _ _ _ _ _ => pts_nil) (fun _ _ _ _ _ => (pe_tup (pa_cons (pv 1) (pa_cons (pe_callTy (toK (r := rList) (K := K) rfl c_list) (by rfl) T.n_list (by decide +kernel) (pa_cons (pv 4) pa_nil)) pa_nil))))) pa_nil)))
      (pss_cons (ps_expr (pe_bm PySem.F.plainAttrs_list PySem.F.slot_list_extend PySem.F.type_list_extend mt_extend (pv 3) (pa_cons (pe_lc (own := [("some", 4)]) (tt := tYes) rfl sc_law_near.nd (pi_seq (pe_slice (sl_UK (K := K) rfl) (pv 2) (po_some pe_int) (po_some pe_int))) (blkOk_by (N := names_law_near) (sc := defScope (top 50)) (own := [("some", 4)]) (by decide +kernel)) (fun _ _ _ _ _ => (pg_name (i := 4) sc_law_near.nd rfl (by first | exact Or.inl rfl | exact Or.inr rfl))) (fun _ _ _ _ _ => pts_nil) (fun _ _ _ _ _ => (pe_tup (pa_cons (pv 1) (pa_cons (pe_op (op_catAK (K := K) rfl) (pv 4) (pe_slice (sl_UK (K := K) rfl) (pv 4) (po_some (pe_un un_neg pe_int)) po_none)) pa_nil))))) pa_nil)))
      (pss_one (ps_ret (pe_op op_cat (pv 3) (pe_lst (pa_cons (pe_tup (pa_cons (pv 1) (pa_cons (pe_tup (pa_cons (pe_callB (toK (r := OB.rLen) (K := K) rfl c_len) (by rfl) T.n_len PySem.boot_len (pa_cons (pe_ix (ix_UK (K := K) rfl) (pv 0) pe_int (fun _ _ => rfl)) pa_nil)) pa_nil)) pa_nil))) (pa_cons (pe_tup (pa_cons (pv 1) (pa_cons (pe_tup (pa_cons (pe_un un_neg pe_int) pa_nil)) pa_nil))) (pa_cons (pe_tup (pa_cons (pv 1) (pa_cons (pe_tup (pa_cons pe_bl pa_nil)) pa_nil))) (pa_cons (pe_tup (pa_cons (pe_ix (ix_UK (K := K) rfl) (pv 2) (pe_un un_neg pe_int) (fun _ _ => rfl)) (pa_cons (pv 1) pa_nil))) (pa_cons pe_int pa_nil))))))))))))))), ?_⟩
  refine g_start (σ := [some _, some _, none, none, none]) rfl ?_
  have S0 := S.add _ (dat_work hd)
  clear S hd
  repeat walk_at "ob"
  refine ⟨rfl, _, _, p, wk, rfl, S0, S0.dp 0 rfl, wo, fun mr mv H1 mss hm hall m0 m8 S1 => ?_⟩
  have vl := dps_length (S1.dps 0 rfl)
  rw [List.length_map] at vl
  clear S0
  repeat walk_at "ob"
  rename_i e0 he0 ze0 Se0 s1 hs1 zs1 Ss1 e1 he1 ze1 Se1 l1 hl1 zl1 Sl1 sN hsN zsN SsN e2 he2 ze2 Se2 tT htT ztT StT e3 he3 ze3 Se3 nP hnP znP SnP e4 he4 ze4 Se4 nM hnM znM SnM fd hfd zfd Sfd e5 he5 ze5 Se5 e6 he6 ze6 Se6 o3 ho3 zo3 So3
  clear ze0 zs1 ze1 zl1 zsN ze2 ztT ze3 znP ze4 znM zfd ze5 ze6 zo3 Se0 Ss1 Se1 Sl1 SsN Se2 StT Se3 SnP Se4 SnM Sfd Se5 Se6
  have immT : immAll ([.none, .tuple [], .tuple [.int n], .tuple [.int n, .none], .tuple [.bool true, .tuple []], .tuple [.int (n + 1), .tuple []], .tuple [.int (n - 1), .tuple []], .tuple [.int n, .tuple [], .tuple []]] : List PyData) = true := rfl
  have S2 := (So3.fact (vs := [.non, .ref e0, .ref s1, .ref sN, .ref tT, .ref nP, .ref nM, .ref o3]) (ds := [.none, .tuple [], .tuple [.int n], .tuple [.int n, .none], .tuple [.bool true, .tuple []], .tuple [.int (n + 1), .tuple []], .tuple [.int (n - 1), .tuple []], .tuple [.int n, .tuple [], .tuple []]])
    (.cons L2.Dp.non (.cons (So3.dp 12 rfl) (.cons (So3.dp 11 rfl) (.cons (So3.dp 9 rfl) (.cons (So3.dp 7 rfl) (.cons (So3.dp 5 rfl) (.cons (So3.dp 3 rfl) (.cons (So3.dp 0 rfl) .nil)))))))) immT)
  have S3 : Sy K ((fd, .lst [.non, .ref e0, .ref s1, .ref l1, .ref sN, .ref tT, .ref nP, .ref nM]) :: (l1, .lst [.int n, .ref e1]) :: (mr, .lst mv) :: F)
    (.dat [.non, .ref e0, .ref s1, .ref sN, .ref tT, .ref nP, .ref nM, .ref o3] [.none, .tuple [], .tuple [.int n], .tuple [.int n, .none], .tuple [.bool true, .tuple []], .tuple [.int (n + 1), .tuple []], .tuple [.int (n - 1), .tuple []], .tuple [.int n, .tuple [], .tuple []]] :: .dat mv (mss.map intsD) :: .dat [.ref p] [workD wk] :: G) ho3 :=
    S2.facts fun g hg => by
      rcases List.mem_cons.mp hg with rfl | hg
      · exact List.mem_cons_self ..
      · exact List.mem_cons_of_mem _ (List.mem_append_right [_, _, _, _, _, _, _, _, _, _, _, _, _] hg)
  clear S2 So3
  have nsm : n.natAbs < 10 ^ 60 := by omega
  have N0 : Nr K ((l1, .lst [.int n, .ref e1]) :: (mr, .lst mv) :: F) (.dat [.non, .ref e0, .ref s1, .ref sN, .ref tT, .ref nP, .ref nM, .ref o3] [.none, .tuple [], .tuple [.int n], .tuple [.int n, .none], .tuple [.bool true, .tuple []], .tuple [.int (n + 1), .tuple []], .tuple [.int (n - 1), .tuple []], .tuple [.int n, .tuple [], .tuple []]] :: .dat mv (mss.map intsD) :: .dat [.ref p] [workD wk] :: G)
    ([.non, .ref e0, .ref s1, .ref l1, .ref sN, .ref tT, .ref nP, .ref nM] ++ [.ref o3]) := by
    have im := Nr.dat (K := K) (F := (l1, .lst [.int n, .ref e1]) :: (mr, .lst mv) :: F) (G := .dat [.non, .ref e0, .ref s1, .ref sN, .ref tT, .ref nP, .ref nM, .ref o3] [.none, .tuple [], .tuple [.int n], .tuple [.int n, .none], .tuple [.bool true, .tuple []], .tuple [.int (n + 1), .tuple []], .tuple [.int (n - 1), .tuple []], .tuple [.int n, .tuple [], .tuple []]] :: .dat mv (mss.map intsD) :: .dat [.ref p] [workD wk] :: G) (i := 0) rfl (fun d hd => by
      simp only [List.mem_cons, List.not_mem_nil, or_false] at hd
      rcases hd with rfl | rfl | rfl | rfl | rfl | rfl | rfl | rfl
      · exact cn_non
      · exact cn_odd (by show (0 : Nat) ≠ 2; decide)
      · exact cn_odd (by show (1 : Nat) ≠ 2; decide)
      · exact cn_pair (f := .i n) nsm mk_non
      · exact cn_pair (f := .b true) trivial (mk_ints (l := []) (by decide))
      · exact cn_pair (f := .i (n + 1)) (by show (n + 1).natAbs < 10 ^ 60; omega) (mk_ints (l := []) (by decide))
      · exact cn_pair (f := .i (n - 1)) (by show (n - 1).natAbs < 10 ^ 60; omega) (mk_ints (l := []) (by decide))
      · exact cn_odd (by show (3 : Nat) ≠ 2; decide)) rfl
    intro v hv
    by_cases c : v = .ref l1
    · subst c
      exact ⟨.nt, fun H S => nt_lst (S.at 0 rfl)⟩
    · refine im v ?_
      simp only [List.cons_append, List.nil_append, List.mem_cons, List.not_mem_nil, or_false] at hv ⊢
      rcases hv with h | h | h | h | h | h | h | h | h
      · exact .inl h
      · exact .inr (.inl h)
      · exact .inr (.inr (.inl h))
      · exact absurd h c
      · exact .inr (.inr (.inr (.inl h)))
      · exact .inr (.inr (.inr (.inr (.inl h))))
      · exact .inr (.inr (.inr (.inr (.inr (.inl h)))))
      · exact .inr (.inr (.inr (.inr (.inr (.inr (.inl h))))))
      · exact .inr (.inr (.inr (.inr (.inr (.inr (.inr h))))))
  refine g_appS S3 (f := 0) rfl (Nat.le_of_ble_eq_true rfl) fun H3 S4 => ?_
  clear S3
  have ab : ∃ (V0 : List V) (F1 : List (Addr × HO)) (G1 : List Ft), V0.length = 9 ∧ NSt K F (.dat mv (mss.map intsD) :: .dat [.ref p] [workD wk] :: G) mr mv F1 G1 V0 ∧ Sy K ((fd, .lst V0) :: F1) G1 H3 :=
    ⟨_, _, _, rfl, ⟨N0, fun H S => S.less.less.drop, fun H S => S.at 1 rfl, fun x hx => List.mem_cons_of_mem _ (List.mem_cons_of_mem _ hx)⟩, S4⟩
  obtain ⟨V0, F1, G1, v9, N1, S5⟩ := ab
  clear N0 S4 immT S1
  repeat walk_at "ob"
  refine g_lcS (a := mr) (xs := mv) true (fun j F' ds => F' = (fd, .lst V0) :: F1 ∧ ds = (mss.take j).map fun ms => .tuple [.int n, intsD ms]) S5 (fun Q' q => by walk_at "ob"; exact q) ⟨rfl, rfl⟩ (fun j F' ds H' hi S3 => SqL.of (N1.mr H' ((hi.1 ▸ S3).less))) (fun j F' ds hi => by
    rw [hi.2, List.length_map, List.length_take]; omega) ?_ ?_
  · intro i x hx Dc H6 F6 vs6 ds QE QR hi2 S6 kE kR
    obtain ⟨rfl, rfl⟩ := hi2
    obtain ⟨ms, hms, hds⟩ := dps_map ((N1.bk _ S6.less.less.drop).dps 0 rfl) hx
    obtain ⟨q, _, rfl, _⟩ := dp_at hds
    have S7 := S6.add _ (dat_ints hds)
    clear S5 S6
    repeat walk_at "ob"
    refine ⟨rfl, ?_⟩
    repeat walk_at "ob"
    refine g_newT (ds := [.int n, intsD ms]) S7 (.cons (L2.Dp.int _) (.cons (S7.dp 0 rfl) .nil)) (by show (immAll (ms.map .int) && true) = true; rw [ints_imm]; rfl) (Nat.le_of_ble_eq_true rfl) fun q9 H7 _ S8 => ?_
    refine kE _ (.tuple [.int n, intsD ms]) _ _ ⟨rfl, ?_⟩ S8.drop2
    rw [List.take_add_one, hms, List.map_append]
    rfl
  intro Dc H6 F6 vs2 ds hD6 hi2 S6
  obtain ⟨rfl, rfl⟩ := hi2
  rw [vl, List.take_length] at S6
  have vl2 := dps_length (S6.dps 0 rfl)
  rw [List.length_map] at vl2
  clear S5
  repeat walk_at "ob"
  refine g_extS S6 (f := 1) rfl (S6.at 0 rfl) (by omega) fun H7 S7 => ?_
  have ab : ∃ (V1 : List V) (G2 : List Ft), V1.length ≤ 17 ∧ NSt K F (.dat mv (mss.map intsD) :: .dat [.ref p] [workD wk] :: G) mr mv F1 G2 V1 ∧ Sy K ((fd, .lst V1) :: F1) G2 H7 :=
    ⟨V0 ++ vs2, _, by rw [List.length_append]; omega, N1.more (fun H S => S.drop) (fun x hx => hx) (Nr.dat (i := 0) rfl (fun d hd => by
      obtain ⟨ms, hm2, rfl⟩ := List.mem_map.mp hd
      exact cn_pair (f := .i n) nsm (mk_ints (by have := (hm ms hm2).2; omega))) (by rw [List.length_map]; exact vl2)), S7.less⟩
  obtain ⟨V1, G2, v17, N2, S8⟩ := ab
  clear N1 S6 S7 v9 vl2
  repeat walk_at "ob"
  refine g_lcE2 ?_
  repeat walk_at "ob"
  refine g_slLs S8 (SqL.of (N2.mr _ S8.less)) fun sl H8 S9 => ?_
  clear S8
  have cm : ∀ i x, (cutV mv (some (-2)) none)[i]? = some x → x ∈ mv := fun i x h => cut_mem h
  have cl : (cutV mv (some (-2)) none).length ≤ mv.length := cutV_length ..
  generalize cutV mv (some (-2)) none = cv at S9 cm cl
  refine g_lcV (a := sl) (xs := cv) (fun i F' vs => ∃ F2, F' = (fd, .lst V1) :: (sl, .lst cv) :: F2 ∧ NSt K F (.dat mv (mss.map intsD) :: .dat [.ref p] [workD wk] :: G) mr mv F2 G2 V1 ∧ Nr K F2 G2 vs ∧ vs.length = i ∧ i ≤ cv.length) S9.swap (fun Q' q => q) ⟨F1, rfl, N2, fun v hv => (nomatch hv), rfl, Nat.zero_le _⟩
    (fun i F' vs H' ⟨F2, e, _⟩ S3 => SqL.of ((e ▸ S3).at 1 rfl)) (fun i F' vs ⟨F2, _, _, _, e, e2⟩ => by omega) ?_ ?_
  · rintro i x hx Dc H9 F9 vs9 QE QR ⟨F2, rfl, N3, Nv9, e9, i9⟩ S10 kE kR
    have ix := (List.getElem?_eq_some_iff.mp hx).1
    obtain ⟨j, hj⟩ := List.getElem?_of_mem (cm i x hx)
    obtain ⟨ms, hms, hds⟩ := dps_map ((N3.bk _ S10.less.less.less).dps 0 rfl) hj
    obtain ⟨q, _, rfl, _⟩ := dp_at hds
    clear S9
    repeat walk_at "ob"
    refine ⟨rfl, ?_⟩
    repeat walk_at "ob"
    refine ⟨q, _, rfl, .inr (sqt_ints hds), fun lt hlt => ?_⟩
    have S11 := S10.push (o := .lst (ms.map V.int)) hlt
    clear S10
    repeat walk_at "ob"
    refine g_newTF S11 (Nat.le_of_ble_eq_true rfl) fun tp H10 S12 => ?_
    have S13 : Sy K ((Dc, .lst vs9) :: (fd, .lst V1) :: (sl, .lst cv) :: (tp, .tup [.int n, .ref lt]) :: (lt, .lst (ms.map V.int)) :: F2) G2 H10 :=
      Sy.perm S12 (List.perm_append_comm_assoc [(tp, HO.tup [.int n, .ref lt]), (lt, HO.lst (ms.map V.int))] [(Dc, HO.lst vs9), (fd, HO.lst V1), (sl, HO.lst cv)] F2)
    clear S11 S12
    have N4 : NSt K F (.dat mv (mss.map intsD) :: .dat [.ref p] [workD wk] :: G) mr mv ((tp, .tup [.int n, .ref lt]) :: (lt, .lst (ms.map V.int)) :: F2) G2 (V1 ++ []) := N3.more (fun H S => S.less.less) (fun x hx => List.mem_cons_of_mem _ (List.mem_cons_of_mem _ hx)) (fun v hv => nomatch hv)
    rw [List.append_nil] at N4
    refine kE (.ref tp) _ _ ⟨_, rfl, N4, (Nv9.mono fun H S => S.less.less).append fun v hv => ?_, by rw [List.length_append, List.length_singleton, e9], ix⟩ S13
    cases List.mem_singleton.mp hv
    exact ⟨.pr (.i n) .nt, fun H S => ⟨tp, .int n, .ref lt, rfl, .inl (.inl (S.at 0 rfl)), ⟨rfl, nsm⟩, nt_lst (S.at 1 rfl)⟩⟩
  rintro Dc H9 F9 vs9 hD ⟨F2, rfl, N3, Nv9, e9, i9⟩ S10
  clear S9
  repeat walk_at "ob"
  refine g_extS S10 (f := 1) rfl (S10.at 0 rfl) (by omega) fun H10 S11 => ?_
  have ab : ∃ (V2 : List V) (F3 : List (Addr × HO)), V2.length ≤ 25 ∧ NSt K F (.dat mv (mss.map intsD) :: .dat [.ref p] [workD wk] :: G) mr mv F3 G2 V2 ∧ Sy K ((fd, .lst V2) :: F3) G2 H10 :=
    ⟨V1 ++ vs9, _, by rw [List.length_append]; omega, N3.more (fun H S => S.less) (fun x hx => List.mem_cons_of_mem _ hx) (Nv9.mono fun H S => S.less), S11.less⟩
  obtain ⟨V2, F3, v25, N4, S12⟩ := ab
  clear N2 N3 S10 S11 Nv9 cm cl
  repeat walk_at "ob"
  refine g_lcE2 ?_
  repeat walk_at "ob"
  refine g_slLs S12 (SqL.of (N4.mr _ S12.less)) fun sl2 H11 S13 => ?_
  clear S12
  have cm : ∀ i x, (cutV mv (some 1) (some 3))[i]? = some x → x ∈ mv := fun i x h => cut_mem h
  have cl : (cutV mv (some 1) (some 3)).length ≤ mv.length := cutV_length ..
  generalize cutV mv (some 1) (some 3) = cv2 at S13 cm cl
  refine g_lcS (a := sl2) (xs := cv2) true (fun j F' ds => F' = (sl2, .lst cv2) :: (fd, .lst V2) :: F3 ∧ ds.length = j ∧ j ≤ cv2.length ∧ ∀ d ∈ ds, ∃ ms, ms ∈ mss ∧ d = .tuple [.int n, intsD (ms ++ lastI ms)]) S13 (fun Q' q => q) ⟨rfl, rfl, Nat.zero_le _, fun d hd => (nomatch hd)⟩ (fun j F' ds H' hi S3 => SqL.of ((hi.1 ▸ S3).at 0 rfl)) (fun j F' ds hi => by
    rw [hi.2.1]; omega) ?_ ?_
  · rintro i x hx Dc H12 F6 vs6 ds QE QR ⟨rfl, dl, di, hds6⟩ S14 kE kR
    have ix := (List.getElem?_eq_some_iff.mp hx).1
    obtain ⟨j, hj⟩ := List.getElem?_of_mem (cm i x hx)
    obtain ⟨ms, hms, hds⟩ := dps_map ((N4.bk _ S14.less.less.less.drop).dps 0 rfl) hj
    obtain ⟨q, _, rfl, _⟩ := dp_at hds
    have ml := (hm ms (List.mem_of_getElem? hms)).2
    have S15 := S14.add _ (dat_ints hds)
    have ll : (lastI ms).length ≤ ms.length := by
      unfold lastI
      rw [List.length_drop]
      omega
    clear S13 S14
    repeat walk_at "ob"
    refine ⟨rfl, ?_⟩
    repeat walk_at "ob"
    refine g_slLast S15 (S15.dp 0 rfl) fun s3 H13 S16 => ?_
    clear S15
    repeat walk_at "ob"
    refine g_catU (d1 := ms.map .int) (d2 := (lastI ms).map .int) S16 (S16.dp 1 rfl) (S16.dp 0 rfl) (ints_imm ms) (ints_imm _) (by rw [List.length_map, List.length_map]; omega) fun c1 H14 S17 => ?_
    have ec1 : PyData.tuple (ms.map .int ++ (lastI ms).map .int) = intsD (ms ++ lastI ms) := by
      unfold intsD
      rw [List.map_append]
    rw [ec1] at S17
    clear S16
    repeat walk_at "ob"
    refine g_newT (ds := [.int n, intsD (ms ++ lastI ms)]) S17 (.cons (L2.Dp.int _) (.cons (S17.dp 0 rfl) .nil)) (by show (immAll ((ms ++ lastI ms).map .int) && true) = true; rw [ints_imm]; rfl) (Nat.le_of_ble_eq_true rfl) fun q9 H7 _ S18 => ?_
    refine kE _ (.tuple [.int n, intsD (ms ++ lastI ms)]) _ _ ⟨rfl, by rw [List.length_append, List.length_singleton, dl], ix, fun d hd => ?_⟩ (S18.drop2.drop2.drop2)
    rcases List.mem_append.mp hd with hd | hd
    · exact hds6 d hd
    · exact ⟨ms, List.mem_of_getElem? hms, List.mem_singleton.mp hd⟩
  rintro Dc H12 F6 vs6 ds hD6 ⟨rfl, dl, di, hds6⟩ S14
  have vl6 := dps_length (S14.dps 0 rfl)
  clear S13
  repeat walk_at "ob"
  refine g_extS S14 (f := 2) rfl (S14.at 0 rfl) (by omega) fun H13 S15 => ?_
  have ab : ∃ (V3 : List V) (F4 : List (Addr × HO)) (G3 : List Ft), V3.length ≤ 33 ∧ NSt K F (.dat mv (mss.map intsD) :: .dat [.ref p] [workD wk] :: G) mr mv F4 G3 V3 ∧ Sy K ((fd, .lst V3) :: F4) G3 H13 := by
    refine ⟨V2 ++ vs6, F3, _, by rw [List.length_append]; omega, N4.more (fun H S => S.drop) (fun x hx => hx) (Nr.dat (i := 0) rfl (fun d hd => ?_) vl6), S15.less.less⟩
    obtain ⟨ms, hm2, rfl⟩ := hds6 d hd
    refine cn_pair (f := .i n) nsm (mk_ints ?_)
    have := (hm ms hm2).2
    rw [List.length_append]
    unfold lastI
    rw [List.length_drop]
    omega
  obtain ⟨V3, F4, G3, v33, N5, S16⟩ := ab
  clear N4 S14 S15 cm cl vl6 hds6
  have SB := N5.bk _ S16.less
  obtain ⟨lp, cp, S17⟩ := Sy.work S16 (SB.dp 1 rfl)
  have hc : (wk.c.map V.int).length = wk.c.length := List.length_map ..
  clear S16
  repeat walk_at "ob"
  refine g_lenT (sqt_ints (S17.dp 2 rfl)) ?_
  rw [hc]
  repeat walk_at "ob"
  rename_i a1 _ _ T1 a2 _ _ T2 a3 _ _ T3 a4 _ _ T4 a5 _ _ T5 a6 H14 _ T6
  clear T1 T2 T3 T4 T5 S17 SB
  obtain ⟨ix, x, hx, hxl⟩ := atI_m1 (xs := mv) (by omega)
  have SB := N5.bk _ T6.less.drop.drop.drop.drop.drop.drop.drop.drop.drop
  obtain ⟨ms, hms, hds⟩ := dps_map (SB.dps 0 rfl) hx
  obtain ⟨q, _, rfl, _⟩ := dp_at hds
  have T7 := T6.add _ (dat_ints hds)
  refine g_ixUL (v := .ref q) (SqL.of (N5.mr _ T6.less.drop.drop.drop.drop.drop.drop.drop.drop.drop)) hxl ?_
  clear T6 SB
  repeat walk_at "ob"
  refine g_newT (ds := [intsD ms, .int n]) T7 (.cons (T7.dp 0 rfl) (.cons (L2.Dp.int _) .nil)) (by show (immAll (ms.map .int) && true) = true; rw [ints_imm]; rfl) (Nat.le_of_ble_eq_true rfl) fun a7 H15 _ T8 => ?_
  clear T7
  repeat walk_at "ob"
  rename_i nl H16 _ T9
  clear T8
  refine g_cat (i := 1) (j := 0) T9 rfl rfl (by show V3.length + 5 ≤ 100000; omega) fun cl H17 T10 => ?_
  clear T9
  have ims : imm (intsD ms) = true := ints_imm ms
  have T11 := T10.fact (vs := [.ref a2, .ref a4, .ref a6, .ref a7, .int 0]) (ds := [.tuple [.int n, intsD [(wk.c.length : Int)]], .tuple [.int n, intsD [-1]], .tuple [.int n, .tuple [.bool false]], .tuple [intsD ms, .int n], .int 0])
    (.cons (T10.dp 6 rfl) (.cons (T10.dp 4 rfl) (.cons (T10.dp 2 rfl) (.cons (T10.dp 0 rfl) (.cons (L2.Dp.int _) .nil))))) (by
      show ((immAll (ms.map .int) && true) && true) = true
      rw [ints_imm]
      rfl)
  clear T10
  refine k cl _ _ _ H17 ?_ T11 (fun H S => (N5.bk H ?_).drop.drop) (fun x hx => List.mem_cons_of_mem _ (List.mem_cons_of_mem _ (N5.sub x hx))) ((N5.nr.mono fun H S => ?_).append (Nr.dat (i := 0) rfl (fun d hd => ?_) rfl))
  · rw [List.length_append]
    show V3.length + 5 ≤ 200
    omega
  · exact (Sy.less S.less).drop.drop.drop.drop.drop.drop.drop.drop.drop.drop.drop.drop
  · exact (Sy.less S.less).drop.drop.drop.drop.drop.drop.drop.drop.drop.drop.drop.drop
  · simp only [List.mem_cons, List.not_mem_nil, or_false] at hd
    have msm : Small 1000 1 (intsD ms) := (small_ints (l := ms) (n := 5) (fun x hx => by
      have := (hm ms (List.mem_of_getElem? hms)).1.mv x hx
      have := wo.cl
      have := wo.l1
      omega) (by have := (hm ms (List.mem_of_getElem? hms)).2; omega)).mono (by decide) (by decide)
    rcases hd with rfl | rfl | rfl | rfl | rfl
    · exact cn_pair (f := .i n) nsm (mk_ints (Nat.le_of_ble_eq_true rfl))
    · exact cn_pair (f := .i n) nsm (mk_ints (Nat.le_of_ble_eq_true rfl))
    · exact cn_pair (f := .i n) nsm mk_bl
    · exact cn_pair (f := .t ms) msm mk_int
    · exact cn_int
end
end LAW

set_option Elab.async false
set_option linter.all false
set_option maxRecDepth 100000
namespace LAW
open PySem PySem.Spec PyProof.Rows L2 PySem.W OB
local macro_rules | `(tactic| walk_at "obc") => `(tactic| first
  | exact Or.inl ⟨by omega, by omega⟩
  | exact Or.inr ⟨by omega, by omega⟩
  | exact cdiv_ok (by omega) (by omega)
  | (show (0 : Int) < _; omega)
  | exact ⟨by omega, by decide⟩
  | exact ⟨by decide, by decide⟩)
local macro_rules | `(tactic| walk_at "obat") => `(tactic| first
  | exact Sy.at (by assumption) 0 rfl | exact Sy.at (by assumption) 1 rfl | exact Sy.at (by assumption) 2 rfl | exact Sy.at (by assumption) 3 rfl
  | exact Sy.at (by assumption) 4 rfl | exact Sy.at (by assumption) 5 rfl | exact Sy.at (by assumption) 6 rfl | exact Sy.at (by assumption) _ (by assumption) | exact Sy.at (by assumption) (_ + 1) (by assumption) | exact Sy.at (by assumption) (_ + 2) (by assumption))
local macro_rules | `(tactic| walk_at "obt") => `(tactic| first
  | exact Sy.tqs (by assumption) 0 rfl | exact Sy.tqs (by assumption) 1 rfl | exact Sy.tqs (by assumption) 2 rfl | exact Sy.tqs (by assumption) 3 rfl | exact Sy.tqs (by assumption) 4 rfl | exact Sy.tqs (by assumption) 5 rfl
  | exact Sy.tqs (by assumption) 6 rfl | exact Sy.tqs (by assumption) 7 rfl | assumption)
local macro_rules | `(tactic| walk_at "obl") => `(tactic| first
  | exact SqL.of (by walk_at "obat")
  | exact Sy.sq (by assumption) 0 rfl | exact Sy.sq (by assumption) 1 rfl | exact Sy.sq (by assumption) 2 rfl | exact Sy.sq (by assumption) 3 rfl | exact Sy.sq (by assumption) _ (by assumption))
local macro_rules | `(tactic| walk_at "obd") => `(tactic| first
  | exact Dp.int _ | exact Dp.bl _ | exact Dp.str _ | exact Dp.non
  | exact Sy.dp (by assumption) 0 rfl | exact Sy.dp (by assumption) 1 rfl | exact Sy.dp (by assumption) 2 rfl | exact Sy.dp (by assumption) 3 rfl
  | exact Sy.dp (by assumption) 4 rfl | exact Sy.dp (by assumption) 5 rfl | exact Sy.dp (by assumption) 6 rfl | exact Sy.dp (by assumption) 7 rfl
  | exact Sy.dp (by assumption) 8 rfl | exact Sy.dp (by assumption) 9 rfl | exact Sy.dp (by assumption) _ (by assumption) | assumption)
local macro_rules | `(tactic| walk_at "obds") => `(tactic| first
  | exact DpAll.nil
  | (refine' DpAll.cons ?ob1 ?ob2; (case ob1 => walk_at "obd"); (case ob2 => walk_at "obds"))
  | exact Sy.dps (by assumption) 0 rfl | exact Sy.dps (by assumption) 1 rfl | exact Sy.dps (by assumption) 2 rfl | exact Sy.dps (by assumption) 3 rfl | assumption)
local macro_rules | `(tactic| walk_at "obsc") => `(tactic| first
  | exact ScL.nil
  | ((first | refine' ScL.int ?obz | refine' ScL.str ?obz | refine' ScL.bl ?obz | refine' ScL.non ?obz); (case obz => walk_at "obsc")))
local macro_rules | `(tactic| walk_at "ob1") => `(tactic| first
  | ((with_reducible refine' g_var ?obh ?_); (case obh => rfl))
  | with_reducible refine g_c ?_
  | with_reducible refine g_nx ?_
  | with_reducible refine g_rt ?_
  | with_reducible refine g_bk ?_
  | with_reducible refine g_ct ?_
  | with_reducible refine g_op ?_
  | with_reducible refine g_I0 ?_
  | with_reducible refine g_test ?_
  | with_reducible refine g_bl ?_
  | with_reducible refine g_blx ?_
  | with_reducible refine g_B ?_
  | with_reducible refine g_seq ?_
  | with_reducible refine g_asg ?_
  | with_reducible refine g_name ?_
  | with_reducible refine g_ifS ?_
  | with_reducible refine g_ret ?_
  | with_reducible refine g_cb ?_
  | with_reducible refine g_cons ?_
  | with_reducible refine g_nil ?_
  | with_reducible refine g_int ?_
  | with_reducible refine g_intB ?_
  | with_reducible refine g_abs ?_
  | with_reducible refine g_max ?_
  | with_reducible refine g_min ?_
  | with_reducible refine g_un ?_
  | with_reducible refine g_U ?_
  | with_reducible refine g_eqI ?_
  | with_reducible refine g_neI ?_
  | with_reducible refine g_eqS ?_
  | with_reducible refine g_neS ?_
  | with_reducible refine g_tt ?_
  | with_reducible refine g_ff ?_
  | with_reducible refine g_next ?_
  | with_reducible refine g_drop ?_
  | with_reducible refine g_if ?_
  | with_reducible refine g_andV ?_
  | with_reducible refine g_orV ?_
  | with_reducible refine g_notV ?_
  | with_reducible refine g_and ?_
  | with_reducible refine g_or ?_
  | with_reducible refine g_not ?_
  | with_reducible refine g_yes ?_
  | with_reducible refine g_chain ?_
  | with_reducible refine g_cg ?_
  | with_reducible refine g_mg ?_
  | with_reducible refine g_kg ?_
  | with_reducible refine g_pg ?_
  | ((with_reducible refine' g_call ?obh ?obj ?_); (case obh => rfl); (case obj => rfl))
  | with_reducible refine g_par ?_
  | with_reducible refine g_par2 ?_
  | with_reducible refine g_par3 ?_
  | with_reducible refine g_par33 ?_
  | with_reducible refine g_gnil ?_
  | with_reducible refine g_gcons ?_
  | with_reducible refine g_gsub ?_
  | with_reducible refine g_ipI ?_
  | with_reducible refine g_rAdd ?_
  | with_reducible refine g_rSub ?_
  | ((with_reducible refine' g_aug ?obh ?_); (case obh => rfl))
  | with_reducible refine g_tup ?_
  | with_reducible refine g_lst ?_
  | with_reducible refine g_bm ?_
  | with_reducible refine g_bm0 ?_
  | with_reducible refine g_sl ?_
  | with_reducible refine g_nopart ?_
  | with_reducible refine g_part ?_
  | with_reducible refine g_pint ?_
  | with_reducible refine isi_int ?_
  | with_reducible refine isi_intB ?_
  | ((with_reducible refine' g_I ?obh ?_); (case obh => walk_at "obc"))
  | ((with_reducible refine' g_tyl ?obh ?_); (case obh => walk_at "obl"))
  | ((with_reducible refine' g_lenL ?obh ?_); (case obh => walk_at "obl"))
  | with_reducible refine g_ne ?_
  | ((with_reducible refine' g_neN' ?obh ?_); (case obh => rfl))
  | with_reducible refine g_ntt ?_
  | with_reducible refine g_nff ?_
  | with_reducible refine g_star ?_
  | with_reducible refine g_att ?_
  | with_reducible refine g_sfld ?_
  | with_reducible refine g_faug ?_
  | with_reducible refine g_fld ?_
  | ((with_reducible refine' g_nF ?obh ?_); (case obh => omega))
  | ((with_reducible refine' g_nT ?obh ?_); (case obh => omega))
  | ((with_reducible refine' g_TD ?obh ?_); (case obh => omega))
  | ((with_reducible refine' g_FD ?obh ?_); (case obh => omega))
  | ((with_reducible refine' g_ixUL ?obh ?obi ?_); (case obh => walk_at "obl"); (case obi => exact atI_nn (by omega) (by rfl)))
  | ((with_reducible refine' g_setLS ?obs ?obh ?obi ?_); (case obs => assumption); (case obh => assumption); (case obi => rfl); intro _ _ _)
  | ((with_reducible refine' g_newT ?obs ?obh ?obi ?obj ?_); (case obs => assumption); (case obh => walk_at "obds"); (case obi => rfl); (case obj => exact Nat.le_of_ble_eq_true rfl); intro _ _ _ _)
  | ((with_reducible refine' g_newL ?obs ?obj ?_); (case obs => assumption); (case obj => exact Nat.le_of_ble_eq_true rfl); intro _ _ _ _)
  | ((with_reducible refine' isi_tup ?obh ?_); (case obh => walk_at "obt"))
  | ((with_reducible refine' g_lenT ?obh ?_); (case obh => walk_at "obt"))
  | ((with_reducible refine' g_unpT ?obh ?obi ?_); (case obh => walk_at "obt"); (case obi => rfl))
  | ((with_reducible refine' g_divmod ?obs ?obh ?_); (case obs => assumption); (case obh => exact cdivp_ok (by omega) (by omega) (by omega)); intro _ _ _ _)
  | ((with_reducible refine' g_unpD ?obh ?obi ?obj ?_); (case obh => walk_at "obd"); (case obi => walk_at "obsc"); (case obj => rfl))
  | with_reducible refine g_att ?_)
local macro_rules | `(tactic| walk_at "ob") => `(tactic| first
  | walk_at "ob1"
  | refine use_is_integer ?_
  | refine use_is_within ?_
  | with_reducible refine g_lstRg ?_
  | with_reducible refine g_rg1 ?_
  | with_reducible refine g_rg2 ?_
  | with_reducible refine g_tTru ?_
  | ((with_reducible refine' g_truL ?obh ?_); (case obh => walk_at "obl"))
  | ((with_reducible refine' g_ixUT ?obh ?obi ?_); (case obh => walk_at "obt"); (case obi => rfl))
  | with_reducible refine g_forZ ?_
  | with_reducible refine g_forR2 ?_
  | with_reducible refine g_forE ?_
  | with_reducible refine g_lcZ ?_)
section
variable {P : Program} {w : World} {K : Frag} {mg : Str → Option Value} {base : Heap}
theorem hu65 {k : Nat} {A : Around} (g : RG k A) : A.units + 65 < cLine := by
  have := g.rm.un
  omega
theorem mss_lay (mss : List (List Int)) : PyData.canLayAll0 (mss.map intsD) = true := by
  induction mss with
  | nil => rfl
  | cons m mss ih =>
    show (PyData.canLayAll0 (m.map .int) && PyData.canLayAll0 (mss.map intsD)) = true
    rw [ints_lay, ih]
    rfl
theorem mss_depth (mss : List (List Int)) : PyData.depthAll (mss.map intsD) ≤ 1 := by
  induction mss with
  | nil => exact Nat.zero_le _
  | cons m mss ih =>
    have e : PyData.depth (intsD m) = 1 := by
      show PyData.depthAll (m.map .int) + 1 = 1
      rw [ints_depth]
    show max (PyData.depth (intsD m)) (PyData.depthAll (mss.map intsD)) ≤ 1
    omega
theorem mss_shaped (mss : List (List Int)) : SeqAt.shaped (.list (mss.map intsD)) = true := by
  unfold SeqAt.shaped
  have h := mss_depth mss
  have e : PyData.depth (.list (mss.map intsD)) = PyData.depthAll (mss.map intsD) + 1 := rfl
  rw [decide_eq_true (by omega), Bool.and_true]
  exact mss_lay mss
theorem ints_shaped (m : List Int) : SeqAt.shaped (intsD m) = true := by
  unfold SeqAt.shaped
  have e : PyData.depth (intsD m) = PyData.depthAll (m.map .int) + 1 := rfl
  rw [decide_eq_true (by rw [e, ints_depth]; decide), Bool.and_true]
  exact ints_lay m
theorem ints_eqv {a b : List Int} : PyData.eqv (intsD a) (intsD b) = decide (a = b) := by
  induction a generalizing b with
  | nil => cases b <;> rfl
  | cons x a ih =>
    cases b with
    | nil => rfl
    | cons y b =>
      have e : PyData.eqv (intsD (x :: a)) (intsD (y :: b)) = (PyData.eqv (.int x) (.int y) && PyData.eqv (intsD a) (intsD b)) := by
        show PyData.eqv (.tuple (.int x :: a.map .int)) (.tuple (.int y :: b.map .int)) = (_ && PyData.eqv (.tuple (a.map .int)) (.tuple (b.map .int)))
        rw [PyData.eqv, PyData.eqv]
        rfl
      rw [e, ih]
      by_cases c1 : x = y <;> by_cases c2 : a = b <;> simp [c1, c2, PyData.eqv]
theorem any_in {mss : List (List Int)} {m : List Int} : ((mss.map intsD).any fun z => PyData.eqv z (intsD m)) = decide (m ∈ mss) := by
  induction mss with
  | nil => rfl
  | cons x mss ih =>
    rw [List.map_cons, List.any_cons, ih, ints_eqv]
    by_cases c1 : x = m
    · rw [decide_eq_true c1, Bool.true_or]
      exact (decide_eq_true (List.mem_cons.mpr (.inl c1.symm))).symm
    · rw [decide_eq_false c1, Bool.false_or]
      exact decide_eq_decide.mpr ⟨List.mem_cons_of_mem _, fun h => (List.mem_cons.mp h).elim (fun z => absurd z.symm c1) id⟩
/-- the least of ints that tell of marks -/
theorem least_in {mss : List (List Int)} {f : List Int → Int} {m : Int} (h : m ∈ mss.map f) (hle : ∀ x ∈ mss.map f, m ≤ x) : Least (· ∈ mss) f m := by
  obtain ⟨M, hM, rfl⟩ := List.mem_map.mp h
  exact ⟨⟨M, hM, rfl⟩, fun x hx => hle _ (List.mem_map.mpr ⟨x, hx, rfl⟩)⟩
theorem via {t : TE} {σ : L2.St} {H : Hp} {Q : VK} (R : V → Hp → Prop) (h : ∀ Q : VK, (∀ v H', R v H' → Q v H') → t σ H Q) (c : ∀ v H', R v H' → Q v H') : t σ H Q := h Q c
theorem viaS {t : TS} {D : Ends} {σ : L2.St} {H : Hp} (R : L2.St → Hp → Prop) (h : ∀ D' : Ends, (∀ σ' H', R σ' H' → D'.nx σ' H') → t D' σ H) (c : ∀ σ' H', R σ' H' → D.nx σ' H') : t D σ H := h D c
theorem atAnd {ta tb : TE} {σ : L2.St} {H : Hp} {Q : VK} (h : tAndV ta tb σ H Q) : tAndV ta tb σ H Q := h
theorem atIf {t : TT} {ta tb : TE} {σ : L2.St} {H : Hp} {Q : VK} (h : tIf t ta tb σ H Q) : tIf t ta tb σ H Q := h
theorem g_forE2 {tl : TE} {g : TG} {tb : TS} {D : Ends} {σ : L2.St} {H : Hp} (k : tl σ H fun x H1 => tFor (iSeq K (tC x)) g tb D σ H1) : tFor (iSeq K tl) g tb D σ H := k
theorem g_neD {x y : V} {H : Hp} {Q : VK} {d e : PyData} (h1 : L2.Dp K H x d) (h2 : L2.Dp K H y e) (s1 : SeqAt.shaped d = true) (s2 : SeqAt.shaped e = true) (k : Q (.bl (!PyData.eqv d e)) H) : rNeD K x y H Q := ⟨d, e, h1, h2, s1, s2, k⟩
def madeB (w : Work) (t : Int) : Nv → Bool
  | .pr f m => pairB t (.pr f m) && mkB w m
  | _ => false
theorem made_np {w : Work} {t : Int} {nv : Nv} (h : ¬ pairB t nv = true) : madeB w t nv = false := by
  rcases nv with _ | _ | ⟨f, m⟩
  · rfl
  · rfl
  · show (pairB t (.pr f m) && mkB w m) = false
    rw [Bool.eq_false_iff.mpr h]
    rfl
theorem pair_ok {t : Int} {nv : Nv} (h : pairB t nv = true) : ∃ m, nv = .pr (.i t) m := by
  rcases nv with _ | _ | ⟨f, m⟩
  · cases h
  · cases h
  · rcases f with n | b | l
    · have h : decide ((PyData.int n).shown = (PyData.int t).shown) = true := h
      rw [int_sh] at h
      exact ⟨m, by rw [of_decide_eq_true h]⟩
    · have h : decide ((PyData.bool b).shown = (PyData.int t).shown) = true := h
      rw [bl_sh] at h
      cases h
    · have h : decide ((PyData.tuple (l.map .int)).shown = (PyData.int t).shown) = true := h
      rw [tup_sh] at h
      cases h
theorem sh_np {w : Work} {t : Int} {f : List Int → Bool} {nv : Nv} (h : ¬ pairB t nv = true) : shB w t f nv = false := by
  rcases nv with _ | _ | ⟨g, m⟩
  · rfl
  · rfl
  · rcases g with n | b | l
    · rcases m with _ | b | ms
      · rfl
      · rfl
      · have h : ¬ decide ((PyData.int n).shown = (PyData.int t).shown) = true := h
        rw [int_sh, decide_eq_true_eq] at h
        rw [sh_i, decide_eq_false h, Bool.false_and, Bool.and_false]
    · rfl
    · rfl
theorem sh_nm {w : Work} {t : Int} {f : List Int → Bool} {m : Mk} (h : ¬ mkB w m = true) : shB w t f (.pr (.i t) m) = false := by
  rcases m with _ | b | ms
  · rfl
  · rfl
  · rw [sh_i, Bool.eq_false_iff.mpr h]
    rfl
theorem mk_ns {w : Work} {m : Mk} (h : mkB w m = true) : ∃ ms, m = .ns ms ∧ MkOk w ms := by
  rcases m with _ | b | ms
  · cases h
  · cases h
  · exact ⟨ms, rfl, mkB_iff.mp h⟩
theorem sh_y {w : Work} {t : Int} {f : List Int → Bool} {ms : List Int} (h : MkOk w ms) : shB w t f (.pr (.i t) (.ns ms)) = f ms := by
  rw [sh_i, mkB_iff.mpr h, decide_eq_true rfl, Bool.true_and, Bool.true_and]
theorem eqv_nil {fs : List (List Int)} : PyData.eqv (.list (fs.map intsD)) (.list []) = decide (fs = []) := by
  cases fs with
  | nil => rfl
  | cons f fs =>
    rw [decide_eq_false (fun z => nomatch z), PyData.eqv]
    exact SeqAt.eqvAll_other_length (by show (List.map intsD (f :: fs)).length ≠ 0; rw [List.length_map]; exact Nat.succ_ne_zero _)
theorem made_p {w : Work} {t : Int} {m : Mk} (h : pairB t (.pr (.i t) m) = true) : madeB w t (.pr (.i t) m) = mkB w m := by
  show (pairB t (.pr (.i t) m) && mkB w m) = mkB w m
  rw [h, Bool.true_and]
theorem made_ok {w : Work} {t : Int} {nv : Nv} (h : madeB w t nv = true) : ∃ ms, nv = .pr (.i t) (.ns ms) ∧ MkOk w ms := by
  by_cases hp : pairB t nv = true
  · obtain ⟨m, rfl⟩ := pair_ok hp
    rw [made_p hp] at h
    obtain ⟨ms, rfl, ok⟩ := mk_ns h
    exact ⟨ms, rfl, ok⟩
  · rw [made_np hp] at h
    cases h
theorem sh_nmade {w : Work} {t : Int} {f : List Int → Bool} {nv : Nv} (h : ¬ madeB w t nv = true) : shB w t f nv = false := by
  by_cases hp : pairB t nv = true
  · obtain ⟨m, rfl⟩ := pair_ok hp
    rw [made_p hp] at h
    exact sh_nm h
  · exact sh_np hp
def sp_law_right (K : Frag) : Sp := fun vs H Q E => vs.length = 1 ∧ ∃ (F : List (Addr × HO)) (G : List Ft) (p : Addr) (a b c : Int), vs = [.ref p] ∧ Sy K ((p, potO a b c) :: F) G H ∧ PotOk 0 a b c ∧ ∀ H', Sy K F G H' → Q (.bl true) H'
abbrev names_law_right : List Str := ["pot", "work", "cuts", "marks", "most", "least", "some", "times", "regret", "fine", "cost", "value", "is_made", "due"]
theorem sc_law_right : FnScope names_law_right ["pot"] (defScope (top 51)) := ⟨rfl, rfl, rfl, by decide +kernel, rfl, by decide +kernel, by decide +kernel⟩
set_option maxHeartbeats 4000000 in
theorem ok_law_right (T : Tx K mg) : FG P w K mg base CX0 9 T.a_law_right T.d_law_right ["pot"] (sp_law_right K) := by
  refine OB.Fun.fg T.F_law_right sc_law_right (fun vs H Q E h => h.1) (fun cdv A out s H vs Q E g h => ?_)
  obtain ⟨_, F, G, p, a, b, c, rfl, S, po, k⟩ := h
  refine ⟨_, (pss_cons (ps_asg (pe_tup (pa_cons (pe_cg (ok_law_work T) (g.mono (by decide : 3 ≤ 8)) (by rfl) T.m_law_work T.F_law_work.kp (OB.Fun.bd T.F_law_work (ps := ["pot", "parts", "ticks"]) (n := 3) (ks := []) (ix := [0, 1, 2]) (fun _ _ _ _ _ _ us ws h1 h2 => match us, ws, h1, h2 with | [_, _, _], [], _, _ => rfl)) pass0 (pa_cons (pv 0) (pa_cons pe_int (pa_cons pe_int pa_nil))) pk_nil) (pa_cons (pe_callTy c_int (by rfl) T.n_int (by decide +kernel) (pa_cons (pe_cg (ok_law_take T) (g.mono (by decide : 1 ≤ 8)) (by rfl) T.m_law_take T.F_law_take.kp (OB.Fun.bd T.F_law_take (ps := ["pot", "upto"]) (n := 2) (ks := []) (ix := [0, 1]) (fun _ _ _ _ _ _ us ws h1 h2 => match us, ws, h1, h2 with | [_, _], [], _, _ => rfl)) pass0 (pa_cons (pv 0) (pa_cons pe_int pa_nil)) pk_nil) pa_nil)) pa_nil))) (pg_tupK (K := K) rfl (n := 2) rfl (pgs_cons (pg_name (i := 1) sc_law_right.nd rfl (by first | exact Or.inl rfl | exact Or.inr rfl)) (pgs_cons (pg_name (i := 2) sc_law_right.nd rfl (by first | exact Or.inl rfl | exact Or.inr rfl)) pgs_nil))))
      (pss_cons (ps_asg (pe_tup (pa_cons (pe_cg (ok_law_all_marks T) (g.mono (by decide : 1 ≤ 8)) (by rfl) T.m_law_all_marks T.F_law_all_marks.kp (OB.Fun.bd T.F_law_all_marks (ps := ["work"]) (n := 1) (ks := []) (ix := [0]) (fun _ _ _ _ _ _ us ws h1 h2 => match us, ws, h1, h2 with | [_], [], _, _ => rfl)) pass0 (pa_cons (pv 1) pa_nil) pk_nil) (pa_cons (pe_callTy c_int (by rfl) T.n_int (by decide +kernel) (pa_cons (pe_op op_add pe_int (pe_cg (ok_law_take T) (g.mono (by decide : 1 ≤ 8)) (by rfl) T.m_law_take T.F_law_take.kp (OB.Fun.bd T.F_law_take (ps := ["pot", "upto"]) (n := 2) (ks := []) (ix := [0, 1]) (fun _ _ _ _ _ _ us ws h1 h2 => match us, ws, h1, h2 with | [_, _], [], _, _ => rfl)) pass0 (pa_cons (pv 0) (pa_cons (pe_op op_add (pe_callB (toK (r := OB.rSumU) (K := K) rfl (c_sumU rfl)) (by rfl) T.n_sum (by decide +kernel) (pa_cons (pe_ix (ix_UK (K := K) rfl) (pv 1) pe_int (fun _ _ => rfl)) pa_nil)) pe_int) pa_nil)) pk_nil)) pa_nil)) pa_nil))) (pg_tupK (K := K) rfl (n := 2) rfl (pgs_cons (pg_name (i := 3) sc_law_right.nd rfl (by first | exact Or.inl rfl | exact Or.inr rfl)) (pgs_cons (pg_name (i := 4) sc_law_right.nd rfl (by first | exact Or.inl rfl | exact Or.inr rfl)) pgs_nil))))
      (pss_cons (ps_set (i := 5) sc_law_right.nd rfl (by first | exact Or.inl rfl | exact Or.inr rfl) (pe_callB (toK (r := OB.rMinD) (K := K) rfl (c_minD rfl g.hu64)) (by rfl) T.n_min (by decide +kernel) (pa_cons (pe_lc (own := [("some", 6)]) (tt := tYes) rfl sc_law_right.nd (pi_seq (pv 3)) (blkOk_by (N := names_law_right) (sc := defScope (top 51)) (own := [("some", 6)]) (by decide +kernel)) (fun _ _ _ _ _ => (pg_name (i := 6) sc_law_right.nd rfl (by first | exact Or.inl rfl | exact Or.inr rfl))) (fun _ _ _ _ _ => pts_nil) (fun _ _ _ _ _ => (pe_cg (ok_law_worst_ticks T) (g.mono (by decide : 2 ≤ 8)) (by rfl) T.m_law_worst_ticks T.F_law_worst_ticks.kp (OB.Fun.bd T.F_law_worst_ticks (ps := ["work", "marks", "cuts"]) (n := 3) (ks := []) (ix := [0, 1, 2]) (fun _ _ _ _ _ _ us ws h1 h2 => match us, ws, h1, h2 with | [_, _, _], [], _, _ => rfl)) pass0 (pa_cons (pv 1) (pa_cons (pv 6) (pa_cons (pv 2) pa_nil))) pk_nil))) pa_nil)))
      (pss_cons (ps_set (i := 7) sc_law_right.nd rfl (by first | exact Or.inl rfl | exact Or.inr rfl) (pe_cg (ok_law_least_times T) (g.mono (by decide : 3 ≤ 8)) (by rfl) T.m_law_least_times T.F_law_least_times.kp (OB.Fun.bd T.F_law_least_times (ps := ["work", "cuts"]) (n := 2) (ks := []) (ix := [0, 1]) (fun _ _ _ _ _ _ us ws h1 h2 => match us, ws, h1, h2 with | [_, _], [], _, _ => rfl)) pass0 (pa_cons (pv 1) (pa_cons (pv 2) pa_nil)) pk_nil))
      (pss_cons (ps_set (i := 8) sc_law_right.nd rfl (by first | exact Or.inl rfl | exact Or.inr rfl) (pe_callB (toK (r := OB.rMinD) (K := K) rfl (c_minD rfl g.hu64)) (by rfl) T.n_min (by decide +kernel) (pa_cons (pe_lc (own := [("some", 6)]) (tt := tYes) rfl sc_law_right.nd (pi_seq (pv 3)) (blkOk_by (N := names_law_right) (sc := defScope (top 51)) (own := [("some", 6)]) (by decide +kernel)) (fun _ _ _ _ _ => (pg_name (i := 6) sc_law_right.nd rfl (by first | exact Or.inl rfl | exact Or.inr rfl))) (fun _ _ _ _ _ => pts_nil) (fun _ _ _ _ _ => (pe_cg (ok_law_regret_by T) (g.mono (by decide : 3 ≤ 8)) (by rfl) T.m_law_regret_by T.F_law_regret_by.kp (OB.Fun.bd T.F_law_regret_by (ps := ["work", "marks", "times"]) (n := 3) (ks := []) (ix := [0, 1, 2]) (fun _ _ _ _ _ _ us ws h1 h2 => match us, ws, h1, h2 with | [_, _, _], [], _, _ => rfl)) pass0 (pa_cons (pv 1) (pa_cons (pv 6) (pa_cons (pv 7) pa_nil))) pk_nil))) pa_nil)))
      (pss_cons (ps_setLc (i := 9) (own := [("some", 6)]) rfl sc_law_right.nd rfl rfl (sw_true rfl rfl rfl (by decide +kernel)) (pi_seq (pv 3)) (blkOk_by (N := names_law_right) (sc := defScope (top 51)) (own := [("some", 6)]) (by decide +kernel)) (fun _ _ _ _ _ => (pg_name (i := 6) sc_law_right.nd rfl (by first | exact Or.inl rfl | exact Or.inr rfl))) (fun _ _ _ _ _ => pts_one (pt_cmpR op_le (pe_callB (toK (r := OB.rMaxU) (K := K) rfl (c_maxU rfl)) (by rfl) T.n_max (by decide +kernel) (pa_cons (pe_cg (ok_law_lengths T) (g.mono (by decide : 1 ≤ 8)) (by rfl) T.m_law_lengths T.F_law_lengths.kp (OB.Fun.bd T.F_law_lengths (ps := ["work", "marks"]) (n := 2) (ks := []) (ix := [0, 1]) (fun _ _ _ _ _ _ us ws h1 h2 => match us, ws, h1, h2 with | [_, _], [], _, _ => rfl)) pass0 (pa_cons (pv 1) (pa_cons (pv 6) pa_nil)) pk_nil) pa_nil)) (pv 4) (nomark _))) (fun _ _ _ _ _ => (pv 6)))
      (pss_cons (ps_set (i := 10) sc_law_right.nd rfl (by first | exact Or.inl rfl | exact Or.inr rfl) (pe_ifExp (pt_cmpR (op_neD g.hu64) (pv 9) (pe_lst pa_nil) (nomark _)) (pe_callB (toK (r := OB.rMinD) (K := K) rfl (c_minD rfl g.hu64)) (by rfl) T.n_min (by decide +kernel) (pa_cons (pe_lc (own := [("some", 6)]) (tt := tYes) rfl sc_law_right.nd (pi_seq (pv 9)) (blkOk_by (N := names_law_right) (sc := defScope (top 51)) (own := [("some", 6)]) (by decide +kernel)) (fun _ _ _ _ _ => (pg_name (i := 6) sc_law_right.nd rfl (by first | exact Or.inl rfl | exact Or.inr rfl))) (fun _ _ _ _ _ => pts_nil) (fun _ _ _ _ _ => (pe_cg (ok_law_cost T) (g.mono (by decide : 1 ≤ 8)) (by rfl) T.m_law_cost T.F_law_cost.kp (OB.Fun.bd T.F_law_cost (ps := ["work", "marks"]) (n := 2) (ks := []) (ix := [0, 1]) (fun _ _ _ _ _ _ us ws h1 h2 => match us, ws, h1, h2 with | [_, _], [], _, _ => rfl)) pass0 (pa_cons (pv 1) (pa_cons (pv 6) pa_nil)) pk_nil))) pa_nil)) pe_int))
      (pss_cons (ps_for PassesOwn.never rfl (pi_seq (pe_cg (ok_law_near T) (g.mono (by decide : 2 ≤ 8)) (by rfl) T.m_law_near T.F_law_near.kp (OB.Fun.bd T.F_law_near (ps := ["work", "number"]) (n := 2) (ks := []) (ix := [0, 1]) (fun _ _ _ _ _ _ us ws h1 h2 => match us, ws, h1, h2 with | [_, _], [], _, _ => rfl)) pass0 (pa_cons (pv 1) (pa_cons (pv 5) pa_nil)) pk_nil)) (pg_name (i := 11) sc_law_right.nd rfl (by first | exact Or.inl rfl | exact Or.inr rfl))
      (pss_cons (ps_set (i := 12) sc_law_right.nd rfl (by first | exact Or.inl rfl | exact Or.inr rfl) (pe_and (pe_cg (ok_law_is_pair T) (g.mono (by decide : 1 ≤ 8)) (by rfl) T.m_law_is_pair T.F_law_is_pair.kp (OB.Fun.bd T.F_law_is_pair (ps := ["value", "first"]) (n := 2) (ks := []) (ix := [0, 1]) (fun _ _ _ _ _ _ us ws h1 h2 => match us, ws, h1, h2 with | [_, _], [], _, _ => rfl)) pass0 (pa_cons (pv 11) (pa_cons (pv 5) pa_nil)) pk_nil) (pe_one (pe_cg (ok_law_are_marks T) (g.mono (by decide : 1 ≤ 8)) (by rfl) T.m_law_are_marks T.F_law_are_marks.kp (OB.Fun.bd T.F_law_are_marks (ps := ["work", "value"]) (n := 2) (ks := []) (ix := [0, 1]) (fun _ _ _ _ _ _ us ws h1 h2 => match us, ws, h1, h2 with | [_, _], [], _, _ => rfl)) pass0 (pa_cons (pv 1) (pa_cons (pe_ix (ix_UK (K := K) rfl) (pv 11) pe_int (fun _ _ => rfl)) pa_nil)) pk_nil))))
      (pss_cons (ps_set (i := 13) sc_law_right.nd rfl (by first | exact Or.inl rfl | exact Or.inr rfl) (pe_and (pv 12) (pe_one (pe_cmpR op_eq (pe_cg (ok_law_worst_ticks T) (g.mono (by decide : 2 ≤ 8)) (by rfl) T.m_law_worst_ticks T.F_law_worst_ticks.kp (OB.Fun.bd T.F_law_worst_ticks (ps := ["work", "marks", "cuts"]) (n := 3) (ks := []) (ix := [0, 1, 2]) (fun _ _ _ _ _ _ us ws h1 h2 => match us, ws, h1, h2 with | [_, _, _], [], _, _ => rfl)) pass0 (pa_cons (pv 1) (pa_cons (pe_ix (ix_UK (K := K) rfl) (pv 11) pe_int (fun _ _ => rfl)) (pa_cons (pv 2) pa_nil))) pk_nil) (pv 5) (nomark _)))))
      (pss_one (ps_if (pt_cmpR op_ne (pe_callB (toK (r := rRepr) (K := K) rfl (call_repr g)) (by rfl) T.n_repr (by decide +kernel) (pa_cons (pe_cg0 (ok_shows_least T) (g.mono (by decide : 7 ≤ 8)) (by rfl) T.m_shows_least T.F_shows_least.kp (OB.Fun.bd T.F_shows_least (ps := ["work", "cuts", "value"]) (n := 0) (ks := ["value", "cuts", "work"]) (ix := [2, 1, 0]) (fun _ _ _ _ _ _ us ws h1 h2 => match us, ws, h1, h2 with | [], [_, _, _], _, _ => rfl)) pass0 (pk_cons (pv 11) (pk_cons (pv 2) (pk_cons (pv 1) pk_nil)))) pa_nil)) (pe_callB (toK (r := rRepr) (K := K) rfl (call_repr g)) (by rfl) T.n_repr (by decide +kernel) (pa_cons (pv 13) pa_nil)) (nomark _)) (pss_one (ps_ret pe_bl)) pss_nil)))))
      (pss_cons (ps_for PassesOwn.never rfl (pi_seq (pe_cg (ok_law_near T) (g.mono (by decide : 2 ≤ 8)) (by rfl) T.m_law_near T.F_law_near.kp (OB.Fun.bd T.F_law_near (ps := ["work", "number"]) (n := 2) (ks := []) (ix := [0, 1]) (fun _ _ _ _ _ _ us ws h1 h2 => match us, ws, h1, h2 with | [_, _], [], _, _ => rfl)) pass0 (pa_cons (pv 1) (pa_cons (pv 8) pa_nil)) pk_nil)) (pg_name (i := 11) sc_law_right.nd rfl (by first | exact Or.inl rfl | exact Or.inr rfl))
      (pss_cons (ps_set (i := 12) sc_law_right.nd rfl (by first | exact Or.inl rfl | exact Or.inr rfl) (pe_and (pe_cg (ok_law_is_pair T) (g.mono (by decide : 1 ≤ 8)) (by rfl) T.m_law_is_pair T.F_law_is_pair.kp (OB.Fun.bd T.F_law_is_pair (ps := ["value", "first"]) (n := 2) (ks := []) (ix := [0, 1]) (fun _ _ _ _ _ _ us ws h1 h2 => match us, ws, h1, h2 with | [_, _], [], _, _ => rfl)) pass0 (pa_cons (pv 11) (pa_cons (pv 8) pa_nil)) pk_nil) (pe_one (pe_cg (ok_law_are_marks T) (g.mono (by decide : 1 ≤ 8)) (by rfl) T.m_law_are_marks T.F_law_are_marks.kp (OB.Fun.bd T.F_law_are_marks (ps := ["work", "value"]) (n := 2) (ks := []) (ix := [0, 1]) (fun _ _ _ _ _ _ us ws h1 h2 => match us, ws, h1, h2 with | [_, _], [], _, _ => rfl)) pass0 (pa_cons (pv 1) (pa_cons (pe_ix (ix_UK (K := K) rfl) (pv 11) pe_int (fun _ _ => rfl)) pa_nil)) pk_nil))))
      (pss_cons (ps_set (i := 13) sc_law_right.nd rfl (by first | exact Or.inl rfl | exact Or.inr rfl) (pe_and (pv 12) (pe_one (pe_cmpR op_eq (pe_cg (ok_law_regret_by T) (g.mono (by decide : 3 ≤ 8)) (by rfl) T.m_law_regret_by T.F_law_regret_by.kp (OB.Fun.bd T.F_law_regret_by (ps := ["work", "marks", "times"]) (n := 3) (ks := []) (ix := [0, 1, 2]) (fun _ _ _ _ _ _ us ws h1 h2 => match us, ws, h1, h2 with | [_, _, _], [], _, _ => rfl)) pass0 (pa_cons (pv 1) (pa_cons (pe_ix (ix_UK (K := K) rfl) (pv 11) pe_int (fun _ _ => rfl)) (pa_cons (pv 7) pa_nil))) pk_nil) (pv 8) (nomark _)))))
      (pss_one (ps_if (pt_cmpR op_ne (pe_callB (toK (r := rRepr) (K := K) rfl (call_repr g)) (by rfl) T.n_repr (by decide +kernel) (pa_cons (pe_cg0 (ok_shows_regret T) (g.mono (by decide : 8 ≤ 8)) (by rfl) T.m_shows_regret T.F_shows_regret.kp (OB.Fun.bd T.F_shows_regret (ps := ["work", "cuts", "value"]) (n := 0) (ks := ["value", "cuts", "work"]) (ix := [2, 1, 0]) (fun _ _ _ _ _ _ us ws h1 h2 => match us, ws, h1, h2 with | [], [_, _, _], _, _ => rfl)) pass0 (pk_cons (pv 11) (pk_cons (pv 2) (pk_cons (pv 1) pk_nil)))) pa_nil)) (pe_callB (toK (r := rRepr) (K := K) rfl (call_repr g)) (by rfl) T.n_repr (by decide +kernel) (pa_cons (pv 13) pa_nil)) (nomark _)) (pss_one (ps_ret pe_bl)) pss_nil)))))
      (pss_cons (ps_for PassesOwn.never rfl (pi_seq (pe_cg (ok_law_near T) (g.mono (by decide : 2 ≤ 8)) (by rfl) T.m_law_near T.F_law_near.kp (OB.Fun.bd T.F_law_near (ps := ["work", "number"]) (n := 2) (ks := []) (ix := [0, 1]) (fun _ _ _ _ _ _ us ws h1 h2 => match us, ws, h1, h2 with | [_, _], [], _, _ => rfl)) pass0 (pa_cons (pv 1) (pa_cons (pv 10) pa_nil)) pk_nil)) (pg_name (i := 11) sc_law_right.nd rfl (by first | exact Or.inl rfl | exact Or.inr rfl))
      (pss_cons (ps_set (i := 12) sc_law_right.nd rfl (by first | exact Or.inl rfl | exact Or.inr rfl) (pe_and (pe_cmpR (op_neD g.hu64) (pv 9) (pe_lst pa_nil) (nomark _)) (pe_and (pe_cg (ok_law_is_pair T) (g.mono (by decide : 1 ≤ 8)) (by rfl) T.m_law_is_pair T.F_law_is_pair.kp (OB.Fun.bd T.F_law_is_pair (ps := ["value", "first"]) (n := 2) (ks := []) (ix := [0, 1]) (fun _ _ _ _ _ _ us ws h1 h2 => match us, ws, h1, h2 with | [_, _], [], _, _ => rfl)) pass0 (pa_cons (pv 11) (pa_cons (pv 10) pa_nil)) pk_nil) (pe_one (pe_cg (ok_law_are_marks T) (g.mono (by decide : 1 ≤ 8)) (by rfl) T.m_law_are_marks T.F_law_are_marks.kp (OB.Fun.bd T.F_law_are_marks (ps := ["work", "value"]) (n := 2) (ks := []) (ix := [0, 1]) (fun _ _ _ _ _ _ us ws h1 h2 => match us, ws, h1, h2 with | [_, _], [], _, _ => rfl)) pass0 (pa_cons (pv 1) (pa_cons (pe_ix (ix_UK (K := K) rfl) (pv 11) pe_int (fun _ _ => rfl)) pa_nil)) pk_nil)))))
      (pss_cons (ps_set (i := 13) sc_law_right.nd rfl (by first | exact Or.inl rfl | exact Or.inr rfl) (pe_and (pv 12) (pe_and (pe_cmpR (op_inD (hu65 g)) (pe_ix (ix_UK (K := K) rfl) (pv 11) pe_int (fun _ _ => rfl)) (pv 9) (by rfl)) (pe_one (pe_cmpR op_eq (pe_cg (ok_law_cost T) (g.mono (by decide : 1 ≤ 8)) (by rfl) T.m_law_cost T.F_law_cost.kp (OB.Fun.bd T.F_law_cost (ps := ["work", "marks"]) (n := 2) (ks := []) (ix := [0, 1]) (fun _ _ _ _ _ _ us ws h1 h2 => match us, ws, h1, h2 with | [_, _], [], _, _ => rfl)) pass0 (pa_cons (pv 1) (pa_cons (pe_ix (ix_UK (K := K) rfl) (pv 11) pe_int (fun _ _ => rfl)) pa_nil)) pk_nil) (pv 10) (nomark _))))))
      (pss_cons (ps_if (pt_cmpR (op_eqD g.hu64) (pv 9) (pe_lst pa_nil) (nomark _)) (pss_one (ps_set (i := 13) sc_law_right.nd rfl (by first | exact Or.inl rfl | exact Or.inr rfl) (pe_cmpR op_isN (pv 11) pe_non (nomark _)))) pss_nil)
      (pss_one (ps_if (pt_cmpR op_ne (pe_callB (toK (r := rRepr) (K := K) rfl (call_repr g)) (by rfl) T.n_repr (by decide +kernel) (pa_cons (pe_cg0 (ok_shows_cheapest T) (g.mono (by decide : 7 ≤ 8)) (by rfl) T.m_shows_cheapest T.F_shows_cheapest.kp (OB.Fun.bd T.F_shows_cheapest (ps := ["work", "most", "value"]) (n := 0) (ks := ["value", "most", "work"]) (ix := [2, 1, 0]) (fun _ _ _ _ _ _ us ws h1 h2 => match us, ws, h1, h2 with | [], [_, _, _], _, _ => rfl)) pass0 (pk_cons (pv 11) (pk_cons (pv 4) (pk_cons (pv 1) pk_nil)))) pa_nil)) (pe_callB (toK (r := rRepr) (K := K) rfl (call_repr g)) (by rfl) T.n_repr (by decide +kernel) (pa_cons (pv 13) pa_nil)) (nomark _)) (pss_one (ps_ret pe_bl)) pss_nil))))))
      (pss_one (ps_ret pe_bl)))))))))))), ?_⟩
  refine g_start (σ := [some _, none, none, none, none, none, none, none, none, none, none, none, none, none]) rfl ?_
  repeat walk_at "ob"
  refine ⟨rfl, _, _, 0, p, _, a, b, c, rfl, S, rfl, po, by decide, fun wk wq wo a1 b1 c1 H1 o1 S1a hz => ?_⟩
  have S1 : Sy K ((p, potO a1 b1 c1) :: F) (.dat [.ref wq] [workD wk] :: G) H1 := S1a
  clear S S1a hz po
  repeat walk_at "ob"
  refine use_take (i := 0) S1 rfl o1 (by decide) (by decide) (by decide) fun cu a2 b2 c2 H2 cu0 cu1 o2 S2a hz => ?_
  have S2 : Sy K ((p, potO a2 b2 c2) :: F) (.dat [.ref wq] [workD wk] :: G) H2 := S2a
  clear S1 S2a hz o1
  repeat walk_at "ob"
  refine g_newTq S2 (Nat.le_of_ble_eq_true rfl) fun tq H3 _ S3 => ?_
  refine g_unpT (S3.tqs 0 rfl) rfl ?_
  have S4 := S3.drop
  clear S2 S3
  repeat walk_at "ob"
  refine ⟨rfl, _, _, wq, wk, rfl, S4, S4.dp 0 rfl, wo, fun mr vs H4 mss hm hall m0 m8 S5 => ?_⟩
  have vl := dps_length (S5.dps 0 rfl)
  rw [List.length_map] at vl
  clear S4
  obtain ⟨lp, cp, S6⟩ := Sy.work S5 (S5.dp 1 rfl)
  clear S5
  repeat walk_at "ob"
  refine g_sumUT (sqt_ints (S6.dp 1 rfl)) ?_
  have lsum : 0 ≤ wk.l.sum ∧ wk.l.sum ≤ 1000000 := by
    have := bnd wo (MkOk.nil (w := wk)) cu0 (by omega : cu ≤ 100)
    exact ⟨this.l0, this.l1⟩
  repeat walk_at "ob"
  refine use_take (i := 1) S6 rfl o2 (by decide) (by omega) (by omega) fun r a3 b3 c3 H5 r0 r1 o3 S7 hz => ?_
  have S8 : Sy K ((mr, .lst vs) :: (p, potO a3 b3 c3) :: F) (.dat vs (mss.map intsD) :: .dat [.ref wq] [workD wk] :: G) H5 := S7.drop.drop.drop
  clear S6 S7 hz o2 o3
  have mm : 1 ≤ 1 + r ∧ 1 + r ≤ 1000000000 := by omega
  clear r0 r1 lsum
  repeat walk_at "ob"
  refine g_newTq S8 (Nat.le_of_ble_eq_true rfl) fun tq2 H6 _ S9 => ?_
  refine g_unpT (S9.tqs 0 rfl) rfl ?_
  have S10 := S9.drop
  clear S8 S9
  generalize 1 + r = most at mm ⊢
  repeat walk_at "ob"
  refine g_lcS (a := mr) (xs := vs) true (fun j F' ds => F' = (mr, .lst vs) :: (p, potO a3 b3 c3) :: F ∧ ds = ((mss.take j).map (pw wk cu)).map PyData.int) S10 (fun Q' q => by walk_at "ob"; exact q) ⟨rfl, rfl⟩ (fun j F' ds H' hi S3 => SqL.of ((hi.1 ▸ S3).at 0 rfl)) (fun j F' ds hi => by
    rw [hi.2, List.length_map, List.length_map, List.length_take]; omega) ?_ ?_
  · intro i x hx Dc H6 F6 vs6 ds QE QR hi2 S6 kE kR
    obtain ⟨rfl, rfl⟩ := hi2
    obtain ⟨ms, hms, hds⟩ := dps_map (S6.dps 1 rfl) hx
    obtain ⟨q, _, rfl, _⟩ := dp_at hds
    have ok := (hm ms (List.mem_of_getElem? hms)).1
    clear S10
    repeat walk_at "ob"
    refine ⟨rfl, ?_⟩
    repeat walk_at "ob"
    refine ⟨rfl, _, _, wq, q, wk, ms, cu, rfl, S6, S6.dp 2 rfl, hds, wo, ok, cu0, by omega, fun H7 S7 => ?_⟩
    refine kE _ (.int (pw wk cu ms)) _ _ ⟨rfl, ?_⟩ (S7.fact (dps_one (L2.Dp.int _)) rfl)
    rw [List.take_add_one, hms, List.map_append, List.map_append]
    rfl
  intro Dc H6 F6 vs6 ds hD6 hi2 S11
  obtain ⟨rfl, rfl⟩ := hi2
  rw [vl, List.take_length] at S11
  have hv := dps_intsV (S11.dps 0 rfl)
  subst hv
  clear S10
  repeat walk_at "ob"
  refine g_minI (SqL.of (S11.at 0 rfl)) (by rw [List.length_map]; exact m0) fun least hm2 hle => ?_
  have lst : Least (MkOk wk) (pw wk cu) least := least_all (fun ms h => (hm ms h).1) hall (least_in hm2 hle)
  have S12 : Sy K ((mr, .lst vs) :: (p, potO a3 b3 c3) :: F) (.dat vs (mss.map intsD) :: .dat [.ref wq] [workD wk] :: G) H6 := S11.less.drop
  have lb : 0 ≤ least ∧ least ≤ 1000000 := by
    obtain ⟨⟨M, hM, e⟩, _⟩ := lst
    have := bnd wo hM cu0 (by omega : cu ≤ 100)
    have e : wst wk M cu = least := e
    rw [← e]
    exact ⟨this.w0, this.w1⟩
  clear S11 hm2 hle
  repeat walk_at "ob"
  refine ⟨rfl, _, _, wq, wk, cu, rfl, S12, S12.dp 1 rfl, wo, cu0, by omega, fun ts tr H11 tl tls S14 => ?_⟩
  have tm : TmOk wk cu ts := ⟨tl, tls⟩
  clear S12 tl tls
  repeat walk_at "ob"
  refine g_lcS (a := mr) (xs := vs) true (fun j F' ds => F' = (tr, .lst (ts.map V.int)) :: (mr, .lst vs) :: (p, potO a3 b3 c3) :: F ∧ ds = ((mss.take j).map (rg wk cu least)).map PyData.int) S14 (fun Q' q => by walk_at "ob"; exact q) ⟨rfl, rfl⟩ (fun j F' ds H' hi S3 => SqL.of ((hi.1 ▸ S3).at 1 rfl)) (fun j F' ds hi => by
    rw [hi.2, List.length_map, List.length_map, List.length_take]; omega) ?_ ?_
  · intro i x hx Dc H6 F6 vs6 ds QE QR hi2 S6 kE kR
    obtain ⟨rfl, rfl⟩ := hi2
    obtain ⟨ms, hms, hds⟩ := dps_map (S6.dps 1 rfl) hx
    obtain ⟨q, _, rfl, _⟩ := dp_at hds
    have ok := (hm ms (List.mem_of_getElem? hms)).1
    clear S14
    repeat walk_at "ob"
    refine ⟨rfl, ?_⟩
    repeat walk_at "ob"
    refine ⟨rfl, _, _, 1, wq, q, tr, wk, ms, ts, cu, least, rfl, S6, rfl, S6.dp 2 rfl, hds, wo, ok, cu0, by omega, tm, lst, fun H7 S7 => ?_⟩
    refine kE _ (.int (rg wk cu least ms)) _ _ ⟨rfl, ?_⟩ (S7.fact (dps_one (L2.Dp.int _)) rfl)
    rw [List.take_add_one, hms, List.map_append, List.map_append]
    rfl
  intro Dd H12 F6 vs6 ds hD7 hi2 S15
  obtain ⟨rfl, rfl⟩ := hi2
  rw [vl, List.take_length] at S15
  have hv := dps_intsV (S15.dps 0 rfl)
  subst hv
  clear S14
  repeat walk_at "ob"
  refine g_minI (SqL.of (S15.at 0 rfl)) (by rw [List.length_map]; exact m0) fun regret hm2 hle => ?_
  have rlst : Least (MkOk wk) (rg wk cu least) regret := least_all (fun ms h => (hm ms h).1) hall (least_in hm2 hle)
  have rb : 0 ≤ regret ∧ regret ≤ 1000000 := by
    obtain ⟨⟨M, hM, e⟩, _⟩ := rlst
    have e : rgt wk M cu least = regret := e
    have b3 := bnd wo hM cu0 (by omega : cu ≤ 100)
    have z0 := b3.c0
    have z1 := b3.c1
    have z2 := b3.w0
    have z3 := b3.w1
    rw [← e]
    unfold rgt
    split <;> omega
  have S16 : Sy K ((tr, .lst (ts.map V.int)) :: (mr, .lst vs) :: (p, potO a3 b3 c3) :: F) (.dat vs (mss.map intsD) :: .dat [.ref wq] [workD wk] :: G) H12 := S15.less.drop
  clear S15 hm2 hle
  repeat walk_at "ob"
  refine g_lcS (a := mr) (xs := vs) true (fun j F' ds => F' = (tr, .lst (ts.map V.int)) :: (mr, .lst vs) :: (p, potO a3 b3 c3) :: F ∧ ds = ((mss.take j).filter fun ms => decide (mx (wk.len ms) ≤ most)).map intsD) S16 (fun Q' q => by walk_at "ob"; exact q) ⟨rfl, rfl⟩ (fun j F' ds H' hi S3 => SqL.of ((hi.1 ▸ S3).at 1 rfl)) (fun j F' ds hi => by
    rw [hi.2, List.length_map]
    have := List.length_filter_le (fun ms => decide (mx (wk.len ms) ≤ most)) (mss.take j)
    rw [List.length_take] at this
    omega) ?_ ?_
  · intro i x hx Dc H6 F6 vs6 ds QE QR hi2 S6 kE kR
    obtain ⟨rfl, rfl⟩ := hi2
    obtain ⟨ms, hms, hds⟩ := dps_map (S6.dps 1 rfl) hx
    obtain ⟨q, _, rfl, _⟩ := dp_at hds
    have ok := (hm ms (List.mem_of_getElem? hms)).1
    have lk := Work.lok wo ok
    have step : (mss.take (i + 1)).filter (fun ms => decide (mx (wk.len ms) ≤ most)) = (mss.take i).filter (fun ms => decide (mx (wk.len ms) ≤ most)) ++ (if mx (wk.len ms) ≤ most then [ms] else []) := by
      rw [List.take_add_one, hms, List.filter_append]
      congr 1
      by_cases c : mx (wk.len ms) ≤ most <;> simp [c]
    have S7 := S6.add _ (dat_ints hds)
    clear S16 S6
    repeat walk_at "ob"
    refine ⟨rfl, ?_⟩
    repeat walk_at "ob"
    refine use_lengths S7 (S7.dp 3 rfl) (S7.dp 0 rfl) wo ok fun lr H7 S8 => ?_
    repeat walk_at "ob"
    refine g_maxUL (SqL.of (S8.at 0 rfl)) lk.pos fun m h1 h2 => ?_
    rw [mx_eq h1 h2 fun x hx => (lk.v1 x hx).1]
    have S9 := S8.less
    clear S7 S8
    repeat walk_at "ob"
    refine g_iteD (fun h1 => ?_) (fun h1 => ?_)
    · repeat walk_at "ob"
      refine kE _ (intsD ms) _ _ ⟨rfl, ?_⟩ S9
      rw [step, if_pos h1, List.map_append]
      rfl
    · refine kR _ _ ⟨rfl, ?_⟩ S9.drop
      rw [step, if_neg h1, List.append_nil]
  intro fr H15 F6 fvs ds hD6 hi2 S21
  obtain ⟨rfl, rfl⟩ := hi2
  rw [vl, List.take_length] at S21
  generalize hfs : mss.filter (fun ms => decide (mx (wk.len ms) ≤ most)) = fs at S21
  have hfm : ∀ ms, ms ∈ fs ↔ MkOk wk ms ∧ mx (wk.len ms) ≤ most := fun ms => by
    rw [← hfs, List.mem_filter, decide_eq_true_eq]
    exact ⟨fun ⟨h1, h2⟩ => ⟨(hm ms h1).1, h2⟩, fun ⟨h1, h2⟩ => ⟨hall ms h1, h2⟩⟩
  have fsl : fs.length ≤ 8 := by
    rw [← hfs]
    have := List.length_filter_le (fun ms => decide (mx (wk.len ms) ≤ most)) mss
    omega
  clear S16 hfs hall m0 hm
  have fvl := dps_length (S21.dps 0 rfl)
  rw [List.length_map] at fvl
  have S22 : Sy K ((fr, .lst fvs) :: (tr, .lst (ts.map V.int)) :: (p, potO a3 b3 c3) :: F) (.dat fvs (fs.map intsD) :: .dat [.ref wq] [workD wk] :: G) H15 := (Sy.less (Sy.perm S21 (List.perm_append_comm_assoc [_, _] [(mr, HO.lst vs)] _))).drop2
  clear S21
  repeat ((fail_if_success (with_reducible refine atIf ?_)); walk_at "ob")
  refine via (fun v H' => ∃ cst, v = .int cst ∧ 0 ≤ cst ∧ cst ≤ 1000000 ∧ (fs = [] ∨ Least (· ∈ fs) (costM wk.c) cst) ∧ Sy K ((fr, .lst fvs) :: (tr, .lst (ts.map V.int)) :: (p, potO a3 b3 c3) :: F) (.dat fvs (fs.map intsD) :: .dat [.ref wq] [workD wk] :: G) H') (fun Q c => ?_) ?_
  · repeat walk_at "ob"
    rename_i e0 H16 _ S23
    refine g_neD (d := .list (fs.map intsD)) (e := .list []) (.lst (SqL.of (S23.at 1 rfl)) (S23.dps 0 rfl)) (.lst (SqL.of (S23.at 0 rfl)) .nil) (mss_shaped fs) (mss_shaped []) ?_
    rw [eqv_nil]
    have S24 := S23.less
    clear S22 S23
    by_cases hf : fs = []
    · rw [decide_eq_true hf]
      repeat walk_at "ob"
      exact c _ _ ⟨0, rfl, Int.le_refl _, by decide, .inl hf, S24⟩
    · rw [decide_eq_false hf]
      repeat walk_at "ob"
      refine g_lcS (a := fr) (xs := fvs) true (fun j F' ds => F' = ((fr, .lst fvs) :: (tr, .lst (ts.map V.int)) :: (p, potO a3 b3 c3) :: F) ∧ ds = ((fs.take j).map (costM wk.c)).map PyData.int) S24 (fun Q' q => by walk_at "ob"; exact q) ⟨rfl, rfl⟩ (fun j F' ds H' hi S3 => SqL.of ((hi.1 ▸ S3).at 0 rfl)) (fun j F' ds hi => by
        rw [hi.2, List.length_map, List.length_map, List.length_take]; omega) ?_ ?_
      · intro i x hx Dc H6 F6 vs6 ds QE QR hi2 S6 kE kR
        obtain ⟨rfl, rfl⟩ := hi2
        obtain ⟨ms, hms, hds⟩ := dps_map (S6.dps 1 rfl) hx
        obtain ⟨q, _, rfl, _⟩ := dp_at hds
        have ok := ((hfm ms).mp (List.mem_of_getElem? hms)).1
        clear S24
        repeat walk_at "ob"
        refine ⟨rfl, ?_⟩
        repeat walk_at "ob"
        refine ⟨rfl, _, _, wq, q, wk, ms, rfl, S6, S6.dp 2 rfl, hds, wo, ok, fun H7 S7 => ?_⟩
        refine kE _ (.int (costM wk.c ms)) _ _ ⟨rfl, ?_⟩ (S7.fact (dps_one (L2.Dp.int _)) rfl)
        rw [List.take_add_one, hms, List.map_append, List.map_append]
        rfl
      intro Dc H18 F6 vs6 ds hD6 hi2 S26
      obtain ⟨rfl, rfl⟩ := hi2
      rw [fvl, List.take_length] at S26
      have hv := dps_intsV (S26.dps 0 rfl)
      subst hv
      clear S24
      repeat walk_at "ob"
      refine g_minI (SqL.of (S26.at 0 rfl)) (by rw [List.length_map]; exact List.length_pos_iff.mpr hf) fun cost hm2 hle => ?_
      have cl := least_in hm2 hle
      have cb : 0 ≤ cost ∧ cost ≤ 1000000 := by
        obtain ⟨⟨M, hM, e⟩, _⟩ := cl
        have b3 := bnd wo ((hfm M).mp hM).1 cu0 (by omega : cu ≤ 100)
        rw [← e]
        exact ⟨b3.c0, b3.c1⟩
      exact c _ _ ⟨cost, rfl, cb.1, cb.2, .inr cl, S26.less.drop⟩
  rintro v H16 ⟨cst, rfl, cst0, cst1, hcst, S25⟩
  clear S22 hD6 hD7 vl m8
  repeat walk_at "ob"
  refine viaS (fun σ' H' => ∃ v11 v12 v13, σ' = [some (.ref p), some (.ref wq), some (.int cu), some (.ref mr), some (.int most), some (.int least), none, some (.ref tr), some (.int regret), some (.ref fr), some (.int cst), v11, v12, v13] ∧ Sy K ((fr, .lst fvs) :: (tr, .lst (ts.map V.int)) :: (p, potO a3 b3 c3) :: F) (.dat fvs (fs.map intsD) :: .dat [.ref wq] [workD wk] :: G) H') (fun D c0 => ?_) ?_
  · clear k
    refine g_forE2 ?_
    repeat walk_at "ob"
    refine ⟨rfl, _, _, wq, wk, least, rfl, S25, S25.dp 1 rfl, wo, by omega, fun nr1 nvs1 F1 G1 H17 nl1 N1 bk1 sub1 hn1 => ?_⟩
    clear S25
    repeat walk_at "ob"
    refine g_forS (a := nr1) (xs := nvs1) true (fun i σ' H' => ∃ v11 v12 v13, σ' = [some (.ref p), some (.ref wq), some (.int cu), some (.ref mr), some (.int most), some (.int least), none, some (.ref tr), some (.int regret), some (.ref fr), some (.int cst), v11, v12, v13] ∧ Sy K ((nr1, .lst nvs1) :: F1) G1 H') (fun Q' q => q) ⟨_, _, _, rfl, N1⟩ (fun i σ' H' ⟨_, _, _, _, S4⟩ => SqL.of (S4.at 0 rfl)) ?_ ?_
    · rintro i x σ' H' hx ⟨v11, v12, v13, rfl, S2⟩
      obtain ⟨nv, hv⟩ := hn1 x (List.mem_of_getElem? hx)
      clear N1 hx hn1 c0 nl1 sub1
      repeat ((fail_if_success (with_reducible refine atAnd ?_)); walk_at "ob")
      refine via (fun v H' => v = .bl (madeB wk least nv) ∧ Sy K ((nr1, .lst nvs1) :: F1) G1 H') (fun Q c => ?_) ?_
      · repeat walk_at "ob"
        refine ⟨rfl, _, _, x, least, nv, rfl, S2, hv _ S2.less, by omega, fun H3 S3 => ?_⟩
        clear S2
        by_cases hp : pairB least nv = true
        · rw [hp]
          obtain ⟨m, rfl⟩ := pair_ok hp
          obtain ⟨q, x1, y, rfl, hs, hf, hmk⟩ := hv _ S3.less
          have S4 := S3.add (.tq q [x1, y]) hs
          repeat walk_at "ob"
          refine ⟨rfl, _, _, wq, y, wk, m, rfl, S4, (bk1 _ S4.less.drop).dp 1 rfl, hmk, fun H4 S5 => ?_⟩
          exact c _ _ ⟨by rw [made_p hp], S5.drop⟩
        · rw [Bool.eq_false_iff.mpr hp]
          repeat walk_at "ob"
          exact c _ _ ⟨by rw [made_np hp], S3⟩
      rintro v H3 ⟨rfl, S3⟩
      clear S2
      repeat ((fail_if_success (with_reducible refine atAnd ?_)); walk_at "ob")
      refine via (fun v H' => v = .bl (shB wk least (fun ms => decide (least = pw wk cu ms)) nv) ∧ Sy K ((nr1, .lst nvs1) :: F1) G1 H') (fun Q c => ?_) ?_
      · repeat walk_at "ob"
        by_cases hp : madeB wk least nv = true
        · rw [hp]
          obtain ⟨ms, rfl, ok⟩ := made_ok hp
          obtain ⟨q, x1, y, rfl, hs, hf, ⟨q2, rfl, hd2, ml⟩⟩ := hv _ S3.less
          have S4 := (S3.add _ (dat_ints hd2)).add (.tq q [x1, .ref q2]) hs
          clear S3
          repeat walk_at "ob"
          refine ⟨rfl, _, _, wq, q2, wk, ms, cu, rfl, S4, (bk1 _ S4.less.drop.drop).dp 1 rfl, S4.dp 1 rfl, wo, ok, cu0, by omega, fun H4 S5 => ?_⟩
          repeat walk_at "ob"
          exact c _ _ ⟨by rw [sh_y ok]; exact congrArg V.bl (decide_eq_decide.mpr eq_comm), S5.drop.drop⟩
        · rw [Bool.eq_false_iff.mpr hp]
          repeat walk_at "ob"
          exact c _ _ ⟨by rw [sh_nmade hp], S3⟩
      rintro v H4 ⟨rfl, S4⟩
      clear S3
      repeat walk_at "ob"
      refine ⟨rfl, _, _, wq, x, wk, nv, cu, least, rfl, S4, (bk1 _ S4.less).dp 1 rfl, wo, cu0, by omega, lst, fun H' S' => hv _ S'.less, fun H5 S5 => ?_⟩
      clear S4
      repeat walk_at "ob"
      refine g_reprS (L2.Dp.bl _) Small.bl (by decide) (by decide) ?_
      repeat walk_at "ob"
      refine g_reprS (L2.Dp.bl _) Small.bl (by decide) (by decide) ?_
      repeat walk_at "ob"
      exact ⟨_, _, _, rfl, S5⟩
    rintro σ' H5 ⟨v11, v12, v13, rfl, S2⟩
    exact c0 _ _ ⟨_, _, _, rfl, bk1 _ S2.less⟩
  rintro σ' H5 ⟨v11, v12, v13, rfl, S26⟩
  clear S25
  repeat walk_at "ob"
  refine viaS (fun σ' H' => ∃ v11 v12 v13, σ' = [some (.ref p), some (.ref wq), some (.int cu), some (.ref mr), some (.int most), some (.int least), none, some (.ref tr), some (.int regret), some (.ref fr), some (.int cst), v11, v12, v13] ∧ Sy K ((fr, .lst fvs) :: (tr, .lst (ts.map V.int)) :: (p, potO a3 b3 c3) :: F) (.dat fvs (fs.map intsD) :: .dat [.ref wq] [workD wk] :: G) H') (fun D c0 => ?_) ?_
  · clear k
    refine g_forE2 ?_
    repeat walk_at "ob"
    refine ⟨rfl, _, _, wq, wk, regret, rfl, S26, S26.dp 1 rfl, wo, by omega, fun nr2 nvs2 F2 G2 H17 nl2 N2 bk2 sub2 hn2 => ?_⟩
    clear S26
    obtain ⟨it, hit⟩ := List.getElem?_of_mem (sub2 _ (List.mem_cons_of_mem _ (List.mem_cons_self ..)))
    repeat walk_at "ob"
    refine g_forS (a := nr2) (xs := nvs2) true (fun i σ' H' => ∃ v11 v12 v13, σ' = [some (.ref p), some (.ref wq), some (.int cu), some (.ref mr), some (.int most), some (.int least), none, some (.ref tr), some (.int regret), some (.ref fr), some (.int cst), v11, v12, v13] ∧ Sy K ((nr2, .lst nvs2) :: F2) G2 H') (fun Q' q => q) ⟨_, _, _, rfl, N2⟩ (fun i σ' H' ⟨_, _, _, _, S4⟩ => SqL.of (S4.at 0 rfl)) ?_ ?_
    · rintro i x σ' H' hx ⟨v11, v12, v13, rfl, S2⟩
      obtain ⟨nv, hv⟩ := hn2 x (List.mem_of_getElem? hx)
      clear N2 hx hn2 c0 nl2 sub2
      repeat ((fail_if_success (with_reducible refine atAnd ?_)); walk_at "ob")
      refine via (fun v H' => v = .bl (madeB wk regret nv) ∧ Sy K ((nr2, .lst nvs2) :: F2) G2 H') (fun Q c => ?_) ?_
      · repeat walk_at "ob"
        refine ⟨rfl, _, _, x, regret, nv, rfl, S2, hv _ S2.less, by omega, fun H3 S3 => ?_⟩
        clear S2
        by_cases hp : pairB regret nv = true
        · rw [hp]
          obtain ⟨m, rfl⟩ := pair_ok hp
          obtain ⟨q, x1, y, rfl, hs, hf, hmk⟩ := hv _ S3.less
          have S4 := S3.add (.tq q [x1, y]) hs
          repeat walk_at "ob"
          refine ⟨rfl, _, _, wq, y, wk, m, rfl, S4, (bk2 _ S4.less.drop).dp 1 rfl, hmk, fun H4 S5 => ?_⟩
          exact c _ _ ⟨by rw [made_p hp], S5.drop⟩
        · rw [Bool.eq_false_iff.mpr hp]
          repeat walk_at "ob"
          exact c _ _ ⟨by rw [made_np hp], S3⟩
      rintro v H3 ⟨rfl, S3⟩
      clear S2
      repeat ((fail_if_success (with_reducible refine atAnd ?_)); walk_at "ob")
      refine via (fun v H' => v = .bl (shB wk regret (fun ms => decide (regret = rg wk cu least ms)) nv) ∧ Sy K ((nr2, .lst nvs2) :: F2) G2 H') (fun Q c => ?_) ?_
      · repeat walk_at "ob"
        by_cases hp : madeB wk regret nv = true
        · rw [hp]
          obtain ⟨ms, rfl, ok⟩ := made_ok hp
          obtain ⟨q, x1, y, rfl, hs, hf, ⟨q2, rfl, hd2, ml⟩⟩ := hv _ S3.less
          have S4 := (S3.add _ (dat_ints hd2)).add (.tq q [x1, .ref q2]) hs
          clear S3
          repeat walk_at "ob"
          refine ⟨rfl, _, _, it + 1, wq, q2, tr, wk, ms, ts, cu, least, rfl, S4, hit, (bk2 _ S4.less.drop.drop).dp 1 rfl, S4.dp 1 rfl, wo, ok, cu0, by omega, tm, lst, fun H4 S5 => ?_⟩
          repeat walk_at "ob"
          exact c _ _ ⟨by rw [sh_y ok]; exact congrArg V.bl (decide_eq_decide.mpr eq_comm), S5.drop.drop⟩
        · rw [Bool.eq_false_iff.mpr hp]
          repeat walk_at "ob"
          exact c _ _ ⟨by rw [sh_nmade hp], S3⟩
      rintro v H4 ⟨rfl, S4⟩
      clear S3
      repeat walk_at "ob"
      refine ⟨rfl, _, _, wq, x, wk, nv, cu, least, regret, rfl, S4, (bk2 _ S4.less).dp 1 rfl, wo, cu0, by omega, lst, rlst, rb.1, rb.2, fun H' S' => hv _ S'.less, fun H5 S5 => ?_⟩
      clear S4
      repeat walk_at "ob"
      refine g_reprS (L2.Dp.bl _) Small.bl (by decide) (by decide) ?_
      repeat walk_at "ob"
      refine g_reprS (L2.Dp.bl _) Small.bl (by decide) (by decide) ?_
      repeat walk_at "ob"
      exact ⟨_, _, _, rfl, S5⟩
    rintro σ' H5 ⟨v11, v12, v13, rfl, S2⟩
    exact c0 _ _ ⟨_, _, _, rfl, bk2 _ S2.less⟩
  rintro σ' H5 ⟨v11, v12, v13, rfl, S27⟩
  clear S26
  repeat walk_at "ob"
  refine viaS (fun σ' H' => ∃ v11 v12 v13, σ' = [some (.ref p), some (.ref wq), some (.int cu), some (.ref mr), some (.int most), some (.int least), none, some (.ref tr), some (.int regret), some (.ref fr), some (.int cst), v11, v12, v13] ∧ Sy K ((fr, .lst fvs) :: (tr, .lst (ts.map V.int)) :: (p, potO a3 b3 c3) :: F) (.dat fvs (fs.map intsD) :: .dat [.ref wq] [workD wk] :: G) H') (fun D c0 => ?_) ?_
  · clear k
    refine g_forE2 ?_
    repeat walk_at "ob"
    refine ⟨rfl, _, _, wq, wk, cst, rfl, S27, S27.dp 1 rfl, wo, by omega, fun nr3 nvs3 F3 G3 H17 nl3 N3 bk3 sub3 hn3 => ?_⟩
    clear S27 tm lst rlst rb lb
    repeat walk_at "ob"
    refine g_forS (a := nr3) (xs := nvs3) true (fun i σ' H' => ∃ v11 v12 v13, σ' = [some (.ref p), some (.ref wq), some (.int cu), some (.ref mr), some (.int most), some (.int least), none, some (.ref tr), some (.int regret), some (.ref fr), some (.int cst), v11, v12, v13] ∧ Sy K ((nr3, .lst nvs3) :: F3) G3 H') (fun Q' q => q) ⟨_, _, _, rfl, N3⟩ (fun i σ' H' ⟨_, _, _, _, S4⟩ => SqL.of (S4.at 0 rfl)) ?_ ?_
    · rintro i x σ' H' hx ⟨v11, v12, v13, rfl, S2⟩
      obtain ⟨nv, hv⟩ := hn3 x (List.mem_of_getElem? hx)
      clear N3 hx hn3 c0 nl3 sub3
      repeat ((fail_if_success (with_reducible refine atAnd ?_)); walk_at "ob")
      refine via (fun v H' => ∃ B, v = .bl B ∧ (fs = [] → B = false) ∧ (fs ≠ [] → B = madeB wk cst nv) ∧ Sy K ((nr3, .lst nvs3) :: F3) G3 H') (fun Q c => ?_) ?_
      · repeat walk_at "ob"
        rename_i e0 H16 _ S23
        refine g_neD (d := .list (fs.map intsD)) (e := .list []) (.lst (SqL.of ((bk3 _ S23.less.less).at 0 rfl)) ((bk3 _ S23.less.less).dps 0 rfl)) (.lst (SqL.of (S23.at 0 rfl)) .nil) (mss_shaped fs) (mss_shaped []) ?_
        rw [eqv_nil]
        have S24 := S23.less
        clear S2 S23
        by_cases hf : fs = []
        · rw [decide_eq_true hf]
          repeat walk_at "ob"
          exact c _ _ ⟨false, rfl, fun _ => rfl, fun z => absurd hf z, S24⟩
        · rw [decide_eq_false hf]
          repeat walk_at "ob"
          refine ⟨rfl, _, _, x, cst, nv, rfl, S24, hv _ S24.less, by omega, fun H3 S3 => ?_⟩
          clear S24
          by_cases hp : pairB cst nv = true
          · rw [hp]
            obtain ⟨m, rfl⟩ := pair_ok hp
            obtain ⟨q, x1, y, rfl, hs, hf2, hmk⟩ := hv _ S3.less
            have S4 := S3.add (.tq q [x1, y]) hs
            repeat walk_at "ob"
            refine ⟨rfl, _, _, wq, y, wk, m, rfl, S4, (bk3 _ S4.less.drop).dp 1 rfl, hmk, fun H4 S5 => ?_⟩
            exact c _ _ ⟨_, rfl, fun z => absurd z hf, fun _ => by rw [made_p hp], S5.drop⟩
          · rw [Bool.eq_false_iff.mpr hp]
            repeat walk_at "ob"
            exact c _ _ ⟨_, rfl, fun _ => rfl, fun _ => by rw [made_np hp], S3⟩
      rintro v H3 ⟨B, rfl, hb1, hb2, S3⟩
      clear S2
      repeat ((fail_if_success (with_reducible refine atAnd ?_)); walk_at "ob")
      refine via (fun v H' => ∃ D, v = .bl D ∧ (fs ≠ [] → D = shB wk cst (fun ms => decide (costM wk.c ms = cst) && decide (mx (wk.len ms) ≤ most)) nv) ∧ Sy K ((nr3, .lst nvs3) :: F3) G3 H') (fun Q c => ?_) ?_
      · repeat walk_at "ob"
        by_cases hp : B = true
        · have hf : fs ≠ [] := fun z => by
            rw [hb1 z] at hp
            cases hp
          have hm := (hb2 hf).symm.trans hp
          rw [hp]
          obtain ⟨ms, rfl, ok⟩ := made_ok hm
          obtain ⟨q, x1, y, rfl, hs, hf2, ⟨q2, rfl, hd2, ml⟩⟩ := hv _ S3.less
          have S4 := (S3.add _ (dat_ints hd2)).add (.tq q [x1, .ref q2]) hs
          clear S3
          repeat walk_at "ob"
          refine g_inD (S4.dp 1 rfl) (SqL.of ((bk3 _ S4.less.drop.drop).at 0 rfl)) ((bk3 _ S4.less.drop.drop).dps 0 rfl) (ints_shaped ms) (mss_shaped fs) ?_
          rw [show PyData.tuple (ms.map .int) = intsD ms from rfl, any_in]
          by_cases hin : ms ∈ fs
          · rw [decide_eq_true hin]
            repeat walk_at "ob"
            refine ⟨rfl, _, _, wq, q2, wk, ms, rfl, S4, (bk3 _ S4.less.drop.drop).dp 1 rfl, S4.dp 1 rfl, wo, ok, fun H4 S5 => ?_⟩
            repeat walk_at "ob"
            exact c _ _ ⟨_, rfl, fun _ => by rw [sh_y ok, decide_eq_true ((hfm ms).mp hin).2, Bool.and_true], S5.drop.drop⟩
          · rw [decide_eq_false hin]
            repeat walk_at "ob"
            exact c _ _ ⟨_, rfl, fun _ => by rw [sh_y ok, decide_eq_false (fun z => hin ((hfm ms).mpr ⟨ok, z⟩) : ¬ mx (wk.len ms) ≤ most), Bool.and_false], S4.drop.drop⟩
        · rw [Bool.eq_false_iff.mpr hp]
          repeat walk_at "ob"
          exact c _ _ ⟨_, rfl, fun hf => by rw [hb2 hf] at hp; rw [sh_nmade hp], S3⟩
      rintro v H4 ⟨D, rfl, hD2, S4⟩
      clear S3 hb1 hb2
      repeat walk_at "ob"
      rename_i e0 H16 _ S23
      refine g_eqD (d := .list (fs.map intsD)) (e := .list []) (.lst (SqL.of ((bk3 _ S23.less.less).at 0 rfl)) ((bk3 _ S23.less.less).dps 0 rfl)) (.lst (SqL.of (S23.at 0 rfl)) .nil) (mss_shaped fs) (mss_shaped []) ?_
      rw [eqv_nil]
      have S24 := S23.less
      clear S4 S23
      have mfit : ∀ M, Cheap wk most M → M ∈ fs := fun M ch => by
        have lk := Work.lok wo ch.ok
        exact (hfm M).mpr ⟨ch.ok, mx_le_iff ch.fit lk.ne fun x hx => (lk.v1 x hx).1⟩
      by_cases hf : fs = []
      · rw [decide_eq_true hf]
        repeat walk_at "ob"
        refine ⟨rfl, ?_⟩
        repeat walk_at "ob"
        refine ⟨rfl, _, _, wq, x, wk, nv, most, rfl, S24, (bk3 _ S24.less).dp 1 rfl, wo, mm.1, mm.2, fun H' S' => hv _ S'.less, fun no H5 S5 => ?_, fun M ch H5 S5 => ?_⟩
        · repeat walk_at "ob"
          refine g_reprS (L2.Dp.bl _) Small.bl (by decide) (by decide) ?_
          repeat walk_at "ob"
          refine g_reprS (L2.Dp.bl _) Small.bl (by decide) (by decide) ?_
          repeat walk_at "ob"
          exact ⟨_, _, _, rfl, S5⟩
        · have := mfit M ch
          rw [hf] at this
          cases this
      · rw [decide_eq_false hf]
        obtain rfl := hD2 hf
        have hl := hcst.resolve_left hf
        repeat walk_at "ob"
        refine ⟨rfl, _, _, wq, x, wk, nv, most, rfl, S24, (bk3 _ S24.less).dp 1 rfl, wo, mm.1, mm.2, fun H' S' => hv _ S'.less, fun no H5 S5 => ?_, fun M ch H5 S5 => ?_⟩
        · obtain ⟨⟨M, hM, _⟩, _⟩ := hl
          obtain ⟨h1, h2⟩ := (hfm M).mp hM
          obtain ⟨ps, W⟩ := (len_ways wo h1).2 most fun y hy => Int.le_trans (mx_le y hy) h2
          exact absurd W (no ps _)
        · obtain rfl : cst = costM wk.c M := hl.one ⟨⟨M, mfit M ch, rfl⟩, fun x hx => by
            obtain ⟨h1, h2⟩ := (hfm x).mp hx
            exact ch.best x h1 fun y hy => Int.le_trans (mx_le y hy) h2⟩
          repeat walk_at "ob"
          refine g_reprS (L2.Dp.bl _) Small.bl (by decide) (by decide) ?_
          repeat walk_at "ob"
          refine g_reprS (L2.Dp.bl _) Small.bl (by decide) (by decide) ?_
          repeat walk_at "ob"
          exact ⟨_, _, _, rfl, S5⟩
    rintro σ' H5 ⟨v11, v12, v13, rfl, S2⟩
    exact c0 _ _ ⟨_, _, _, rfl, bk3 _ S2.less⟩
  rintro σ' H5 ⟨v11, v12, v13, rfl, S28⟩
  clear S27
  repeat walk_at "ob"
  exact k _ (Sy.less S28.less.less).drop.drop
end
end LAW

set_option Elab.async false
set_option linter.all false
set_option maxRecDepth 100000
namespace LAW
open PySem PySem.Spec PyProof.Rows L2 PySem.W OB
local macro_rules | `(tactic| walk_at "obc") => `(tactic| first
  | exact Or.inl ⟨by omega, by omega⟩
  | exact Or.inr ⟨by omega, by omega⟩
  | exact cdiv_ok (by omega) (by omega)
  | (show (0 : Int) < _; omega)
  | exact ⟨by omega, by decide⟩
  | exact ⟨by decide, by decide⟩)
local macro_rules | `(tactic| walk_at "obat") => `(tactic| first
  | exact Sy.at (by assumption) 0 rfl | exact Sy.at (by assumption) 1 rfl | exact Sy.at (by assumption) 2 rfl | exact Sy.at (by assumption) 3 rfl
  | exact Sy.at (by assumption) 4 rfl | exact Sy.at (by assumption) 5 rfl | exact Sy.at (by assumption) 6 rfl | exact Sy.at (by assumption) _ (by assumption) | exact Sy.at (by assumption) (_ + 1) (by assumption) | exact Sy.at (by assumption) (_ + 2) (by assumption))
local macro_rules | `(tactic| walk_at "obt") => `(tactic| first
  | exact Sy.tqs (by assumption) 0 rfl | exact Sy.tqs (by assumption) 1 rfl | exact Sy.tqs (by assumption) 2 rfl | exact Sy.tqs (by assumption) 3 rfl | exact Sy.tqs (by assumption) 4 rfl | exact Sy.tqs (by assumption) 5 rfl
  | exact Sy.tqs (by assumption) 6 rfl | exact Sy.tqs (by assumption) 7 rfl | assumption)
local macro_rules | `(tactic| walk_at "obl") => `(tactic| first
  | exact SqL.of (by walk_at "obat")
  | exact Sy.sq (by assumption) 0 rfl | exact Sy.sq (by assumption) 1 rfl | exact Sy.sq (by assumption) 2 rfl | exact Sy.sq (by assumption) 3 rfl | exact Sy.sq (by assumption) _ (by assumption))
local macro_rules | `(tactic| walk_at "obd") => `(tactic| first
  | exact Dp.int _ | exact Dp.bl _ | exact Dp.str _ | exact Dp.non
  | exact Sy.dp (by assumption) 0 rfl | exact Sy.dp (by assumption) 1 rfl | exact Sy.dp (by assumption) 2 rfl | exact Sy.dp (by assumption) 3 rfl
  | exact Sy.dp (by assumption) 4 rfl | exact Sy.dp (by assumption) 5 rfl | exact Sy.dp (by assumption) 6 rfl | exact Sy.dp (by assumption) 7 rfl
  | exact Sy.dp (by assumption) 8 rfl | exact Sy.dp (by assumption) 9 rfl | exact Sy.dp (by assumption) _ (by assumption) | assumption)
local macro_rules | `(tactic| walk_at "obds") => `(tactic| first
  | exact DpAll.nil
  | (refine' DpAll.cons ?ob1 ?ob2; (case ob1 => walk_at "obd"); (case ob2 => walk_at "obds"))
  | exact Sy.dps (by assumption) 0 rfl | exact Sy.dps (by assumption) 1 rfl | exact Sy.dps (by assumption) 2 rfl | exact Sy.dps (by assumption) 3 rfl | assumption)
local macro_rules | `(tactic| walk_at "obsc") => `(tactic| first
  | exact ScL.nil
  | ((first | refine' ScL.int ?obz | refine' ScL.str ?obz | refine' ScL.bl ?obz | refine' ScL.non ?obz); (case obz => walk_at "obsc")))
local macro_rules | `(tactic| walk_at "ob1") => `(tactic| first
  | ((with_reducible refine' g_var ?obh ?_); (case obh => rfl))
  | with_reducible refine g_c ?_
  | with_reducible refine g_nx ?_
  | with_reducible refine g_rt ?_
  | with_reducible refine g_bk ?_
  | with_reducible refine g_ct ?_
  | with_reducible refine g_op ?_
  | with_reducible refine g_I0 ?_
  | with_reducible refine g_test ?_
  | with_reducible refine g_bl ?_
  | with_reducible refine g_blx ?_
  | with_reducible refine g_B ?_
  | with_reducible refine g_seq ?_
  | with_reducible refine g_asg ?_
  | with_reducible refine g_name ?_
  | with_reducible refine g_ifS ?_
  | with_reducible refine g_ret ?_
  | with_reducible refine g_cb ?_
  | with_reducible refine g_cons ?_
  | with_reducible refine g_nil ?_
  | with_reducible refine g_int ?_
  | with_reducible refine g_intB ?_
  | with_reducible refine g_abs ?_
  | with_reducible refine g_max ?_
  | with_reducible refine g_min ?_
  | with_reducible refine g_un ?_
  | with_reducible refine g_U ?_
  | with_reducible refine g_eqI ?_
  | with_reducible refine g_neI ?_
  | with_reducible refine g_eqS ?_
  | with_reducible refine g_neS ?_
  | with_reducible refine g_tt ?_
  | with_reducible refine g_ff ?_
  | with_reducible refine g_next ?_
  | with_reducible refine g_drop ?_
  | with_reducible refine g_if ?_
  | with_reducible refine g_andV ?_
  | with_reducible refine g_orV ?_
  | with_reducible refine g_notV ?_
  | with_reducible refine g_and ?_
  | with_reducible refine g_or ?_
  | with_reducible refine g_not ?_
  | with_reducible refine g_yes ?_
  | with_reducible refine g_chain ?_
  | with_reducible refine g_cg ?_
  | with_reducible refine g_mg ?_
  | with_reducible refine g_kg ?_
  | with_reducible refine g_pg ?_
  | ((with_reducible refine' g_call ?obh ?obj ?_); (case obh => rfl); (case obj => rfl))
  | with_reducible refine g_par ?_
  | with_reducible refine g_par2 ?_
  | with_reducible refine g_par3 ?_
  | with_reducible refine g_par33 ?_
  | with_reducible refine g_gnil ?_
  | with_reducible refine g_gcons ?_
  | with_reducible refine g_gsub ?_
  | with_reducible refine g_ipI ?_
  | with_reducible refine g_rAdd ?_
  | with_reducible refine g_rSub ?_
  | ((with_reducible refine' g_aug ?obh ?_); (case obh => rfl))
  | with_reducible refine g_tup ?_
  | with_reducible refine g_lst ?_
  | with_reducible refine g_bm ?_
  | with_reducible refine g_bm0 ?_
  | with_reducible refine g_sl ?_
  | with_reducible refine g_nopart ?_
  | with_reducible refine g_part ?_
  | with_reducible refine g_pint ?_
  | with_reducible refine isi_int ?_
  | with_reducible refine isi_intB ?_
  | ((with_reducible refine' g_I ?obh ?_); (case obh => walk_at "obc"))
  | ((with_reducible refine' g_tyl ?obh ?_); (case obh => walk_at "obl"))
  | ((with_reducible refine' g_lenL ?obh ?_); (case obh => walk_at "obl"))
  | with_reducible refine g_ne ?_
  | ((with_reducible refine' g_neN' ?obh ?_); (case obh => rfl))
  | with_reducible refine g_ntt ?_
  | with_reducible refine g_nff ?_
  | with_reducible refine g_star ?_
  | with_reducible refine g_att ?_
  | with_reducible refine g_sfld ?_
  | with_reducible refine g_faug ?_
  | with_reducible refine g_fld ?_
  | ((with_reducible refine' g_nF ?obh ?_); (case obh => omega))
  | ((with_reducible refine' g_nT ?obh ?_); (case obh => omega))
  | ((with_reducible refine' g_TD ?obh ?_); (case obh => omega))
  | ((with_reducible refine' g_FD ?obh ?_); (case obh => omega))
  | ((with_reducible refine' g_ixUL ?obh ?obi ?_); (case obh => walk_at "obl"); (case obi => exact atI_nn (by omega) (by rfl)))
  | ((with_reducible refine' g_setLS ?obs ?obh ?obi ?_); (case obs => assumption); (case obh => assumption); (case obi => rfl); intro _ _ _)
  | ((with_reducible refine' g_newT ?obs ?obh ?obi ?obj ?_); (case obs => assumption); (case obh => walk_at "obds"); (case obi => rfl); (case obj => exact Nat.le_of_ble_eq_true rfl); intro _ _ _ _)
  | ((with_reducible refine' g_newL ?obs ?obj ?_); (case obs => assumption); (case obj => exact Nat.le_of_ble_eq_true rfl); intro _ _ _ _)
  | ((with_reducible refine' isi_tup ?obh ?_); (case obh => walk_at "obt"))
  | ((with_reducible refine' g_lenT ?obh ?_); (case obh => walk_at "obt"))
  | ((with_reducible refine' g_unpT ?obh ?obi ?_); (case obh => walk_at "obt"); (case obi => rfl))
  | ((with_reducible refine' g_divmod ?obs ?obh ?_); (case obs => assumption); (case obh => exact cdivp_ok (by omega) (by omega) (by omega)); intro _ _ _ _)
  | ((with_reducible refine' g_unpD ?obh ?obi ?obj ?_); (case obh => walk_at "obd"); (case obi => walk_at "obsc"); (case obj => rfl))
  | with_reducible refine g_att ?_)
local macro_rules | `(tactic| walk_at "ob") => `(tactic| first
  | walk_at "ob1"
  | refine use_is_integer ?_
  | refine use_is_within ?_
  | with_reducible refine g_lstRg ?_
  | with_reducible refine g_rg1 ?_
  | with_reducible refine g_rg2 ?_
  | with_reducible refine g_tTru ?_
  | ((with_reducible refine' g_truL ?obh ?_); (case obh => walk_at "obl"))
  | ((with_reducible refine' g_ixUT ?obh ?obi ?_); (case obh => walk_at "obt"); (case obi => rfl))
  | with_reducible refine g_forZ ?_
  | with_reducible refine g_forR2 ?_
  | with_reducible refine g_forE ?_
  | with_reducible refine g_lcZ ?_)
section
variable {P : Program} {w : World} {K : Frag} {mg : Str → Option Value} {base : Heap}
def sp_law (K : Frag) : Sp := fun vs H Q E => vs.length = 1 ∧ ∃ (a : Addr) (ns : List Int), vs = [.ref a] ∧ Sy K [] [.sq a (ns.map V.int)] H ∧ ns.length ≤ 63 ∧ ∀ H', Q (.bl true) H'
abbrev names_law : List Str := ["script", "place"]
theorem sc_law : FnScope names_law ["script"] (defScope (top 52)) := ⟨rfl, rfl, rfl, by decide +kernel, rfl, by decide +kernel, by decide +kernel⟩
set_option maxHeartbeats 4000000 in
theorem ok_law (T : Tx K mg) : FG P w K mg base CX0 10 T.a_law T.d_law ["script"] (sp_law K) := by
  refine OB.Fun.fg T.F_law sc_law (fun vs H Q E h => h.1) (fun cdv A out s H vs Q E g h => ?_)
  obtain ⟨_, a, ns, rfl, S, hn, k⟩ := h
  refine ⟨_, (pss_one (ps_ret (pe_callB (toK (r := rAll) (K := K) rfl (cr_all rfl)) (by rfl) T.n_all (by decide +kernel) (pa_cons (pe_lc (own := [("place", 1)]) (tt := tYes) rfl sc_law.nd (pi_seq (pe_cg (ok_law_cells T) (g.mono (by decide : 1 ≤ 9)) (by rfl) T.m_law_cells T.F_law_cells.kp (OB.Fun.bd T.F_law_cells (ps := ["script", "most"]) (n := 2) (ks := []) (ix := [0, 1]) (fun _ _ _ _ _ _ us ws h1 h2 => match us, ws, h1, h2 with | [_, _], [], _, _ => rfl)) pass0 (pa_cons (pv 0) (pa_cons pe_int pa_nil)) pk_nil)) (blkOk_by (N := names_law) (sc := defScope (top 52)) (own := [("place", 1)]) (by decide +kernel)) (fun _ _ _ _ _ => (pg_name (i := 1) sc_law.nd rfl (by first | exact Or.inl rfl | exact Or.inr rfl))) (fun _ _ _ _ _ => pts_nil) (fun _ _ _ _ _ => (pe_cg (ok_law_right T) (g.mono (by decide : 9 ≤ 9)) (by rfl) T.m_law_right T.F_law_right.kp (OB.Fun.bd T.F_law_right (ps := ["pot"]) (n := 1) (ks := []) (ix := [0]) (fun _ _ _ _ _ _ us ws h1 h2 => match us, ws, h1, h2 with | [_], [], _, _ => rfl)) pass0 (pa_cons (pe_cg (ok_law_pot T) (g.mono (by decide : 1 ≤ 9)) (by rfl) T.m_law_pot T.F_law_pot.kp (OB.Fun.bd T.F_law_pot (ps := ["script", "place"]) (n := 2) (ks := []) (ix := [0, 1]) (fun _ _ _ _ _ _ us ws h1 h2 => match us, ws, h1, h2 with | [_, _], [], _, _ => rfl)) pass0 (pa_cons (pv 0) (pa_cons (pv 1) pa_nil)) pk_nil) pa_nil) pk_nil))) pa_nil)))), ?_⟩
  refine g_start (σ := [some _, none]) rfl ?_
  repeat walk_at "ob"
  refine g_lcE2 ?_
  repeat walk_at "ob"
  refine ⟨rfl, [], [], a, ns, 2, rfl, S, hn, by decide, by decide, fun ms p H1 hms hml S1 => ?_⟩
  repeat walk_at "ob"
  refine g_lcS (a := p) (xs := ms.map V.int) true (fun i F' ds => F' = [(p, .lst (ms.map V.int))] ∧ ds = List.replicate i (.bool true) ∧ i ≤ ms.length) S1 (fun Q' q => q) ⟨rfl, rfl, Nat.zero_le _⟩ (fun i F' ds H' hi S3 => SqL.of ((hi.1 ▸ S3).at 0 rfl)) (fun i F' ds hi => by
      rw [hi.2.1, List.length_replicate]
      omega) ?_ ?_
  · intro i x hx Dp H2 F2 vs ds QE QR hi S3 kE kR
    obtain ⟨rfl, rfl, hi2⟩ := hi
    have hi3 : i < ms.length := by
      have := (List.getElem?_eq_some_iff.mp hx).1
      rw [List.length_map] at this
      exact this
    rw [List.getElem?_map] at hx
    obtain ⟨m, hm, rfl⟩ := Option.map_eq_some_iff.mp hx
    obtain ⟨m0, m1⟩ := hms m (List.mem_of_getElem? hm)
    repeat walk_at "ob"
    refine ⟨rfl, ?_⟩
    repeat walk_at "ob"
    refine ⟨rfl, _, _, a, ns, m, rfl, S3.add (.sq a (ns.map V.int)) (S3.ft _ (by simp)), hn, m0, m1, fun x y z q H4 o S4 => ?_⟩
    repeat walk_at "ob"
    refine ⟨rfl, _, _, q, x, y, z, rfl, S4, o, fun H5 S5 => ?_⟩
    repeat walk_at "ob"
    exact kE _ (.bool true) _ _ ⟨rfl, by rw [List.replicate_succ'], hi3⟩ (S5.drop.fact (dps_one (L2.Dp.bl true)) rfl)
  · rintro Dp H2 F2 vs ds hD ⟨rfl, rfl, _⟩ S3
    have hv : vs = (List.replicate (ms.map V.int).length true).map V.bl := by
      rw [dps_scal (S3.dps 0 rfl) fun d hd => by rw [(List.mem_replicate.mp hd).2]; rfl, List.map_replicate, List.map_replicate]
      rfl
    subst hv
    repeat walk_at "ob"
    refine g_all (by walk_at "obl") ?_
    have e : ((List.replicate (ms.map V.int).length true).all id) = true := List.all_eq_true.mpr fun b hb => (List.mem_replicate.mp hb).2
    rw [e]
    exact k H2
end
theorem sy_script {K : Frag} {H : Hp} {a : Addr} {xs : List V} (o : Only H) (h : SqL K H a xs) : Sy K [] [.sq a xs] H := by
  refine Sy.nil.add _ ?_
  rcases h with (h | h) | h
  · rcases o a with e | ⟨ob, ys, e⟩
    · rw [e] at h; cases h
    · rw [e] at h; cases h
  · exact .inl h
  · exact .inr h
theorem law_in (K : Frag) (H : Hp) (a : Addr) (ns : List Int) (hn : ns.length ≤ 63) (o : Only H) (h : SqL K H a (ns.map V.int)) : sp_law K [.ref a] H (fun v _ => v = .bl true) fun _ _ _ => False :=
  ⟨rfl, a, ns, rfl, sy_script o h, hn, fun _ => rfl⟩
theorem law_fin {l : PySem.W.OpenLaw} {w : World} {K : Frag} {h : Heap} {mg : Str → Option Value} {fa : Addr} (X : K.In h) (G : h.Ns mainGlobals mg) (hfa : mg "law" = some (.ref fa)) (T : Tx K mg) :
    ∃ fd : FuncData, (∀ (s : Shared) (u : Value), BindsTo s fd ⟨[u], []⟩ [("script", u)]) ∧ ∀ base : Heap, K.In base → base.Ns mainGlobals mg → FG l.prog w K mg base CX0 10 fa fd ["script"] (sp_law K) := by
  have e := hfa.symm.trans T.m_law
  cases e
  refine ⟨T.d_law, fun s u => ?_, fun base _ _ => ok_law T⟩
  exact .of_eq ((OB.Fun.bd T.F_law (ps := ["script"]) (n := 1) (ks := []) (ix := [0]) (fun _ _ _ _ _ _ us ws h1 h2 => match us, ws, h1, h2 with | [_], [], _, _ => rfl)).to [u] [] rfl rfl)
end LAW

set_option Elab.async false
set_option linter.all false
set_option maxRecDepth 100000
namespace LAW
open PySem PySem.Spec PyProof.Rows L2 PySem.W OB
theorem walk {l : PySem.W.OpenLaw} {q : Program} {loose : List Str} {XP : (Str → Option Value) → Heap → Prop} {YP : World → Heap → Prop} {d : DefRec} {K : Params → PySem.W.Frag} (hn : l.most = some 63) (hdf : d.params.defaults = [])
    (hY : ∀ (w : World) (h : Heap), YP w h → (K w.params).In h)
    (F : ∀ (w : World) (mg : Str → Option Value) (fa : Addr) (h : Heap), (K w.params).In h → h.Ns mainGlobals mg → mg d.name = some (.ref fa) →
      ∃ fd : FuncData, (∀ (s : Shared) (u : Value), BindsTo s fd ⟨[u], []⟩ [("script", u)]) ∧ ∀ base : Heap, (K w.params).In base → base.Ns mainGlobals mg → FG l.prog w (K w.params) mg base CX0 10 fa fd ["script"] (sp_law (K w.params))) :
    PySem.W.WalkO q loose XP YP l.row.toRowW d [] (fun f vs => PySem.call f vs) :=
  walk_g (n := 63) (k := 10) (x := "script") (sp := sp_law) hn (by decide) hdf ⟨⟨rfl, by decide, by decide⟩, rfl⟩ hY F law_in
end LAW
open PySem PySem.W PyProof.Rows
set_option maxRecDepth 100000 in
set_option maxHeartbeats 0 in
theorem PySem.Challenge.cw_oncebooked_k29_what_may_be_told_of_marks_holds : PySem.Challenge.rw_oncebooked_k29_what_may_be_told_of_marks.Holds := by
  w_on; o_law; k_head; (case hw => w_witness2)
  k_fill
  refine LAW.walk (l := PySem.Challenge.rw_oncebooked_k29_what_may_be_told_of_marks) rfl rfl (fun w h Y => PySem.W.kIn_of Y) ?F
  case F =>
    intro w mg fa h KX G hmg
    refine' LAW.law_fin KX G hmg (LAW.mkTx KX G ?x_n_worst_by ?x_l_worst_by ?x_c_worst_by ?x_k_worst_by ?x_n_lengths_of ?x_l_lengths_of ?x_c_lengths_of ?x_k_lengths_of ?x_n_cost_of ?x_l_cost_of ?x_c_cost_of ?x_k_cost_of ?x_n_is_integer ?x_l_is_integer ?x_c_is_integer ?x_k_is_integer ?x_n_sums_of ?x_l_sums_of ?x_c_sums_of ?x_k_sums_of ?x_n_law_lengths ?x_l_law_lengths ?x_c_law_lengths ?x_k_law_lengths ?x_n_law_take ?x_l_law_take ?x_c_law_take ?x_k_law_take ?x_n_law_all_marks ?x_l_law_all_marks ?x_c_law_all_marks ?x_k_law_all_marks ?x_n_law_is_pair ?x_l_law_is_pair ?x_c_law_is_pair ?x_k_law_is_pair ?x_n_law_cost ?x_l_law_cost ?x_c_law_cost ?x_k_law_cost ?x_n_law_are_marks ?x_l_law_are_marks ?x_c_law_are_marks ?x_k_law_are_marks ?x_n_law_pot ?x_l_law_pot ?x_c_law_pot ?x_k_law_pot ?x_n_law_cells ?x_l_law_cells ?x_c_law_cells ?x_k_law_cells ?x_n_worst_at ?x_l_worst_at ?x_c_worst_at ?x_k_worst_at ?x_n_is_within ?x_l_is_within ?x_c_is_within ?x_k_is_within ?x_n_cheapest_at ?x_l_cheapest_at ?x_c_cheapest_at ?x_k_cheapest_at ?x_n_bounds_of ?x_l_bounds_of ?x_c_bounds_of ?x_k_bounds_of ?x_n_law_worst_ticks ?x_l_law_worst_ticks ?x_c_law_worst_ticks ?x_k_law_worst_ticks ?x_n_law_of ?x_l_law_of ?x_c_law_of ?x_k_law_of ?x_n_law_near ?x_l_law_near ?x_c_law_near ?x_k_law_near ?x_n_regret_of ?x_l_regret_of ?x_c_regret_of ?x_k_regret_of ?x_n_are_integers ?x_l_are_integers ?x_c_are_integers ?x_k_are_integers ?x_n_check_cuts ?x_l_check_cuts ?x_c_check_cuts ?x_k_check_cuts ?x_n_all_cheapest ?x_l_all_cheapest ?x_c_all_cheapest ?x_k_all_cheapest ?x_n_law_work ?x_l_law_work ?x_c_law_work ?x_k_law_work ?x_n_law_regret_by ?x_l_law_regret_by ?x_c_law_regret_by ?x_k_law_regret_by ?x_n_law_least_times ?x_l_law_least_times ?x_c_law_least_times ?x_k_law_least_times ?x_n_is_work ?x_l_is_work ?x_c_is_work ?x_k_is_work ?x_n_are_marks ?x_l_are_marks ?x_c_are_marks ?x_k_are_marks ?x_n_check_work ?x_l_check_work ?x_c_check_work ?x_k_check_work ?x_n_is_told ?x_l_is_told ?x_c_is_told ?x_k_is_told ?x_n_least_worst ?x_l_least_worst ?x_c_least_worst ?x_k_least_worst ?x_n_cheapest_marks ?x_l_cheapest_marks ?x_c_cheapest_marks ?x_k_cheapest_marks ?x_n_least_regret ?x_l_least_regret ?x_c_least_regret ?x_k_least_regret ?x_n_shows_least ?x_l_shows_least ?x_c_shows_least ?x_k_shows_least ?x_n_shows_cheapest ?x_l_shows_cheapest ?x_c_shows_cheapest ?x_k_shows_cheapest ?x_n_shows_regret ?x_l_shows_regret ?x_c_shows_regret ?x_k_shows_regret ?x_n_law_right ?x_l_law_right ?x_c_law_right ?x_k_law_right ?x_n_law ?x_l_law ?x_c_law ?x_k_law ?x_g_MOST_PARTS ?x_g_MOST_TICKS ?x_g_MOST_MOMENT ?x_g_MOST_CUTS ?x_g_MOST_LENGTH ?x_g_PAIR ?x_g_TRIPLE ?x_n_abs ?x_n_all ?x_n_any ?x_n_bool ?x_n_enumerate ?x_n_int ?x_n_isinstance ?x_n_len ?x_n_list ?x_n_max ?x_n_min ?x_n_range ?x_n_repr ?x_n_sorted ?x_n_sum ?x_n_tuple ?x_n_zip)
    (case x_n_worst_by => k_is)
    (case x_l_worst_by => k_is)
    (case x_c_worst_by => k_is)
    (case x_k_worst_by => k_is)
    (case x_n_lengths_of => k_is)
    (case x_l_lengths_of => k_is)
    (case x_c_lengths_of => k_is)
    (case x_k_lengths_of => k_is)
    (case x_n_cost_of => k_is)
    (case x_l_cost_of => k_is)
    (case x_c_cost_of => k_is)
    (case x_k_cost_of => k_is)
    (case x_n_is_integer => k_is)
    (case x_l_is_integer => k_is)
    (case x_c_is_integer => k_is)
    (case x_k_is_integer => k_is)
    (case x_n_sums_of => k_is)
    (case x_l_sums_of => k_is)
    (case x_c_sums_of => k_is)
    (case x_k_sums_of => k_is)
    (case x_n_law_lengths => k_is)
    (case x_l_law_lengths => k_is)
    (case x_c_law_lengths => k_is)
    (case x_k_law_lengths => k_is)
    (case x_n_law_take => k_is)
    (case x_l_law_take => k_is)
    (case x_c_law_take => k_is)
    (case x_k_law_take => k_is)
    (case x_n_law_all_marks => k_is)
    (case x_l_law_all_marks => k_is)
    (case x_c_law_all_marks => k_is)
    (case x_k_law_all_marks => k_is)
    (case x_n_law_is_pair => k_is)
    (case x_l_law_is_pair => k_is)
    (case x_c_law_is_pair => k_is)
    (case x_k_law_is_pair => k_is)
    (case x_n_law_cost => k_is)
    (case x_l_law_cost => k_is)
    (case x_c_law_cost => k_is)
    (case x_k_law_cost => k_is)
    (case x_n_law_are_marks => k_is)
    (case x_l_law_are_marks => k_is)
    (case x_c_law_are_marks => k_is)
    (case x_k_law_are_marks => k_is)
    (case x_n_law_pot => k_is)
    (case x_l_law_pot => k_is)
    (case x_c_law_pot => k_is)
    (case x_k_law_pot => k_is)
    (case x_n_law_cells => k_is)
    (case x_l_law_cells => k_is)
    (case x_c_law_cells => k_is)
    (case x_k_law_cells => k_is)
    (case x_n_worst_at => k_is)
    (case x_l_worst_at => k_is)
    (case x_c_worst_at => k_is)
    (case x_k_worst_at => k_is)
    (case x_n_is_within => k_is)
    (case x_l_is_within => k_is)
    (case x_c_is_within => k_is)
    (case x_k_is_within => k_is)
    (case x_n_cheapest_at => k_is)
    (case x_l_cheapest_at => k_is)
    (case x_c_cheapest_at => k_is)
    (case x_k_cheapest_at => k_is)
    (case x_n_bounds_of => k_is)
    (case x_l_bounds_of => k_is)
    (case x_c_bounds_of => k_is)
    (case x_k_bounds_of => k_is)
    (case x_n_law_worst_ticks => k_is)
    (case x_l_law_worst_ticks => k_is)
    (case x_c_law_worst_ticks => k_is)
    (case x_k_law_worst_ticks => k_is)
    (case x_n_law_of => k_is)
    (case x_l_law_of => k_is)
    (case x_c_law_of => k_is)
    (case x_k_law_of => k_is)
    (case x_n_law_near => k_is)
    (case x_l_law_near => k_is)
    (case x_c_law_near => k_is)
    (case x_k_law_near => k_is)
    (case x_n_regret_of => k_is)
    (case x_l_regret_of => k_is)
    (case x_c_regret_of => k_is)
    (case x_k_regret_of => k_is)
    (case x_n_are_integers => k_is)
    (case x_l_are_integers => k_is)
    (case x_c_are_integers => k_is)
    (case x_k_are_integers => k_is)
    (case x_n_check_cuts => k_is)
    (case x_l_check_cuts => k_is)
    (case x_c_check_cuts => k_is)
    (case x_k_check_cuts => k_is)
    (case x_n_all_cheapest => k_is)
    (case x_l_all_cheapest => k_is)
    (case x_c_all_cheapest => k_is)
    (case x_k_all_cheapest => k_is)
    (case x_n_law_work => k_is)
    (case x_l_law_work => k_is)
    (case x_c_law_work => k_is)
    (case x_k_law_work => k_is)
    (case x_n_law_regret_by => k_is)
    (case x_l_law_regret_by => k_is)
    (case x_c_law_regret_by => k_is)
    (case x_k_law_regret_by => k_is)
    (case x_n_law_least_times => k_is)
    (case x_l_law_least_times => k_is)
    (case x_c_law_least_times => k_is)
    (case x_k_law_least_times => k_is)
    (case x_n_is_work => k_is)
    (case x_l_is_work => k_is)
    (case x_c_is_work => k_is)
    (case x_k_is_work => k_is)
    (case x_n_are_marks => k_is)
    (case x_l_are_marks => k_is)
    (case x_c_are_marks => k_is)
    (case x_k_are_marks => k_is)
    (case x_n_check_work => k_is)
    (case x_l_check_work => k_is)
    (case x_c_check_work => k_is)
    (case x_k_check_work => k_is)
    (case x_n_is_told => k_is)
    (case x_l_is_told => k_is)
    (case x_c_is_told => k_is)
    (case x_k_is_told => k_is)
    (case x_n_least_worst => k_is)
    (case x_l_least_worst => k_is)
    (case x_c_least_worst => k_is)
    (case x_k_least_worst => k_is)
    (case x_n_cheapest_marks => k_is)
    (case x_l_cheapest_marks => k_is)
    (case x_c_cheapest_marks => k_is)
    (case x_k_cheapest_marks => k_is)
    (case x_n_least_regret => k_is)
    (case x_l_least_regret => k_is)
    (case x_c_least_regret => k_is)
    (case x_k_least_regret => k_is)
    (case x_n_shows_least => k_is)
    (case x_l_shows_least => k_is)
    (case x_c_shows_least => k_is)
    (case x_k_shows_least => k_is)
    (case x_n_shows_cheapest => k_is)
    (case x_l_shows_cheapest => k_is)
    (case x_c_shows_cheapest => k_is)
    (case x_k_shows_cheapest => k_is)
    (case x_n_shows_regret => k_is)
    (case x_l_shows_regret => k_is)
    (case x_c_shows_regret => k_is)
    (case x_k_shows_regret => k_is)
    (case x_n_law_right => k_is)
    (case x_l_law_right => k_is)
    (case x_c_law_right => k_is)
    (case x_k_law_right => k_is)
    (case x_n_law => k_is)
    (case x_l_law => k_is)
    (case x_c_law => k_is)
    (case x_k_law => k_is)
    (case x_g_MOST_PARTS => k_is)
    (case x_g_MOST_TICKS => k_is)
    (case x_g_MOST_MOMENT => k_is)
    (case x_g_MOST_CUTS => k_is)
    (case x_g_MOST_LENGTH => k_is)
    (case x_g_PAIR => k_is)
    (case x_g_TRIPLE => k_is)
    (case x_n_abs => k_is)
    (case x_n_all => k_is)
    (case x_n_any => k_is)
    (case x_n_bool => k_is)
    (case x_n_enumerate => k_is)
    (case x_n_int => k_is)
    (case x_n_isinstance => k_is)
    (case x_n_len => k_is)
    (case x_n_list => k_is)
    (case x_n_max => k_is)
    (case x_n_min => k_is)
    (case x_n_range => k_is)
    (case x_n_repr => k_is)
    (case x_n_sorted => k_is)
    (case x_n_sum => k_is)
    (case x_n_tuple => k_is)
    (case x_n_zip => k_is)
#print axioms PySem.Challenge.cw_oncebooked_k29_what_may_be_told_of_marks_holds

