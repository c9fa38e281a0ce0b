import PyProof.Rows.All
import Wide.All
import OpenK.AllK
import Wide.FinOn
import PyProof.ReprRoads
import HandS.ForMost
import HandS.Exc
import HandS.Wide
import HandS.WideBits
import HandS.Star
import HandS.Defaults
import HandS.Property
import HandS.IsInst
import HandS.Deep
import KE.GoesMore
import KE.GoesZip
import KE.GoesEnum
import PyProof.NoPylong
import PyProof.EnumMake
import HandS.TupAny
import HandS.Style
import PyProof.ReprLen
import HandS.Conv
import HandS.Dict
import HandS.DictComp
import HandS.More
import HandS.Walk
import PyProof.DictUpdate
import KE.KTupSum
import HandS.SetFor
import PyProof.Rows.SetFrom
import KE.DataMinMax
import PyProof.P3Eq
import KE.SortData
import HandS.Small
import KE.KIntText
import HandS.ExcInit
import HandS.ExcField
import HandS.ExcIs
import KE.KExcSuper
import KE.KExcIs
import HandS.DictTup
import HandS.SetKeys
import PyProof.DictMoreH
import KE.KDictSum
import HandS.Text
import HandS.Steps
import HandS.LawCells
import HandS.Remove
import KE.LtSeq
import PyProof.FactsAll.tuple
import HandS.ExcOwn
import HandS.Lambda
import HandS.TryOnly
import PySem.Challenge.RW_oncebooked_k36_lots_with_a_sum
import HandS.TupMul
set_option Elab.async false
set_option linter.all false
set_option maxRecDepth 100000
set_option maxHeartbeats 4000000
/-! OB, part a: calls where no repr is under way (so that repr of any data may be asked), by position and by name. -/
namespace OB
open PySem PySem.Spec PyProof.Rows L2 PySem.W

/-- room, and no guard around -/
structure RG (k : Nat) (A : Around) : Prop where
  rm : Room k A
  gd : A.guards = some []
theorem RG.mono {j k : Nat} {A : Around} (g : RG k A) (h : j ≤ k) : RG j A := ⟨g.rm.mono h, g.gd⟩
theorem RG.deeper {k : Nat} {A : Around} (g : RG (k + 1) A) (en : Env) : RG k (A.deeper en) := ⟨g.rm.deeper en, g.gd⟩
theorem RG.in1 {k : Nat} {A : Around} (g : RG (k + 1) A) : RG k A.in1 := ⟨g.rm.in1, g.gd⟩
theorem RG.make {k : Nat} {A : Around} (g : RG (k + 1) A) (C : Addr) (us : List Value) (kw : List (Str × Value)) :
    RG k (A.under (.builtin "type.__call__" ⟨.ref C :: us, kw⟩)) := by
  refine ⟨g.rm.make C us kw, ?_⟩
  have e : Code.guards (.builtin "type.__call__" ⟨.ref C :: us, kw⟩) = [] := by
    unfold Code.guards
    rw [if_neg]
    intro z
    have z2 : guardIds.contains "type.__call__" = true := by simpa [Code.isGuard] using z
    exact absurd z2 (by decide +kernel)
  show pushGuards (Code.guards (.builtin "type.__call__" ⟨.ref C :: us, kw⟩)) A.guards = some []
  rw [e]
  exact g.gd

/-- a def's promise where no guard is around -/
structure FG (P : Program) (w : World) (K : PySem.W.Frag) (mg : Str → Option Value) (base : Heap) (CX : CXT) (k : Nat) (f : Addr) (fd : FuncData) (ps : List Str) (sp : Sp) : Prop where
  len : ∀ vs H Q E, sp vs H Q E → vs.length = ps.length
  go : ∀ (A : Around) (out : List Env) (s : Shared) (H : Hp) (ar : Args) (us : List Value) (vs : List V) (Q : VK) (E : XK), RG k A → Env0 P w K mg base A out s H →
    BindsTo s fd ar (ps.zip us) → Vals vs us → sp vs H Q E → codeAny (model P w) A (.call (.ref f) ar) (CR CX out P w H s Q E) s
section
variable {P : Program} {w : World} {K : PySem.W.Frag} {mg : Str → Option Value} {base : Heap} {CX : CXT} {f : Addr} {fd : FuncData} {ps : List Str} {sp : Sp}
theorem FG.mono {j k : Nat} (F : FG P w K mg base CX j f fd ps sp) (h : j ≤ k) : FG P w K mg base CX k f fd ps sp :=
  ⟨F.len, fun A out s H ar us vs Q E g => F.go A out s H ar us vs Q E (g.mono h)⟩
theorem FG.imp {k : Nat} {sp' : Sp} (F : FG P w K mg base CX k f fd ps sp) (h : ∀ vs H Q E, sp' vs H Q E → sp vs H Q E) : FG P w K mg base CX k f fd ps sp' :=
  ⟨fun vs H Q E q => F.len vs H Q E (h _ _ _ _ q), fun A out s H ar us vs Q E g e0 hb hv q => F.go A out s H ar us vs Q E g e0 hb hv (h _ _ _ _ q)⟩
/-- the rule for a def: as L2.fn_of, the room without guards handed on -/
theorem fg_of {k : Nat} {name qual : Str} {params : Arguments} {body : List Stmt} {sc : Scope} {dV kV doc pm cdv ct oc : Value} {an od : Option Addr}
    {osl : Array (Option Value)} {N : List Str} (lk : K.lookup f = some ⟨oc, od, .func (PySem.W.fnOf name qual params body sc dV kV doc pm an cdv ct), osl⟩)
    (hcd : PySem.W.codeIn K cdv qual = true) (S : FnScope N ps sc) (len : ∀ vs H Q E, sp vs H Q E → vs.length = ps.length)
    (hbody : ∀ (A : Around) (out : List Env) (s : Shared) (H : Hp) (vs : List V) (Q : VK) (E : XK), RG k (A.deeper (envOfC qual sc s.heap.objs.size f cdv)) → sp vs H Q E →
      ∃ t, PSs (cxOf CX P w K mg base N qual sc f cdv A out s H E) body t ∧ t { nx := fun _ H' => Q .non H', rt := Q } (start N vs) H) :
    FG P w K mg base CX (k + 1) f (PySem.W.fnOf name qual params body sc dV kV doc pm an cdv ct) ps sp := by
  refine ⟨len, fun A out s H ar us vs Q E g e0 hb r hsp => ?_⟩
  have hlen := len _ _ _ _ hsp
  have KI : K.In s.heap := e0.mod.kin.keeps fun b o e => (e0.bs b o e).1
  have nl : s.heap.NoLimit := e0.mod.nolimit.keeps fun b o e => (e0.bs b o e).1
  have kinds : ∀ y ∈ ps.zip us, sc.names.lookup y.1 = some .local ∨ (sc.names.lookup y.1 = some .cell ∧ ((cellsFrom (s.heap.objs.size + 1) sc.names []).lookup y.1).isSome = true) := fun ⟨n, v⟩ hy => by
    rcases S.par n (List.of_mem_zip hy).1 with q | q
    · exact .inl q
    · exact .inr ⟨q, PySem.W.cellsFrom_some _ _ _ (.inl q)⟩
  refine codeAny_call_function g.rm.depth (KI _ _ lk) rfl S.co S.gen rfl (PySem.W.codeRec_of KI hcd) (hb _ _ _ _ ?_)
  refine wpAny_newFunctionEnv_cells S.kind kinds fun env he s1 x => ?_
  subst he
  refine ⟨nl.keeps x.toInCall.keep, codeAny_func ?_⟩
  obtain ⟨t, ht, hq⟩ := hbody A out s H vs Q E (g.deeper _) hsp
  have I : Inv (cxOf CX P w K mg base N qual sc f cdv A out s H E) [] (start N vs) H s1 := inv_start S g.rm.hd e0 hlen r x
  refine wpAny_mono (ht.run [] s1 (start N vs) H _ I hq) (fun fl s' hs => ?_) fun e s' hs => hs
  have fin : ∀ {σ' : L2.St} {H' : Hp} {v : V} {u : Value}, Inv (cxOf CX P w K mg base N qual sc f cdv A out s H E) [] σ' H' s' → RelV v u → Q v H' → CE out P w H s Q u s' :=
    fun {σ' H' v u} J rv q => ⟨v, H', J.os, J.bare, J.base, J.hok, rv, q⟩
  match fl, hs with
  | .ret u, ⟨v, σ', H', J, rv, q⟩ => exact fin J rv q
  | .next, ⟨σ', H', J, q⟩ => exact fin (v := V.non) (u := Value.none) J rfl q
  | .brk, ⟨_, _, _, q⟩ => exact False.elim q
  | .cont, ⟨_, _, _, q⟩ => exact False.elim q
/-- .. of a def of the text, no exception leaving -/
theorem Fun.fg {x qual : Str} {st : Stmt} {N : List Str} {k : Nat} (F : Fun K x qual st f fd) (S : FnScope N ps (defScope st)) (len : ∀ vs H Q E, sp vs H Q E → vs.length = ps.length)
    (hbody : ∀ (cdv : Value) (A : Around) (out : List Env) (s : Shared) (H : Hp) (vs : List V) (Q : VK) (E : XK), RG k (A.deeper (envOfC qual (defScope st) s.heap.objs.size f cdv)) → sp vs H Q E →
      ∃ t, PSs (cxOf CX0 P w K mg base N qual (defScope st) f cdv A out s H E).nox (defBody st) t ∧ t { nx := fun _ H' => Q .non H', rt := Q } (start N vs) H) : FG P w K mg base CX0 (k + 1) f fd ps sp := by
  obtain ⟨oc, od, kV, doc, pm, an, cdv, ct, osl, rfl, lk, hcd⟩ := F.ex
  refine fg_of lk hcd S len fun A out s H vs Q E g hsp => ?_
  obtain ⟨t, h, q⟩ := hbody cdv A out s H vs Q E g hsp
  exact ⟨t, h.nox, q⟩
end

/-! ### how arguments bind -/
def pick {α : Type} (ix : List Nat) (l : List α) : List α := ix.filterMap (l[·]?)
theorem vals_pick {vs : List V} {us : List Value} (r : Vals vs us) : ∀ ix : List Nat, Vals (pick ix vs) (pick ix us)
  | [] => .nil
  | i :: ix => by
    unfold pick
    rw [List.filterMap_cons, List.filterMap_cons]
    cases e : vs[i]? with
    | none =>
      rw [r.none_of e]
      exact vals_pick r ix
    | some v =>
      obtain ⟨u, e2, r2⟩ := r.get e
      rw [e2]
      exact .cons r2 (vals_pick r ix)
/-- n values by position, those named ks by name; ix: the parameters' places among all of them -/
structure Bd (K : PySem.W.Frag) (fd : FuncData) (ps : List Str) (n : Nat) (ks : List Str) (ix : List Nat) : Prop where
  to : ∀ (us ws : List Value), us.length = n → ws.length = ks.length → bindArgs fd ⟨us, ks.zip ws⟩ = pure (ps.zip (pick ix (us ++ ws)))
theorem Fun.bd {K : PySem.W.Frag} {x qual : Str} {st : Stmt} {f : Addr} {fd : FuncData} {ps : List Str} {n : Nat} {ks : List Str} {ix : List Nat} (F : Fun K x qual st f fd)
    (h : ∀ (kV doc pm : Value) (an : Option Addr) (cdv ct : Value) (us ws : List Value), us.length = n → ws.length = ks.length →
      bindArgs (PySem.W.fnOf x qual (defArgs st) (defBody st) (defScope st) .none kV doc pm an cdv ct) ⟨us, ks.zip ws⟩ = pure (ps.zip (pick ix (us ++ ws)))) : Bd K fd ps n ks ix := by
  obtain ⟨oc, od, kV, doc, pm, an, cdv, ct, osl, rfl, lk, hcd⟩ := F.ex
  exact ⟨h kV doc pm an cdv ct⟩

/-! ### calls -/
def tCg (n m : Nat) (ix : List Nat) (sp : Sp) (E : XK) (t tk : TA) : TE := fun σ H Q => t σ H fun vs H1 => tk σ H1 fun zs H2 => vs.length = n ∧ zs.length = m ∧ sp (pick ix (vs ++ zs)) H2 Q E
def tMg (C : Addr) (mn : Str) (n m : Nat) (ix : List Nat) (sp : Sp) (E : XK) (ta : TE) (t tk : TA) : TE := fun σ H Q => ta σ H fun x H1 => ∃ a dx fs, x = .ref a ∧ H1 a = some (.ins C dx fs) ∧ fs.lookup mn = none ∧
  t σ H1 fun vs H2 => tk σ H2 fun zs H3 => (x :: vs).length = n ∧ zs.length = m ∧ sp (pick ix ((x :: vs) ++ zs)) H3 Q E
def tKg (C : Addr) (n m : Nat) (ix : List Nat) (sp : Sp) (E : XK) (t tk : TA) : TE := fun σ H Q => t σ H fun vs H1 => tk σ H1 fun zs H2 => vs.length + 1 = n ∧ zs.length = m ∧
  ∀ x dx, H2 x = none → H2 dx = none → dx ≠ x → sp (pick ix ((.ref x :: vs) ++ zs)) (upd (upd H2 dx (.own x)) x (.ins C dx [])) (fun v H3 => v = .non ∧ Q (.ref x) H3) E
section
variable {X : Cx} {CX : CXT} {k n : Nat} {f C : Addr} {fd : FuncData} {ps ks : List Str} {ix : List Nat} {sp : Sp} {E : XK} {x mn : Str} {p pos apos : Pos} {e o : Expr} {es : List Expr} {kws : List Keyword} {ta : TE} {t tk : TA}
theorem run_g {pins : List (Addr × Obj)} {σ : L2.St} {H : Hp} {s : Shared} {Q : VK} {us ws : List Value} {vs zs : List V} (F : FG X.prog X.w X.K X.mg X.base CX k f fd ps sp) (g : RG k X.A) (hb : Bd X.K fd ps n ks ix) (hx : Passes CX X E)
    (I : Inv X pins σ H s) (r : Vals vs us) (rz : Vals zs ws) (l1 : vs.length = n) (l2 : zs.length = ks.length) (h : sp (pick ix (vs ++ zs)) H Q E) :
    wpAny (model X.prog X.w) X.A (call (.ref f) us (ks.zip ws)) (EP X pins σ Q) X.xe s := by
  refine wpAny_call (codeAny_mono (F.go X.A X.stack s H ⟨us, ks.zip ws⟩ (pick ix (us ++ ws)) (pick ix (vs ++ zs)) Q E g I.env0 (.of_eq (hb.to us ws (r.length.symm.trans l1) (rz.length.symm.trans l2))) (vals_pick (r.append rz) ix) h) fun r s' hq => ?_)
  match r, hq with
  | .error e, hq => exact hx pins σ H s e s' I hq
  | .ok (.ret u), hq => exact I.after hq
  | .ok .next, hq => exact False.elim hq
  | .ok .brk, hq => exact False.elim hq
  | .ok .cont, hq => exact False.elim hq
/-- f(e, .., k = v, ..) -/
theorem pe_cg (F : FG X.prog X.w X.K X.mg X.base CX k f fd ps sp) (g : RG k X.A) (hg : Gl X x) (hm : X.mg x = some (.ref f)) (hk : PySem.W.keepIn X.K (.ref f) = true) (hb : Bd X.K fd ps n ks ix) (hx : Passes CX X E)
    (ha : PA X (e :: es) t) (hkw : PK X kws tk) (hall : (backToKw pos (keywordEach kws X.env)).all (·.1.isSome) = true := by rfl) (hks : (backToKw pos (keywordEach kws X.env)).filterMap (·.1) = ks := by rfl)
    (hdb : (x == ("__debug__" : Str)) = false := by decide) (he : starEach (e :: es) X.env = (false, eval e X.env) :: starEach es X.env := by rfl)
    (hpl : ((backTo pos (starEach (e :: es) X.env)).any (·.1) || (backToKw pos (keywordEach kws X.env)).any (·.1.isNone)) = false := by rfl) : PE X (.Call (.Name x p) (e :: es) kws pos) (tCg n ks.length ix sp E t tk) := by
  refine ⟨fun pins s σ H Q I h => wpAny_Call_Name_kw (ld_glob I hg hm ?_ hdb)⟩
  refine PySem.W.callWith_KW (h₀ := X.base) I.ok.mod.kin hk hall (thn (ha.run pos pins s σ H _ I h) fun us s1 ⟨vs, H1, I1, r, q⟩ => ?_) hpl he
  refine thn (hkw.run pos pins s1 σ H1 _ I1 q) fun ws s2 ⟨zs, H2, I2, rz, l1, l2, q2⟩ => ⟨I2.kIn, ?_⟩
  rw [hks]
  exact run_g F g hb hx I2 r rz l1 l2 q2
/-- f(k = v, ..), f() -/
theorem pe_cg0 (F : FG X.prog X.w X.K X.mg X.base CX k f fd ps sp) (g : RG k X.A) (hg : Gl X x) (hm : X.mg x = some (.ref f)) (hk : PySem.W.keepIn X.K (.ref f) = true) (hb : Bd X.K fd ps 0 ks ix) (hx : Passes CX X E)
    (hkw : PK X kws tk) (hall : (backToKw pos (keywordEach kws X.env)).all (·.1.isSome) = true := by rfl) (hks : (backToKw pos (keywordEach kws X.env)).filterMap (·.1) = ks := by rfl)
    (hdb : (x == ("__debug__" : Str)) = false := by decide)
    (hpl : ((backTo pos (starEach [] X.env)).any (·.1) || (backToKw pos (keywordEach kws X.env)).any (·.1.isNone)) = false := by rfl) : PE X (.Call (.Name x p) [] kws pos) (tCg 0 ks.length ix sp E tNil tk) := by
  refine ⟨fun pins s σ H Q I h => wpAny_Call_Name_kw (ld_glob I hg hm ?_ hdb)⟩
  refine PySem.W.callWith_KW0 (h₀ := X.base) I.ok.mod.kin hk hall ?_ hpl
  refine thn (hkw.run pos pins s σ H _ I h) fun ws s2 ⟨zs, H2, I2, rz, l1, l2, q2⟩ => ⟨I2.kIn, ?_⟩
  rw [hks]
  exact run_g (us := []) (vs := []) F g hb hx I2 .nil rz l1 l2 q2
/-- o.m(e, .., k = v, ..) -/
theorem pe_mg {pl : Sem Bool} (ho : PE X o ta) (c : Cls X.K C) (hm : Meth X.K C mn f) (F : FG X.prog X.w X.K X.mg X.base CX k f fd ps sp) (g : RG k X.A) (hb : Bd X.K fd ps n ks ix) (hx : Passes CX X E) (ha : PA X (e :: es) t) (hkw : PK X kws tk)
    (hall : (backToKw pos (keywordEach kws X.env)).all (·.1.isSome) = true := by rfl) (hks : (backToKw pos (keywordEach kws X.env)).filterMap (·.1) = ks := by rfl)
    (he : starEach (e :: es) X.env = (false, eval e X.env) :: starEach es X.env := by rfl) (hpl : ((backTo pos (starEach (e :: es) X.env)).any (·.1) || (backToKw pos (keywordEach kws X.env)).any (·.1.isNone)) = false := by rfl)
    (ht : eval (.Call (.Attribute o mn apos) (e :: es) kws pos) X.env = (do
      let ov ← eval o X.env
      standAt apos.atName
      let (fv, first) ← holding [ov] (getMethod ov mn pl)
      callWith pos fv first (backTo pos (starEach (e :: es) X.env)) (backToKw pos (keywordEach kws X.env))) := by rfl) : PE X (.Call (.Attribute o mn apos) (e :: es) kws pos) (tMg C mn n ks.length ix sp E ta t tk) := by
  refine ⟨fun pins s σ H Q I h => ?_⟩
  refine PySem.W.methodCall_KW (pl := pl) (thn (ho.run pins s σ H _ I h) fun u s1 ⟨y, H1, I1, ry, a, dx, fs, ey, ea, l, q⟩ => ?_) ht
  subst ey
  obtain rfl : u = Value.ref a := ry
  refine getmeth_ok I1 ea c hm l ?_
  refine PySem.W.callWith_KW (first := [.ref a]) (h₀ := X.base) I.ok.mod.kin hm.kp hall (thn (ha.run pos pins s1 σ H1 _ I1 q) fun us s2 ⟨vs, H2, I2, r, q2⟩ => ?_) hpl he
  refine thn (hkw.run pos pins s2 σ H2 _ I2 q2) fun ws s3 ⟨zs, H3, I3, rz, l1, l2, q3⟩ => ⟨I3.kIn, ?_⟩
  rw [hks]
  exact run_g (us := .ref a :: us) (vs := .ref a :: vs) F g hb hx I3 (.cons rfl r) rz l1 l2 q3
/-- o.m(k = v, ..), o.m() -/
theorem pe_mg0 {pl : Sem Bool} (ho : PE X o ta) (c : Cls X.K C) (hm : Meth X.K C mn f) (F : FG X.prog X.w X.K X.mg X.base CX k f fd ps sp) (g : RG k X.A) (hb : Bd X.K fd ps 1 ks ix) (hx : Passes CX X E) (hkw : PK X kws tk)
    (hall : (backToKw pos (keywordEach kws X.env)).all (·.1.isSome) = true := by rfl) (hks : (backToKw pos (keywordEach kws X.env)).filterMap (·.1) = ks := by rfl)
    (hpl : ((backTo pos (starEach [] X.env)).any (·.1) || (backToKw pos (keywordEach kws X.env)).any (·.1.isNone)) = false := by rfl)
    (ht : eval (.Call (.Attribute o mn apos) [] kws pos) X.env = (do
      let ov ← eval o X.env
      standAt apos.atName
      let (fv, first) ← holding [ov] (getMethod ov mn pl)
      callWith pos fv first (backTo pos (starEach [] X.env)) (backToKw pos (keywordEach kws X.env))) := by rfl) : PE X (.Call (.Attribute o mn apos) [] kws pos) (tMg C mn 1 ks.length ix sp E ta tNil tk) := by
  refine ⟨fun pins s σ H Q I h => ?_⟩
  refine PySem.W.methodCall_KW (pl := pl) (thn (ho.run pins s σ H _ I h) fun u s1 ⟨y, H1, I1, ry, a, dx, fs, ey, ea, l, q⟩ => ?_) ht
  subst ey
  obtain rfl : u = Value.ref a := ry
  refine getmeth_ok I1 ea c hm l ?_
  refine PySem.W.callWith_KW0 (first := [.ref a]) (h₀ := X.base) I.ok.mod.kin hm.kp hall ?_ hpl
  refine thn (hkw.run pos pins s1 σ H1 _ I1 q) fun ws s3 ⟨zs, H3, I3, rz, l1, l2, q3⟩ => ⟨I3.kIn, ?_⟩
  rw [hks]
  exact run_g (us := [.ref a]) (vs := [.ref a]) F g hb hx I3 (.cons rfl .nil) rz l1 l2 q3

theorem run_kg {pins : List (Addr × Obj)} {σ : L2.St} {H : Hp} {s : Shared} {Q : VK} {us ws : List Value} {vs zs : List V} (M : Mk X.K C f) (F : FG X.prog X.w X.K X.mg X.base CX k f fd ps sp) (g : RG (k + 1) X.A) (hb : Bd X.K fd ps n ks ix) (hx : Passes CX X E)
    (I : Inv X pins σ H s) (r : Vals vs us) (rz : Vals zs ws) (l1 : vs.length + 1 = n) (l2 : zs.length = ks.length)
    (h : ∀ x dx, H x = none → H dx = none → dx ≠ x → sp (pick ix ((.ref x :: vs) ++ zs)) (upd (upd H dx (.own x)) x (.ins C dx [])) (fun v H2 => v = .non ∧ Q (.ref x) H2) E) :
    wpAny (model X.prog X.w) X.A (call (.ref C) us (ks.zip ws)) (EP X pins σ Q) X.xe s := by
  have hq := h (s.heap.objs.size + 1) s.heap.objs.size (I.hok.fresh (Nat.le_succ _)) (I.hok.fresh (Nat.le_refl _)) (Nat.ne_of_lt (Nat.lt_succ_self _))
  have I2 := Inv.made (C := C) I
  have r1 : Vals (V.ref (s.heap.objs.size + 1) :: vs) (Value.ref (s.heap.objs.size + 1) :: us) := .cons rfl r
  have e1 : (Value.ref (s.heap.objs.size + 1) :: us).length = n := by
    rw [← r1.length]
    exact l1
  refine wpAny_call (make_map (f := f) I.kIn M.makes M.init (beq_iff_eq.mp M.fn) (codeAny_mono (F.go _ X.stack _ _ ⟨Value.ref (s.heap.objs.size + 1) :: us, ks.zip ws⟩ (pick ix ((Value.ref (s.heap.objs.size + 1) :: us) ++ ws)) _ _ E (g.make C us (ks.zip ws))
    (I2.env0.make C us (ks.zip ws)) (.of_eq (hb.to _ _ e1 (rz.length.symm.trans l2))) (vals_pick (r1.append rz) ix) hq) fun r s' hq' => ?_))
  match r, hq' with
  | .error e, hq' => exact hx pins σ _ _ e s' I2 hq'
  | .ok (.ret u), hq' =>
    obtain ⟨v, H', I3, rv, ev, q3⟩ := I2.after hq'
    subst ev
    exact ⟨rv, ⟨V.ref (s.heap.objs.size + 1), H', I3, rfl, q3⟩⟩
  | .ok .next, hq' => exact False.elim hq'
  | .ok .brk, hq' => exact False.elim hq'
  | .ok .cont, hq' => exact False.elim hq'
/-- C(e, .., k = v, ..) -/
theorem pe_kg (M : Mk X.K C f) (F : FG X.prog X.w X.K X.mg X.base CX k f fd ps sp) (g : RG (k + 1) X.A) (hg : Gl X x) (hm : X.mg x = some (.ref C)) (hb : Bd X.K fd ps n ks ix) (hx : Passes CX X E) (ha : PA X (e :: es) t) (hkw : PK X kws tk)
    (hall : (backToKw pos (keywordEach kws X.env)).all (·.1.isSome) = true := by rfl) (hks : (backToKw pos (keywordEach kws X.env)).filterMap (·.1) = ks := by rfl)
    (hdb : (x == ("__debug__" : Str)) = false := by decide) (he : starEach (e :: es) X.env = (false, eval e X.env) :: starEach es X.env := by rfl)
    (hpl : ((backTo pos (starEach (e :: es) X.env)).any (·.1) || (backToKw pos (keywordEach kws X.env)).any (·.1.isNone)) = false := by rfl) : PE X (.Call (.Name x p) (e :: es) kws pos) (tKg C n ks.length ix sp E t tk) := by
  refine ⟨fun pins s σ H Q I h => wpAny_Call_Name_kw (ld_glob I hg hm ?_ hdb)⟩
  refine PySem.W.callWith_KW (h₀ := X.base) I.ok.mod.kin M.kp hall (thn (ha.run pos pins s σ H _ I h) fun us s1 ⟨vs, H1, I1, r, q⟩ => ?_) hpl he
  refine thn (hkw.run pos pins s1 σ H1 _ I1 q) fun ws s2 ⟨zs, H2, I2, rz, l1, l2, q2⟩ => ⟨I2.kIn, ?_⟩
  rw [hks]
  exact run_kg M F g hb hx I2 r rz l1 l2 q2
/-- C(k = v, ..), C() -/
theorem pe_kg0 (M : Mk X.K C f) (F : FG X.prog X.w X.K X.mg X.base CX k f fd ps sp) (g : RG (k + 1) X.A) (hg : Gl X x) (hm : X.mg x = some (.ref C)) (hb : Bd X.K fd ps 1 ks ix) (hx : Passes CX X E) (hkw : PK X kws tk)
    (hall : (backToKw pos (keywordEach kws X.env)).all (·.1.isSome) = true := by rfl) (hks : (backToKw pos (keywordEach kws X.env)).filterMap (·.1) = ks := by rfl)
    (hdb : (x == ("__debug__" : Str)) = false := by decide)
    (hpl : ((backTo pos (starEach [] X.env)).any (·.1) || (backToKw pos (keywordEach kws X.env)).any (·.1.isNone)) = false := by rfl) : PE X (.Call (.Name x p) [] kws pos) (tKg C 1 ks.length ix sp E tNil tk) := by
  refine ⟨fun pins s σ H Q I h => wpAny_Call_Name_kw (ld_glob I hg hm ?_ hdb)⟩
  refine PySem.W.callWith_KW0 (h₀ := X.base) I.ok.mod.kin M.kp hall ?_ hpl
  refine thn (hkw.run pos pins s σ H _ I h) fun ws s2 ⟨zs, H2, I2, rz, l1, l2, q2⟩ => ⟨I2.kIn, ?_⟩
  rw [hks]
  exact run_kg (us := []) (vs := []) M F g hb hx I2 .nil rz l1 l2 q2

/-- e.f, a property -/
def tPg (C : Addr) (sp : Sp) (E : XK) (ta : TE) : TE := fun σ H Q => ta σ H fun y H1 => ∃ a dx fs, y = .ref a ∧ H1 a = some (.ins C dx fs) ∧ sp [.ref a] H1 Q E
theorem pe_pg {pa : Addr} {nm : Str} (ho : PE X o ta) (c : Cls X.K C) (hp : PropOf X.K C nm pa f) (F : FG X.prog X.w X.K X.mg X.base CX k f fd ["self"] sp) (g : RG (k + 1) X.A) (hb : Bd X.K fd ["self"] 1 [] [0]) (hx : Passes CX X.nox E)
    (hab : attributeBase o nm X.env (eval o X.env) = eval o X.env := by rfl) : PE X (.Attribute o nm pos) (tPg C sp E ta) := by
  refine ⟨fun pins s σ H Q I h => ?_⟩
  refine attr_of hab (thn (ho.run pins s σ H _ I h) fun u s1 ⟨y, H1, I1, ry, a, dx, fs, ey, ea, q⟩ => ?_)
  subst ey
  obtain rfl : u = Value.ref a := ry
  obtain ⟨mA, O, _, _, _, _⟩ := ins_get I1.hok ea
  obtain ⟨od, J, _⟩ := O.look
  obtain ⟨more, hrec⟩ := hp.rec_
  have I2 := I1.tok (s1.toks + 1)
  have hc : (PySem.W.clsIn X.K C).isSome = true := by
    obtain ⟨cd, hc, _⟩ := PySem.W.any_some c.hd
    rw [hc]
    rfl
  refine PySem.W.get_bind I1.kIn J (PySem.W.plainGet_of (c.get nm)).1 (PySem.W.findObj_data hc hp.at_ hp.get hp.tak) (PySem.W.plainGet_of (c.get nm)).2 (wpAny_call (PySem.W.prop_get (s := { s1 with toks := s1.toks + 1 }) I1.kIn hrec ?_))
  refine codeAny_mono (F.go X.A.in1 X.stack { s1 with toks := s1.toks + 1 } H1 ⟨[.ref a], []⟩ [.ref a] [.ref a] Q E g.in1 I2.env0.in1 (.of_eq (hb.to [.ref a] [] rfl rfl)) (.cons rfl .nil) q) fun r s' hq => ?_
  match r, hq with
  | .error er, hq => exact False.elim (hx pins σ H1 { s1 with toks := s1.toks + 1 } er s' (I2.wish _) hq)
  | .ok (.ret u), hq =>
    obtain ⟨v, H', I3, rv, q3⟩ := I2.after hq
    show wpAny _ _ (handedOut u) _ _ _
    rw [PySem.W.handedOut_of (handed_of rv)]
    exact wpAny_pure ⟨v, H', I3, rv, q3⟩
  | .ok .next, hq => exact False.elim hq
  | .ok .brk, hq => exact False.elim hq
  | .ok .cont, hq => exact False.elim hq
end

/-! ### repr of data -/
def rRepr (K : PySem.W.Frag) : List V → Hp → VK → Prop := fun xs H Q => ∃ v d, xs = [v] ∧ Dp K H v d ∧ d.showable = true ∧ d.hasDict = false ∧ d.depth ≤ 60 ∧ d.shown.length ≤ sizeLine ∧ Q (.str d.shown) H
section
variable {X : Cx}
theorem call_repr {k : Nat} (g : RG k X.A) : CallR X (.builtin "repr") (rRepr X.K) := by
  intro pins s σ H xs us Q I r h
  obtain ⟨v, d, rfl, hd, hs, hn, hdep, hsz, q⟩ := h
  obtain ⟨u, rfl, ru⟩ := vals1 r
  have hun := g.rm.un
  obtain ⟨as, rd⟩ := Dp.reads I d v u hd ru
  cases hd with
  | non =>
    cases ru
    exact PySem.P.repr_of_none ⟨.str _, H, I.tok _, ⟨_, rfl⟩, q⟩
  | bl b =>
    cases ru
    exact PySem.P.repr_of_bool ⟨.str _, H, I.tok _, ⟨_, rfl⟩, q⟩
  | int i =>
    obtain ⟨t, rfl⟩ := ru
    exact PySem.P.repr_of_int (of_decide_eq_true hs) ⟨.str _, H, I.tok _, ⟨_, rfl⟩, q⟩
  | str x =>
    obtain ⟨t, rfl⟩ := ru
    exact PySem.P.repr_of_str ⟨.str _, H, I.tok _, ⟨_, rfl⟩, q⟩ hsz
  | lst h1 h2 =>
    cases ru
    exact repr_of_reads' rd hs (PyData.noDict_hsm hn) g.gd (by omega) (fun _ _ e => e) (fun h' u tk hk => ⟨.str _, H, I.kept hk, ⟨_, rfl⟩, q⟩) hsz
  | tup h1 h2 =>
    cases ru
    exact repr_of_reads' rd hs (PyData.noDict_hsm hn) g.gd (by omega) (fun _ _ e => e) (fun h' u tk hk => ⟨.str _, H, I.kept hk, ⟨_, rfl⟩, q⟩) hsz
end

/-! ### the end of a law -/
theorem law_cg {P : Program} {w : World} {s₁ : Shared} {K : PySem.W.Frag} {mg mb : Str → Option Value} {a : Addr} {vs : List Value} {ns : List Int} {fa : Addr} {fd : FuncData} {x : Str} {k : Nat} {sp : Sp}
    (KX : K.In s₁.heap) (hns : s₁.heap.Ns mainGlobals mg) (hbl : s₁.heap.Ns builtinsNs mb) (hbb : ∀ x : Str, x ≠ "__name__" → mb x = bootBuiltins x) (lim : s₁.heap.NoLimit) (gn : s₁.gens = #[])
    (ha : s₁.heap.get? a = some { cls := .type "list", data := .seq vs.toArray }) (hi : IntsAre vs ns) (hl : ns.length ≤ sizeLine)
    (hr : RG k callerA) (F : ∀ base : Heap, K.In base → base.Ns mainGlobals mg → FG P w K mg base CX0 k fa fd [x] sp) (hbind : ∀ (s : Shared) (u : Value), BindsTo s fd ⟨[u], []⟩ [(x, u)])
    (hsp : ∀ H : Hp, Only H → SqL K H a (ns.map V.int) → sp [.ref a] H (fun v _ => v = .bl true) fun _ _ _ => False) :
    codeAny (model P w) callerA (.call (.ref fa) ⟨[.ref a], []⟩) (fun r s' => r = .ok (.ret (.bool true)) ∧ OldK s₁.heap s'.heap ∧ s'.os = s₁.os ∧ AllBare s'.gens) s₁ := by
  have rv := vals_ints hi
  have lv := hi.length
  -- whatever abstract heap tells of the script alone
  have main : ∀ H : Hp, (∀ b, H b ≠ none → b = a) → (H a ≠ none → K.lookup a = none) → Only H → HOk P w H s₁.heap → SqL K H a (ns.map V.int) →
      codeAny (model P w) callerA (.call (.ref fa) ⟨[.ref a], []⟩) (fun r s' => r = .ok (.ret (.bool true)) ∧ OldK s₁.heap s'.heap ∧ s'.os = s₁.os ∧ AllBare s'.gens) s₁ := by
    intro H alone apart only hok hS
    have free : ∀ {b : Addr} {o : Obj}, s₁.heap.get? b = some o → (b = a → False) → H b = none := fun {b o} e ne => by
      cases q : H b with
      | none => rfl
      | some u => exact (ne (alone b (by rw [q]; exact fun z => nomatch z))).elim
    have keepNs : ∀ {b : Addr} {m : Str → Option Value}, s₁.heap.Ns b m → (hidT s₁.heap H).Ns b m := by
      rintro b m ⟨o, es, ep, e, d, r⟩
      refine ⟨o, es, ep, hidT_get e (free e ?_), d, r⟩
      rintro rfl
      rw [ha] at e
      cases e
      exact nomatch d
    have keepK : K.In (hidT s₁.heap H) := fun b o e => by
      refine hidT_get (KX b o e) ?_
      cases q : H b with
      | none => rfl
      | some u =>
        have hb : H b ≠ none := by rw [q]; exact fun z => nomatch z
        have eb := alone b hb
        rw [eb] at hb e
        rw [apart hb] at e
        cases e
    have hM : Mod K mg (hidT s₁.heap H) := by
      obtain ⟨mc, c1, c2⟩ := lim
      exact ⟨keepK, keepNs hns, ⟨mb, keepNs hbl, hbb⟩, ⟨mc, keepNs c1, c2⟩⟩
    have e0 : Env0 P w K mg (hidT s₁.heap H) callerA [] s₁ H := ⟨rfl, hM, fun b o e => of_hidT e, Nat.le_of_eq (hidT_size _ _), trivial, (fun b hb => (nomatch hb)), hok, .of_eq gn⟩
    have fin := (F _ keepK (keepNs hns)).go callerA [] s₁ H ⟨[.ref a], []⟩ [.ref a] [.ref a] _ _ hr e0 (hbind s₁ (.ref a)) (.cons rfl .nil) (hsp H only hS)
    refine codeAny_mono fin fun r s' h => ?_
    match r, h with
    | .error e, h => exact False.elim h
    | .ok .next, h => exact False.elim h
    | .ok .brk, h => exact False.elim h
    | .ok .cont, h => exact False.elim h
    | .ok (.ret u), ⟨v, H', os, bare, un, hok', ru, q⟩ =>
      have qv : v = .bl true := q
      subst qv
      obtain rfl : u = Value.bool true := ru
      refine ⟨rfl, OldK.of_keep fun b o e => ?_, os, bare⟩
      rcases only b with z | ⟨ob, xs, z⟩
      · exact un.keep b o e z (fun y => nomatch y) (fun y => nomatch y)
      · obtain ⟨e1, _⟩ := hok b _ z
        obtain ⟨e2, _⟩ := hok' b _ (un.frzs b ob _ z)
        rw [e] at e1
        cases e1
        exact e2
  cases hk : K.lookup a with
  | some o =>
    have e := KX a o hk
    rw [ha] at e
    cases e
    refine main (fun _ => none) (fun b z => absurd rfl z) (fun z => absurd rfl z) (fun _ => .inl rfl) (fun b u z => nomatch z) (.inr ⟨_, vs.toArray, _, hk, rfl, rfl, rfl, ?_, by simpa using rv⟩)
    rw [List.size_toArray, lv]
    exact hl
  | none =>
    have one : ∀ b u, (if b = a then some (HO.frz { cls := .type "list", data := .seq vs.toArray } (.lst (ns.map V.int))) else none) = some u → b = a ∧ u = .frz { cls := .type "list", data := .seq vs.toArray } (.lst (ns.map V.int)) := fun b u z => by
      by_cases hb : b = a
      · rw [if_pos hb] at z
        exact ⟨hb, (Option.some.inj z).symm⟩
      · rw [if_neg hb] at z
        cases z
    refine main (fun b => if b = a then some (.frz { cls := .type "list", data := .seq vs.toArray } (.lst (ns.map V.int))) else none) (fun b z => ?_) (fun _ => hk) (fun b => ?_) (fun b u z => ?_) (.inl (.inr ⟨_, if_pos rfl⟩))
    · by_cases hb : b = a
      · exact hb
      · exact (z (if_neg hb)).elim
    · by_cases hb : b = a
      · exact .inr ⟨_, _, if_pos hb⟩
      · exact .inl (if_neg hb)
    · obtain ⟨hb, hu⟩ := one b u z
      subst hb hu
      exact ⟨ha, by rw [List.length_map]; exact hl, vs, _, rv, ha⟩
theorem walk_g {l : PySem.W.OpenLaw} {n k : Nat} {q : Program} {loose : List Str} {XP : (Str → Option Value) → Heap → Prop} {YP : World → Heap → Prop} {d : DefRec} {K : Params → PySem.W.Frag} {sp : PySem.W.Frag → Sp} {x : Str}
    (hn : l.most = some n) (hn2 : n ≤ sizeLine) (hdf : d.params.defaults = []) (hr : RG k callerA) (hY : ∀ (w : World) (h : Heap), YP w h → (K w.params).In h)
    (F : ∀ (w : World) (mg : Str → Option Value) (fa : Addr) (h : Heap), (K w.params).In h → h.Ns mainGlobals mg → mg d.name = some (.ref fa) → ∃ fd : FuncData,
      (∀ (s : Shared) (u : Value), BindsTo s fd ⟨[u], []⟩ [(x, u)]) ∧ ∀ base : Heap, (K w.params).In base → base.Ns mainGlobals mg → FG l.prog w (K w.params) mg base CX0 k fa fd [x] (sp (K w.params)))
    (hsp : ∀ (K : PySem.W.Frag) (H : Hp) (a : Addr) (ns : List Int), ns.length ≤ n → Only H → SqL K H a (ns.map V.int) → sp K [.ref a] H (fun v _ => v = .bl true) fun _ _ _ => False) :
    PySem.W.WalkO q loose XP YP l.row.toRowW d [] (fun f vs => PySem.call f vs) := by
  refine Att.attach_call hn hdf fun w s₀ s₁ mg mb fa o pm cd doc a vs ns G Y ho hd hcd hmg hobj hints hlen hg => ?_
  have KX := hY w _ Y
  obtain ⟨fd, hb, hF⟩ := F w mg fa _ KX G.T.g hmg
  exact law_cg KX G.T.g G.T.b G.T.builtins G.T.nolimit hg hobj hints (Nat.le_trans hlen hn2) hr hF hb fun H hO hS => hsp (K w.params) H a ns hlen hO hS
end OB

set_option Elab.async false
set_option linter.all false
set_option maxRecDepth 100000
set_option maxHeartbeats 4000000
/-! OB, part b: what is known of the heap (Sy): objects that stand exactly so (F), data that lasts (G); the steps of a reading. -/
namespace OB
open PySem PySem.Spec PyProof.Rows L2 PySem.W

/-! ### data that lasts: no list, no dict in it -/
mutual
def imm : PyData → Bool
  | .none | .bool _ | .int _ | .str _ => true
  | .tuple xs => immAll xs
  | .list _ | .dict _ => false
def immAll : List PyData → Bool
  | [] => true
  | x :: xs => imm x && immAll xs
end
/-- what stays for good where it is locked: lists and tuples -/
def isFix : HO → Bool
  | .lst _ | .tup _ => true
  | _ => false
/-- tuples and what is locked for good stay -/
def Tx (H H' : Hp) : Prop := (∀ a xs, H a = some (.tup xs) → H' a = some (.tup xs)) ∧ ∀ a o u, isFix u = true → H a = some (.frz o u) → H' a = some (.frz o u)
theorem Tx.refl (H : Hp) : Tx H H := ⟨fun _ _ h => h, fun _ _ _ _ h => h⟩
theorem Tx.trans {H H1 H2 : Hp} (a : Tx H H1) (b : Tx H1 H2) : Tx H H2 := ⟨fun c xs h => b.1 c xs (a.1 c xs h), fun c o u f h => b.2 c o u f (a.2 c o u f h)⟩
theorem Tx.new {H : Hp} {p : Addr} {o : HO} (h : H p = none) : Tx H (upd H p o) := by
  refine ⟨fun a xs e => ?_, fun a o u _ e => ?_⟩
  · rw [upd_ne (ne_of_none e h)]
    exact e
  · rw [upd_ne (ne_of_none e h)]
    exact e
def isMut : HO → Bool
  | .tup _ => false
  | .frz _ u => !isFix u
  | _ => true
theorem Tx.put {H : Hp} {p : Addr} {o o' : HO} (h : H p = some o) (m : isMut o = true) : Tx H (upd H p o') := by
  refine ⟨fun a xs e => ?_, fun a ob u f e => ?_⟩
  · rw [upd_ne]
    · exact e
    · rintro rfl
      rw [h] at e
      cases e
      cases m
  · rw [upd_ne]
    · exact e
    · rintro rfl
      rw [h] at e
      cases e
      have m2 : (!isFix u) = true := m
      rw [f] at m2
      cases m2
theorem sqt_keep {K : Frag} {H H' : Hp} (t : Tx H H') {a : Addr} {xs : List V} (h : SqT K H a xs) : SqT K H' a xs := by
  rcases h with (h | ⟨o, h⟩) | h
  · exact .inl (.inl (t.1 _ _ h))
  · exact .inl (.inr ⟨o, t.2 _ _ _ rfl h⟩)
  · exact .inr h
mutual
theorem dp_keep {K : Frag} {H H' : Hp} (t : Tx H H') : ∀ (d : PyData) (v : V), imm d = true → Dp K H v d → Dp K H' v d
  | .none, _, _, h => by cases h; exact .non
  | .bool b, _, _, h => by cases h; exact .bl b
  | .int i, _, _, h => by cases h; exact .int i
  | .str x, _, _, h => by cases h; exact .str x
  | .tuple ds, _, m, h => by
    cases h with
    | tup h1 h2 => exact .tup (sqt_keep t h1) (dps_keep t ds _ (by simpa [imm] using m) h2)
  | .list _, _, m, _ => by simp [imm] at m
  | .dict _, _, m, _ => by simp [imm] at m
theorem dps_keep {K : Frag} {H H' : Hp} (t : Tx H H') : ∀ (ds : List PyData) (vs : List V), immAll ds = true → DpAll K H vs ds → DpAll K H' vs ds
  | [], _, _, h => by cases h; exact .nil
  | d :: ds, _, m, h => by
    have m2 : imm d = true ∧ immAll ds = true := by simpa [immAll] using m
    cases h with
    | cons h1 h2 => exact .cons (dp_keep t d _ m2.1 h1) (dps_keep t ds _ m2.2 h2)
end
theorem immAll_append {xs ys : List PyData} : immAll (xs ++ ys) = (immAll xs && immAll ys) := by
  induction xs with
  | nil => rfl
  | cons x xs ih =>
    show (imm x && immAll (xs ++ ys)) = (imm x && immAll xs && immAll ys)
    rw [ih, Bool.and_assoc]
theorem immAll_of {xs : List PyData} (h : ∀ x ∈ xs, imm x = true) : immAll xs = true := by
  induction xs with
  | nil => rfl
  | cons x xs ih =>
    show (imm x && immAll xs) = true
    rw [h x (List.mem_cons_self ..), ih fun y hy => h y (List.mem_cons_of_mem _ hy)]
    rfl
theorem immAll_mem {xs : List PyData} (h : immAll xs = true) : ∀ x ∈ xs, imm x = true := by
  induction xs with
  | nil => intro x hx; cases hx
  | cons y xs ih =>
    have m2 : imm y = true ∧ immAll xs = true := by simpa [immAll] using h
    intro x hx
    rcases List.mem_cons.mp hx with rfl | hx
    · exact m2.1
    · exact ih m2.2 x hx

/-! ### DpAll -/
section
variable {K : Frag} {H : Hp}
theorem dps_length {vs : List V} {ds : List PyData} (h : DpAll K H vs ds) : vs.length = ds.length := by
  induction ds generalizing vs with
  | nil => cases h; rfl
  | cons d ds ih =>
    cases h with
    | cons h1 h2 => simp [ih h2]
theorem dps_get : ∀ {ds : List PyData} {vs : List V} {i : Nat} {v : V}, DpAll K H vs ds → vs[i]? = some v → ∃ d, ds[i]? = some d ∧ Dp K H v d
  | [], _, _, _, .nil, e => by simp at e
  | d :: ds, _, 0, v, .cons h1 h2, e => by
    simp at e
    subst e
    exact ⟨d, rfl, h1⟩
  | d :: ds, _, i + 1, v, .cons h1 h2, e => by
    obtain ⟨d', e1, e2⟩ := dps_get (i := i) h2 (by simpa using e)
    exact ⟨d', by simpa using e1, e2⟩
theorem dps_getD : ∀ {ds : List PyData} {vs : List V} {i : Nat} {d : PyData}, DpAll K H vs ds → ds[i]? = some d → ∃ v, vs[i]? = some v ∧ Dp K H v d
  | [], _, _, _, .nil, e => by simp at e
  | d :: ds, _, 0, v, .cons h1 h2, e => by
    simp at e
    subst e
    exact ⟨_, rfl, h1⟩
  | d :: ds, _, i + 1, v, .cons h1 h2, e => by
    obtain ⟨d', e1, e2⟩ := dps_getD (i := i) h2 (by simpa using e)
    exact ⟨d', by simpa using e1, e2⟩
theorem dps_append : ∀ {ds : List PyData} {vs : List V} {es : List PyData} {ws : List V}, DpAll K H vs ds → DpAll K H ws es → DpAll K H (vs ++ ws) (ds ++ es)
  | [], _, _, _, .nil, h => h
  | _ :: _, _, _, _, .cons h1 h2, h => .cons h1 (dps_append h2 h)
theorem dps_drop : ∀ (n : Nat) {ds : List PyData} {vs : List V}, DpAll K H vs ds → DpAll K H (vs.drop n) (ds.drop n)
  | 0, _, _, h => h
  | _ + 1, [], _, .nil => .nil
  | n + 1, _ :: _, _, .cons _ h2 => dps_drop n h2
theorem dps_take : ∀ (n : Nat) {ds : List PyData} {vs : List V}, DpAll K H vs ds → DpAll K H (vs.take n) (ds.take n)
  | 0, _, _, _ => .nil
  | _ + 1, [], _, .nil => .nil
  | n + 1, _ :: _, _, .cons h1 h2 => .cons h1 (dps_take n h2)
theorem dps_one {v : V} {d : PyData} (h : Dp K H v d) : DpAll K H [v] [d] := .cons h .nil
theorem dps_un {v : V} {d : PyData} (h : DpAll K H [v] [d]) : Dp K H v d := by
  cases h with
  | cons h1 _ => exact h1
theorem dps_ints : ∀ (ns : List Int), DpAll K H (ns.map V.int) (ns.map PyData.int)
  | [] => .nil
  | n :: ns => .cons (.int n) (dps_ints ns)
theorem dps_map {α : Type} {f : α → PyData} {ss : List α} {xs : List V} {i : Nat} {x : V} (h : DpAll K H xs (ss.map f)) (e : xs[i]? = some x) : ∃ s, ss[i]? = some s ∧ Dp K H x (f s) := by
  obtain ⟨d, e2, h2⟩ := dps_get h e
  rw [List.getElem?_map] at e2
  cases q : ss[i]? with
  | none => rw [q] at e2; cases e2
  | some s =>
    rw [q] at e2
    cases e2
    exact ⟨s, rfl, h2⟩
theorem dp_tuple {v : V} {ds : List PyData} (h : Dp K H v (.tuple ds)) : ∃ a xs, v = .ref a ∧ SqT K H a xs ∧ DpAll K H xs ds := by
  cases h with
  | tup h1 h2 => exact ⟨_, _, rfl, h1, h2⟩
theorem dp_int {v : V} {i : Int} (h : Dp K H v (.int i)) : v = .int i := by cases h; rfl
theorem dp_str {v : V} {i : Str} (h : Dp K H v (.str i)) : v = .str i := by cases h; rfl
end

/-! ### what is known -/
/-- the script: locked, or the module's own -/
def Scr (K : Frag) (H : Hp) (a : Addr) (xs : List V) : Prop := SqL K H a xs ∧ ∀ o, H a = some o → ∃ ob, o = .frz ob (.lst xs)
theorem scr_keep {K : Frag} {H H' : Hp} (t : Tx H H') {a : Addr} {xs : List V} (h : Scr K H a xs) (hn : H a = none → H' a = none) : Scr K H' a xs := by
  obtain ⟨h1, h2⟩ := h
  cases e : H a with
  | none =>
    refine ⟨?_, fun o q => by rw [hn e] at q; cases q⟩
    rcases h1 with (h1 | ⟨o, h1⟩) | h1
    · rw [e] at h1; cases h1
    · rw [e] at h1; cases h1
    · exact .inr h1
  | some o =>
    obtain ⟨ob, rfl⟩ := h2 o e
    have e2 := t.2 _ _ _ rfl e
    exact ⟨.inl (.inr ⟨ob, e2⟩), fun o q => by rw [e2] at q; cases q; exact ⟨ob, rfl⟩⟩
inductive Ft where
  | dat (vs : List V) (ds : List PyData)
  | sq (a : Addr) (xs : List V)
  | tq (a : Addr) (xs : List V)
  | tt (l : List (Addr × List V))
def Ft.ok (K : Frag) (H : Hp) : Ft → Prop
  | .dat vs ds => DpAll K H vs ds ∧ immAll ds = true
  | .sq a xs => (∃ o, H a = some (.frz o (.lst xs))) ∨ ∃ (o : Obj) (its : Array Value) (n : Nat), K.lookup a = some o ∧ o.cls = .type "list" ∧ o.dict = none ∧ o.data = .seq its n ∧ its.size ≤ sizeLine ∧ Vals xs its.toList
  | .tq a xs => SqT K H a xs
  | .tt l => ∀ p ∈ l, H p.1 = some (.tup p.2)
theorem Ft.keep {K : Frag} {H H' : Hp} (t : Tx H H') : ∀ g : Ft, g.ok K H → g.ok K H'
  | .dat vs ds, ⟨h, m⟩ => ⟨dps_keep t ds vs m h, m⟩
  | .sq a xs, .inl ⟨o, h⟩ => .inl ⟨o, t.2 _ _ _ rfl h⟩
  | .sq a xs, .inr h => .inr h
  | .tq a xs, h => sqt_keep t h
  | .tt l, h => fun p hp => t.1 _ _ (h p hp)
structure Sy (K : Frag) (F : List (Addr × HO)) (G : List Ft) (H : Hp) : Prop where
  st : ∀ p ∈ F, H p.1 = some p.2
  nd : (F.map (·.1)).Nodup
  ft : ∀ g ∈ G, g.ok K H
section
variable {K : Frag} {F : List (Addr × HO)} {G : List Ft} {H H' : Hp} {p : Addr} {o o' : HO} {i : Nat} {v : V} {vs : List V} {d : PyData} {ds : List PyData}
theorem Sy.nil : Sy K [] [] H := ⟨fun _ h => (nomatch h), .nil, fun _ h => (nomatch h)⟩
theorem Sy.at (S : Sy K F G H) (i : Nat) (h : F[i]? = some (p, o)) : H p = some o := S.st _ (List.mem_of_getElem? h)
theorem Sy.dps (S : Sy K F G H) (i : Nat) (h : G[i]? = some (.dat vs ds)) : DpAll K H vs ds := (S.ft _ (List.mem_of_getElem? h)).1
theorem Sy.dpi (S : Sy K F G H) (i : Nat) (h : G[i]? = some (.dat vs ds)) : immAll ds = true := (S.ft _ (List.mem_of_getElem? h)).2
theorem Sy.dp (S : Sy K F G H) (i : Nat) (h : G[i]? = some (.dat [v] [d])) : Dp K H v d := dps_un (S.dps i h)
theorem Sy.sq {xs : List V} (S : Sy K F G H) (i : Nat) (h : G[i]? = some (.sq p xs)) : SqL K H p xs := by
  rcases S.ft _ (List.mem_of_getElem? h) with ⟨o, q⟩ | q
  · exact .inl (.inr ⟨o, q⟩)
  · exact .inr q
theorem Sy.tqs {xs : List V} (S : Sy K F G H) (i : Nat) (h : G[i]? = some (.tq p xs)) : SqT K H p xs := S.ft _ (List.mem_of_getElem? h)
theorem Sy.tts {l : List (Addr × List V)} (S : Sy K F G H) (i : Nat) (h : G[i]? = some (.tt l)) : ∀ p ∈ l, H p.1 = some (.tup p.2) := S.ft _ (List.mem_of_getElem? h)
/-- a new object -/
theorem Sy.push (S : Sy K F G H) (h : H p = none) : Sy K ((p, o) :: F) G (upd H p o) := by
  refine ⟨fun q hq => ?_, ?_, fun g hg => Ft.keep (Tx.new h) g (S.ft g hg)⟩
  · rcases List.mem_cons.mp hq with rfl | hq
    · exact upd_same
    · have e := S.st q hq
      rw [upd_ne (ne_of_none e h)]
      exact e
  · show (p :: F.map (·.1)).Nodup
    refine List.nodup_cons.mpr ⟨fun hm => ?_, S.nd⟩
    obtain ⟨q, hq, e⟩ := List.mem_map.mp hm
    have e2 := S.st q hq
    rw [e, h] at e2
    cases e2
/-- a new object that is not kept in mind -/
theorem Sy.over (S : Sy K F G H) (h : H p = none) : Sy K F G (upd H p o) := by
  obtain ⟨a, b, c⟩ := S.push (o := o) h
  exact ⟨fun q hq => a q (List.mem_cons_of_mem _ hq), S.nd, c⟩
theorem Sy.fact (S : Sy K F G H) (h : DpAll K H vs ds) (m : immAll ds = true) : Sy K F (.dat vs ds :: G) H :=
  ⟨S.st, S.nd, fun g hg => (List.mem_cons.mp hg).elim (fun e => by rw [e]; exact ⟨h, m⟩) (S.ft g)⟩
theorem Sy.add (S : Sy K F G H) (g : Ft) (h : g.ok K H) : Sy K F (g :: G) H :=
  ⟨S.st, S.nd, fun f hf => (List.mem_cons.mp hf).elim (fun e => by rw [e]; exact h) (S.ft f)⟩
/-- a tuple of data opened -/
theorem Sy.opn (S : Sy K F G H) (h : Dp K H v (.tuple ds)) (m : immAll ds = true) : ∃ a xs, v = .ref a ∧ Sy K F (.tq a xs :: .dat xs ds :: G) H := by
  obtain ⟨a, xs, e, h1, h2⟩ := dp_tuple h
  exact ⟨a, xs, e, (S.fact h2 m).add _ h1⟩
theorem Sy.lay (S : Sy K F G H) (h : H p = none) (hd : DpAll K H vs ds) (m : immAll ds = true) : Sy K F (.dat [.ref p] [.tuple ds] :: G) (upd H p (.tup vs)) := by
  refine (S.over h).fact (dps_one (.tup (.inl (.inl upd_same)) (dps_keep (Tx.new h) ds vs m hd))) ?_
  show (imm (.tuple ds) && true) = true
  rw [Bool.and_true]
  exact m
/-- a new tuple, told as itself and as data -/
theorem Sy.layT (S : Sy K F G H) (h : H p = none) (hd : DpAll K H vs ds) (m : immAll ds = true) : Sy K F (.tt [(p, vs)] :: .dat [.ref p] [.tuple ds] :: G) (upd H p (.tup vs)) :=
  (S.lay h hd m).add _ fun q hq => by
    rcases List.mem_singleton.mp hq with rfl
    exact upd_same
/-- an object changed -/
theorem Sy.put (S : Sy K F G H) (i : Nat) (h : F[i]? = some (p, o)) (m : isMut o = true) : Sy K (F.set i (p, o')) G (upd H p o') := by
  have hp := S.at i h
  have hi : i < F.length := (List.getElem?_eq_some_iff.mp h).1
  refine ⟨fun q hq => ?_, ?_, fun g hg => Ft.keep (Tx.put hp m) g (S.ft g hg)⟩
  · obtain ⟨j, hj⟩ := List.mem_iff_getElem?.mp hq
    by_cases e : i = j
    · subst e
      rw [List.getElem?_set_self hi] at hj
      cases hj
      exact upd_same
    · rw [List.getElem?_set_ne e] at hj
      have e2 := S.st q (List.mem_of_getElem? hj)
      rw [upd_ne]
      · exact e2
      · intro z
        have n := S.nd
        have h1 : (F.map (·.1))[i]? = some p := by rw [List.getElem?_map, h]; rfl
        have h2 : (F.map (·.1))[j]? = some p := by rw [List.getElem?_map, hj, ← z]; rfl
        exact e ((List.getElem_inj n).mp ((List.getElem?_eq_some_iff.mp h1).2.trans (List.getElem?_eq_some_iff.mp h2).2.symm))
  · have e : (F.set i (p, o')).map (·.1) = F.map (·.1) := by
      rw [List.map_set]
      refine List.ext_getElem? fun j => ?_
      by_cases e : i = j
      · subst e
        rw [List.getElem?_set_self (by simpa using hi), List.getElem?_map, h]
        rfl
      · rw [List.getElem?_set_ne e]
    rw [e]
    exact S.nd
theorem Sy.less {x : Addr × HO} (S : Sy K (x :: F) G H) : Sy K F G H := ⟨fun q hq => S.st q (List.mem_cons_of_mem _ hq), (List.nodup_cons.mp (show (x.1 :: F.map (·.1)).Nodup from S.nd)).2, S.ft⟩
theorem Sy.drop {x : Ft} (S : Sy K F (x :: G) H) : Sy K F G H := ⟨S.st, S.nd, fun g hg => S.ft g (List.mem_cons_of_mem _ hg)⟩
/-- other facts, all of them among those known -/
theorem Sy.facts {G' : List Ft} (S : Sy K F G H) (h : ∀ g ∈ G', g ∈ G) : Sy K F G' H := ⟨S.st, S.nd, fun g hg => S.ft g (h g hg)⟩
theorem Sy.drop2 {x y : Ft} (S : Sy K F (x :: y :: G) H) : Sy K F (x :: G) H := S.facts fun g hg => by
  rcases List.mem_cons.mp hg with rfl | h
  · exact List.mem_cons_self ..
  · exact List.mem_cons_of_mem _ (List.mem_cons_of_mem _ h)
theorem Sy.drop3 {x y z : Ft} (S : Sy K F (x :: y :: z :: G) H) : Sy K F (x :: y :: G) H := S.facts fun g hg => by
  rcases List.mem_cons.mp hg with rfl | h
  · exact List.mem_cons_self ..
  · rcases List.mem_cons.mp h with rfl | h
    · exact List.mem_cons_of_mem _ (List.mem_cons_self ..)
    · exact List.mem_cons_of_mem _ (List.mem_cons_of_mem _ (List.mem_cons_of_mem _ h))
theorem Sy.swap {x y : Addr × HO} (S : Sy K (x :: y :: F) G H) : Sy K (y :: x :: F) G H := by
  refine ⟨fun q hq => S.st q ?_, ?_, S.ft⟩
  · rcases List.mem_cons.mp hq with rfl | hq
    · exact List.mem_cons_of_mem _ (List.mem_cons_self ..)
    · rcases List.mem_cons.mp hq with rfl | hq
      · exact List.mem_cons_self ..
      · exact List.mem_cons_of_mem _ (List.mem_cons_of_mem _ hq)
  · have n : (x.1 :: y.1 :: F.map (·.1)).Nodup := S.nd
    show (y.1 :: x.1 :: F.map (·.1)).Nodup
    obtain ⟨n1, n2⟩ := List.nodup_cons.mp n
    obtain ⟨n3, n4⟩ := List.nodup_cons.mp n2
    refine List.nodup_cons.mpr ⟨fun z => ?_, List.nodup_cons.mpr ⟨fun z => n1 (List.mem_cons_of_mem _ z), n4⟩⟩
    rcases List.mem_cons.mp z with e | z
    · exact n1 (by rw [e]; exact List.mem_cons_self ..)
    · exact n3 z
end
end OB

set_option Elab.async false
set_option linter.all false
set_option maxRecDepth 100000
set_option maxHeartbeats 4000000
/-! OB, part c: more rules: walks over lists and tuples alike, zip and enumerate of both, a written dict of ints, powers, attributes as targets. -/
namespace OB
open PySem PySem.Spec PyProof.Rows L2 PySem.W

/-! ### a list or a tuple -/
def SqA (K : Frag) (H : Hp) (a : Addr) (xs : List V) : Prop := SqL K H a xs ∨ SqT K H a xs
/-- k: it is a list -/
def SqK (K : Frag) (H : Hp) (k : Bool) (a : Addr) (xs : List V) : Prop := match k with
  | true => SqL K H a xs
  | false => SqT K H a xs
def IsK (h : Heap) (k : Bool) (a : Addr) (its : Array Value) : Prop := match k with
  | true => h.IsList a its
  | false => h.IsTuple a its
def ItK (h : Heap) (k : Bool) (it a : Addr) (i : Nat) : Prop := match k with
  | true => h.IsListIter it a i
  | false => h.IsTupleIter it a i
theorem ItK.at {h h' : Heap} {k : Bool} {it a : Addr} {i : Nat} (x : ItK h k it a i) (e : ∀ o, h.get? it = some o → h'.get? it = some o) : ItK h' k it a i := by
  cases k with
  | true => exact Heap.IsListIter.at x e
  | false => exact Heap.IsTupleIter.at x e
theorem ItK.obj {h : Heap} {k : Bool} {it a : Addr} {i : Nat} (x : ItK h k it a i) : ∃ o, h.get? it = some o ∧ ∀ v, o.data ≠ .cell v := by
  cases k with
  | true =>
    obtain ⟨o, e, c, d⟩ := x
    exact ⟨o, e, fun v z => by rw [d] at z; cases z⟩
  | false =>
    obtain ⟨o, e, c, d⟩ := x
    exact ⟨o, e, fun v z => by rw [d] at z; cases z⟩
def itObj (k : Bool) (a : Addr) : Obj := match k with
  | true => { cls := .type "list_iterator", data := .fields #[.ref a, .int 0 0] }
  | false => { cls := .type "tuple_iterator", data := .fields #[.ref a, .int 0 0] }
theorem beginsK (k : Bool) (a : Addr) (its : Array Value) : Begins (.ref a) (itObj k a) fun h => IsK h k a its := match k with
  | true => begins_list a its
  | false => begins_tuple a its
theorem itK_new {h : Heap} {k : Bool} {it a : Addr} (e : h.get? it = some (itObj k a)) : ItK h k it a 0 := match k, e with
  | true, e => ⟨_, e, rfl, rfl⟩
  | false, e => ⟨_, e, rfl, rfl⟩
theorem drawsK {prog : Program} {w : World} {A : Around} (hh : A.handled = none) (k : Bool) (it a : Addr) (hne : a ≠ it) (its : Array Value) :
    Draws prog w A it [it, a] its.size (fun i v => its[i]? = some v) (fun i h => ItK h k it a i ∧ IsK h k a its) := match k with
  | true => Draws.list hh it a hne its
  | false => Draws.tuple hh it a hne its
section
variable {X : Cx} {pins : List (Addr × Obj)} {σ : L2.St} {H : Hp} {s : Shared} {a : Addr} {xs ys : List V} {k : Bool}
theorem inv_sqk (I : Inv X pins σ H s) (h : SqK X.K H k a xs) : ∃ its : List Value, Vals xs its ∧ IsK s.heap k a its.toArray ∧ a < s.heap.objs.size := by
  cases k with
  | true =>
    obtain ⟨its, r, p, _⟩ := I.list h
    exact ⟨its, r, p.isList, p.lt⟩
  | false =>
    obtain ⟨its, r, p, _⟩ := I.tuple h
    exact ⟨its, r, p, p.lt⟩
theorem sqk_inj (I : Inv X pins σ H s) (h : SqK X.K H k a xs) (h' : SqK X.K H k a ys) : xs = ys := by
  cases k with
  | true => exact I.list_inj h h'
  | false => exact I.tuple_inj h h'
end
theorem isK_le {h : Heap} {k : Bool} {a : Addr} {its : Array Value} (x : IsK h k a its) : ∃ o, h.get? a = some o ∧ ∃ n, o.data = .seq its n := by
  cases k with
  | true =>
    obtain ⟨o, e, _, n, d⟩ := x
    exact ⟨o, e, n, d⟩
  | false =>
    obtain ⟨o, e, _, n, d⟩ := x
    exact ⟨o, e, n, d⟩

/-! ### zip of two, each a list or a tuple -/
def ItzK (K : Frag) (k l : Bool) (a b : Addr) : It :=
  ⟨fun i H => ∃ (xs ys : List V) (x y : V), SqK K H k a xs ∧ SqK K H l b ys ∧ xs[i]? = some x ∧ ys[i]? = some y,
    fun i H v H' => ∃ T x y, v = .ref T ∧ H T = none ∧ H' = upd H T (.tup [x, y]) ∧ (∀ xs, SqK K H k a xs → xs[i]? = some x) ∧ ∀ ys, SqK K H l b ys → ys[i]? = some y,
    fun i H => ∃ xs ys : List V, SqK K H k a xs ∧ SqK K H l b ys ∧ i ≤ xs.length ∧ i ≤ ys.length ∧ (i = xs.length ∨ i = ys.length)⟩
theorem turn_zipK {P : Program} {w : World} {K : Frag} {elts : List Expr} {kk : Nat} {tpos : Pos} {k l : Bool} {a b z TI TO i1 i2 : Addr} (D : ZipSep2 z TI TO i1 i2 [i1, a] [i2, b]) :
    Turn P w K (.Tuple elts kk tpos) (ItzK K k l a b) [z, TI, TO, i1, i2] z
      (fun i h => IsZip h z TI TO .none ∧ IsTupOf2 h TI (.ref i1) (.ref i2) ∧ (∃ x y, IsTupOf2 h TO x y) ∧ ItK h k i1 a i ∧ ItK h l i2 b i) where
  mem := List.mem_cons_self ..
  obj := fun i h st c hc => by
    obtain ⟨hz, hTI, ⟨x, y, hTO⟩, h1, h2⟩ := st
    have cs : c = z ∨ c = TI ∨ c = TO ∨ c = i1 ∨ c = i2 := by simpa using hc
    rcases cs with rfl | rfl | rfl | rfl | rfl
    · exact ⟨_, hz, fun v q => nomatch q⟩
    · exact ⟨_, hTI, fun v q => nomatch q⟩
    · exact ⟨_, hTO, fun v q => nomatch q⟩
    · exact h1.obj
    · exact h2.obj
  keep := fun i h h' st kp => by
    obtain ⟨hz, hTI, ⟨x, y, hTO⟩, h1, h2⟩ := st
    exact ⟨kp z (by simp) _ hz, kp TI (by simp) _ hTI, ⟨x, y, kp TO (by simp) _ hTO⟩, h1.at fun o q => kp i1 (by simp) o q, h2.at fun o q => kp i2 (by simp) o q⟩
  item := by
    intro X hP hw hK hc i pins s σ H E I hf st hg
    subst hP hw hK
    obtain ⟨hz, hTI, ⟨x0, y0, hTO⟩, h1, h2⟩ := st
    obtain ⟨xs, ys, x, y, qa, qb, hx, hy⟩ := hg
    obtain ⟨its, ra, pa, _⟩ := inv_sqk I qa
    obtain ⟨jts, rb, pb, _⟩ := inv_sqk I qb
    obtain ⟨u, hu, ru⟩ := ra.get hx
    obtain ⟨u2, hu2, ru2⟩ := rb.get hy
    have zlt : z < s.heap.objs.size := Heap.lt_size hz
    have hh : X.A.in1.handled = none := I.ok.hd hc
    have la : i < its.toArray.size := by
      rw [List.size_toArray]
      exact (List.getElem?_eq_some_iff.mp hu).1
    have lb : i < jts.toArray.size := by
      rw [List.size_toArray]
      exact (List.getElem?_eq_some_iff.mp hu2).1
    have nea : a ≠ i1 := fun e => by
      obtain ⟨o, e1, n, d1⟩ := isK_le pa
      rw [e] at e1
      cases k with
      | true => obtain ⟨o2, e2, _, d2⟩ := h1; rw [e1] at e2; cases e2; rw [d1] at d2; cases d2
      | false => obtain ⟨o2, e2, _, d2⟩ := h1; rw [e1] at e2; cases e2; rw [d1] at d2; cases d2
    have neb : b ≠ i2 := fun e => by
      obtain ⟨o, e1, n, d1⟩ := isK_le pb
      rw [e] at e1
      cases l with
      | true => obtain ⟨o2, e2, _, d2⟩ := h2; rw [e1] at e2; cases e2; rw [d1] at d2; cases d2
      | false => obtain ⟨o2, e2, _, d2⟩ := h2; rw [e1] at e2; cases e2; rw [d1] at d2; cases d2
    refine wpAny_pyNext_zipD2_item D (drawsK hh k i1 a nea its.toArray) (drawsK hh l i2 b neb jts.toArray) hz hTI hTO ⟨h1, pa⟩ ⟨h2, pb⟩ la lb fun v1 v2 h' tk e1 e2 z' TO' g1 g2 hT hsz kp => ?_
    have q1 : v1 = u := Option.some.inj (e1.symm.trans (by simpa using hu))
    have q2 : v2 = u2 := Option.some.inj (e2.symm.trans (by simpa using hu2))
    subst q1 q2
    refine ⟨_, rfl, wpAny_letOwnedTupleGo_zip (s := { s with heap := h', toks := tk }) z' fun h'' z'' sb => ?_⟩
    have hT2 : h''.get? s.heap.objs.size = some { cls := .type "tuple", data := .seq #[v1, v2] } := (sb.2 _ (Nat.ne_of_gt zlt)).trans hT
    have fresh : ObjOk X.prog X.w (upd H s.heap.objs.size (.tup [x, y])) h'' s.heap.objs.size (.tup [x, y]) :=
      ⟨by show 2 ≤ sizeLine; decide, [v1, v2], .cons ru (.cons ru2 .nil), ⟨_, hT2, rfl, _, rfl⟩⟩
    have kp2 : ∀ c o, c ∉ [z, TI, TO, i1, i2] → s.heap.get? c = some o → h''.get? c = some o := fun c o hb q =>
      (sb.2 c (fun e => hb (by simp [e]))).trans (kp c o (fun e => hb (by simp [e])) (fun e => hb (by simp [e])) (fun e => hb (by simp [e])) (fun e => hb (by simp [e])) q)
    have I1 : Inv X pins σ (upd H s.heap.objs.size (.tup [x, y])) { s with heap := h'', toks := tk } := I.turnedNew (ch := [z, TI, TO, i1, i2]) kp2 hf (Nat.le_refl _) fresh
    have neTI : TI ≠ z ∧ TI ≠ TO ∧ TI ≠ i1 ∧ TI ≠ i2 := ⟨D.TIz, D.TITO, D.TIi1, D.TIi2⟩
    refine ⟨.ref s.heap.objs.size, _, I1, rfl, ⟨_, x, y, rfl, I.hok.fresh (Nat.le_refl _), rfl, fun m hm => by rw [sqk_inj I hm qa]; exact hx, fun m hm => by rw [sqk_inj I hm qb]; exact hy⟩, ⟨z'', ?_, ⟨v1, v2, ?_⟩, ?_, ?_⟩, fun c hcm => ?_⟩
    · exact (sb.2 _ D.TIz).trans (kp _ _ D.TIz D.TITO D.TIi1 D.TIi2 hTI)
    · exact (sb.2 _ D.TOz).trans TO'
    · exact g1.1.at fun o q => (sb.2 _ (Ne.symm D.zi1)).trans q
    · exact g2.1.at fun o q => (sb.2 _ (Ne.symm D.zi2)).trans q
    · have lt : c < s.heap.objs.size := by
        have cs : c = z ∨ c = TI ∨ c = TO ∨ c = i1 ∨ c = i2 := by simpa using hcm
        rcases cs with rfl | rfl | rfl | rfl | rfl
        · exact zlt
        · exact Heap.lt_size hTI
        · exact Heap.lt_size hTO
        · obtain ⟨o, q, _⟩ := h1.obj; exact Heap.lt_size q
        · obtain ⟨o, q, _⟩ := h2.obj; exact Heap.lt_size q
      rw [upd_ne (Nat.ne_of_lt lt)]
      exact (hf c hcm).1
  done := by
    intro X hP hw hK hc i pins s σ H E I hf st hg
    subst hP hw hK
    obtain ⟨hz, hTI, ⟨x0, y0, hTO⟩, h1, h2⟩ := st
    obtain ⟨xs, ys, qa, qb, l1, l2, le⟩ := hg
    obtain ⟨its, ra, pa, _⟩ := inv_sqk I qa
    obtain ⟨jts, rb, pb, _⟩ := inv_sqk I qb
    have hh : X.A.in1.handled = none := I.ok.hd hc
    have e1 := ra.length
    have e2 := rb.length
    have nea : a ≠ i1 := fun e => by
      obtain ⟨o, e1, n, d1⟩ := isK_le pa
      rw [e] at e1
      cases k with
      | true => obtain ⟨o2, e2, _, d2⟩ := h1; rw [e1] at e2; cases e2; rw [d1] at d2; cases d2
      | false => obtain ⟨o2, e2, _, d2⟩ := h1; rw [e1] at e2; cases e2; rw [d1] at d2; cases d2
    have neb : b ≠ i2 := fun e => by
      obtain ⟨o, e1, n, d1⟩ := isK_le pb
      rw [e] at e1
      cases l with
      | true => obtain ⟨o2, e2, _, d2⟩ := h2; rw [e1] at e2; cases e2; rw [d1] at d2; cases d2
      | false => obtain ⟨o2, e2, _, d2⟩ := h2; rw [e1] at e2; cases e2; rw [d1] at d2; cases d2
    refine wpAny_pyNext_zipD2_end D (drawsK hh k i1 a nea its.toArray) (drawsK hh l i2 b neb jts.toArray) hz hTI hTO ⟨h1, pa⟩ ⟨h2, pb⟩ (by rw [List.size_toArray]; omega) (by rw [List.size_toArray]; omega) (by rw [List.size_toArray, List.size_toArray]; omega) fun h' tk kp => ?_
    exact ⟨rfl, I.turnedL (t' := tk) (ch := [z, TI, TO, i1, i2]) (fun c o hb q => kp c o (fun e => hb (by simp [e])) (fun e => hb (by simp [e])) (fun e => hb (by simp [e])) (fun e => hb (by simp [e])) q) hf⟩
  self := fun A i s Q E st h => wpAny_pyIter_zip st.1 h
def iZipK (K : Frag) (ta : TA) : TI := fun σ H R => ta σ H fun vs H1 => ∃ k l a b xs ys, vs = [.ref a, .ref b] ∧ SqK K H1 k a xs ∧ SqK K H1 l b ys ∧ R (ItzK K k l a b) H1
theorem pi_zipK {X : Cx} {e e2 : Expr} {ta : TA} {p pos tpos : Pos} {elts : List Expr} {kk : Nat} (hg : Gl X "zip") (hm : X.mg "zip" = none) (ha : PA X [e, e2] ta)
    (hs : starEach [e, e2] X.env = (false, eval e X.env) :: starEach [e2] X.env := by rfl) (hpl : (backTo pos (starEach [e2] X.env)).any (·.1) = false := by rfl) :
    PI X (.Tuple elts kk tpos) (.Call (.Name "zip" p) [e, e2] [] pos) (iZipK X.K ta) := by
  refine ⟨fun pins s σ H R I h => Call_ (ld_blt I hg hm PyProof.Rows.boot_zip (PyProof.Rows.callWith_type1 (thn (ha.run pos pins s σ H _ I h) fun us s1 ⟨vs, H1, I1, r1, q1⟩ => ?_) hs hpl))⟩
  obtain ⟨k, l, a, b, xs, ys, rfl, qa, qb, q⟩ := q1
  cases r1 with
  | cons r rr =>
    cases rr with
    | cons r' rr =>
      cases rr
      cases r
      cases r'
      obtain ⟨its, ra, pa, la⟩ := inv_sqk I1 qa
      obtain ⟨jts, rb, pb, lb⟩ := inv_sqk I1 qb
      refine zip_begins2 (beginsK k a its.toArray) (beginsK l b jts.toArray) pa pb fun h' hz hTI hTO g1 g2 hsz kp => wpAny_pyIter_zip hz ?_
      have I2 : Inv X pins σ H1 { s1 with heap := h' } := I1.kept (t' := s1.toks) kp
      refine ⟨s1.heap.objs.size + 4, [s1.heap.objs.size + 4, s1.heap.objs.size + 2, s1.heap.objs.size + 3, s1.heap.objs.size, s1.heap.objs.size + 1], _, _, H1, rfl, I2,
        turn_zipK (zip_sep2 (fp1 := [a]) (fp2 := [b]) (fun c hc => by rw [List.mem_singleton.mp hc]; exact la) (fun c hc => by rw [List.mem_singleton.mp hc]; exact lb)), ⟨hz, hTI, ⟨_, _, hTO⟩, itK_new g1, itK_new g2⟩, fun c hcm => ?_, q⟩
      have cs : c = s1.heap.objs.size + 4 ∨ c = s1.heap.objs.size + 2 ∨ c = s1.heap.objs.size + 3 ∨ c = s1.heap.objs.size ∨ c = s1.heap.objs.size + 1 := by simpa using hcm
      have le : s1.heap.objs.size ≤ c := by
        rcases cs with rfl | rfl | rfl | rfl | rfl
        · exact Nat.le_add_right _ _
        · exact Nat.le_add_right _ _
        · exact Nat.le_add_right _ _
        · exact Nat.le_refl _
        · exact Nat.le_add_right _ _
      exact I1.fpOk le (I1.hok.fresh le)
theorem for_zipK {K : Frag} {k l : Bool} {a b : Addr} {xs ys : List V} {g : TG} {tb : TS} {D : Ends} {σ : L2.St} {H : Hp} (hl : xs.length = ys.length) (Pv : Nat → L2.St → Hp → Prop) (h0 : Pv 0 σ H) (hq : ∀ i σ H, Pv i σ H → SqK K H k a xs ∧ SqK K H l b ys)
    (hs : ∀ i x y T σ H, xs[i]? = some x → ys[i]? = some y → Pv i σ H → H T = none → g (.ref T) σ (upd H T (.tup [x, y])) fun σ2 H2 => tb { D with nx := Pv (i + 1), ct := Pv (i + 1), bk := D.nx } σ2 H2) (hd : ∀ σ H, Pv xs.length σ H → D.nx σ H) :
    ∃ W : Nat → Nat → L2.St → Hp → Prop, (∃ m, W 0 m σ H) ∧ ∀ i m σ H, W i m σ H →
      ((ItzK K k l a b).stop i H ∧ D.nx σ H) ∨ ((ItzK K k l a b).go i H ∧ ∃ N : L2.St → Hp → Prop, (∀ σ' H', N σ' H' → ∃ m', m' < m ∧ W (i + 1) m' σ' H') ∧ ∀ x H', (ItzK K k l a b).yld i H x H' → g x σ H' fun σ2 H2 => tb { D with nx := N, ct := N, bk := D.nx } σ2 H2) := by
  refine ⟨fun i m σ H => m = xs.length - i ∧ i ≤ xs.length ∧ Pv i σ H, ⟨_, rfl, Nat.zero_le _, h0⟩, ?_⟩
  rintro i m σ H ⟨rfl, hi, p⟩
  obtain ⟨qa, qb⟩ := hq i σ H p
  by_cases lt : i < xs.length
  · have hx : xs[i]? = some xs[i] := List.getElem?_eq_getElem lt
    have hy : ys[i]? = some (ys[i]'(hl ▸ lt)) := List.getElem?_eq_getElem _
    refine .inr ⟨⟨xs, ys, _, _, qa, qb, hx, hy⟩, Pv (i + 1), fun σ' H' p' => ⟨xs.length - (i + 1), by omega, rfl, lt, p'⟩, fun v H' yl => ?_⟩
    obtain ⟨T, x, y, rfl, hT, rfl, e1, e2⟩ := yl
    exact hs i x y T σ H (e1 xs qa) (e2 ys qb) p hT
  · have e : i = xs.length := by omega
    subst e
    exact .inl ⟨⟨xs, ys, qa, qb, hi, by omega, .inl rfl⟩, hd σ H p⟩

/-! ### for over a list or a tuple -/
def iSeq (K : Frag) (tl : TE) : TI := fun σ H R => tl σ H fun x H1 => ∃ a, x = .ref a ∧ (((∃ xs, SqL K H1 a xs) ∧ R (Itl K a) H1) ∨ ((∃ xs, SqT K H1 a xs) ∧ R (Itt K a) H1))
theorem pi_seq {X : Cx} {tg l : Expr} {tl : TE} (hl : PE X l tl) : PI X tg l (iSeq X.K tl) := by
  refine ⟨fun pins s σ H R I h => thn (hl.run pins s σ H _ I h) fun v s1 ⟨x, H1, I1, r1, a, ex, q⟩ => ?_⟩
  subst ex
  cases r1
  have fresh : ∀ b ∈ [s1.heap.objs.size], FpOk X pins H1 b := fun b hb => by
    rw [List.mem_singleton.mp hb]
    exact I1.fpOk (Nat.le_refl _) (I1.hok.fresh (Nat.le_refl _))
  rcases q with ⟨⟨xs, hq⟩, q⟩ | ⟨⟨xs, hq⟩, q⟩
  · obtain ⟨its, rv, p, _⟩ := I1.list hq
    exact wpAny_pyIter_list p.isList ⟨s1.heap.objs.size, [s1.heap.objs.size], _, _, H1, rfl, I1.kept (t' := s1.toks) fun b o e => Heap.get?_push_of_some _ e, turn_list a _, ⟨_, Heap.get?_push_size _ rfl, rfl, rfl⟩, fresh, q⟩
  · obtain ⟨its, rv, p, _⟩ := I1.tuple hq
    exact wpAny_pyIter_tuple (show s1.heap.IsTuple a its.toArray from p) ⟨s1.heap.objs.size, [s1.heap.objs.size], _, _, H1, rfl, I1.kept (t' := s1.toks) fun b o e => Heap.get?_push_of_some _ e, turn_tuple a _, ⟨_, Heap.get?_push_size _ rfl, rfl, rfl⟩, fresh, q⟩
end OB

set_option Elab.async false
set_option linter.all false
set_option maxRecDepth 100000
set_option maxHeartbeats 4000000
/-! OB, part d: enumerate of lists and tuples alike, a written dict of ints, powers, attributes as targets. -/
namespace OB
open PySem PySem.Spec PyProof.Rows L2 PySem.W

/-! ### enumerate -/
theorem meets_enum1 {v : Value} {o : Obj} {B : Heap → Prop} (bg : Begins v o B) :
    Meets (Builtin.«enumerate.__new__» ⟨[.type "enumerate", v], []⟩) (fun _ R s => B s.heap ∧
      R (.ok (.ret (.ref (s.heap.push o).objs.size))) { s with heap := (s.heap.push o).push { cls := .type "enumerate", data := .fields #[.none, .bool false, .ref s.heap.objs.size, rawInt 0, .none, .none] } }) :=
  .of_wp fun prog w A R s h => by
    obtain ⟨hp, gn, dr, tk, os⟩ := s
    obtain ⟨hb, h⟩ := h
    have hsub := sub_enumerate
    have walk : ∀ {A' : Around} {E : Value → Shared → Prop} {Q : Value → Shared → Prop}, Q (.ref hp.objs.size) ⟨hp.push o, gn, dr, tk, os⟩ → wpAny (model prog w) A' (pyIter v) Q E ⟨hp, gn, dr, tk, os⟩ :=
      fun q => bg.iter prog w _ _ ⟨hp, gn, dr, tk, os⟩ _ hb q
    wp_walk using walk
    refine wpAny_stack_any fun st => wpAny_pure ?_
    split
    · rename_i c _ _ _ _ _
      cases (c == Value.type "enumerate")
      · wp_walk using walk
        exact ⟨_, rfl, h⟩
      · wp_walk using walk
        exact ⟨_, rfl, h⟩
    · wp_walk using walk
      exact ⟨_, rfl, h⟩
theorem call_enum1 {prog : Program} {w : World} {A : Around} {E : Value → Shared → Prop} {s : Shared} {v : Value} {o : Obj} {B : Heap → Prop} {Q : Value → Shared → Prop} (bg : Begins v o B) (hb : B s.heap)
    (h : ∀ h', IsEnum h' (s.heap.objs.size + 1) s.heap.objs.size 0 .none → h'.get? s.heap.objs.size = some o → (∀ b o, s.heap.get? b = some o → h'.get? b = some o) → Q (.ref (s.heap.objs.size + 1)) { s with heap := h' }) :
    wpAny (model prog w) A (call (.type "enumerate") [v]) Q E s := by
  refine callType_new F.called_enumerate (by decide) (F.typeCall_enumerate_1 _) (F.newCall_enumerate_1 _) (fun obj => F.args_object_init_2 obj _) F.entry_enumerate_new (meets_enum1 bg) ⟨hb, ?_⟩
  have hz : (s.heap.push o).objs.size = s.heap.objs.size + 1 := Heap.size_push ..
  show _ ∧ _
  rw [hz]
  have he : IsEnum ((s.heap.push o).push { cls := .type "enumerate", data := .fields #[.none, .bool false, .ref s.heap.objs.size, rawInt 0, .none, .none] }) (s.heap.objs.size + 1) s.heap.objs.size 0 .none := by
    have q := Heap.get?_push_size (s.heap.push o) (o := { cls := .type "enumerate", data := .fields #[.none, .bool false, .ref s.heap.objs.size, rawInt 0, .none, .none] }) rfl
    rw [hz] at q
    exact q
  exact ⟨⟨_, he, rfl⟩, h _ he (Heap.get?_push_of_some _ (Heap.get?_push_size _ bg.free)) fun b o x => Heap.get?_push_of_some _ (Heap.get?_push_of_some _ x)⟩
def IteK (K : Frag) (k : Bool) (a : Addr) : It :=
  ⟨fun i H => ∃ (xs : List V) (x : V), SqK K H k a xs ∧ xs[i]? = some x,
    fun i H v H' => ∃ T x, v = .ref T ∧ H T = none ∧ H' = upd H T (.tup [.int (i : Nat), x]) ∧ ∀ xs, SqK K H k a xs → xs[i]? = some x,
    fun i H => ∃ xs : List V, SqK K H k a xs ∧ i = xs.length⟩
theorem turn_enumK {P : Program} {w : World} {K : Frag} {elts : List Expr} {kk : Nat} {tpos : Pos} {k : Bool} {a e it : Addr} (hea : e ≠ a) :
    Turn P w K (.Tuple elts kk tpos) (IteK K k a) [e, it] e (fun i h => (∃ old, IsEnum h e it ((i : Nat) : Int) old) ∧ ItK h k it a i ∧ e ≠ it) where
  mem := List.mem_cons_self ..
  obj := fun i h st b hb => by
    obtain ⟨⟨old, he⟩, h1, _⟩ := st
    have cs : b = e ∨ b = it := by simpa using hb
    rcases cs with rfl | rfl
    · exact ⟨_, he, fun v q => nomatch q⟩
    · exact h1.obj
  keep := fun i h h' st kp => by
    obtain ⟨⟨old, he⟩, h1, ne⟩ := st
    exact ⟨⟨old, kp e (by simp) _ he⟩, h1.at fun o q => kp it (by simp) o q, ne⟩
  item := by
    intro X hP hw hK hc i pins s σ H E I hf st hg
    subst hP hw hK
    obtain ⟨⟨old, he⟩, h1, ne⟩ := st
    obtain ⟨xs, x, qa, hx⟩ := hg
    obtain ⟨its, ra, pa, _⟩ := inv_sqk I qa
    obtain ⟨u, hu, ru⟩ := ra.get hx
    have elt : e < s.heap.objs.size := Heap.lt_size he
    have hh : X.A.in1.handled = none := I.ok.hd hc
    have la : i < its.toArray.size := by
      rw [List.size_toArray]
      exact (List.getElem?_eq_some_iff.mp hu).1
    have nea : a ≠ it := fun z => by
      obtain ⟨o, e1, n, d1⟩ := isK_le pa
      rw [z] at e1
      cases k with
      | true => obtain ⟨o2, e2, _, d2⟩ := h1; rw [e1] at e2; cases e2; rw [d1] at d2; cases d2
      | false => obtain ⟨o2, e2, _, d2⟩ := h1; rw [e1] at e2; cases e2; rw [d1] at d2; cases d2
    have nin : e ∉ [it, a] := fun z => by
      have cs : e = it ∨ e = a := by simpa using z
      exact cs.elim ne hea
    refine wpAny_pyNext_enum_itemD (drawsK hh k it a nea its.toArray) he ⟨h1, pa⟩ la ne nin fun v1 h' tk e1 he' g1 hT hsz kp => ?_
    have q1 : v1 = u := Option.some.inj (e1.symm.trans (by simpa using hu))
    subst q1
    refine ⟨_, rfl, wpAny_letOwnedTupleGo_enum (s := { s with heap := h', toks := tk + 1 }) he' fun h'' he'' sb => ?_⟩
    have hT2 : h''.get? s.heap.objs.size = some { cls := .type "tuple", data := .seq #[.int i tk, v1] } := (sb.2 _ (Nat.ne_of_gt elt)).trans hT
    have fresh : ObjOk X.prog X.w (upd H s.heap.objs.size (.tup [.int (i : Nat), x])) h'' s.heap.objs.size (.tup [.int (i : Nat), x]) :=
      ⟨by show 2 ≤ sizeLine; decide, [.int i tk, v1], .cons ⟨_, rfl⟩ (.cons ru .nil), ⟨_, hT2, rfl, _, rfl⟩⟩
    have I1 : Inv X pins σ (upd H s.heap.objs.size (.tup [.int (i : Nat), x])) { s with heap := h'', toks := tk + 1 } :=
      I.turnedNew (ch := [e, it]) (fun c o hb q => (sb.2 c (fun z => hb (by simp [z]))).trans (kp c o (fun z => hb (by simp [z])) (fun z => hb (by simp [z])) q)) hf (Nat.le_refl _) fresh
    refine ⟨.ref s.heap.objs.size, _, I1, rfl, ⟨_, x, rfl, I.hok.fresh (Nat.le_refl _), rfl, fun m hm => by rw [sqk_inj I hm qa]; exact hx⟩, ⟨⟨v1, ?_⟩, g1.1.at fun o q => (sb.2 _ (Ne.symm ne)).trans q, ne⟩, fun c hcm => ?_⟩
    · have ei : ((i + 1 : Nat) : Int) = (i : Int) + 1 := by omega
      rw [ei]
      exact he''
    · have lt : c < s.heap.objs.size := by
        have cs : c = e ∨ c = it := by simpa using hcm
        rcases cs with rfl | rfl
        · exact elt
        · obtain ⟨o, q, _⟩ := h1.obj; exact Heap.lt_size q
      rw [upd_ne (Nat.ne_of_lt lt)]
      exact (hf c hcm).1
  done := by
    intro X hP hw hK hc i pins s σ H E I hf st hg
    subst hP hw hK
    obtain ⟨⟨old, he⟩, h1, ne⟩ := st
    obtain ⟨xs, qa, le⟩ := hg
    obtain ⟨its, ra, pa, _⟩ := inv_sqk I qa
    have hh : X.A.in1.handled = none := I.ok.hd hc
    have e1 := ra.length
    have nea : a ≠ it := fun z => by
      obtain ⟨o, e1, n, d1⟩ := isK_le pa
      rw [z] at e1
      cases k with
      | true => obtain ⟨o2, e2, _, d2⟩ := h1; rw [e1] at e2; cases e2; rw [d1] at d2; cases d2
      | false => obtain ⟨o2, e2, _, d2⟩ := h1; rw [e1] at e2; cases e2; rw [d1] at d2; cases d2
    have ei : i = its.toArray.size := by
      rw [List.size_toArray]
      omega
    subst ei
    obtain ⟨f0, f1, f2, f3, f4, f5⟩ := hf it (by simp)
    exact wpAny_pyNext_enum_endD (drawsK hh k it a nea its.toArray) he ⟨h1, pa⟩ fun h' eb => ⟨rfl, I.turned (t' := s.toks) (fun b o hb q => eb b o hb q) f0 f1 f3 f4 f5⟩
  self := fun A i s Q E st h => by
    obtain ⟨⟨_, he⟩, _⟩ := st
    exact wpAny_pyIter_enum he h
def iEnumK (K : Frag) (ta : TA) : TI := fun σ H R => ta σ H fun vs H1 => ∃ k a xs, vs = [.ref a] ∧ SqK K H1 k a xs ∧ R (IteK K k a) H1
theorem pi_enumK {X : Cx} {e : Expr} {ta : TA} {p pos tpos : Pos} {elts : List Expr} {kk : Nat} (hg : Gl X "enumerate") (hm : X.mg "enumerate" = none) (ha : PA X [e] ta)
    (hs : starEach [e] X.env = [(false, eval e X.env)] := by rfl) : PI X (.Tuple elts kk tpos) (.Call (.Name "enumerate" p) [e] [] pos) (iEnumK X.K ta) := by
  refine ⟨fun pins s σ H R I h => Call_ (ld_blt I hg hm boot_enumerate (PyProof.Rows.callWith_type1 (thn (ha.run pos pins s σ H _ I h) fun us s1 ⟨vs, H1, I1, r1, q1⟩ => ?_) hs rfl))⟩
  obtain ⟨k, a, xs, rfl, qa, q⟩ := q1
  cases r1 with
  | cons r rr =>
    cases rr
    cases r
    obtain ⟨its, ra, pa, la⟩ := inv_sqk I1 qa
    refine call_enum1 (beginsK k a its.toArray) pa fun h' he g1 kp => wpAny_pyIter_enum he ?_
    have I2 : Inv X pins σ H1 { s1 with heap := h' } := I1.kept (t' := s1.toks) kp
    refine ⟨s1.heap.objs.size + 1, [s1.heap.objs.size + 1, s1.heap.objs.size], _, _, H1, rfl, I2, turn_enumK (Nat.ne_of_gt (Nat.lt_succ_of_lt la)), ⟨⟨_, he⟩, itK_new g1, Nat.succ_ne_self _⟩, fun c hcm => ?_, q⟩
    have cs : c = s1.heap.objs.size + 1 ∨ c = s1.heap.objs.size := by simpa using hcm
    have le : s1.heap.objs.size ≤ c := by
      rcases cs with rfl | rfl
      · exact Nat.le_add_right _ _
      · exact Nat.le_refl _
    exact I1.fpOk le (I1.hok.fresh le)
theorem for_enumK {K : Frag} {k : Bool} {a : Addr} {xs : List V} {g : TG} {tb : TS} {D : Ends} {σ : L2.St} {H : Hp} (Pv : Nat → L2.St → Hp → Prop) (h0 : Pv 0 σ H) (hq : ∀ i σ H, Pv i σ H → SqK K H k a xs)
    (hs : ∀ i x T σ H, xs[i]? = some x → Pv i σ H → H T = none → g (.ref T) σ (upd H T (.tup [.int (i : Nat), x])) fun σ2 H2 => tb { D with nx := Pv (i + 1), ct := Pv (i + 1), bk := D.nx } σ2 H2) (hd : ∀ σ H, Pv xs.length σ H → D.nx σ H) :
    ∃ W : Nat → Nat → L2.St → Hp → Prop, (∃ m, W 0 m σ H) ∧ ∀ i m σ H, W i m σ H →
      ((IteK K k a).stop i H ∧ D.nx σ H) ∨ ((IteK K k a).go i H ∧ ∃ N : L2.St → Hp → Prop, (∀ σ' H', N σ' H' → ∃ m', m' < m ∧ W (i + 1) m' σ' H') ∧ ∀ x H', (IteK K k a).yld i H x H' → g x σ H' fun σ2 H2 => tb { D with nx := N, ct := N, bk := D.nx } σ2 H2) := by
  refine ⟨fun i m σ H => m = xs.length - i ∧ i ≤ xs.length ∧ Pv i σ H, ⟨_, rfl, Nat.zero_le _, h0⟩, ?_⟩
  rintro i m σ H ⟨rfl, hi, p⟩
  have qa := hq i σ H p
  by_cases lt : i < xs.length
  · have hx : xs[i]? = some xs[i] := List.getElem?_eq_getElem lt
    refine .inr ⟨⟨xs, _, qa, hx⟩, Pv (i + 1), fun σ' H' p' => ⟨xs.length - (i + 1), by omega, rfl, lt, p'⟩, fun v H' yl => ?_⟩
    obtain ⟨T, x, rfl, hT, rfl, e1⟩ := yl
    exact hs i x T σ H (e1 xs qa) p hT
  · have e : i = xs.length := by omega
    subst e
    exact .inl ⟨⟨xs, qa, rfl⟩, hd σ H p⟩

/-! ### powers -/
def CPowX (i j : Int) : Prop := 0 ≤ j ∧ (Builtin.Int.intBits i : Int) * j ≤ 2 ^ 27
theorem op_powX {X : Cx} : OpR X (binaryOp .Pow) (rI CPowX fun i j => .int (i ^ j.toNat)) := opI fun _ _ _ _ _ _ _ hc q => pow_int hc.1 hc.2 q

/-! ### a written dict of ints -/
def KDi (K : Frag) (a : Addr) (kvs : List (Int × V)) : Prop := ∃ (es : Array DictEntry) (n : Nat), K.lookup a = some ⟨.type "dict", none, .dict es n, #[]⟩ ∧ (a == sysModules) = false ∧
  Paired (fun (p : Int × V) (e : DictEntry) => Value.isInt p.1 e.key = true ∧ e.hash = hashInt p.1 ∧ RelV p.2 e.val) kvs es.toList
theorem kdi_find {kvs : List (Int × V)} : ∀ {es : List DictEntry}, Paired (fun (p : Int × V) (e : DictEntry) => Value.isInt p.1 e.key = true ∧ e.hash = hashInt p.1 ∧ RelV p.2 e.val) kvs es → ∀ i : Int,
    match kvs.lookup i with
    | some v => ∃ u, (es.find? fun d => Value.isInt i d.key).map (·.val) = some u ∧ RelV v u
    | none => (es.find? fun d => Value.isInt i d.key).map (·.val) = none := by
  induction kvs with
  | nil =>
    intro es h i
    cases h
    rfl
  | cons p kvs ih =>
    intro es h i
    cases h with
    | cons h1 h2 =>
      rename_i e es
      obtain ⟨k1, _, k3⟩ := h1
      obtain ⟨t, ek⟩ := Value.isInt_shape k1
      rw [List.lookup_cons, List.find?_cons, ek]
      by_cases q : i = p.1
      · subst q
        rw [beq_self_eq_true]
        have z : Value.isInt p.1 (.int p.1 t) = true := by rw [← ek]; exact k1
        rw [z]
        exact ⟨_, rfl, k3⟩
      · have z : Value.isInt i (.int p.1 t) = false := by
          cases hz : Value.isInt i (.int p.1 t) with
          | false => rfl
          | true =>
            obtain ⟨t2, e2⟩ := Value.isInt_shape hz
            injection e2 with e3 _
            exact absurd e3.symm q
        have z2 : (i == p.1) = false := beq_eq_false_iff_ne.mpr q
        rw [z, z2]
        exact ih h2 i
theorem kdi_keys {kvs : List (Int × V)} : ∀ {es : List DictEntry}, Paired (fun (p : Int × V) (e : DictEntry) => Value.isInt p.1 e.key = true ∧ e.hash = hashInt p.1 ∧ RelV p.2 e.val) kvs es → ∀ e ∈ es, ∃ i, Value.isInt i e.key = true ∧ e.hash = hashInt i := by
  induction kvs with
  | nil =>
    intro es h e he
    cases h
    cases he
  | cons p kvs ih =>
    intro es h e he
    cases h with
    | cons h1 h2 =>
      rcases List.mem_cons.mp he with rfl | he
      · exact ⟨p.1, h1.1, h1.2.1⟩
      · exact ih h2 e he
section
variable {X : Cx}
theorem kdi_map {kvs : List (Int × V)} {a : Addr} {h : Heap} (kin : X.K.In h) (d : KDi X.K a kvs) : ∃ f : Int → Option Value, h.MapOf (PySem.intKind X.prog X.w) a f ∧ (a == sysModules) = false ∧
    ∀ i, match kvs.lookup i with
      | some v => ∃ u, f i = some u ∧ RelV v u
      | none => f i = none := by
  obtain ⟨es, n, lk, low, pr⟩ := d
  refine ⟨fun i => findBy Value.isInt es i, ⟨_, es, n, kin _ _ lk, ⟨rfl, rfl, rfl⟩, rfl, fun e he => kdi_keys pr e (Array.mem_toList_iff.mpr he), fun _ => rfl⟩, low, fun i => ?_⟩
  have q := kdi_find pr i
  obtain ⟨l⟩ := es
  unfold findBy
  have key : ∀ g : DictEntry → Bool, Array.find? g (⟨l⟩ : Array DictEntry) = l.find? g := fun g => List.find?_toArray ..
  simp only [key]
  exact q
def rIxI (K : Frag) : R2 := fun x y H Q => ∃ p i v kvs, x = .ref p ∧ y = .int i ∧ KDi K p kvs ∧ kvs.lookup i = some v ∧ Q v H
theorem ix_kdi : IxR X (rIxI X.K) := by
  intro value slice pins s σ H x y v u Q I rx ry h hs
  obtain ⟨p, i, r, kvs, rfl, rfl, kd, lk, q⟩ := h
  obtain rfl : v = Value.ref p := rx
  obtain ⟨t, rfl⟩ := ry
  obtain ⟨f, hm, low, hf⟩ := kdi_map I.kIn kd
  have hi := hf i
  rw [lk] at hi
  obtain ⟨w, e, rw'⟩ := hi
  exact tail_any hm.typeIs slot_dict_getitem.lookup (wpAny_getItem_of (show (PySem.intKind X.prog X.w).is i (.int i t) = true by simp [PySem.intKind, Value.isInt]) hm e ⟨r, H, I.tok _, rw', q⟩) hs
def rInI (K : Frag) : R2 := fun x y H Q => ∃ p i kvs, x = .int i ∧ y = .ref p ∧ KDi K p kvs ∧ Q (.bl (kvs.lookup i).isSome) H
theorem op_inI : OpR X (compareOp .In) (rInI X.K) := by
  intro pins s σ H x y v u Q I rx ry h
  obtain ⟨p, i, kvs, rfl, rfl, kd, q⟩ := h
  obtain rfl : u = Value.ref p := ry
  obtain ⟨t, rfl⟩ := rx
  obtain ⟨f, hm, low, hf⟩ := kdi_map I.kIn kd
  have hi := hf i
  refine wpAny_in_of (show (PySem.intKind X.prog X.w).is i (.int i t) = true by simp [PySem.intKind, Value.isInt]) low hm ?_
  cases e : kvs.lookup i with
  | none =>
    rw [e] at hi q
    rw [hi]
    exact ⟨.bl _, H, I.tok _, rfl, q⟩
  | some r =>
    rw [e] at hi q
    obtain ⟨z, e2, _⟩ := hi
    rw [e2]
    exact ⟨.bl _, H, I.tok _, rfl, q⟩

/-! ### o.f as a target -/
def gAtt (K : Frag) (ta : TE) (f : Str) : TG := fun v σ H Q => ta σ H fun x H1 => ∃ a C dx fs, x = .ref a ∧ H1 a = some (.ins C dx fs) ∧ Cls K C ∧ NoAttr K C f ∧ fs.length < 1000 ∧ Q σ (upd H1 a (.ins C dx (putF f v fs)))
theorem pg_att {o : Expr} {ta : TE} {f : Str} {pos : Pos} (ho : PE X o ta)
    (ha : ∀ v, assign (.Attribute o f pos) X.env v = (do
      let ov ← holding [v] (eval o X.env)
      standAt pos
      holding [v, ov] (setAttr ov f v)
      release [v, ov] []) := by intro _; rfl) : PG X (.Attribute o f pos) (gAtt X.K ta f) := by
  refine ⟨fun pins s σ H v u Q I r h => ?_⟩
  rw [ha]
  refine wpAny_bind (wpAny_holding (thn (ho.run pins s σ H _ I h) fun ov s1 ⟨x, H1, I1, r1, a, C, dx, fs, ex, ea, c, n, l, q⟩ => ?_))
  subst ex
  obtain rfl : ov = Value.ref a := r1
  refine wpAny_bind (wpAny_standAt (wpAny_bind (wpAny_holding (setattr_ok I1 ea c n l r fun s2 I2 => ?_))))
  exact wpAny_release ⟨σ, _, I2, q⟩
end
end OB

set_option Elab.async false
set_option linter.all false
set_option maxRecDepth 100000
set_option maxHeartbeats 4000000
/-! OB, part e: a reading gone through step by step. -/
namespace OB
open PySem PySem.Spec PyProof.Rows L2 PySem.W
def rInt : List V → Hp → VK → Prop := fun xs H Q => (∃ i, xs = [.int i] ∧ Q (.int i) H) ∨ ∃ k, xs = [.bl k] ∧ Q (.int (if k then 1 else 0)) H
def rAbs : List V → Hp → VK → Prop := fun xs H Q => ∃ i, xs = [.int i] ∧ Q (.int (if i < 0 then -i else i)) H
def rMax2 : List V → Hp → VK → Prop := fun xs H Q => ∃ i j, xs = [.int i, .int j] ∧ Q (.int (if j > i then j else i)) H
def rMin2 : List V → Hp → VK → Prop := fun xs H Q => ∃ i j, xs = [.int i, .int j] ∧ Q (.int (if j < i then j else i)) H
def rLen (K : Frag) : List V → Hp → VK → Prop := fun xs H Q => ∃ p ys, xs = [.ref p] ∧ (SqL K H p ys ∨ SqT K H p ys) ∧ Q (.int ys.length) H
def rTuple (K : Frag) : List V → Hp → VK → Prop := fun xs H Q => ∃ p ys, xs = [.ref p] ∧ ((SqL K H p ys ∧ ∀ l, H l = none → Q (.ref l) (upd H l (.tup ys))) ∨ (SqT K H p ys ∧ Q (.ref p) H))
def rList (K : Frag) : List V → Hp → VK → Prop := fun xs H Q => ∃ p ys, xs = [.ref p] ∧ (SqL K H p ys ∨ SqT K H p ys) ∧ ∀ l, H l = none → Q (.ref l) (upd H l (.lst ys))
def rDivmod : List V → Hp → VK → Prop := fun xs H Q => ∃ i j, xs = [.int i, .int j] ∧ CDivP i j ∧ ∀ p, H p = none → Q (.ref p) (upd H p (.tup [.int (i / j), .int (i % j)]))
def rNewT (xs : List V) (H : Hp) (Q : VK) : Prop := xs.length ≤ sizeLine ∧ ∀ p, H p = none → Q (.ref p) (upd H p (.tup xs))
def rNewL (xs : List V) (H : Hp) (Q : VK) : Prop := xs.length ≤ sizeLine ∧ ∀ p, H p = none → Q (.ref p) (upd H p (.lst xs))
def rFld (K : Frag) (f : Str) (x : V) (H : Hp) (Q : VK) : Prop := ∃ a C dx fs v, x = .ref a ∧ H a = some (.ins C dx fs) ∧ Cls K C ∧ NoAttr K C f ∧ fs.lookup f = some v ∧ Q v H
def rPut (K : Frag) (f : Str) (v x : V) (H : Hp) (QH : Hp → Prop) : Prop := ∃ a C dx fs, x = .ref a ∧ H a = some (.ins C dx fs) ∧ Cls K C ∧ NoAttr K C f ∧ fs.length < 1000 ∧ QH (upd H a (.ins C dx (putF f v fs)))
section
variable {X : Cx}
theorem c_int : CallR X (.type "int") rInt := call_int1
theorem c_abs : CallR X (.builtin "abs") rAbs := call_abs
theorem c_max (hc : X.calm = true) : CallR X (.builtin "max") rMax2 := call_max2 hc
theorem c_min (hc : X.calm = true) : CallR X (.builtin "min") rMin2 := call_min2 hc
theorem c_len : CallR X (.builtin "len") (OB.rLen X.K) := call_len_seq
theorem c_tuple : CallR X (.type "tuple") (rTuple X.K) := call_tuple_of
theorem c_list : CallR X (.type "list") (rList X.K) := call_list_of
theorem c_divmod : CallR X (.builtin "divmod") rDivmod := call_divmodW
end
section
variable {K : Frag} {F : List (Addr × HO)} {G : List Ft} {σ : L2.St} {H : Hp} {Q : VK} {D : Ends} {v x y : V} {vs ws zs : List V} {i j n m : Nat} {a b c : Int} {p q : Bool} {P R : Prop}
  {ta tb tc te tv : TE} {t tk : TA} {tt u : TT} {t1 t2 : TS} {r r' : R2} {rc : List V → Hp → VK → Prop} {ru : V → Hp → VK → Prop} {rm : V → List V → Hp → VK → Prop} {sp : Sp} {E : XK} {ix : List Nat} {ad : Addr} {mn : Str} {T : String}
  {QB : Bool → Hp → Prop} {QL : List V → Hp → Prop} {QS : L2.St → Hp → Prop} {tg : TG} {tgs : TGs} {QI : It → Hp → Prop} {g : Int → Int → V} {C : Int → Int → Prop} {ds : List PyData} {d e : PyData}
/-! expressions -/
theorem g_start {ts : TS} {τ : L2.St} (e : τ = σ) (k : ts D σ H) : ts D τ H := e ▸ k
theorem g_var (h : σ[i]? = some (some v)) (k : Q v H) : tVar i σ H Q := ⟨v, h, k⟩
theorem g_c (k : Q v H) : tC v σ H Q := k
theorem g_op (k : ta σ H fun x H1 => tb σ H1 fun y H2 => r x y H2 Q) : tOp r ta tb σ H Q := k
theorem g_un (k : ta σ H fun x H1 => ru x H1 Q) : tUn ru ta σ H Q := k
theorem g_nil (k : QL [] H) : tNil σ H QL := k
theorem g_cons (k : ta σ H fun x H1 => t σ H1 fun xs H2 => QL (x :: xs) H2) : tCons ta t σ H QL := k
theorem g_cb (k : t σ H fun vs H1 => rc vs H1 Q) : tCB rc t σ H Q := k
theorem g_if (k : tt σ H fun c H1 => if c = true then ta σ H1 Q else tb σ H1 Q) : tIf tt ta tb σ H Q := k
theorem g_andV (k : ta σ H fun x H1 => ∃ c, x = .bl c ∧ if c = true then tb σ H1 Q else Q (.bl false) H1) : tAndV ta tb σ H Q := k
theorem g_orV (k : ta σ H fun x H1 => ∃ c, x = .bl c ∧ if c = true then Q (.bl true) H1 else tb σ H1 Q) : tOrV ta tb σ H Q := k
theorem g_notV (k : ta σ H fun x H1 => ∃ c, x = .bl c ∧ Q (.bl (!c)) H1) : tNotV ta σ H Q := k
theorem g_chain (k : ta σ H fun x H1 => tb σ H1 fun y H2 => r x y H2 fun z H3 => ∃ k, z = .bl k ∧ (if k = true then tc σ H3 fun w H4 => r' y w H4 Q else Q (.bl false) H3)) : tChain r r' ta tb tc σ H Q := k
theorem g_tup (k : t σ H fun xs H1 => rNewT xs H1 Q) : tTup t σ H Q := k
theorem g_lst (k : t σ H fun xs H1 => rNewL xs H1 Q) : tLst t σ H Q := k
theorem g_cg (k : t σ H fun vs H1 => tk σ H1 fun zs H2 => vs.length = n ∧ zs.length = m ∧ sp (pick ix (vs ++ zs)) H2 Q E) : tCg n m ix sp E t tk σ H Q := k
theorem g_mg (k : ta σ H fun x H1 => ∃ a dx fs, x = .ref a ∧ H1 a = some (.ins ad dx fs) ∧ fs.lookup mn = none ∧
  t σ H1 fun vs H2 => tk σ H2 fun zs H3 => (x :: vs).length = n ∧ zs.length = m ∧ sp (pick ix ((x :: vs) ++ zs)) H3 Q E) : tMg ad mn n m ix sp E ta t tk σ H Q := k
theorem g_kg (k : t σ H fun vs H1 => tk σ H1 fun zs H2 => vs.length + 1 = n ∧ zs.length = m ∧
  ∀ x dx, H2 x = none → H2 dx = none → dx ≠ x → sp (pick ix ((.ref x :: vs) ++ zs)) (upd (upd H2 dx (.own x)) x (.ins ad dx [])) (fun v H3 => v = .non ∧ Q (.ref x) H3) E) : tKg ad n m ix sp E t tk σ H Q := k
theorem g_pg (k : ta σ H fun y H1 => ∃ a dx fs, y = .ref a ∧ H1 a = some (.ins ad dx fs) ∧ sp [.ref a] H1 Q E) : tPg ad sp E ta σ H Q := k
theorem g_bm (k : ta σ H fun x H1 => tyV K T x H1 ∧ t σ H1 fun xs H2 => rm x xs H2 Q) : tBM K T rm ta t σ H Q := k
theorem g_bm0 (k : ta σ H fun x H1 => tyV K T x H1 ∧ rm x [] H1 Q) : tBM0 K T rm ta σ H Q := k
theorem g_fld {f : Str} (k : ta σ H fun x H1 => rFld K f x H1 Q) : tFld K ta f σ H Q := k
theorem g_sl {rs : V → Option Int → Option Int → Hp → VK → Prop} {tl th : TO} (k : te σ H fun x H1 => tl σ H1 fun l H2 => th σ H2 fun u H3 => rs x l u H3 Q) : tSl rs te tl th σ H Q := k
theorem g_nopart {QO : Option Int → Hp → Prop} (k : QO none H) : tNoPart σ H QO := k
theorem g_part {QO : Option Int → Hp → Prop} (k : te σ H fun x H1 => ∃ i, x = .int i ∧ QO (some i) H1) : tPart te σ H QO := k
theorem g_pint {a : Int} {f : Int → Prop} (k : f a) : ∃ i, V.int a = .int i ∧ f i := ⟨a, rfl, k⟩
theorem g_star (k : te σ H fun x H1 => ∃ p xs, x = V.ref p ∧ (SqT K H1 p xs ∨ SqL K H1 p xs) ∧ t σ H1 fun ys H2 => QL (xs ++ ys) H2) : StX.tStar K te t σ H QL := k
/-! tests -/
theorem g_test (k : te σ H fun x H' => ∃ k, x = .bl k ∧ QB k H') : tTest te σ H QB := k
theorem g_B (k : te σ H fun x H' => ∃ k, x = .bl k ∧ QB k H') : tB te σ H QB := k
theorem g_and (k : tt σ H fun c H1 => if c = true then u σ H1 QB else QB false H1) : tAnd tt u σ H QB := k
theorem g_or (k : tt σ H fun c H1 => if c = true then QB true H1 else u σ H1 QB) : tOr tt u σ H QB := k
theorem g_not (k : tt σ H fun c H1 => QB (!c) H1) : tNot tt σ H QB := k
theorem g_yes (k : QB true H) : tYes σ H QB := k
theorem g_bl (k : QB p H) : ∃ c, V.bl p = .bl c ∧ QB c H := ⟨p, rfl, k⟩
theorem g_blx {f : Bool → Prop} (k : f p) : ∃ c, V.bl p = .bl c ∧ f c := ⟨p, rfl, k⟩
/-! statements -/
theorem g_seq (k : t1 { D with nx := t2 D } σ H) : tSeq t1 t2 D σ H := k
theorem g_asg (k : te σ H fun x H1 => tg x σ H1 D.nx) : tAsg te tg D σ H := k
theorem g_name (k : QS (σ.set i (some v)) H) : gName i v σ H QS := k
theorem g_drop (k : te σ H fun _ H1 => D.nx σ H1) : tDrop te D σ H := k
theorem g_ret (k : te σ H D.rt) : tRet te D σ H := k
theorem g_retN (k : D.rt .non H) : tRetN D σ H := k
theorem g_ifS (k : tt σ H fun b H1 => if b = true then t1 D σ H1 else t2 D σ H1) : tIfS tt t1 t2 D σ H := k
theorem g_next (k : D.nx σ H) : tNext D σ H := k
theorem g_cont (k : D.ct σ H) : tCont D σ H := k
theorem g_break (k : D.bk σ H) : tBreak D σ H := k
theorem g_par (k : t σ H fun vs H1 => ∃ v w, vs = [v, w] ∧ D.nx ((σ.set i (some v)).set j (some w)) H1) : tPar i j t D σ H := k
theorem g_par2 {N : V → V → Prop} (k : N x y) : ∃ v w, [x, y] = [v, w] ∧ N v w := ⟨x, y, rfl, k⟩
theorem g_par3 {l : Nat} (k : t σ H fun vs H1 => ∃ u v w, vs = [u, v, w] ∧ D.nx (((σ.set i (some u)).set j (some v)).set l (some w)) H1) : tPar3 i j l t D σ H := k
theorem g_par33 {z : V} {N : V → V → V → Prop} (k : N x y z) : ∃ u v w, [x, y, z] = [u, v, w] ∧ N u v w := ⟨x, y, z, rfl, k⟩
theorem g_aug {ti : TIp} (h : σ[i]? = some (some v)) (k : te σ H fun y H1 => ti v y H1 fun z H2 => D.nx (σ.set i (some z)) H2) : tAug i te ti D σ H := ⟨v, h, k⟩
theorem g_gnil (k : QS σ H) : gNil [] σ H QS := ⟨rfl, k⟩
theorem g_gcons (k : tg v σ H fun σ' H' => tgs vs σ' H' QS) : gCons tg tgs (v :: vs) σ H QS := ⟨v, vs, rfl, k⟩
theorem g_nx {A B C : L2.St → Hp → Prop} {R : VK} (k : A σ H) : Ends.nx ⟨A, R, B, C⟩ σ H := k
theorem g_rt {A B C : L2.St → Hp → Prop} {R : VK} (k : R v H) : Ends.rt ⟨A, R, B, C⟩ v H := k
theorem g_bk {A B C : L2.St → Hp → Prop} {R : VK} (k : B σ H) : Ends.bk ⟨A, R, B, C⟩ σ H := k
theorem g_ct {A B C : L2.St → Hp → Prop} {R : VK} (k : C σ H) : Ends.ct ⟨A, R, B, C⟩ σ H := k
/-! operators by values -/
theorem g_I0 (k : Q (g a b) H) : rI0 g (.int a) (.int b) H Q := ⟨a, b, rfl, rfl, k⟩
theorem g_I (h : C a b) (k : Q (g a b) H) : rI C g (.int a) (.int b) H Q := ⟨a, b, rfl, rfl, h, k⟩
theorem g_U {f : Int → V} (k : Q (f a) H) : rU f (.int a) H Q := ⟨a, rfl, k⟩
theorem g_ipI {f : Int → Int → Int} (k : Q (.int (f a b)) H) : ipI f (.int a) (.int b) H Q := ⟨a, b, rfl, rfl, k⟩
theorem g_rAdd (k : Q (.int (a + b)) H) : L2.rAdd (.int a) (.int b) H Q := ⟨a, b, rfl, rfl, k⟩
theorem g_rSub (k : Q (.int (a - b)) H) : L2.rSub (.int a) (.int b) H Q := ⟨a, b, rfl, rfl, k⟩
theorem g_eqI (k : Q (.bl (decide (a = b))) H) : rEq (.int a) (.int b) H Q := ⟨rfl, by
  have e : decide (V.int a = V.int b) = decide (a = b) := by simp
  rw [e]
  exact k⟩
theorem g_neI (k : Q (.bl (decide (a ≠ b))) H) : rNe (.int a) (.int b) H Q := ⟨rfl, by
  have e : (!decide (V.int a = V.int b)) = decide (a ≠ b) := by simp
  rw [e]
  exact k⟩
theorem g_eqS {s z : Str} (k : Q (.bl (decide (s = z))) H) : rEq (.str s) (.str z) H Q := ⟨rfl, by
  have e : decide (V.str s = V.str z) = decide (s = z) := by simp
  rw [e]
  exact k⟩
theorem g_neS {s z : Str} (k : Q (.bl (decide (s ≠ z))) H) : rNe (.str s) (.str z) H Q := ⟨rfl, by
  have e : (!decide (V.str s = V.str z)) = decide (s ≠ z) := by simp
  rw [e]
  exact k⟩
theorem g_ite (h1 : p = true → P) (h2 : p = false → R) : if p = true then P else R := by
  cases p with
  | true => rw [if_pos rfl]; exact h1 rfl
  | false => rw [if_neg Bool.false_ne_true]; exact h2 rfl
theorem g_iteD {A : Prop} [Decidable A] (h1 : A → P) (h2 : ¬ A → R) : if decide A = true then P else R := by
  by_cases h : A
  · rw [if_pos (decide_eq_true h)]; exact h1 h
  · rw [if_neg (by rw [decide_eq_false h]; exact Bool.false_ne_true)]; exact h2 h
theorem g_T (h : p = true) (k : P) : if p = true then P else R := by rw [if_pos h]; exact k
theorem g_F (h : p = false) (k : R) : if p = true then P else R := by rw [if_neg (by rw [h]; exact Bool.false_ne_true)]; exact k
theorem g_TD {A : Prop} [Decidable A] (h : A) (k : P) : if decide A = true then P else R := g_T (decide_eq_true h) k
theorem g_FD {A : Prop} [Decidable A] (h : ¬ A) (k : R) : if decide A = true then P else R := g_F (decide_eq_false h) k
theorem g_tt (k : P) : if true = true then P else R := g_T rfl k
theorem g_ff (k : R) : if false = true then P else R := g_F rfl k
/-! built-in functions by values -/
theorem g_int (k : Q (.int a) H) : rInt [.int a] H Q := .inl ⟨a, rfl, k⟩
theorem g_intB (k : Q (.int (if p then 1 else 0)) H) : rInt [.bl p] H Q := .inr ⟨p, rfl, k⟩
theorem g_abs (k : Q (.int (if a < 0 then -a else a)) H) : rAbs [.int a] H Q := ⟨a, rfl, k⟩
theorem g_max (k : Q (.int (if b > a then b else a)) H) : rMax2 [.int a, .int b] H Q := ⟨a, b, rfl, k⟩
theorem g_min (k : Q (.int (if b < a then b else a)) H) : rMin2 [.int a, .int b] H Q := ⟨a, b, rfl, k⟩
theorem g_lenL {l : Addr} (h : SqL K H l vs) (k : Q (.int vs.length) H) : OB.rLen K [.ref l] H Q := ⟨l, vs, rfl, .inl h, k⟩
theorem g_lenT {l : Addr} (h : SqT K H l vs) (k : Q (.int vs.length) H) : OB.rLen K [.ref l] H Q := ⟨l, vs, rfl, .inr h, k⟩
theorem g_divmod (S : Sy K F G H) (h : CDivP a b) (k : ∀ p H', H p = none → Sy K F (.dat [.ref p] [.tuple [.int (a / b), .int (a % b)]] :: G) H' → Q (.ref p) H') : rDivmod [.int a, .int b] H Q :=
  ⟨a, b, rfl, h, fun p hp => k p _ hp (S.lay hp (.cons (.int _) (.cons (.int _) .nil)) rfl)⟩
/-! what stands -/
theorem g_ixL {l : Addr} (h : SqL K H l vs) (e : atI vs a = some v) (k : Q v H) : rIxL K (.ref l) (.int a) H Q := ⟨l, vs, a, v, rfl, rfl, h, e, k⟩
theorem g_ixT {l : Addr} (h : SqT K H l vs) (e : atI vs a = some v) (k : Q v H) : rIxT K (.ref l) (.int a) H Q := ⟨l, vs, a, v, rfl, rfl, h, e, k⟩
theorem g_setL {l : Addr} {QH : Hp → Prop} (h : H l = some (.lst vs)) (e : ixN vs.length a = some j) (k : QH (upd H l (.lst (vs.set j v)))) : rSetL (.ref l) (.int a) v H QH := ⟨l, vs, a, j, rfl, rfl, h, e, k⟩
theorem g_gsub {ts : TSet} {to ti : TE} (k : to σ H fun o H1 => ti σ H1 fun i H2 => ts o i v H2 fun H3 => QS σ H3) : gSub to ti ts v σ H QS := k
/-- a new tuple of data -/
theorem g_newT (S : Sy K F G H) (hd : DpAll K H vs ds) (hi : immAll ds = true) (hl : vs.length ≤ 100000) (k : ∀ p H', H p = none → Sy K F (.dat [.ref p] [.tuple ds] :: G) H' → Q (.ref p) H') :
    rNewT vs H Q :=
  ⟨Nat.le_trans hl (by decide), fun p hp => k p _ hp (S.lay hp hd hi)⟩
/-- a new list -/
theorem g_newL (S : Sy K F G H) (hl : vs.length ≤ 100000) (k : ∀ p H', H p = none → Sy K ((p, .lst vs) :: F) G H' → Q (.ref p) H') :
    rNewL vs H Q :=
  ⟨Nat.le_trans hl (by decide), fun p hp => k p _ hp (S.push hp)⟩
/-- a call -/
theorem g_call (h1 : vs.length = n) (h2 : zs.length = m) (k : sp (pick ix (vs ++ zs)) H Q E) : vs.length = n ∧ zs.length = m ∧ sp (pick ix (vs ++ zs)) H Q E := ⟨h1, h2, k⟩
/-- data unpacked -/
theorem g_unp {l : Addr} (S : Sy K F G H) (h : Dp K H (.ref l) (.tuple ds)) (m : immAll ds = true) (hl : ds.length = n) (k : ∀ xs, DpAll K H xs ds → Sy K F (.dat xs ds :: G) H → tgs xs σ H QS) : gTup K n tgs (.ref l) σ H QS := by
  obtain ⟨a, xs, e, h1, h2⟩ := dp_tuple h
  cases e
  exact ⟨l, xs, rfl, h1, (dps_length h2).trans hl, k xs h2 (S.fact h2 m)⟩
theorem g_unpT {l : Addr} (h : SqT K H l vs) (hl : vs.length = n) (k : tgs vs σ H QS) : gTup K n tgs (.ref l) σ H QS := ⟨l, vs, rfl, h, hl, k⟩
/-- a pair that an iterator has just made -/
theorem g_pair {l : Addr} (S : Sy K F G H) (hl : H l = none) (k : ∀ H', Sy K F (.tq l [x, y] :: G) H' → tgs [x, y] σ H' QS) : gTup K 2 tgs (.ref l) σ (upd H l (.tup [x, y])) QS :=
  g_unpT (.inl (.inl upd_same)) rfl (k _ ((S.over hl).add (.tq l [x, y]) (.inl (.inl upd_same))))
theorem g_neN {a b : Nat} (h : a = b) (k : R) : if decide ((a : Int) ≠ (b : Int)) = true then P else R := g_FD (fun z => z (by rw [h])) k
theorem g_neN' {a : Nat} {c : Int} (h : (a : Int) = c) (k : R) : if decide ((a : Int) ≠ c) = true then P else R := g_FD (fun z => z h) k
/-- append, extend -/
theorem g_app {l : Addr} (h : H l = some (.lst vs)) (hl : vs.length < 100000) (k : Q .non (upd H l (.lst (vs ++ [v])))) : rAppend (.ref l) [v] H Q := ⟨l, vs, v, rfl, rfl, h, Nat.lt_of_lt_of_le hl (by decide), k⟩
theorem g_ext {l o : Addr} (h : H l = some (.lst vs)) (h2 : H o = some (.lst ws)) (hl : vs.length + ws.length ≤ 100000) (k : Q .non (upd H l (.lst (vs ++ ws)))) : rExtend (.ref l) [.ref o] H Q := ⟨l, o, vs, ws, rfl, rfl, h, h2, Nat.le_trans hl (by decide), k⟩
/-- the same, what stands carried on -/
theorem g_setLS {l : Addr} {QH : Hp → Prop} {f : Nat} (S : Sy K F G H) (h : F[f]? = some (l, .lst vs)) (e : ixN vs.length a = some j) (k : ∀ H', Sy K (F.set f (l, .lst (vs.set j v))) G H' → (F.set f (l, .lst (vs.set j v)))[f]? = some (l, .lst (vs.set j v)) → QH H') : rSetL (.ref l) (.int a) v H QH :=
  g_setL (S.at f h) e (k _ (S.put f h rfl) (List.getElem?_set_self (List.getElem?_eq_some_iff.mp h).1))
theorem g_appS {l : Addr} {f : Nat} (S : Sy K F G H) (h : F[f]? = some (l, .lst vs)) (hl : vs.length < 100000) (k : ∀ H', Sy K (F.set f (l, .lst (vs ++ [v]))) G H' → Q .non H') : rAppend (.ref l) [v] H Q :=
  g_app (S.at f h) hl (k _ (S.put f h rfl))
theorem g_extS {l o : Addr} {f : Nat} (S : Sy K F G H) (h : F[f]? = some (l, .lst vs)) (h2 : H o = some (.lst ws)) (hl : vs.length + ws.length ≤ 100000) (k : ∀ H', Sy K (F.set f (l, .lst (vs ++ ws))) G H' → Q .non H') : rExtend (.ref l) [.ref o] H Q :=
  g_ext (S.at f h) h2 hl (k _ (S.put f h rfl))
theorem g_fldS {l : Addr} {f : Str} {C dx : Addr} {fs : List (Str × V)} (h : H l = some (.ins C dx fs)) (c : Cls K C) (n : NoAttr K C f) (e : fs.lookup f = some v) (k : Q v H) :
    rFld K f (.ref l) H Q := ⟨l, C, dx, fs, v, rfl, h, c, n, e, k⟩
theorem g_att {f : Str} (k : ta σ H fun x H1 => rPut K f v x H1 fun H2 => QS σ H2) : gAtt K ta f v σ H QS := k
theorem g_sfld {f : Str} (k : tv σ H fun y H1 => ta σ H1 fun x H2 => rPut K f y x H2 fun H3 => D.nx σ H3) : sFld K ta tv f D σ H := k
theorem g_attS {l : Addr} {f : Str} {C dx : Addr} {fs : List (Str × V)} {i : Nat} {QH : Hp → Prop} (S : Sy K F G H) (h : F[i]? = some (l, .ins C dx fs)) (c : Cls K C) (n : NoAttr K C f) (hl : fs.length < 1000) (k : ∀ H', Sy K (F.set i (l, .ins C dx (putF f v fs))) G H' → (F.set i (l, .ins C dx (putF f v fs)))[i]? = some (l, .ins C dx (putF f v fs)) → QH H') :
    rPut K f v (.ref l) H QH :=
  ⟨l, C, dx, fs, rfl, S.at i h, c, n, hl, k _ (S.put i h rfl) (List.getElem?_set_self (List.getElem?_eq_some_iff.mp h).1)⟩
def rAugE (C a : Addr) (f : Str) (z : V) (H : Hp) (QH : Hp → Prop) : Prop := ∃ dx' fs', H a = some (.ins C dx' fs') ∧ fs'.length < 1000 ∧ QH (upd H a (.ins C dx' (putF f z fs')))
def rAugF (K : Frag) (f : Str) (x : V) (H : Hp) (R : Addr → Addr → V → Prop) : Prop := ∃ a C dx fs v, x = .ref a ∧ H a = some (.ins C dx fs) ∧ Cls K C ∧ NoAttr K C f ∧ fs.lookup f = some v ∧ R C a v
theorem g_faug {f : Str} {ta tv : TE} {rd : V → V → Hp → VK → Prop} (k : ta σ H fun x H1 => rAugF K f x H1 fun C a v => tv σ H1 fun y H2 => rd v y H2 fun z H3 => rAugE C a f z H3 fun H4 => D.nx σ H4) : sFldAug K ta tv rd f D σ H := k
theorem g_augS {l : Addr} {f : Str} {C dx : Addr} {fs : List (Str × V)} {R : Addr → Addr → V → Prop} (h : H l = some (.ins C dx fs)) (c : Cls K C) (n : NoAttr K C f) (e : fs.lookup f = some v) (k : R C l v) : rAugF K f (.ref l) H R := ⟨l, C, dx, fs, v, rfl, h, c, n, e, k⟩
theorem g_augE {l : Addr} {f : Str} {C dx : Addr} {fs : List (Str × V)} {i : Nat} {QH : Hp → Prop} (S : Sy K F G H) (h : F[i]? = some (l, .ins C dx fs)) (hl : fs.length < 1000) (k : ∀ H', Sy K (F.set i (l, .ins C dx (putF f v fs))) G H' → (F.set i (l, .ins C dx (putF f v fs)))[i]? = some (l, .ins C dx (putF f v fs)) → QH H') : rAugE C l f v H QH :=
  ⟨dx, fs, S.at i h, hl, k _ (S.put i h rfl) (List.getElem?_set_self (List.getElem?_eq_some_iff.mp h).1)⟩
theorem g_tyl {l : Addr} (h : SqL K H l vs) (k : P) : tyV K "list" (.ref l) H ∧ P := ⟨.inl ⟨rfl, _, h⟩, k⟩
theorem g_tup0 {l : Addr} (S : Sy K F G H) (h : SqL K H l vs) (hd : DpAll K H vs ds) (hi : immAll ds = true) (k : ∀ p H', H p = none → Sy K F (.dat [.ref p] [.tuple ds] :: G) H' → Q (.ref p) H') :
    rTuple K [.ref l] H Q :=
  ⟨l, vs, rfl, .inl ⟨h, fun p hp => k p _ hp (S.lay hp hd hi)⟩⟩
theorem g_sum {l : Addr} {ns : List Int} (h : SqL K H l (ns.map V.int)) (k : Q (.int ns.sum) H) : rSum K [.ref l] H Q := ⟨l, ns, rfl, h, k⟩
theorem g_all {l : Addr} {bs : List Bool} (h : SqL K H l (bs.map V.bl)) (k : Q (.bl (bs.all id)) H) : rAll K [.ref l] H Q := ⟨l, bs, rfl, h, k⟩
theorem g_repr (h : Dp K H v d) (s : d.showable = true) (hn : d.hasDict = false) (hd : d.depth ≤ 60) (hl : d.shown.length ≤ sizeLine) (k : Q (.str d.shown) H) : rRepr K [v] H Q := ⟨v, d, rfl, h, s, hn, hd, hl, k⟩
end
/-! any subscript -/
def rIxU (K : Frag) : R2 := fun x y H Q => rIxL K x y H Q ∨ rIxT K x y H Q ∨ rIxI K x y H Q ∨ rIxS x y H Q
theorem ix_U {X : Cx} : IxR X (rIxU X.K) := by
  intro value slice pins s σ H x y v u Q I rx ry h hs
  rcases h with h | h | h | h
  · exact ix_list value slice pins s σ H x y v u Q I rx ry h hs
  · exact ix_tup value slice pins s σ H x y v u Q I rx ry h hs
  · exact ix_kdi value slice pins s σ H x y v u Q I rx ry h hs
  · exact ix_str value slice pins s σ H x y v u Q I rx ry h hs
/-- any slice -/
def rSlU (K : Frag) : V → Option Int → Option Int → Hp → VK → Prop := fun x lo hi H Q => rSlA K x lo hi H Q ∨ rSlL K x lo hi H Q
theorem sl_U {X : Cx} : SlR X (rSlU X.K) := by
  intro pins s σ H x v vl vu lo hi sl Q I rx hs pl pu h
  rcases h with h | h
  · exact sl_tupA pins s σ H x v vl vu lo hi sl Q I rx hs pl pu h
  · exact sl_list pins s σ H x v vl vu lo hi sl Q I rx hs pl pu h
theorem pg_tupK {X : Cx} {K : Frag} (hK : X.K = K) {es : List Expr} {k pos : _} {t : TGs} {n : Nat} (hc : X.calm = true) (h : PGs X es t)
    (hn : (assignEach es X.env).length = n := by rfl) (hst : (assignEach es X.env).findIdx? (·.1) = none := by rfl) : PG X (.Tuple es k pos) (gTup K n t) := hK ▸ pg_tup hc h hn hst
theorem ix_UK {X : Cx} {K : Frag} (h : X.K = K) : IxR X (rIxU K) := h ▸ ix_U
theorem sl_UK {X : Cx} {K : Frag} (h : X.K = K) : SlR X (rSlU K) := h ▸ sl_U
theorem toK {X : Cx} {K : Frag} {f : Value} {r : Frag → List V → Hp → VK → Prop} (h : X.K = K) (c : CallR X f (r X.K)) : CallR X f (r K) := h ▸ c
section
variable {K : Frag} {F : List (Addr × HO)} {G : List Ft} {H : Hp} {Q : VK} {vs : List V} {v : V} {a : Int} {l : Addr}
theorem g_ixUL (h : SqL K H l vs) (e : atI vs a = some v) (k : Q v H) : rIxU K (.ref l) (.int a) H Q := .inl (g_ixL h e k)
theorem g_ixUT (h : SqT K H l vs) (e : atI vs a = some v) (k : Q v H) : rIxU K (.ref l) (.int a) H Q := .inr (.inl (g_ixT h e k))
theorem g_ixUI {kvs : List (Int × V)} (h : KDi K l kvs) (e : kvs.lookup a = some v) (k : Q v H) : rIxU K (.ref l) (.int a) H Q := .inr (.inr (.inl ⟨l, a, v, kvs, rfl, rfl, h, e, k⟩))
theorem g_slT {lo hi : Option Int} {ys : List V} (S : Sy K F G H) (h : SqT K H l vs) (hw : Nat.beq (HT.sIx vs.length 0 lo) 0 = false) (e : cutV vs lo hi = ys) (k : ∀ p H', Sy K F (.tq p ys :: G) H' → Q (.ref p) H') : rSlU K (.ref l) lo hi H Q := by
  subst e
  refine .inl ⟨l, vs, rfl, h, fun z => ?_, fun _ p hp => k p _ ((S.over hp).add (.tq p _) (.inl (.inl upd_same)))⟩
  rw [z.1] at hw
  exact Bool.noConfusion hw
theorem atI_nn {α : Type} {xs : List α} {i : Int} {x : α} (h0 : 0 ≤ i) (h : xs[i.toNat]? = some x) : atI xs i = some x := by
  have hl := (List.getElem?_eq_some_iff.mp h).1
  unfold atI ixN
  rw [if_pos h0, if_pos (by omega)]
  exact h
theorem atI_ints {ns : List Int} {i : Int} (h0 : 0 ≤ i) (h1 : i < ns.length) : ∃ n, n ∈ ns ∧ atI (ns.map V.int) i = some (.int n) := by
  have hl : i.toNat < ns.length := by omega
  refine ⟨ns[i.toNat], List.getElem_mem hl, atI_nn h0 ?_⟩
  rw [List.getElem?_map, List.getElem?_eq_getElem hl]
  rfl
theorem cpow_ok {i j : Int} {a : Nat} (h : i.natAbs < 2 ^ a) (h0 : 0 ≤ j) (h1 : (a : Int) * j ≤ 2 ^ 27) : CPowX i j :=
  ⟨h0, Int.le_trans (Int.mul_le_mul_of_nonneg_right (Int.ofNat_le.mpr (PyProof.Rows.intBits_le h)) h0) h1⟩
theorem cdiv_ok {i j : Int} (h : 0 < j) (h2 : j < 2 ^ 64) : CDivW i j := wide_div (b := 64) h (by omega) (by decide) (by decide)
end
/-! isinstance -/
section
variable {K : Frag} {H : Hp} {Q : VK}
theorem cdivp_ok {i j : Int} (h : 0 < j) (h0 : 0 ≤ i) (h1 : i < 2 ^ 200) : CDivP i j :=
  divp_ok h (Nat.le_trans (PyProof.Rows.intBits_le (k := 200) (by omega)) (by omega))
theorem isi_int {a : Int} (k : Q (.bl true) H) : rIsi K [.int a, .ty "int"] H Q := ⟨_, _, _, _, true, rfl, .ty "int", .base (.int a), kit_ty (by decide +kernel), k⟩
theorem isi_intB {a : Int} (k : Q (.bl false) H) : rIsi K [.int a, .ty "bool"] H Q := ⟨_, _, _, _, false, rfl, .ty "bool", .base (.int a), kit_ty (by decide +kernel), k⟩
theorem isi_tup {l : Addr} {xs : List V} (h : SqT K H l xs) (k : Q (.bl true) H) : rIsi K [.ref l, .ty "tuple"] H Q := by
  refine ⟨_, _, .type "tuple", _, true, rfl, .ty "tuple", ?_, kit_ty (by decide +kernel), k⟩
  rcases h with (h | ⟨o, h⟩) | ⟨o, its, n, e, c, _⟩
  · exact .base (.tup h)
  · exact .fTuple h
  · exact .kTuple e c
end
end OB

set_option Elab.async false
set_option linter.all false
set_option maxRecDepth 100000
set_option maxHeartbeats 4000000
/-! OB, part f: how long the text of data is. -/
namespace OB
open PySem PySem.Spec PyProof.Rows L2 PySem.W
/-- its text has at most n signs, it is at most k deep -/
structure Small (n k : Nat) (d : PyData) : Prop where
  sh : d.showable = true
  nd : d.hasDict = false
  dp : d.depth ≤ k
  ln : d.shown.length ≤ n
structure SmallL (n k : Nat) (xs : List PyData) : Prop where
  sh : PyData.showableAll xs = true
  nd : PyData.hasDictAll xs = false
  dp : PyData.depthAll xs ≤ k
  ln : ((PyData.shownAll xs).map (·.length)).sum + 2 * xs.length ≤ n
theorem Small.mono {n k m j : Nat} {d : PyData} (h : Small n k d) (h1 : n ≤ m) (h2 : k ≤ j) : Small m j d := ⟨h.sh, h.nd, Nat.le_trans h.dp h2, Nat.le_trans h.ln h1⟩
theorem SmallL.mono {n k m j : Nat} {d : List PyData} (h : SmallL n k d) (h1 : n ≤ m) (h2 : k ≤ j) : SmallL m j d := ⟨h.sh, h.nd, Nat.le_trans h.dp h2, Nat.le_trans h.ln h1⟩
theorem Small.int {i : Int} (h : i.natAbs < 10 ^ 60) : Small 61 0 (.int i) := by
  have h2 : i.natAbs < 2 ^ 200 := Nat.lt_of_lt_of_le h (by decide)
  refine ⟨decide_eq_true ?_, rfl, Nat.le_refl _, ?_⟩
  · have q := PySem.Flt.log2_lt_of (k := 200) (by decide) h2
    omega
  · show (Str.ofString (toString i)).length ≤ 61
    rw [PySem.ofString_length]
    exact int_text_length_le10 (k := 60) (by decide) h
theorem Small.non : Small 4 0 .none := ⟨rfl, rfl, Nat.le_refl _, by decide +kernel⟩
theorem Small.bl {b : Bool} : Small 5 0 (.bool b) := ⟨rfl, rfl, Nat.le_refl _, by cases b <;> decide +kernel⟩
theorem Small.str {x : Str} {n : Nat} (h : (reprText x).length ≤ n) : Small n 0 (.str x) := ⟨rfl, rfl, Nat.le_refl _, h⟩
theorem SmallL.nil {k : Nat} : SmallL 0 k [] := ⟨rfl, rfl, Nat.zero_le _, Nat.le_refl _⟩
theorem SmallL.cons {n m k : Nat} {x : PyData} {xs : List PyData} (h : Small n k x) (t : SmallL m k xs) : SmallL (n + 2 + m) k (x :: xs) := by
  refine ⟨?_, ?_, ?_, ?_⟩
  · show (PyData.showable x && PyData.showableAll xs) = true
    rw [h.sh, t.sh]; rfl
  · show (PyData.hasDict x || PyData.hasDictAll xs) = false
    rw [h.nd, t.nd]; rfl
  · exact Nat.max_le.mpr ⟨h.dp, t.dp⟩
  · have h1 := h.ln
    have h2 := t.ln
    show (x.shown.length + ((PyData.shownAll xs).map (·.length)).sum) + 2 * (xs.length + 1) ≤ _
    omega
theorem SmallL.all {n k : Nat} : ∀ {xs : List PyData}, (∀ x ∈ xs, Small n k x) → SmallL ((n + 2) * xs.length) k xs
  | [], _ => SmallL.nil
  | x :: xs, h => by
    have q := SmallL.cons (h x (List.mem_cons_self ..)) (SmallL.all fun y hy => h y (List.mem_cons_of_mem _ hy))
    refine q.mono ?_ (Nat.le_refl _)
    rw [List.length_cons, Nat.mul_succ]
    omega
theorem shownAll_length : ∀ xs : List PyData, (PyData.shownAll xs).length = xs.length
  | [] => rfl
  | x :: xs => by
    show (PyData.shownAll xs).length + 1 = xs.length + 1
    rw [shownAll_length xs]
theorem Small.tup {n k : Nat} {xs : List PyData} (h : SmallL n k xs) : Small (n + 3) (k + 1) (.tuple xs) := by
  refine ⟨h.sh, h.nd, Nat.succ_le_succ h.dp, ?_⟩
  have q := tupleText_len_le (PyData.shownAll xs)
  have l := h.ln
  rw [shownAll_length] at q
  show (tupleText (PyData.shownAll xs)).length ≤ _
  omega
theorem Small.lst {n k : Nat} {xs : List PyData} (h : SmallL n k xs) : Small (n + 3) (k + 1) (.list xs) := by
  refine ⟨h.sh, h.nd, Nat.succ_le_succ h.dp, ?_⟩
  have q := listText_len_le (PyData.shownAll xs)
  have l := h.ln
  rw [shownAll_length] at q
  show (listText (PyData.shownAll xs)).length ≤ _
  omega
theorem Small.up {n k : Nat} {d : PyData} (h : Small n k d) : Small n (k + 1) d := h.mono (Nat.le_refl _) (Nat.le_succ _)
theorem g_reprS {K : Frag} {H : Hp} {Q : VK} {v : V} {d : PyData} {n k : Nat} (h : Dp K H v d) (s : Small n k d) (hn : n ≤ 16777216) (hk : k ≤ 60) (q : Q (.str d.shown) H) : rRepr K [v] H Q :=
  g_repr h s.sh s.nd (Nat.le_trans s.dp hk) (Nat.le_trans s.ln hn) q
/-! ### scalars -/
def toV : PyData → V
  | .none => .non
  | .bool b => .bl b
  | .int i => .int i
  | .str x => .str x
  | _ => .non
def scal1 : PyData → Bool
  | .none | .bool _ | .int _ | .str _ => true
  | _ => false
theorem dp_scal {K : Frag} {H : Hp} {v : V} {d : PyData} (h : Dp K H v d) (s : scal1 d = true) : v = toV d := by
  cases h with
  | non => rfl
  | bl b => rfl
  | int i => rfl
  | str x => rfl
  | lst _ _ => cases s
  | tup _ _ => cases s
theorem dps_scal {K : Frag} {H : Hp} : ∀ {ds : List PyData} {vs : List V}, DpAll K H vs ds → (∀ d ∈ ds, scal1 d = true) → vs = ds.map toV
  | [], _, h, _ => by cases h; rfl
  | d :: ds, _, h, s => by
    cases h with
    | cons h1 h2 =>
      rw [dp_scal h1 (s d (List.mem_cons_self ..)), dps_scal h2 fun e he => s e (List.mem_cons_of_mem _ he)]
      rfl
theorem scal_dp {K : Frag} {H : Hp} {d : PyData} (s : scal1 d = true) : Dp K H (toV d) d := by
  cases d with
  | none => exact .non
  | bool b => exact .bl b
  | int i => exact .int i
  | str x => exact .str x
  | _ => cases s
theorem sqt_scal {K : Frag} {H : Hp} {p : Addr} {ds : List PyData} (h : Dp K H (.ref p) (.tuple ds)) (s : ∀ d ∈ ds, scal1 d = true) : SqT K H p (ds.map toV) := by
  obtain ⟨a, xs, e, h1, h2⟩ := dp_tuple h
  cases e
  rw [← dps_scal h2 s]
  exact h1
inductive ScL : List PyData → List V → Prop where
  | nil : ScL [] []
  | int {i : Int} {ds : List PyData} {vs : List V} : ScL ds vs → ScL (.int i :: ds) (.int i :: vs)
  | str {i : Str} {ds : List PyData} {vs : List V} : ScL ds vs → ScL (.str i :: ds) (.str i :: vs)
  | bl {i : Bool} {ds : List PyData} {vs : List V} : ScL ds vs → ScL (.bool i :: ds) (.bl i :: vs)
  | non {ds : List PyData} {vs : List V} : ScL ds vs → ScL (.none :: ds) (.non :: vs)
theorem ScL.sc {ds : List PyData} {vs : List V} (h : ScL ds vs) : (∀ d ∈ ds, scal1 d = true) ∧ vs = ds.map toV := by
  induction h with
  | nil => exact ⟨fun d hd => (nomatch hd), rfl⟩
  | int _ ih | str _ ih | bl _ ih | non _ ih =>
    refine ⟨fun d hd => ?_, by rw [ih.2]; rfl⟩
    rcases List.mem_cons.mp hd with rfl | hd
    · rfl
    · exact ih.1 d hd
theorem g_unpD {K : Frag} {H : Hp} {n : Nat} {tgs : TGs} {σ : L2.St} {QS : L2.St → Hp → Prop} {l : Addr} {ds : List PyData} {ws : List V} (h : Dp K H (.ref l) (.tuple ds)) (s : ScL ds ws) (hl : ds.length = n) (k : tgs ws σ H QS) : gTup K n tgs (.ref l) σ H QS := by
  obtain ⟨h1, rfl⟩ := s.sc
  exact g_unpT (sqt_scal h h1) (by rw [List.length_map]; exact hl) k
theorem g_ne {α : Type} {x : α} [Decidable (x ≠ x)] {P R : Prop} (k : R) : if decide (x ≠ x) = true then P else R := g_FD (fun h => h rfl) k
theorem dp_at {K : Frag} {H : Hp} {v : V} {ds : List PyData} (h : Dp K H v (.tuple ds)) : ∃ a xs, v = .ref a ∧ SqT K H a xs ∧ DpAll K H xs ds := dp_tuple h
end OB

set_option Elab.async false
set_option linter.all false
set_option maxRecDepth 100000
set_option maxHeartbeats 4000000
/-! OB, part g: comprehensions and loops by what is known. -/
namespace OB
open PySem PySem.Spec PyProof.Rows L2 PySem.W
section
variable {K : Frag} {G : List Ft} {σ : L2.St} {H : Hp} {Q : VK} {D : Ends} {P R : Prop} {A : Prop} [Decidable A]
theorem g_nT (h : ¬ A) (k : P) : if (!decide A) = true then P else R := g_T (by rw [decide_eq_false h]; rfl) k
theorem g_nF (h : A) (k : R) : if (!decide A) = true then P else R := g_F (by rw [decide_eq_true h]; rfl) k
theorem g_ntt (k : R) : if (!true) = true then P else R := g_F rfl k
theorem g_nff (k : P) : if (!false) = true then P else R := g_T rfl k
/-! a list comprehension: I tells of (turn, what stands, the data so far) -/
/-- one turn -/
abbrev Turn1 (K : Frag) (G : List Ft) (I : Nat → List (Addr × HO) → List PyData → Prop) (σ : L2.St) (own : List Nat) (g : TG) (tt : TT) (te : TE) (i : Nat) (x : V) : Prop :=
  ∀ (Dp : Addr) (H : Hp) (F : List (Addr × HO)) (vs : List V) (ds : List PyData) (QE : VK) (QR : Hp → Prop), I i F ds → Sy K ((Dp, .lst vs) :: F) (.dat vs ds :: G) H →
    (∀ y d F' H', I (i + 1) F' (ds ++ [d]) → Sy K ((Dp, .lst vs) :: F') (.dat [y] [d] :: .dat vs ds :: G) H' → QE y H') →
    (∀ F' H', I (i + 1) F' ds → Sy K ((Dp, .lst vs) :: F') (.dat vs ds :: G) H' → QR H') →
    g x (wipe σ own) H fun σ2 H2 => wipe σ2 own = wipe σ own ∧ tt σ2 H2 fun b H3 => if b = true then te σ2 H3 QE else QR H3
variable {I : Nat → List (Addr × HO) → List PyData → Prop} {F : List (Addr × HO)} {own : List Nat} {g : TG} {tt : TT} {te : TE}
/-- what is kept between the turns -/
def LcP (K : Frag) (G : List Ft) (I : Nat → List (Addr × HO) → List PyData → Prop) (Dp : Addr) (i : Nat) (H : Hp) : Prop :=
  ∃ (F : List (Addr × HO)) (vs : List V) (ds : List PyData), I i F ds ∧ Sy K ((Dp, .lst vs) :: F) (.dat vs ds :: G) H
theorem lcp_start {Dp : Addr} (S : Sy K F G H) (h0 : I 0 F []) (hD : H Dp = none) : LcP K G I Dp 0 (upd H Dp (.lst [])) :=
  ⟨F, [], [], h0, (S.push hD).fact .nil rfl⟩
theorem lcp_turn {Dp : Addr} {i : Nat} {x : V} (hl : ∀ i F ds, I i F ds → ds.length < 100000) (t : Turn1 K G I σ own g tt te i x) (p : LcP K G I Dp i H) :
    g x (wipe σ own) H fun σ2 H2 => wipe σ2 own = wipe σ own ∧ tt σ2 H2 fun b H3 =>
      if b = true then te σ2 H3 fun y H4 => ∃ acc, H4 Dp = some (.lst acc) ∧ acc.length < sizeLine ∧ LcP K G I Dp (i + 1) (upd H4 Dp (.lst (acc ++ [y]))) else LcP K G I Dp (i + 1) H3 := by
  obtain ⟨F, vs, ds, hi, S⟩ := p
  refine t Dp H F vs ds _ (LcP K G I Dp (i + 1)) hi S (fun y d F' H' hi' S' => ?_) fun F' H' hi' S' => ⟨F', vs, ds, hi', S'⟩
  have len := dps_length (S'.dps 1 rfl)
  have lt := hl _ _ _ hi'
  rw [List.length_append] at lt
  refine ⟨vs, S'.at 0 rfl, Nat.lt_of_lt_of_le (by omega) (show 100000 ≤ sizeLine by decide), F', vs ++ [y], ds ++ [d], hi', ?_⟩
  have S2 : Sy K ((Dp, .lst (vs ++ [y])) :: F') (.dat [y] [d] :: .dat vs ds :: G) (upd H' Dp (.lst (vs ++ [y]))) := S'.put (o' := .lst (vs ++ [y])) 0 rfl rfl
  have m1 := S'.dpi 1 rfl
  have m2 := S'.dpi 0 rfl
  exact (S2.drop.drop).fact (dps_append (S2.dps 1 rfl) (S2.dps 0 rfl)) (by rw [immAll_append, m1, m2]; rfl)
/-- over a list or a tuple -/
theorem g_lcS {tl : TE} {a : Addr} {xs : List V} (k : Bool) (I : Nat → List (Addr × HO) → List PyData → Prop) (S : Sy K F G H) (ht : ∀ Q' : VK, Q' (.ref a) H → tl σ H Q') (h0 : I 0 F [])
    (hq : ∀ i F' ds H', I i F' ds → Sy K F' G H' → SqK K H' k a xs) (hl : ∀ i F ds, I i F ds → ds.length < 100000)
    (turn : ∀ i x, xs[i]? = some x → Turn1 K G I σ own g tt te i x)
    (done : ∀ Dp H' F' vs ds, H Dp = none → I xs.length F' ds → Sy K ((Dp, .lst vs) :: F') (.dat vs ds :: G) H' → Q (.ref Dp) H') : tLc (iSeq K tl) g tt te own σ H Q := by
  refine ht _ ⟨a, rfl, ?_⟩
  have q0 := hq 0 F [] H h0 S
  have sub : ∀ {Dp i H'}, LcP K G I Dp i H' → SqK K H' k a xs := fun ⟨F', vs, ds, hi, S'⟩ => hq _ F' ds _ hi S'.drop.less
  cases k with
  | true =>
    refine .inl ⟨⟨xs, q0⟩, fun Dp hD => lc_list (K := K) (a := a) (xs := xs) (LcP K G I Dp) (lcp_start S h0 hD) (fun i H' _ p => sub p) (fun i x H' hx p => lcp_turn hl (turn i x hx) p) fun H' p => ?_⟩
    obtain ⟨F', vs, ds, hi, S'⟩ := p
    exact done Dp H' F' vs ds hD hi S'
  | false =>
    refine .inr ⟨⟨xs, q0⟩, fun Dp hD => lc_tup (K := K) (a := a) (xs := xs) (LcP K G I Dp) (lcp_start S h0 hD) (fun i H' _ p => sub p) (fun i x H' hx p => lcp_turn hl (turn i x hx) p) fun H' p => ?_⟩
    obtain ⟨F', vs, ds, hi, S'⟩ := p
    exact done Dp H' F' vs ds hD hi S'
/-- over range(n), behind what its argument does -/
def RgLc (K : Frag) (g : TG) (tt : TT) (te : TE) (own : List Nat) (σ : L2.St) (Q : VK) (n : Nat) (H : Hp) : Prop := ∀ Dp, H Dp = none → ∃ W : Nat → Nat → Hp → Prop, (∃ m, W 0 m (upd H Dp (.lst []))) ∧ ∀ i m H, W i m H →
  ((Itr 0 n).stop i H ∧ Q (.ref Dp) H) ∨ ((Itr 0 n).go i H ∧ ∃ Nx : Hp → Prop, (∀ H', Nx H' → ∃ m', m' < m ∧ W (i + 1) m' H') ∧ ∀ x H', (Itr 0 n).yld i H x H' → g x (wipe σ own) H' fun σ2 H2 => wipe σ2 own = wipe σ own ∧ tt σ2 H2 fun b H3 =>
    if b = true then te σ2 H3 fun y H4 => ∃ acc, H4 Dp = some (.lst acc) ∧ acc.length < sizeLine ∧ Nx (upd H4 Dp (.lst (acc ++ [y]))) else Nx H3)
theorem g_lcR {ta : TA} (k : ta σ H fun vs H1 => ∃ j : Int, vs = [.int j] ∧ -(2 ^ 62) ≤ j ∧ j < 2 ^ 62 ∧ RgLc K g tt te own σ Q j.toNat H1) : tLc (iRng1 ta) g tt te own σ H Q := k
theorem g_rgJ {a : Int} {f : Int → Prop} (h1 : -(2 ^ 62) ≤ a) (h2 : a < 2 ^ 62) (k : f a) : ∃ j : Int, [V.int a] = [.int j] ∧ -(2 ^ 62) ≤ j ∧ j < 2 ^ 62 ∧ f j := ⟨a, rfl, h1, h2, k⟩
theorem rglc_of {n : Nat} (I : Nat → List (Addr × HO) → List PyData → Prop) (S : Sy K F G H) (h0 : I 0 F []) (hl : ∀ i F ds, I i F ds → ds.length < 100000)
    (turn : ∀ i, i < n → Turn1 K G I σ own g tt te i (.int (0 + i)))
    (done : ∀ Dp H' F' vs ds, H Dp = none → I n F' ds → Sy K ((Dp, .lst vs) :: F') (.dat vs ds :: G) H' → Q (.ref Dp) H') : RgLc K g tt te own σ Q n H := fun Dp hD => by
  refine lc_range (lo := 0) (n := n) (LcP K G I Dp) (lcp_start S h0 hD) (fun i H' hi p => lcp_turn hl (turn i hi) p) fun H' p => ?_
  obtain ⟨F', vs, ds, hi, S'⟩ := p
  exact done Dp H' F' vs ds hD hi S'
/-! loops: W tells of (turn, slots, heap) -/
theorem g_forS {tl : TE} {tb : TS} {a : Addr} {xs : List V} (k : Bool) (Pv : Nat → L2.St → Hp → Prop) (ht : ∀ Q' : VK, Q' (.ref a) H → tl σ H Q') (h0 : Pv 0 σ H)
    (hq : ∀ i σ' H', Pv i σ' H' → SqK K H' k a xs)
    (turn : ∀ i x σ' H', xs[i]? = some x → Pv i σ' H' → g x σ' H' fun σ2 H2 => tb { D with nx := Pv (i + 1), ct := Pv (i + 1), bk := D.nx } σ2 H2)
    (done : ∀ σ' H', Pv xs.length σ' H' → D.nx σ' H') : tFor (iSeq K tl) g tb D σ H := by
  refine ht _ ⟨a, rfl, ?_⟩
  have q0 := hq 0 σ H h0
  cases k with
  | true => exact .inl ⟨⟨xs, q0⟩, for_list (K := K) (a := a) (xs := xs) Pv h0 (fun i σ' H' _ p => hq i σ' H' p) turn done⟩
  | false => exact .inr ⟨⟨xs, q0⟩, for_tup (K := K) (a := a) (xs := xs) Pv h0 (fun i σ' H' _ p => hq i σ' H' p) turn done⟩
def RgFor (g : TG) (tb : TS) (D : Ends) (σ : L2.St) (n : Nat) (H : Hp) : Prop := ∃ W : Nat → Nat → L2.St → Hp → Prop, (∃ m, W 0 m σ H) ∧ ∀ i m σ H, W i m σ H →
  ((Itr 0 n).stop i H ∧ D.nx σ H) ∨ ((Itr 0 n).go i H ∧ ∃ N : L2.St → Hp → Prop, (∀ σ' H', N σ' H' → ∃ m', m' < m ∧ W (i + 1) m' σ' H') ∧ ∀ x H', (Itr 0 n).yld i H x H' → g x σ H' fun σ2 H2 => tb { D with nx := N, ct := N, bk := D.nx } σ2 H2)
theorem g_forR {ta : TA} {tb : TS} (k : ta σ H fun vs H1 => ∃ j : Int, vs = [.int j] ∧ -(2 ^ 62) ≤ j ∧ j < 2 ^ 62 ∧ RgFor g tb D σ j.toNat H1) : tFor (iRng1 ta) g tb D σ H := k
theorem rgfor_of {tb : TS} {n : Nat} (Pv : Nat → L2.St → Hp → Prop) (h0 : Pv 0 σ H) (turn : ∀ i σ' H', i < n → Pv i σ' H' → g (.int (0 + i)) σ' H' fun σ2 H2 => tb { D with nx := Pv (i + 1), ct := Pv (i + 1), bk := D.nx } σ2 H2)
    (done : ∀ σ' H', Pv n σ' H' → D.nx σ' H') : RgFor g tb D σ n H := for_range (lo := 0) Pv h0 turn done
def rEnum (K : Frag) (vs : List V) (H : Hp) (R : It → Hp → Prop) : Prop := ∃ k a xs, vs = [.ref a] ∧ SqK K H k a xs ∧ R (IteK K k a) H
def rZip (K : Frag) (vs : List V) (H : Hp) (R : It → Hp → Prop) : Prop := ∃ k l a b xs ys, vs = [.ref a, .ref b] ∧ SqK K H k a xs ∧ SqK K H l b ys ∧ R (ItzK K k l a b) H
theorem g_forE {ta : TA} {tb : TS} (k : ta σ H fun vs H1 => rEnum K vs H1 fun J H1 => ∃ W : Nat → Nat → L2.St → Hp → Prop, (∃ m, W 0 m σ H1) ∧ ∀ i m σ H, W i m σ H →
  (J.stop i H ∧ D.nx σ H) ∨ (J.go i H ∧ ∃ N : L2.St → Hp → Prop, (∀ σ' H', N σ' H' → ∃ m', m' < m ∧ W (i + 1) m' σ' H') ∧ ∀ x H', J.yld i H x H' → g x σ H' fun σ2 H2 => tb { D with nx := N, ct := N, bk := D.nx } σ2 H2)) : tFor (iEnumK K ta) g tb D σ H := k
theorem g_forZ {ta : TA} {tb : TS} (k : ta σ H fun vs H1 => rZip K vs H1 fun J H1 => ∃ W : Nat → Nat → L2.St → Hp → Prop, (∃ m, W 0 m σ H1) ∧ ∀ i m σ H, W i m σ H →
  (J.stop i H ∧ D.nx σ H) ∨ (J.go i H ∧ ∃ N : L2.St → Hp → Prop, (∀ σ' H', N σ' H' → ∃ m', m' < m ∧ W (i + 1) m' σ' H') ∧ ∀ x H', J.yld i H x H' → g x σ H' fun σ2 H2 => tb { D with nx := N, ct := N, bk := D.nx } σ2 H2)) : tFor (iZipK K ta) g tb D σ H := k
/-- a loop without end in sight: m falls -/
theorem g_while {c : TT} {tb : TS} (W : Nat → L2.St → Hp → Prop) (m0 : Nat) (h0 : W m0 σ H)
    (turn : ∀ m σ' H', W m σ' H' → c σ' H' fun b H1 => if b = true then tb { D with nx := fun σ2 H2 => ∃ m', m' < m ∧ W m' σ2 H2, ct := fun σ2 H2 => ∃ m', m' < m ∧ W m' σ2 H2, bk := D.nx } σ' H1 else D.nx σ' H1)
    (mono : ∀ σ' H' (Q Q' : Bool → Hp → Prop), (∀ b H1, Q b H1 → Q' b H1) → c σ' H' Q → c σ' H' Q') : tWhile c tb D σ H := by
  refine ⟨W, ⟨m0, h0⟩, fun m σ' H' w => mono σ' H' _ _ (fun b H1 q => ?_) (turn m σ' H' w)⟩
  cases b with
  | true => exact ⟨_, fun _ _ h => h, q⟩
  | false => exact q
end
end OB

set_option Elab.async false
set_option linter.all false
set_option maxRecDepth 100000
set_option maxHeartbeats 4000000
/-! OB, part h: more steps. -/
namespace OB
open PySem PySem.Spec PyProof.Rows L2 PySem.W
section
variable {K : Frag} {G : List Ft} {σ : L2.St} {H : Hp} {Q : VK} {D : Ends} {P R : Prop}
/-- list(range(..)) -/
def rNewRg (a b : Int) (H : Hp) (Q : VK) : Prop := RgOk a b ∧ ∀ q, H q = none → Q (.ref q) (upd H q (.lst (rgV a b)))
theorem g_lstRg {te : L2.St → Hp → (Int → Int → Hp → Prop) → Prop} (k : te σ H fun a b H1 => rNewRg a b H1 Q) : tLstRg te σ H Q := k
theorem g_rg1 {ta : TE} {R : Int → Int → Hp → Prop} (k : ta σ H fun x H1 => ∃ n, x = .int n ∧ R 0 n H1) : tRg1 ta σ H R := k
theorem g_rg2 {ta tb : TE} {R : Int → Int → Hp → Prop} (k : ta σ H fun x H1 => tb σ H1 fun y H2 => ∃ i j, x = .int i ∧ y = .int j ∧ R i j H2) : tRg2 ta tb σ H R := k
theorem g_newRg {F : List (Addr × HO)} {a b : Int} (S : Sy K F G H) (h : RgOk a b) (k : ∀ p H', Sy K ((p, .lst (rgV a b)) :: F) G H' → Q (.ref p) H') : rNewRg a b H Q := ⟨h, fun p hp => k p _ (S.push hp)⟩
theorem rgV0 (b : Int) : rgV 0 b = ((List.range b.toNat).map fun i : Nat => (i : Int)).map V.int := by
  unfold rgV
  rw [List.map_map, Int.sub_zero]
  congr 1
  funext i
  show V.int (0 + (i : Int)) = V.int (i : Int)
  rw [Int.zero_add]
end
end OB

set_option Elab.async false
set_option linter.all false
set_option maxRecDepth 100000
set_option maxHeartbeats 4000000
/-! OB, part i: zip of unlike lengths, comprehensions over zip, dicts of ints updated and sorted, deep equality. -/
namespace OB
open PySem PySem.Spec PyProof.Rows L2 PySem.W
/-! ### zip: it ends with the shorter one -/
theorem walk_zipK {K : Frag} {k l : Bool} {a b : Addr} {xs ys : List V} : Walk (ItzK K k l a b) (min xs.length ys.length) (fun H => SqK K H k a xs ∧ SqK K H l b ys) (YPair (xs[·]?) (ys[·]?)) where
  goes := fun i H hi ⟨qa, qb⟩ => ⟨xs, ys, xs[i]'(by omega), ys[i]'(by omega), qa, qb, List.getElem?_eq_getElem _, List.getElem?_eq_getElem _⟩
  stops := fun H ⟨qa, qb⟩ => ⟨xs, ys, qa, qb, Nat.min_le_left .., Nat.min_le_right .., by omega⟩
  yields := fun i H x H' hi ⟨qa, qb⟩ ⟨T, u, v, e1, hT, e2, f1, f2⟩ => ⟨T, u, v, e1, hT, e2, f1 xs qa, f2 ys qb⟩
section
variable {K : Frag} {F : List (Addr × HO)} {G : List Ft} {σ : L2.St} {H : Hp} {Q : VK} {D : Ends} {g : TG} {tt : TT} {te : TE} {tb : TS} {own : List Nat}
def ZipLc (K : Frag) (g : TG) (tt : TT) (te : TE) (own : List Nat) (σ : L2.St) (Q : VK) (vs : List V) (H1 : Hp) : Prop := ∃ k l a b xs ys, vs = [.ref a, .ref b] ∧ SqK K H1 k a xs ∧ SqK K H1 l b ys ∧ ∀ Da, H1 Da = none → ∃ W : Nat → Nat → Hp → Prop, (∃ m, W 0 m (upd H1 Da (.lst []))) ∧ ∀ i m H, W i m H →
  ((ItzK K k l a b).stop i H ∧ Q (.ref Da) H) ∨ ((ItzK K k l a b).go i H ∧ ∃ Nx : Hp → Prop, (∀ H', Nx H' → ∃ m', m' < m ∧ W (i + 1) m' H') ∧ ∀ x H', (ItzK K k l a b).yld i H x H' → g x (wipe σ own) H' fun σ2 H2 => wipe σ2 own = wipe σ own ∧ tt σ2 H2 fun b H3 =>
    if b = true then te σ2 H3 fun y H4 => ∃ acc, H4 Da = some (.lst acc) ∧ acc.length < sizeLine ∧ Nx (upd H4 Da (.lst (acc ++ [y]))) else Nx H3)
theorem g_lcZ {ta : TA} (k : ta σ H fun vs H1 => ZipLc K g tt te own σ Q vs H1) : tLc (iZipK K ta) g tt te own σ H Q := k
/-- the pair at T was just made -/
def TurnZ (K : Frag) (G : List Ft) (I : Nat → List (Addr × HO) → List PyData → Prop) (σ : L2.St) (own : List Nat) (g : TG) (tt : TT) (te : TE) (i : Nat) (x y : V) : Prop :=
  ∀ (Da T : Addr) (H2 : Hp) (F2 : List (Addr × HO)) (vs : List V) (ds : List PyData) (QE : VK) (QR : Hp → Prop), I i F2 ds → H2 T = none → Sy K ((Da, .lst vs) :: F2) (.dat vs ds :: G) H2 →
    (∀ (z : V) (d : PyData) F' H', I (i + 1) F' (ds ++ [d]) → Sy K ((Da, .lst vs) :: F') (.dat [z] [d] :: .dat vs ds :: G) H' → QE z H') →
    (∀ F' H', I (i + 1) F' ds → Sy K ((Da, .lst vs) :: F') (.dat vs ds :: G) H' → QR H') →
    g (.ref T) (wipe σ own) (upd H2 T (.tup [x, y])) fun σ2 H2 => wipe σ2 own = wipe σ own ∧ tt σ2 H2 fun b H3 => if b = true then te σ2 H3 QE else QR H3
theorem ziplc_of {k l : Bool} {a b : Addr} {xs ys : List V} (I : Nat → List (Addr × HO) → List PyData → Prop) (S : Sy K F G H) (h0 : I 0 F [])
    (hq : ∀ i F' ds H', I i F' ds → Sy K F' G H' → SqK K H' k a xs ∧ SqK K H' l b ys) (hl : ∀ i F ds, I i F ds → ds.length < 100000)
    (turn : ∀ i x y, xs[i]? = some x → ys[i]? = some y → TurnZ K G I σ own g tt te i x y)
    (done : ∀ Da H' F' vs ds, H Da = none → I (min xs.length ys.length) F' ds → Sy K ((Da, .lst vs) :: F') (.dat vs ds :: G) H' → Q (.ref Da) H') : ZipLc K g tt te own σ Q [.ref a, .ref b] H := by
  obtain ⟨q1, q2⟩ := hq 0 F [] H h0 S
  refine ⟨k, l, a, b, xs, ys, rfl, q1, q2, fun Da hD => lc_it (walk_zipK (K := K) (xs := xs) (ys := ys)) (LcP K G I Da) (lcp_start S h0 hD) (fun i H' _ p => ?_) (fun i v H1 H' hi p y => ?_) fun H' p => ?_⟩
  · obtain ⟨F', vs, ds, hi, S'⟩ := p
    exact hq i F' ds _ hi S'.drop.less
  · obtain ⟨F', vs, ds, hI, S'⟩ := p
    obtain ⟨T, x, y, rfl, hT, rfl, e1, e2⟩ := y
    refine turn i x y e1 e2 Da T H1 F' vs ds _ (LcP K G I Da (i + 1)) hI hT S' (fun z d F2 H2 hi' S2 => ?_) fun F2 H2 hi' S2 => ⟨F2, vs, ds, hi', S2⟩
    have len := dps_length (S2.dps 1 rfl)
    have lt := hl _ _ _ hi'
    rw [List.length_append] at lt
    refine ⟨vs, S2.at 0 rfl, Nat.lt_of_lt_of_le (by omega) (show 100000 ≤ sizeLine by decide), F2, vs ++ [z], ds ++ [d], hi', ?_⟩
    have S3 : Sy K ((Da, .lst (vs ++ [z])) :: F2) (.dat [z] [d] :: .dat vs ds :: G) (upd H2 Da (.lst (vs ++ [z]))) := S2.put (o' := .lst (vs ++ [z])) 0 rfl rfl
    exact (S3.drop.drop).fact (dps_append (S3.dps 1 rfl) (S3.dps 0 rfl)) (by rw [immAll_append, S2.dpi 1 rfl, S2.dpi 0 rfl]; rfl)
  · obtain ⟨F', vs, ds, hI, S'⟩ := p
    exact done Da H' F' vs ds hD hI S'
/-- a for over zip -/
theorem for_zipM {k l : Bool} {a b : Addr} {xs ys : List V} (Pv : Nat → L2.St → Hp → Prop) (h0 : Pv 0 σ H) (hq : ∀ i σ H, Pv i σ H → SqK K H k a xs ∧ SqK K H l b ys)
    (hs : ∀ i x y T σ H, xs[i]? = some x → ys[i]? = some y → Pv i σ H → H T = none → g (.ref T) σ (upd H T (.tup [x, y])) fun σ2 H2 => tb { D with nx := Pv (i + 1), ct := Pv (i + 1), bk := D.nx } σ2 H2) (hd : ∀ σ H, Pv (min xs.length ys.length) σ H → D.nx σ H) :
    ∃ W : Nat → Nat → L2.St → Hp → Prop, (∃ m, W 0 m σ H) ∧ ∀ i m σ H, W i m σ H →
      ((ItzK K k l a b).stop i H ∧ D.nx σ H) ∨ ((ItzK K k l a b).go i H ∧ ∃ N : L2.St → Hp → Prop, (∀ σ' H', N σ' H' → ∃ m', m' < m ∧ W (i + 1) m' σ' H') ∧ ∀ x H', (ItzK K k l a b).yld i H x H' → g x σ H' fun σ2 H2 => tb { D with nx := N, ct := N, bk := D.nx } σ2 H2) :=
  for_it walk_zipK Pv h0 (fun i σ H _ p => hq i σ H p) (fun i v σ H H' hi p y => by
    obtain ⟨T, x, y, rfl, hT, rfl, e1, e2⟩ := y
    exact hs i x y T σ H e1 e2 p hT) hd
end
/-! ### dicts of ints -/
def rUpdD (x : V) (xs : List V) (H : Hp) (Q : VK) : Prop := ∃ a b kvs more, x = .ref a ∧ xs = [.ref b] ∧ a ≠ b ∧ H a = some (.dK kvs) ∧ H b = some (.dK more) ∧ kvs.length + more.length ≤ sizeLine ∧ Q .non (upd H a (.dK (mergeK kvs more)))
theorem mt_dupdate {X : Cx} : MtR X "dict.update" rUpdD := by
  intro pins s σ H x xs v us Q I rx rv h
  obtain ⟨a, b, kvs, more, rfl, rfl, hne, ha, hb, hz, q⟩ := h
  cases rx
  obtain ⟨u, rfl, ru⟩ := vals1 rv
  cases ru
  obtain ⟨z1, lo1, vs1, rel1, dd1⟩ := dk_of I.hok ha
  obtain ⟨z2, lo2, vs2, rel2, dd2⟩ := dk_of I.hok hb
  have e1 : vs1.length = kvs.length := rel1.length.symm
  have e2 : vs2.length = more.length := rel2.length.symm
  refine call_meetsIn PySem.F.slot_dict_update dd1.typeIs PySem.F.entry_dict_update (PySem.F.args_dict_update_2 _ _) (meets_dict_update (mixKind X.prog X.w) a b hne lo2) ⟨vs1, vs2, dd1, dd2, by omega, fun h' d1 d2 hs => ?_⟩
  have he : ∃ q, h'.get? a = some q := let ⟨q, _, _, hq, _⟩ := d1; ⟨q, hq⟩
  have hl : (mergeK kvs more).length ≤ sizeLine := Nat.le_trans (length_mergeK more kvs) hz
  exact ⟨.non, _, d_write I (by rw [ha]; exact True.intro) hs he (dk_new hl lo1 (rel2.merge rel1) d1), rfl, q⟩
end OB

set_option Elab.async false
set_option linter.all false
set_option maxRecDepth 100000
set_option maxHeartbeats 4000000
/-! OB, part j: steps for dicts of ints, deep equality of small tuples, truth of lists, last items. -/
namespace OB
open PySem PySem.Spec PyProof.Rows L2 PySem.W
section
variable {K : Frag} {F : List (Addr × HO)} {G : List Ft} {σ : L2.St} {H : Hp} {Q : VK} {D : Ends} {g : TG} {tt : TT} {te tk tv : TE} {tb : TS} {own : List Nat}
/-- {k: v} with a whole number and a value at hand -/
theorem g_disp1 {i : Int} {v : V} (S : Sy K F G H) (hk : ∀ H' (Q' : VK), Q' (.int i) H' → tk σ H' Q') (hv : ∀ H' (Q' : VK), Q' v H' → tv σ H' Q') (k : ∀ p H', Sy K ((p, .dK [(.inl i, v)]) :: F) G H' → Q (.ref p) H') : tDisp [(tk, tv)] σ H Q := by
  intro p hp
  refine hk _ _ (hv _ _ ⟨upd_same, [(.inl i, v)], rfl, Nat.le_of_ble_eq_true rfl, ?_⟩)
  rw [L2.upd_upd]
  exact k p _ (S.push hp)
/-- a dict comprehension over a tuple that stays, the objects around staying as they are -/
theorem g_dcT {tl : TE} {a : Addr} {xs : List V} (I : Nat → List (Key × V) → Prop) (S : Sy K F (.tq a xs :: G) H) (ht : ∀ Q' : VK, Q' (.ref a) H → tl σ H Q') (h0 : I 0 []) (hl : ∀ i kvs, I i kvs → kvs.length < 100000)
    (turn : ∀ i x, xs[i]? = some x → ∀ (Da : Addr) (H2 : Hp) (kvs : List (Key × V)) (QE : V → V → Hp → Prop) (QR : Hp → Prop), I i kvs → Sy K ((Da, .dK kvs) :: F) (.tq a xs :: G) H2 →
      (∀ (n : Int) z H', I (i + 1) (putK kvs (.inl n) z) → Sy K ((Da, .dK kvs) :: F) (.tq a xs :: G) H' → QE (.int n) z H') → (∀ H', I (i + 1) kvs → Sy K ((Da, .dK kvs) :: F) (.tq a xs :: G) H' → QR H') →
      g x (wipe σ own) H2 fun σ2 H3 => wipe σ2 own = wipe σ own ∧ tt σ2 H3 fun b H4 => if b = true then tk σ2 H4 fun y H5 => tv σ2 H5 fun z H6 => QE y z H6 else QR H4)
    (done : ∀ Da H' kvs, H Da = none → I xs.length kvs → Sy K ((Da, .dK kvs) :: F) (.tq a xs :: G) H' → Q (.ref Da) H') : tDc (iSeq K tl) g tt tk tv own σ H Q := by
  refine ht _ ⟨a, rfl, .inr ⟨⟨xs, S.tqs 0 rfl⟩, fun Da hD => ?_⟩⟩
  refine dc_tup (K := K) (a := a) (xs := xs) (fun i H' => ∃ kvs, I i kvs ∧ Sy K ((Da, .dK kvs) :: F) (.tq a xs :: G) H') ⟨[], h0, S.push hD⟩ (fun i H' _ ⟨kvs, _, S'⟩ => S'.tqs 0 rfl) (fun i x H' hx ⟨kvs, hi, S'⟩ => ?_) (fun H' ⟨kvs, hi, S'⟩ => done Da H' kvs hD hi S')
  have hz := hl i kvs hi
  refine turn i x hx Da H' kvs _ (fun H2 => ∃ kvs, I (i + 1) kvs ∧ Sy K ((Da, .dK kvs) :: F) (.tq a xs :: G) H2) hi S' (fun n z H2 hi2 S2 => ?_) fun H2 hi2 S2 => ⟨kvs, hi2, S2⟩
  exact ⟨kvs, .inl n, rfl, S2.at 0 rfl, Nat.lt_of_lt_of_le hz (by decide), _, hi2, S2.put (o' := .dK (putK kvs (.inl n) z)) 0 rfl rfl⟩
theorem Sy.ne {p q : Addr} {o u : HO} {i j : Nat} (S : Sy K F G H) (h1 : F[i]? = some (p, o)) (h2 : F[j]? = some (q, u)) (h : i ≠ j) : p ≠ q := by
  intro e
  subst e
  have nd := S.nd
  have g1 : (F.map (·.1))[i]? = some p := by rw [List.getElem?_map, h1]; rfl
  have g2 : (F.map (·.1))[j]? = some p := by rw [List.getElem?_map, h2]; rfl
  obtain ⟨l1, e1⟩ := List.getElem?_eq_some_iff.mp g1
  obtain ⟨l2, e2⟩ := List.getElem?_eq_some_iff.mp g2
  have pw := List.pairwise_iff_getElem.mp nd
  rcases Nat.lt_or_gt_of_ne h with c | c
  · exact pw i j l1 l2 c (e1.trans e2.symm)
  · exact pw j i l2 l1 c (e2.trans e1.symm)
theorem g_tyd {d : Addr} {kvs : List (Key × V)} {R : Prop} (h : H d = some (.dK kvs)) (k : R) : tyV K "dict" (.ref d) H ∧ R := ⟨.inr (.inr (.inl ⟨rfl, .inl ⟨kvs, h⟩⟩)), k⟩
theorem g_dupd {d o : Addr} {kvs more : List (Key × V)} {i j : Nat} (S : Sy K F G H) (h1 : F[i]? = some (d, .dK kvs)) (h2 : F[j]? = some (o, .dK more)) (hij : i ≠ j) (hl : kvs.length + more.length ≤ 100000)
    (k : ∀ H', Sy K (F.set i (d, .dK (mergeK kvs more))) G H' → Q .non H') : rUpdD (.ref d) [.ref o] H Q :=
  ⟨d, o, kvs, more, rfl, rfl, S.ne h1 h2 hij, S.at i h1, S.at j h2, Nat.le_trans hl (by decide), k _ (S.put i h1 rfl)⟩
/-- sorted of a dict of few ints -/
def rSortDI : List V → Hp → VK → Prop := fun xs H Q => ∃ (a : Addr) (kvs : List (Key × V)) (ks : List Int), xs = [.ref a] ∧ Rd H a (.dK kvs) ∧ kvs.map (·.1) = ks.map Sum.inl ∧ ks.length < 64 ∧
    ∀ (ys : List Int) (p : Addr), ys.Perm ks → ys.Pairwise (· ≤ ·) → H p = none → Q (.ref p) (upd H p (.lst (ys.map V.int)))
theorem c_sortDI {X : Cx} (hc : X.calm = true) : CallR X (.builtin "sorted") rSortDI := call_sortedDI hc
theorem g_sortDI {d : Addr} {kvs : List (Key × V)} {ks : List Int} {i : Nat} (S : Sy K F G H) (h : F[i]? = some (d, .dK kvs)) (hk : kvs.map (·.1) = ks.map Sum.inl) (hl : ks.length < 64)
    (k : ∀ (ys : List Int) p H', ys.Perm ks → ys.Pairwise (· ≤ ·) → Sy K ((p, .lst (ys.map V.int)) :: F) G H' → Q (.ref p) H') : rSortDI [.ref d] H Q :=
  ⟨d, kvs, ks, rfl, .inl (S.at i h), hk, hl, fun ys p e1 e2 hp => k ys p _ e1 e2 (S.push hp)⟩
/-- what keys a dict of ints has behind puts and merges -/
def KeysI (kvs : List (Key × V)) (ks : List Int) : Prop := kvs.map (·.1) = ks.map Sum.inl
theorem any_key {kvs : List (Key × V)} {ks : List Int} {n : Int} (h : KeysI kvs ks) : (kvs.any fun kv => decide (kv.1 = Sum.inl n)) = ks.contains n := by
  unfold KeysI at h
  induction ks generalizing kvs with
  | nil =>
    rw [List.map_nil, List.map_eq_nil_iff] at h
    subst h
    rfl
  | cons m ks ih =>
    cases kvs with
    | nil => cases h
    | cons p kvs =>
      rw [List.map_cons, List.map_cons] at h
      injection h with h1 h2
      rw [List.any_cons, List.contains_cons, ih h2, h1]
      congr 1
      by_cases e : m = n
      · subst e
        simp
      · have e2 : ¬ n = m := fun z => e z.symm
        have e3 : ¬ (Sum.inl m : Key) = Sum.inl n := fun z => e (Sum.inl.inj z)
        simp [e2, e3]
theorem keys_put {kvs : List (Key × V)} {ks : List Int} {n : Int} {z : V} (h : KeysI kvs ks) : KeysI (putK kvs (.inl n) z) (if ks.contains n then ks else ks ++ [n]) := by
  unfold putK
  rw [any_key h]
  by_cases e : ks.contains n = true
  · rw [if_pos e, if_pos e]
    show List.map _ (List.map _ _) = _
    rw [List.map_map, ← h]
    apply List.map_congr_left
    intro p _
    show (if p.1 = Sum.inl n then (p.1, z) else p).1 = p.1
    split <;> rfl
  · rw [if_neg e, if_neg e]
    show List.map _ (kvs ++ [(Sum.inl n, z)]) = _
    rw [List.map_append, h, List.map_append]
    rfl
/-- the keys of a merge: those of both, none twice -/
theorem keys_merge : ∀ {more kvs : List (Key × V)} {ms ks : List Int}, KeysI more ms → KeysI kvs ks → ∃ ls, KeysI (mergeK kvs more) ls ∧ (∀ x, x ∈ ls ↔ x ∈ ks ∨ x ∈ ms) ∧ (ks.Nodup → ls.Nodup) ∧ ls.length ≤ ks.length + ms.length
  | [], kvs, ms, ks, h1, h2 => by
    cases ms with
    | nil => exact ⟨ks, h2, fun x => by simp, id, by simp⟩
    | cons m ms => cases h1
  | p :: more, kvs, [], ks, h1, h2 => by cases h1
  | p :: more, kvs, m :: ms, ks, h1, h2 => by
    unfold KeysI at h1
    rw [List.map_cons, List.map_cons] at h1
    injection h1 with e1 e2
    obtain ⟨ls, f1, f2, f3, f4⟩ := keys_merge (more := more) (ms := ms) e2 (keys_put (n := m) (z := p.2) h2)
    refine ⟨ls, ?_, fun x => ?_, fun nd => f3 ?_, ?_⟩
    · have e3 : mergeK kvs (p :: more) = mergeK (putK kvs (.inl m) p.2) more := by
        show mergeK (putK kvs p.1 p.2) more = _
        rw [e1]
      rw [e3]
      exact f1
    · rw [f2]
      by_cases e : ks.contains m = true
      · rw [if_pos e]
        have hm : m ∈ ks := List.contains_iff_mem.mp e
        rw [List.mem_cons]
        constructor
        · rintro (h | h)
          · exact .inl h
          · exact .inr (.inr h)
        · rintro (h | h | h)
          · exact .inl h
          · subst h; exact .inl hm
          · exact .inr h
      · rw [if_neg e, List.mem_append, List.mem_singleton, List.mem_cons, or_assoc]
    · by_cases e : ks.contains m = true
      · rw [if_pos e]
        exact nd
      · rw [if_neg e]
        have hm : ¬ m ∈ ks := fun z => e (List.contains_iff_mem.mpr z)
        exact List.nodup_append.mpr ⟨nd, by simp, fun x hx y hy => by
          cases List.mem_singleton.mp hy
          exact fun z => hm (z ▸ hx)⟩
    · rw [List.length_cons]
      split at f4
      · omega
      · rw [List.length_append] at f4
        simp at f4
        omega
/-! truth and equality -/
def rTruK (K : Frag) (x : V) (H : Hp) (Q : Bool → Hp → Prop) : Prop := ∃ k, TruV K x H k ∧ Q k H
theorem g_tru {ta : TE} {QB : Bool → Hp → Prop} (k : ta σ H fun x H' => rTruK K x H' QB) : (fun σ H Q => ta σ H fun x H' => ∃ k, TruV K x H' k ∧ Q k H' : TT) σ H QB := k
def tTru (K : Frag) (ta : TE) : TT := fun σ H Q => ta σ H fun x H' => rTruK K x H' Q
theorem pt_tru {X : Cx} {K : Frag} {a : Expr} {ta : TE} (hK : X.K = K) (ha : PE X a ta) (he : ∀ whole, isTrue a X.env whole = (do let v ← whole; standAt a.pos; holding [v] (truthy v))) : PT X a (tTru K ta) := hK ▸ pt_truth ha he
theorem g_tTru {ta : TE} {QB : Bool → Hp → Prop} (k : ta σ H fun x H' => rTruK K x H' QB) : tTru K ta σ H QB := k
theorem g_truL {l : Addr} {vs : List V} {QB : Bool → Hp → Prop} (h : SqL K H l vs) (k : QB (!vs.isEmpty) H) : rTruK K (.ref l) H QB := ⟨_, .inl ⟨vs, h, rfl⟩, k⟩
theorem g_eqD {x y : V} {d e : PyData} (h1 : L2.Dp K H x d) (h2 : L2.Dp K H y e) (s1 : SeqAt.shaped d = true) (s2 : SeqAt.shaped e = true) (k : Q (.bl (PyData.eqv d e)) H) : rEqD K x y H Q := ⟨d, e, h1, h2, s1, s2, k⟩
theorem g_neD {x y : V} {d e : PyData} (h1 : L2.Dp K H x d) (h2 : L2.Dp K H y e) (s1 : SeqAt.shaped d = true) (s2 : SeqAt.shaped e = true) (k : Q (.bl (!PyData.eqv d e)) H) : rNeD K x y H Q := ⟨d, e, h1, h2, s1, s2, k⟩
theorem RG.hu64 {k : Nat} {A : Around} (g : RG k A) : A.units + 64 < cLine := by
  have := g.rm.un
  omega
/-- a tuple whose items need not last as data -/
theorem g_newTq {vs : List V} (S : Sy K F G H) (hl : vs.length ≤ 100000) (k : ∀ p H', H p = none → Sy K F (.tq p vs :: G) H' → Q (.ref p) H') : rNewT vs H Q :=
  ⟨Nat.le_trans hl (by decide), fun p hp => k p _ hp ((S.over hp).add (.tq p vs) (.inl (.inl upd_same)))⟩
/-- the last item -/
theorem atI_last {α : Type} {xs : List α} {x : α} : atI (xs ++ [x]) (-1) = some x := by
  have e : ixN (xs ++ [x]).length (-1) = some xs.length := by
    unfold ixN
    rw [List.length_append, List.length_singleton]
    rw [if_neg (by omega)]
    first
      | (rw [if_pos (by omega)]; congr 1; omega)
      | (simp; omega)
  unfold atI
  rw [e]
  show (xs ++ [x])[xs.length]? = some x
  rw [List.getElem?_append_right (Nat.le_refl _), Nat.sub_self]
  rfl
/-- for over range(a, b) -/
def Rg2For (g : TG) (tb : TS) (D : Ends) (σ : L2.St) (lo : Int) (n : Nat) (H : Hp) : Prop := ∃ W : Nat → Nat → L2.St → Hp → Prop, (∃ m, W 0 m σ H) ∧ ∀ i m σ H, W i m σ H →
  ((Itr lo n).stop i H ∧ D.nx σ H) ∨ ((Itr lo n).go i H ∧ ∃ N : L2.St → Hp → Prop, (∀ σ' H', N σ' H' → ∃ m', m' < m ∧ W (i + 1) m' σ' H') ∧ ∀ x H', (Itr lo n).yld i H x H' → g x σ H' fun σ2 H2 => tb { D with nx := N, ct := N, bk := D.nx } σ2 H2)
theorem g_forR2 {ta : TA} (k : ta σ H fun vs H1 => ∃ i j : Int, vs = [.int i, .int j] ∧ (-(2 ^ 62) ≤ i ∧ i < 2 ^ 62 ∧ -(2 ^ 62) ≤ j ∧ j < 2 ^ 62) ∧ Rg2For g tb D σ i (j - i).toNat H1) : tFor (iRng2 ta) g tb D σ H := k
theorem rg2for_of {lo : Int} {n : Nat} (Pv : Nat → L2.St → Hp → Prop) (h0 : Pv 0 σ H) (turn : ∀ i σ' H', i < n → Pv i σ' H' → g (.int (lo + i)) σ' H' fun σ2 H2 => tb { D with nx := Pv (i + 1), ct := Pv (i + 1), bk := D.nx } σ2 H2)
    (done : ∀ σ' H', Pv n σ' H' → D.nx σ' H') : Rg2For g tb D σ lo n H := for_range (lo := lo) Pv h0 turn done
end
end OB

set_option Elab.async false
set_option linter.all false
set_option maxRecDepth 100000
set_option maxHeartbeats 4000000
/-! OB, part k: sums of tuples, tuples turned round and joined, lists joined. -/
namespace OB
open PySem PySem.Spec PyProof.Rows L2 PySem.W
/-! sum of a list or a tuple of whole numbers -/
def rSumU (K : Frag) : List V → Hp → VK → Prop := fun vs H Q => ∃ (a : Addr) (ns : List Int), vs = [V.ref a] ∧ (SqL K H a (ns.map V.int) ∨ SqT K H a (ns.map V.int)) ∧ Q (.int ns.sum) H
section
variable {X : Cx}
theorem c_sumU (hc : X.calm = true) : CallR X (.builtin "sum") (rSumU X.K) := by
  intro pins s σ H vs us Q I r h
  obtain ⟨a, ns, rfl, hs | hs, q⟩ := h
  · exact cr_sum hc pins s σ H [.ref a] us Q I r ⟨a, ns, rfl, hs, q⟩
  · obtain ⟨its, rv, hl, _⟩ := I.tuple hs
    rw [Vals.ref1 r]
    obtain ⟨xs, hx⟩ := rv.ints.allInts.items
    have hn : numsOf its.toArray.toList = ns := by rw [show its.toArray.toList = its from rfl, rv.ints.numsOf]
    have hl2 : s.heap.IsTuple a (intItems xs) := hx ▸ hl
    rw [hx, nums_intItems] at hn
    refine ktm_sumG (I.ok.hd hc) hl2 fun h' tk t' hk => ?_
    rw [preSum_eq, List.take_of_length_le (by simp), hn]
    exact ⟨.int _, H, I.kept hk, ⟨_, rfl⟩, q⟩
end
section
variable {K : Frag} {F : List (Addr × HO)} {G : List Ft} {H : Hp} {Q : VK} {ns : List Int} {l : Addr}
theorem g_sumUL (h : SqL K H l (ns.map V.int)) (k : Q (.int ns.sum) H) : rSumU K [.ref l] H Q := ⟨l, ns, rfl, .inl h, k⟩
theorem g_sumUT (h : SqT K H l (ns.map V.int)) (k : Q (.int ns.sum) H) : rSumU K [.ref l] H Q := ⟨l, ns, rfl, .inr h, k⟩
end
/-! xs[::-1] of a tuple -/
section
open HT
theorem fm_congr {α β : Type} : ∀ {l : List α} {f g : α → Option β}, (∀ m ∈ l, f m = g m) → l.filterMap f = l.filterMap g
  | [], _, _, _ => rfl
  | x :: l, f, g, h => by
    rw [List.filterMap_cons, List.filterMap_cons, h x (List.mem_cons_self ..), fm_congr fun m hm => h m (List.mem_cons_of_mem _ hm)]
theorem pick_rev (items : Array Value) : ((List.range items.size).filterMap fun (m : Nat) => items[((items.size : Int) - 1 + (m : Int) * (-1)).toNat]?).toArray = items.toList.reverse.toArray := by
  have e : (List.range items.size).filterMap (fun (m : Nat) => items[((items.size : Int) - 1 + (m : Int) * (-1)).toNat]?) = items.toList.reverse := by
    have e1 : ∀ m ∈ List.range items.size, items[((items.size : Int) - 1 + (m : Int) * (-1)).toNat]? = (items.toList.reverse)[m]? := by
      intro m hm
      have hm := List.mem_range.mp hm
      rw [List.getElem?_reverse (by rw [Array.length_toList]; exact hm), Array.length_toList, Array.getElem?_toList]
      congr 1
      omega
    have e2 : (List.range items.size).filterMap (fun (m : Nat) => items[((items.size : Int) - 1 + (m : Int) * (-1)).toNat]?) = (List.range items.toList.reverse.length).filterMap fun m => (items.toList.reverse)[m]? := by
      rw [List.length_reverse, Array.length_toList]
      exact fm_congr e1
    rw [e2]
    generalize items.toList.reverse = l
    induction l with
    | nil => rfl
    | cons x l ih =>
      rw [List.length_cons, List.range_succ_eq_map, List.filterMap_cons]
      show x :: List.filterMap _ _ = _
      rw [List.filterMap_map]
      congr 1
  rw [e]
theorem adjust_rev (n : Nat) : Builtin.Slice.sliceAdjust none none (-1) (n : Int) = ((n : Int) - 1, -1) := rfl
theorem places_rev (n : Nat) : Builtin.Slice.slicePlaces ((n : Int) - 1) (-1) (-1) = n := by
  unfold Builtin.Slice.slicePlaces
  have h1 : ¬ ((-1 : Int) > 0) := by decide
  have h2 : (-(-1 : Int)) = 1 := by decide
  rw [if_neg h1, h2, Int.ediv_one]
  split <;> omega
variable {prog : Program} {w : World} {A : Around} {E : Value → Shared → Prop} {s : Shared}
theorem sliceApplied_rev {sl : Addr} {vl vu vk : Value} {n : Nat} {Q : Int × Int × Nat → Shared → Prop} (hs : s.heap.IsSliceOf sl vl vu vk) (pl : IsPart vl none) (pu : IsPart vu none) (pk : IsPart vk (some (-1)))
    (h : Q ((n : Int) - 1, -1, n) s) : wpAny (model prog w) A (Builtin.Slice.sliceApplied (.ref sl) (pure (n : Int))) Q E s := by
  obtain ⟨os, hos, hcs, hds⟩ := id hs
  unfold Builtin.Slice.sliceApplied Builtin.Slice.sliceFields
  refine wpAny_bind (wpAny_bind (wpAny_field hos hds (x := vl) rfl (wpAny_bind (wpAny_field hos hds (x := vu) rfl (wpAny_bind (wpAny_field hos hds (x := vk) rfl (wpAny_pure ?_)))))))
  refine wpAny_bind (slicePart_ pk ?_)
  show wpAny _ _ (if ((-1 : Int) == 0) = true then _ else _) _ _ s
  rw [if_neg (by decide)]
  refine wpAny_bind (slicePart_ pl (wpAny_bind (slicePart_ pu (wpAny_bind (wpAny_pure ?_)))))
  show wpAny _ _ (match Builtin.Slice.sliceAdjust none none (-1) (n : Int) with | (lo, hi) => pure (lo, (-1 : Int), Builtin.Slice.slicePlaces lo hi (-1))) _ _ s
  rw [adjust_rev n]
  show wpAny _ _ (pure ((n : Int) - 1, (-1 : Int), Builtin.Slice.slicePlaces ((n : Int) - 1) (-1) (-1))) _ _ s
  rw [places_rev]
  exact wpAny_pure h
theorem getItem_tuple_rev {t sl : Addr} {items : Array Value} {vl vu vk : Value} {Q : Value → Shared → Prop} (ht : IsTup s.heap t items) (hs : s.heap.IsSliceOf sl vl vu vk) (pl : IsPart vl none) (pu : IsPart vu none) (pk : IsPart vk (some (-1)))
    (h : Q (.ref s.heap.objs.size) { s with heap := s.heap.push { cls := .type "tuple", data := .seq items.toList.reverse.toArray } })
    (hsz : items.size ≤ sizeLine) : wpAny (model prog w) A (getItem (.ref t) (.ref sl)) Q E s := by
  have htake : sizeOk (.seq items.toList.reverse.toArray) := by
    show (items.toList.reverse.toArray).size ≤ sizeLine
    rw [List.size_toArray, List.length_reverse, Array.length_toList]
    omega
  obtain ⟨os, hos, hcs, hds⟩ := id hs
  have hTs : s.TypeIs (.ref sl) "slice" := ⟨os, hos, hcs⟩
  unfold getItem
  try with_reducible refine wpAny_holding ?_
  first | refine wpAny_bind (wpAny_pure ?_) | skip
  refine wpAny_bind (wpAny_sequenceKey ht.typeIs (by decide) ?_)
  refine wpAny_bind (wpAny_callSpecial?_slot (name := Str.ofString "__getitem__") ht.typeIs PyProof.Rows.slot_tuple_getitem
    (wpAny_call_entry PyProof.Rows.slot_tuple_getitem ht.typeIs entry_tuple_getitem ?_ (args_tuple_getitem _ _)))
  show wpAny _ _ (Builtin.Tuple.tupleItemsOf (.ref t) >>= _) _ _ s
  refine wpAny_bind (tupleItemsOf_ ht ?_)
  refine wpAny_bind (wpAny_typeOf hTs ?_)
  rw [if_pos (by decide)]
  refine wpAny_bind (sliceApplied_rev hs pl pu pk ?_)
  have hno : ¬ (((((items.size : Int) - 1) == 0) && (-1 : Int) == 1 && items.size == items.size) = true) := by
    intro q
    rw [Bool.and_eq_true, Bool.and_eq_true] at q
    exact absurd q.1.2 (by decide)
  show wpAny _ _ (if ((((items.size : Int) - 1) == 0) && (-1 : Int) == 1 && items.size == items.size) = true then _ else _) _ _ s
  rw [if_neg hno, pick_rev]
  first
    | exact wpAny_bind (m := Builtin.Tuple.tupleExact _) (wpAny_newObj_type (wpAny_pure ⟨_, rfl, wpAny_pure h⟩) htake)
    | exact wpAny_bind (m := Builtin.Tuple.tupleExact _) (wpAny_newObj_type (wpAny_bind (wpAny_pure (wpAny_pure ⟨_, rfl, wpAny_pure h⟩))) htake)
    | exact wpAny_bind (wpAny_bind (m := Builtin.Tuple.tupleExact _) (wpAny_newObj_type (wpAny_pure (wpAny_pure ⟨_, rfl, wpAny_pure h⟩)) htake))
    | exact wpAny_bind (wpAny_bind (m := Builtin.Tuple.tupleExact _) (wpAny_newObj_type (wpAny_pure ⟨_, rfl, wpAny_pure h⟩) htake))
end
def tRevT (K : Frag) (te : TE) : TE := fun σ H Q => te σ H fun x H1 => ∃ a xs, x = .ref a ∧ SqT K H1 a xs ∧ ∀ p, H1 p = none → Q (.ref p) (upd H1 p (.tup xs.reverse))
theorem pe_revT0 {X : Cx} {e : Expr} {te : TE} {k : Nat} {p1 p2 p3 pos : Pos} (he : PE X e te) : PE X (.Subscript e (.Slice none none (some (.UnaryOp .USub (.Constant (.int 1) k p1) p2)) p3) pos) (tRevT X.K te) := by
  refine ⟨fun pins s σ H Q I h => ?_⟩
  refine Subscript_ (thn (he.run pins s σ H _ I h) fun v s1 ⟨x, H1, I1, r1, q1⟩ => ?_)
  obtain ⟨a, xs, ex, hx, q⟩ := q1
  subst ex
  cases r1
  have hst : PO X (some (.UnaryOp .USub (.Constant (.int 1) k p1) p2)) (tPart (tUn (rU fun i => .int (-i)) (tC (.int 1)))) := po_some (pe_un un_neg pe_int)
  refine wpAny_Slice (thn (po_none.run pins s1 σ H1 (fun o H2 => o = none ∧ H2 = H1) I1 ⟨rfl, rfl⟩) fun vl s2 ⟨l, H2, I2, pl, el, e2⟩ => ?_)
  subst el e2
  refine thn (po_none.run pins s2 σ H2 (fun o H3 => o = none ∧ H3 = H2) I2 ⟨rfl, rfl⟩) fun vu s3 ⟨u, H3, I3, pu, eu, e3⟩ => ?_
  subst eu e3
  refine thn (hst.run pins s3 σ H3 (fun o H4 => o = some (-1) ∧ H4 = H3) I3 ⟨1, rfl, -1, rfl, rfl, rfl⟩) fun vs s4 ⟨o, H4, I4, ps, eo, e4⟩ => ?_
  subst eo e4
  have I5 : Inv X pins σ H4 { s4 with heap := s4.heap.push { cls := .type "slice", data := .fields #[vl, vu, vs] } } := I4.kept (t' := s4.toks) fun b ob q => Heap.get?_push_of_some _ q
  obtain ⟨its, r, ht, hz⟩ := I5.tuple hx
  have hlen := r.length
  show wpAny (model X.prog X.w) X.A (subscriptTail e (.Slice none none (some (.UnaryOp .USub (.Constant (.int 1) k p1) p2)) p3) (.ref a) (.ref s4.heap.objs.size)) (EP X pins σ Q) X.xe { s4 with heap := s4.heap.push { cls := .type "slice", data := .fields #[vl, vu, vs] } }
  refine tail_any (ops := [.ref a, .ref s4.heap.objs.size]) ht.typeIs (PyProof.Rows.slot_tuple_getitem.lookup) ?_ (by with_unfolding_all rfl)
  refine getItem_tuple_rev ht (Heap.IsSliceOf.new _ vl vu vs) pl pu ps ?_ (by rw [List.size_toArray]; omega)
  refine ⟨.ref _, _, I5.laid (t' := s4.toks) (o := .tup xs.reverse) (fun b ob q => Heap.get?_push_of_some _ q) (Nat.le_refl _) ?_, rfl, q _ (I5.hok.fresh (Nat.le_refl _))⟩
  exact ⟨by rw [List.length_reverse]; exact hz, _, r.reverse, IsTup.new _ _⟩
theorem pe_revT {X : Cx} {K : Frag} (h : X.K = K) {e : Expr} {te : TE} {k : Nat} {p1 p2 p3 pos : Pos} (he : PE X e te) : PE X (.Subscript e (.Slice none none (some (.UnaryOp .USub (.Constant (.int 1) k p1) p2)) p3) pos) (tRevT K te) := h ▸ pe_revT0 he
theorem op_catAK {X : Cx} {K : Frag} (h : X.K = K) : OpR X (binaryOp .Add) (rCatA K) := h ▸ op_catA
section
variable {K : Frag} {F : List (Addr × HO)} {G : List Ft} {σ : L2.St} {H : Hp} {Q : VK} {te : TE} {l b : Addr} {vs zs : List V} {ds : List PyData}
theorem g_revT (k : te σ H fun x H1 => ∃ a xs, x = .ref a ∧ SqT K H1 a xs ∧ ∀ p, H1 p = none → Q (.ref p) (upd H1 p (.tup xs.reverse))) : tRevT K te σ H Q := k
theorem g_rev1 (S : Sy K F G H) (h : SqT K H l vs) (hd : DpAll K H vs ds) (hi : immAll ds = true) (k : ∀ p H', Sy K F (.dat [.ref p] [.tuple ds.reverse] :: G) H' → Q (.ref p) H') : ∃ a xs, V.ref l = .ref a ∧ SqT K H a xs ∧ ∀ p, H p = none → Q (.ref p) (upd H p (.tup xs.reverse)) := by
  have rev : ∀ {vs : List V} {ds : List PyData}, DpAll K H vs ds → DpAll K H vs.reverse ds.reverse := by
    intro vs ds h
    induction vs generalizing ds with
    | nil =>
      cases h
      exact .nil
    | cons v vs ih =>
      cases h with
      | cons a b =>
        rw [List.reverse_cons, List.reverse_cons]
        exact dps_append (ih b) (dps_one a)
  have irev : immAll ds.reverse = true := immAll_of fun x hx => by
    have := List.mem_reverse.mp hx
    clear k hd rev
    induction ds with
    | nil => cases this
    | cons d ds ih =>
      have hi2 : (imm d && immAll ds) = true := hi
      rw [Bool.and_eq_true] at hi2
      rcases List.mem_cons.mp this with rfl | h3
      · exact hi2.1
      · exact ih hi2.2 (List.mem_reverse.mpr h3) h3
  exact ⟨l, vs, rfl, h, fun p hp => k p _ (S.lay hp (rev hd) irev)⟩
/-- two tuples joined: both of data, neither empty -/
theorem g_catA {d1 d2 : List PyData} (S : Sy K F G H) (h1 : SqT K H l vs) (h2 : SqT K H b zs) (e1 : DpAll K H vs d1) (e2 : DpAll K H zs d2) (i1 : immAll (d1 ++ d2) = true) (n1 : vs ≠ []) (n2 : zs ≠ []) (hl : vs.length + zs.length ≤ 100000)
    (k : ∀ p H', H p = none → Sy K F (.dat [.ref p] [.tuple (d1 ++ d2)] :: G) H' → Q (.ref p) H') : rCatA K (.ref l) (.ref b) H Q :=
  ⟨l, b, vs, zs, rfl, rfl, h1, h2, Nat.le_trans hl (by decide), fun z => absurd z n1, fun _ z => absurd z n2, fun _ _ p hp => k p _ hp (S.lay hp (dps_append e1 e2) i1)⟩
/-- two lists joined -/
theorem g_cat {i j : Nat} (S : Sy K F G H) (h1 : F[i]? = some (l, .lst vs)) (h2 : F[j]? = some (b, .lst zs)) (hl : vs.length + zs.length ≤ 100000)
    (k : ∀ p H', Sy K ((p, .lst (vs ++ zs)) :: F) G H' → Q (.ref p) H') : rCat (.ref l) (.ref b) H Q :=
  ⟨l, b, vs, zs, rfl, rfl, S.at i h1, S.at j h2, Nat.le_trans hl (by decide), fun p hp => k p _ (S.push hp)⟩
end
end OB

set_option Elab.async false
set_option linter.all false
set_option maxRecDepth 100000
set_option maxHeartbeats 4000000
/-! OB, part l: sets of whole numbers made of lists, sorted; max of a tuple; in, index, pop; comprehensions over range(a, b). -/
namespace OB
open PySem PySem.Spec PyProof.Rows L2 PySem.W
/-! ### max of a tuple of ints -/
def rMaxU (K : Frag) : List V → Hp → VK → Prop := fun vs H Q => ∃ (a : Addr) (ns : List Int), vs = [V.ref a] ∧ (SqL K H a (ns.map V.int) ∨ SqT K H a (ns.map V.int)) ∧ 0 < ns.length ∧ ∀ m, m ∈ ns → (∀ y, y ∈ ns → y ≤ m) → Q (.int m) H
section
variable {prog : Program} {w : World} {A : Around} {E : Value → Shared → Prop} {s : Shared} {t : Addr} {its : List Value} {ns : List Int}
theorem max_rawT {Q : Value → Shared → Prop} (hh : A.handled = none) (hl : s.heap.IsTuple t its.toArray) (hi : IntsAre its ns) (hne : 0 < ns.length)
    (h : ∀ h' tk M t', (∀ b o, s.heap.get? b = some o → h'.get? b = some o) → M ∈ ns → (∀ a, a ∈ ns → a ≤ M) → Q (.int M t') { s with heap := h', toks := tk }) : wpAny (model prog w) A (call (.builtin "max") [.ref t]) Q E s := by
  obtain ⟨xs, e⟩ := hi.allInts.items
  have hn : numsOf (intItems xs).toList = ns := e ▸ hi.numsOf
  rw [nums_intItems] at hn
  subst hn
  rw [e] at hl
  have n0 : 0 < xs.size := by simpa using hne
  obtain ⟨o, ho, hc, n, hd⟩ := id hl
  have ne : t ≠ s.heap.objs.size := Nat.ne_of_lt (Heap.lt_size ho)
  refine call_max_walk (wpAny_pyIter_tuple hl ⟨s.heap.objs.size, _, _, _, _, _, _, rfl, Walks.tuple (A := A.in1) hh _ t ne (intItems xs), ⟨⟨_, Heap.get?_push_size _ rfl, rfl, rfl⟩, hl.at fun o e => Heap.get?_push_of_some _ e⟩, fun b hb => ?_, by simpa [intItems] using n0, CmpOf.ints_gt (numAt xs) (fun _ _ => intItems_at), fun v h' tk hP hk => ?_⟩)
  · rcases List.mem_cons.mp hb with rfl | hb
    · exact Heap.lt_size (Heap.get?_push_size _ rfl)
    · cases List.mem_singleton.mp hb
      exact Heap.lt_size (Heap.get?_push_of_some _ ho)
  · obtain ⟨t', rfl⟩ := intItems_at (show (intItems xs)[_]? = some v from hP)
    obtain ⟨b1, b2⟩ := argBest_gt (numAt xs) ((intItems xs).size - 1)
    have es : (intItems xs).size = xs.size := by simp [intItems]
    rw [es] at b1 b2
    refine h h' tk _ t' (fun b o e => hk b o (fun hb => absurd (Heap.lt_size e) ((List.mem_singleton.mp hb) ▸ Nat.lt_irrefl _)) (Heap.get?_push_of_some _ e)) ?_ fun a ha => ?_
    · rw [numAt_eq, es]
      exact PySem.getD_mem (by rw [List.length_map, Array.length_toList]; omega)
    · obtain ⟨j, hj, rfl⟩ := mem_getD ha
      rw [List.length_map, Array.length_toList] at hj
      have := b2 j (by omega)
      rw [numAt_eq, numAt_eq] at this
      rw [numAt_eq, es]
      exact this
end
section
variable {X : Cx}
theorem c_maxU (hc : X.calm = true) : CallR X (.builtin "max") (rMaxU X.K) := by
  intro pins s σ H vs us Q I r h
  obtain ⟨a, ns, rfl, hs | hs, n0, q⟩ := h
  · exact cr_max hc pins s σ H [.ref a] us Q I r ⟨a, ns, rfl, hs, n0, q⟩
  · obtain ⟨its, rv, hl, _⟩ := I.tuple hs
    rw [Vals.ref1 r]
    exact max_rawT (I.ok.hd hc) hl rv.ints n0 fun h' tk m t' hk h1 h2 => ⟨.int _, H, I.kept hk, ⟨_, rfl⟩, q m h1 h2⟩
/-! ### x in a list or tuple of ints -/
theorem op_inK {K : Frag} (h : X.K = K) : OpR X (compareOp .In) (rIn K false) := h ▸ op_in_seq
end
theorem flat_ints (ns : List Int) : (ns.map V.int).all flatV = true := List.all_eq_true.mpr fun x hx => by
  obtain ⟨n, _, rfl⟩ := List.mem_map.mp hx
  rfl
theorem inV_ints (a : Int) : ∀ (ns : List Int), inV (.int a) (ns.map V.int) = decide (a ∈ ns)
  | [] => by simp [inV]
  | n :: ns => by
    have e := inV_ints a ns
    unfold inV at e ⊢
    rw [List.map_cons, List.any_cons, e]
    by_cases h : n = a
    · subst h
      simp [eqV]
    · have h2 : ¬ a = n := fun z => h z.symm
      have e3 : eqV (.int n) (.int a) = false := by simp [eqV, h]
      rw [e3]
      simp [h2]
section
variable {K : Frag} {F : List (Addr × HO)} {G : List Ft} {σ : L2.St} {H : Hp} {Q : VK} {ns : List Int} {l : Addr} {a : Int}
theorem g_inT (h : SqT K H l (ns.map V.int)) (k : Q (.bl (decide (a ∈ ns))) H) : rIn K false (.int a) (.ref l) H Q :=
  ⟨l, _, rfl, .inr h, rfl, flat_ints ns, by rw [if_neg Bool.false_ne_true, inV_ints]; exact k⟩
theorem g_inL (h : SqL K H l (ns.map V.int)) (k : Q (.bl (decide (a ∈ ns))) H) : rIn K false (.int a) (.ref l) H Q :=
  ⟨l, _, rfl, .inl h, rfl, flat_ints ns, by rw [if_neg Bool.false_ne_true, inV_ints]; exact k⟩
theorem g_maxUL (h : SqL K H l (ns.map V.int)) (n0 : 0 < ns.length) (k : ∀ m, m ∈ ns → (∀ y, y ∈ ns → y ≤ m) → Q (.int m) H) : rMaxU K [.ref l] H Q := ⟨l, ns, rfl, .inl h, n0, k⟩
theorem g_maxUT (h : SqT K H l (ns.map V.int)) (n0 : 0 < ns.length) (k : ∀ m, m ∈ ns → (∀ y, y ∈ ns → y ≤ m) → Q (.int m) H) : rMaxU K [.ref l] H Q := ⟨l, ns, rfl, .inr h, n0, k⟩
theorem seqIx0 {n : Nat} (h : 0 < n) : seqIndex? 0 n = some 0 := by
  unfold seqIndex?
  first
    | (rw [if_pos (by omega)]; simp; done)
    | (simp; omega)
/-- xs.pop(0) -/
theorem g_pop0 {f : Nat} {x : V} {xs : List V} (S : Sy K F G H) (h : F[f]? = some (l, .lst (x :: xs))) (k : ∀ H', Sy K (F.set f (l, .lst xs)) G H' → Q x H') : rPopAt (.ref l) [.int 0] H Q :=
  ⟨l, x :: xs, 0, 0, x, rfl, rfl, S.at f h, by decide, by decide, seqIx0 (Nat.succ_pos _), rfl, k _ (S.put f h rfl)⟩
/-- xs.index(n), n there -/
theorem g_indexI (h : SqL K H l (ns.map V.int)) {j : Nat} (e : ns[j]? = some a) (no : ∀ m z, m < j → ns[m]? = some z → z ≠ a) (k : Q (.int (j : Nat)) H) : rIndex K (.ref l) [.int a] H Q := by
  refine ⟨l, ns.map V.int, .int a, j, .int a, rfl, rfl, h, rfl, flat_ints ns, by rw [List.getElem?_map, e]; rfl, by simp [eqV], fun m z' hm hz => ?_, k⟩
  rw [List.getElem?_map] at hz
  obtain ⟨z, hz2, rfl⟩ := Option.map_eq_some_iff.mp hz
  have := no m z hm hz2
  simp [eqV, this]
end
/-! ### comprehensions over range(a, b) -/
section
variable {K : Frag} {F : List (Addr × HO)} {G : List Ft} {σ : L2.St} {H : Hp} {Q : VK} {own : List Nat} {g : TG} {tt : TT} {te : TE}
def Rg2Lc (K : Frag) (g : TG) (tt : TT) (te : TE) (own : List Nat) (σ : L2.St) (Q : VK) (lo : Int) (n : Nat) (H : Hp) : Prop := ∀ Dp, H Dp = none → ∃ W : Nat → Nat → Hp → Prop, (∃ m, W 0 m (upd H Dp (.lst []))) ∧ ∀ i m H, W i m H →
  ((Itr lo n).stop i H ∧ Q (.ref Dp) H) ∨ ((Itr lo n).go i H ∧ ∃ Nx : Hp → Prop, (∀ H', Nx H' → ∃ m', m' < m ∧ W (i + 1) m' H') ∧ ∀ x H', (Itr lo n).yld i H x H' → g x (wipe σ own) H' fun σ2 H2 => wipe σ2 own = wipe σ own ∧ tt σ2 H2 fun b H3 =>
    if b = true then te σ2 H3 fun y H4 => ∃ acc, H4 Dp = some (.lst acc) ∧ acc.length < sizeLine ∧ Nx (upd H4 Dp (.lst (acc ++ [y]))) else Nx H3)
theorem g_lcR2 {ta : TA} (k : ta σ H fun vs H1 => ∃ i j : Int, vs = [.int i, .int j] ∧ (-(2 ^ 62) ≤ i ∧ i < 2 ^ 62 ∧ -(2 ^ 62) ≤ j ∧ j < 2 ^ 62) ∧ Rg2Lc K g tt te own σ Q i (j - i).toNat H1) : tLc (iRng2 ta) g tt te own σ H Q := k
theorem rg2lc_of {lo : Int} {n : Nat} (I : Nat → List (Addr × HO) → List PyData → Prop) (S : Sy K F G H) (h0 : I 0 F []) (hl : ∀ i F ds, I i F ds → ds.length < 100000)
    (turn : ∀ i, i < n → Turn1 K G I σ own g tt te i (.int (lo + i)))
    (done : ∀ Dp H' F' vs ds, H Dp = none → I n F' ds → Sy K ((Dp, .lst vs) :: F') (.dat vs ds :: G) H' → Q (.ref Dp) H') : Rg2Lc K g tt te own σ Q lo n H := fun Dp hD => by
  refine lc_range (lo := lo) (n := n) (LcP K G I Dp) (lcp_start S h0 hD) (fun i H' hi p => lcp_turn hl (turn i hi) p) fun H' p => ?_
  obtain ⟨F', vs, ds, hi, S'⟩ := p
  exact done Dp H' F' vs ds hD hi S'
/-! tuples of data joined, either of them empty or not -/
theorem g_catU {l b : Addr} {d1 d2 : List PyData} (S : Sy K F G H) (h1 : L2.Dp K H (.ref l) (.tuple d1)) (h2 : L2.Dp K H (.ref b) (.tuple d2)) (i1 : immAll d1 = true) (i2 : immAll d2 = true) (hl : d1.length + d2.length ≤ 100000)
    (k : ∀ p H', Sy K F (.dat [.ref p] [.tuple (d1 ++ d2)] :: G) H' → Q (.ref p) H') : rCatA K (.ref l) (.ref b) H Q := by
  obtain ⟨l', vs, e, s1, e1⟩ := dp_at h1
  cases e
  obtain ⟨b', zs, e, s2, e2⟩ := dp_at h2
  cases e
  have n1 := dps_length e1
  have n2 := dps_length e2
  refine ⟨l, b, vs, zs, rfl, rfl, s1, s2, Nat.le_trans (by omega) (show 100000 ≤ sizeLine by decide), fun z => ?_, fun _ z => ?_, fun _ _ p hp => k p _ (S.lay hp (dps_append e1 e2) (by rw [immAll_append, i1, i2]; rfl))⟩
  · subst z
    have : d1 = [] := List.length_eq_zero_iff.mp n1.symm
    subst this
    exact k b H (S.fact (dps_one h2) (by show (imm (.tuple d2) && true) = true; rw [Bool.and_true]; exact i2))
  · subst z
    have : d2 = [] := List.length_eq_zero_iff.mp n2.symm
    subst this
    refine k l H (S.fact (dps_one ?_) ?_)
    · rw [List.append_nil]; exact h1
    · show (imm (.tuple (d1 ++ [])) && true) = true
      rw [List.append_nil, Bool.and_true]
      exact i1
end
/-! ### set(xs) of a list of ints, sorted(set) -/
abbrev sObj (w : World) : Obj := { cls := .type "set", dict := none, data := .set #[] 0 (.fresh 0 0 (!w.params.followText "set-order")) }
section
variable {P : Program} {w : World} {A : Around} {E : Value → Shared → Prop} {s : Shared}
set_option maxRecDepth 100000 in
set_option maxHeartbeats 3200000 in
theorem set_listI {l : Addr} {items : Array Value} (ns : List Int) {Q : Value → Shared → Prop} (hh : A.handled = none) (hl : s.heap.IsList l items) (hit : IntsAre items.toList ns) (hb : ns.length + 1 < scanBound)
    (h : ∀ (h' : Heap) (tk c : Nat), SetR w h' s.heap.objs.size (fun j => decide (j ∈ ns)) c → c ≤ ns.length → (∀ b o, s.heap.get? b = some o → h'.get? b = some o) → Q (.ref s.heap.objs.size) { s with heap := h', toks := tk }) :
    wpAny (model P w) A (call (.type "set") [.ref l]) Q E s := by
  have isz : items.size = ns.length := (Array.length_toList ▸ IntsAre.length hit : _)
  obtain ⟨_, _, hmro⟩ := F.called_set.mro
  have made := F.called_set.made
  have sub := F.called_set.sub
  refine wpAny_call (codeAny_of_tree (show wpAny _ _ (callAny (.type "set") _) _ _ _ from wpAny_pure ⟨Code.quiet_builtin _ (by decide +kernel), codeAny_builtin F.entry_type_call ?_⟩))
  rw [Around.under_plain (weight_type_call_type "set" [.ref l] []) rfl]
  have nt := F.called_set.notType
  have cc := F.called_set.canCreate
  have tc := F.typeCall_set_1 (.ref l)
  repeat (any_goals (first | assumption | wp_step))
  refine codeAny_mono (code_set_led1 (.ref l) (E := E) (Q₁ := fun obj s₁ => obj = .ref s.heap.objs.size ∧ s₁ = { s with heap := s.heap.push (sObj w) }) ⟨rfl, rfl⟩) fun r s₁ hr => ?_
  cases r with
  | error e => exact hr
  | ok fl =>
    cases fl with
    | ret obj =>
      obtain ⟨rfl, rfl⟩ := hr
      have hS : (s.heap.push (sObj w)).get? s.heap.objs.size = some (sObj w) := Heap.get?_push_size _ rfl
      have hT : Shared.TypeIs { s with heap := s.heap.push (sObj w) } (.ref s.heap.objs.size) "set" := ⟨_, hS, rfl⟩
      have li := F.called_set.init.lookup
      have bi := F.called_set.init.bind (.ref s.heap.objs.size)
      repeat (any_goals (first | assumption | wp_step))
      refine codeAny_mono (codeAny_call_builtin (R := wants (fun r s₂ => r = .none ∧ ∃ h' tk c, s₂ = { s with heap := h', toks := tk } ∧ SetR w h' s.heap.objs.size (fun j => decide (j ∈ ns)) c ∧ c ≤ ns.length ∧ (∀ b o, s.heap.get? b = some o → h'.get? b = some o)) E) F.called_set.init.plain F.entry_set_init (check_set_init_1 hT ?_)) fun r₂ s₂ hr₂ => ?_
      · obtain ⟨⟨oc, od, oda, osl⟩, hol, hcl, nl, hdl⟩ := hl
        simp only at hcl hdl
        subst hcl hdl
        have hol' : (s.heap.push (sObj w)).get? l = some { cls := .type "list", dict := od, data := .seq items nl, slots := osl } := Heap.get?_push_of_some _ hol
        have u1 := F.sub_list_set
        have u2 := F.sub_list_frozenset
        have u3 : (Value.type "list" == Value.type "dict") = false := by decide
        have hl1 : (s.heap.push (sObj w)).IsList l items := ⟨_, hol', rfl, nl, rfl⟩
        unfold Builtin.«set.__init__» noKeywords Builtin.Frozenset.updateFrom
        generalize hPI : pyIter = PI
        wp_walk
        subst hPI
        refine wpAny_pyIter_list hl1 (wpAny_bind (wpAny_runValue ?_))
        have lS : l < s.heap.objs.size := Heap.lt_size hol
        have z1 : (s.heap.push (sObj w)).objs.size = s.heap.objs.size + 1 := Heap.size_push ..
        have nI : l ≠ (s.heap.push (sObj w)).objs.size := fun z => by
          rw [Heap.size_push] at z
          exact Nat.lt_irrefl _ (Nat.lt_of_succ_lt (z ▸ lS))
        have Sf : s.heap.objs.size ∉ [(s.heap.push (sObj w)).objs.size, l] := by
          intro z
          rcases List.mem_cons.mp z with z | z
          · rw [Heap.size_push] at z
            exact Nat.succ_ne_self _ z.symm
          · exact absurd (List.mem_singleton.mp z) (Nat.ne_of_gt lS)
        have val : ∀ (i : Nat) (v : Value), items[i]? = some v → ∃ k t, ns[i]? = some k ∧ v = .int k t := fun i v hv => by
          have hi : i < ns.length := by rw [← isz]; exact (Array.getElem?_eq_some_iff.mp hv).1
          obtain ⟨t, e⟩ := PyProof.Rows.IntsAre.int_at hit i v (by rw [Array.getElem?_toList]; exact hv)
          exact ⟨ns[i], t, List.getElem?_eq_getElem hi, by rw [e, List.getD_eq_getElem?_getD, List.getElem?_eq_getElem hi] <;> rfl⟩
        refine set_update_ints ((Walks.list (by simp [hh]) _ l nI items).toS) s.heap.objs.size Sf ns isz hb val (items.size - 0) 0 _ (by omega) (Nat.zero_le _) ⟨⟨_, Heap.get?_push_size _ rfl, rfl, rfl⟩, (hl1.push _)⟩ ⟨0, Nat.le_refl 0, setR_new_at (Heap.get?_push_of_some _ hS)⟩ fun s' c' hm hc' hS' => ?_
        obtain ⟨h', g2, d', tk', os'⟩ := s'
        have eg : g2 = s.gens := hm.gens
        have ed : d' = s.drawn := hm.drawn
        have eo : os' = s.os := hm.os
        subst eg ed eo
        show wpAny _ _ _ _ _ _
        refine wpAny_pure (show wpAny _ _ (ret Value.none) _ _ _ from ?_)
        rw [isz] at hc'
        refine wpAny_pure ⟨rfl, h', tk', c', rfl, hS', hc', fun b o e => ?_⟩
        have b0 : b < s.heap.objs.size := Heap.lt_size e
        refine hm.heap b o (fun z => ?_) (Heap.get?_push_of_some _ (Heap.get?_push_of_some _ e))
        rcases List.mem_cons.mp z with z | z
        · exact absurd z (Nat.ne_of_lt b0)
        · have z := List.mem_singleton.mp z
          rw [Heap.size_push] at z
          exact absurd z (Nat.ne_of_lt (Nat.lt_succ_of_lt b0))
      · cases r₂ with
        | error e => exact hr₂
        | ok fl₂ =>
          cases fl₂ with
          | ret r =>
            obtain ⟨rfl, h', tk, c, rfl, q1, q2, q3⟩ := hr₂
            repeat (any_goals (first | assumption | wp_step))
            exact h _ _ _ q1 q2 q3
          | _ => exact hr₂.elim
    | _ => exact hr.elim
end
def SetIO (w : World) (a : Addr) (S : Int → Bool) (n : Nat) : HO := .ext fun h => SetR w h a S n
theorem setIO_new {P : Program} {w : World} {H : Hp} {h : Heap} {a : Addr} {S : Int → Bool} {n : Nat} (R : SetR w h a S n) : ObjOk P w H h a (SetIO w a S n) := by
  obtain ⟨o, _, _, _, ho, _⟩ := id R
  exact ⟨R, ⟨o, ho⟩, fun h1 h2 p k => p.at k⟩
def rSetI (K : Frag) (w : World) : List V → Hp → VK → Prop := fun vs H Q => ∃ (l : Addr) (ns : List Int), vs = [V.ref l] ∧ SqL K H l (ns.map V.int) ∧ ns.length < 1000 ∧ ∀ a n, H a = none → n ≤ ns.length → Q (.ref a) (upd H a (SetIO w a (fun j => decide (j ∈ ns)) n))
def rSortSI (w : World) : List V → Hp → VK → Prop := fun vs H Q => ∃ (a : Addr) (S : Int → Bool) (n : Nat), vs = [V.ref a] ∧ H a = some (SetIO w a S n) ∧ n < 64 ∧
  ∀ (ms : List Int) (p : Addr), ms.Pairwise (· < ·) → (∀ k, k ∈ ms ↔ S k = true) → ms.length = n → H p = none → Q (.ref p) (upd H p (.lst (ms.map V.int)))
section
variable {X : Cx}
theorem c_setI (hc : X.calm = true) : CallR X (.type "set") (rSetI X.K X.w) := by
  intro pins s σ H vs us Q I r h
  obtain ⟨l, ns, rfl, hs, hn, q⟩ := h
  rw [Vals.ref1 r]
  obtain ⟨its, rv, pl, _⟩ := I.list hs
  refine set_listI (P := X.prog) (w := X.w) ns (I.ok.hd hc) pl.isList rv.ints (by unfold scanBound; omega) fun h' tk c R hc' k => ?_
  exact ⟨.ref s.heap.objs.size, upd H s.heap.objs.size (SetIO X.w s.heap.objs.size _ c), I.laid (t' := tk) k (Nat.le_refl _) (setIO_new R), rfl, q _ c (I.hok.fresh (Nat.le_refl _)) hc'⟩
theorem c_sortSI (hc : X.calm = true) : CallR X (.builtin "sorted") (rSortSI X.w) := by
  intro pins s σ H vs us Q I r h
  obtain ⟨a, S, n, rfl, ha, h64, q⟩ := h
  have R : SetR X.w s.heap a S n := (I.hok a _ ha).1
  rw [Vals.ref1 r]
  refine sorted_set R (I.ok.hd hc) h64 fun s' p out c ms k g o hp hg hi pw hm hl => ?_
  have len : (ms.map V.int).length ≤ sizeLine := by rw [List.length_map, hl, sizeLine_eq]; omega
  have hn : H p = none := I.hok.fresh hp
  have J : Inv X pins σ (upd H p (.lst (ms.map V.int))) { s with heap := s'.heap, gens := s'.gens, drawn := s'.drawn, toks := s'.toks } :=
    I.call (ch := []) (Un.laid k hp hn) (I.hok.laid k hp ⟨len, out.toList, c, vals_of_ints hi, hg⟩) (by rw [g]; exact I.bare) (fun _ z => nomatch z)
  have e : s' = { s with heap := s'.heap, gens := s'.gens, drawn := s'.drawn, toks := s'.toks } := by
    obtain ⟨_, _, _, _, _⟩ := s'
    obtain ⟨_, _, _, _, _⟩ := s
    cases o
    rfl
  rw [e]
  exact ⟨.ref p, _, J, rfl, q ms p pw hm hl hn⟩
end
section
variable {K : Frag} {w : World} {F : List (Addr × HO)} {G : List Ft} {H : Hp} {Q : VK} {ns : List Int} {l : Addr}
theorem g_setI (S : Sy K F G H) (h : SqL K H l (ns.map V.int)) (hl : ns.length < 64) (k : ∀ a n H', n < 64 → H' a = some (SetIO w a (fun j => decide (j ∈ ns)) n) → Sy K F G H' → Q (.ref a) H') : rSetI K w [.ref l] H Q :=
  ⟨l, ns, rfl, h, by omega, fun a n ha hn => k a n _ (by omega) upd_same (S.over ha)⟩
theorem g_sortSI {a : Addr} {n : Nat} (S : Sy K F G H) (h : H a = some (SetIO w a (fun j => decide (j ∈ ns)) n)) (h64 : n < 64) (k : ∀ (ms : List Int) p H', ms.Pairwise (· < ·) → (∀ x, x ∈ ms ↔ x ∈ ns) → ms.length < 64 → Sy K ((p, .lst (ms.map V.int)) :: F) G H' → Q (.ref p) H') : rSortSI w [.ref a] H Q :=
  ⟨a, _, n, rfl, h, h64, fun ms p pw hm hl hp => k ms p _ pw (fun x => by rw [hm]; exact decide_eq_true_iff) (by omega) (S.push hp)⟩
end
end OB

set_option Elab.async false
set_option linter.all false
set_option maxRecDepth 100000
set_option maxHeartbeats 4000000
/-! OB, part m: dicts of ints read, written, gone through; min of a list of alike data; lists turned round. -/
namespace OB
open PySem PySem.Spec PyProof.Rows L2 PySem.W
section
variable {K : Frag} {F : List (Addr × HO)} {G : List Ft} {σ : L2.St} {H : Hp} {Q : VK} {d : Addr} {kvs : List (Key × V)} {i : Nat} {n : Int} {v x : V} {od : Obj} {u : HO}
/-! ### locked while a comprehension goes through it -/
theorem g_lockE {t : TE} (S : Sy K F G H) (h : F[i]? = some (d, .dK kvs)) (k : ∀ od H', Sy K (F.set i (d, .frz od (.dK kvs))) G H' → t σ H' fun v H2 => H2 d = some (.frz od (.dK kvs)) ∧ Q v (upd H2 d (.dK kvs))) : tLockE t σ H Q :=
  ⟨d, _, S.at i h, trivial, fun od => k od _ (S.put i h rfl)⟩
theorem Sy.unlock {y : Addr × HO} (S : Sy K (y :: F.set i (d, .frz od u)) G H) (h : F[i]? = some (d, u)) (m : isFix u = false) : H d = some (.frz od u) ∧ Sy K (y :: F) G (upd H d u) := by
  have hi := (List.getElem?_eq_some_iff.mp h).1
  have e : (y :: F.set i (d, .frz od u))[i + 1]? = some (d, .frz od u) := by
    show (F.set i (d, .frz od u))[i]? = _
    exact List.getElem?_set_self hi
  refine ⟨S.at (i + 1) e, ?_⟩
  have S2 := S.put (o' := u) (i + 1) e (by show (!isFix u) = true; rw [m]; rfl)
  have S3 : Sy K (y :: (F.set i (d, .frz od u)).set i (d, u)) G (upd H d u) := S2
  have e3 : F.set i (d, u) = F := by
    refine List.ext_getElem? fun j => ?_
    by_cases c : i = j
    · subst c
      rw [List.getElem?_set_self hi, h]
    · rw [List.getElem?_set_ne c]
  rw [List.set_set, e3] at S3
  exact S3
/-- a comprehension over the keys -/
theorem g_lcK {td : TE} {g : TG} {tt : TT} {te : TE} {own : List Nat} {ks : List Int} (I : Nat → List (Addr × HO) → List PyData → Prop) (S : Sy K F G H) (ht : ∀ Q' : VK, Q' (.ref d) H → td σ H Q') (h0 : I 0 F [])
    (hq : ∀ i F' ds H', I i F' ds → Sy K F' G H' → H' d = some (.frz od (.dK kvs))) (hl : ∀ i F ds, I i F ds → ds.length < 100000) (hk : KeysI kvs ks)
    (turn : ∀ i n, ks[i]? = some n → Turn1 K G I σ own g tt te i (.int n))
    (done : ∀ Dp H' F' vs ds, H Dp = none → I ks.length F' ds → Sy K ((Dp, .lst vs) :: F') (.dat vs ds :: G) H' → Q (.ref Dp) H') : tLc (iKeys td) g tt te own σ H Q := by
  have kl : kvs.length = ks.length := by
    have e := congrArg List.length hk
    rw [List.length_map, List.length_map] at e
    exact e
  refine ht _ ⟨d, od, rfl, .inl ⟨kvs, hq 0 F [] H h0 S, fun Dp hD => ?_⟩⟩
  refine lc_it (walk_keys (d := d) (o := od) (kvs := kvs)) (LcP K G I Dp) (lcp_start S h0 hD) (fun i H' _ p => ?_) (fun i v H1 H' hi p y => ?_) fun H' p => ?_
  · obtain ⟨F', vs, ds, hi, S'⟩ := p
    exact hq i F' ds _ hi S'.drop.less
  · obtain ⟨rfl, k, z, hz, rfl⟩ := y
    have hki : (kvs.map (·.1))[i]? = some k := by rw [List.getElem?_map, hz]; rfl
    rw [show kvs.map (·.1) = ks.map Sum.inl from hk, List.getElem?_map] at hki
    obtain ⟨n, hn, rfl⟩ := Option.map_eq_some_iff.mp hki
    exact lcp_turn hl (turn i n hn) p
  · obtain ⟨F', vs, ds, hi, S'⟩ := p
    rw [kl] at hi
    exact done Dp H' F' vs ds hD hi S'
/-! ### read and written -/
def rDGet (x y : V) (H : Hp) (Q : VK) : Prop := ∃ a v, x = .ref a ∧ DGet H a y (some v) ∧ Q v H
theorem g_dget {td ty : TE} (k : td σ H fun x H1 => ty σ H1 fun y H2 => rDGet x y H2 Q) : tDGet td ty σ H Q := k
theorem g_dgetI (h : Rd H d (.dK kvs)) (e : valV kvs (.inl n) = some v) (k : Q v H) : rDGet (.ref d) (.int n) H Q := ⟨d, v, rfl, .inl ⟨kvs, .inl n, h, rfl, e.symm⟩, k⟩
def rDNotIn (y x : V) (H : Hp) (Q : VK) : Prop := ∃ a o, x = .ref a ∧ DGet H a y o ∧ Q (.bl (!o.isSome)) H
theorem g_dnotin {td ty : TE} (k : ty σ H fun y H1 => td σ H1 fun x H2 => rDNotIn y x H2 Q) : tDNotIn ty td σ H Q := k
theorem g_dnotinI (h : Rd H d (.dK kvs)) (k : Q (.bl (!(valV kvs (.inl n)).isSome)) H) : rDNotIn (.int n) (.ref d) H Q := ⟨d, _, rfl, .inl ⟨kvs, .inl n, h, rfl, rfl⟩, k⟩
theorem g_setD {QH : Hp → Prop} (S : Sy K F G H) (h : F[i]? = some (d, .dK kvs)) (hl : kvs.length < 100000) (k : ∀ H', Sy K (F.set i (d, .dK (putK kvs (.inl n) v))) G H' → QH H') : rSetD (.ref d) (.int n) v H QH :=
  ⟨d, _, rfl, .inl ⟨kvs, .inl n, S.at i h, rfl, Nat.lt_of_lt_of_le hl (by decide), rfl⟩, k _ (S.put i h rfl)⟩
/-- {k: v}, the value made behind the dict -/
theorem g_disp2 {tk tv : TE} (k : ∀ p, H p = none → tk σ (upd H p (.dK [])) fun x H2 => tv σ H2 fun y H3 => H3 p = some (.dK []) ∧ ∃ n, x = .int n ∧ Q (.ref p) (upd H3 p (.dK [(.inl n, y)]))) (mono : ∀ H (Q Q' : VK), (∀ x H', Q x H' → Q' x H') → tk σ H Q → tk σ H Q')
    (mono2 : ∀ H (Q Q' : VK), (∀ x H', Q x H' → Q' x H') → tv σ H Q → tv σ H Q') : tDisp [(tk, tv)] σ H Q := by
  intro p hp
  refine mono _ _ _ (fun x H2 h2 => mono2 _ _ _ (fun y H3 h3 => ?_) h2) (k p hp)
  obtain ⟨e, n, rfl, q⟩ := h3
  exact ⟨e, [(.inl n, y)], rfl, Nat.le_of_ble_eq_true rfl, q⟩
end
/-! ### min of a list of alike data: the item itself -/
def rMinD (K : Frag) : List V → Hp → VK → Prop := fun vs H Q => ∃ (a : Addr) (xs : List V) (d : PyData) (ds : List PyData), vs = [.ref a] ∧ SqL K H a xs ∧ DpAll K H xs (d :: ds) ∧ AlikeAll (d :: ds) ∧ (∀ e ∈ d :: ds, e.canLay0 = true) ∧ PyData.depthAll (d :: ds) ≤ 60 ∧
  ∀ (i : Nat) (v : V), xs[i]? = some v → (d :: ds)[i]? = some (minD d ds) → Q v H
section
variable {X : Cx}
theorem c_minD (hc : X.calm = true) (hu : X.A.units + 64 < cLine) : CallR X (.builtin "min") (rMinD X.K) := by
  intro pins s σ H vs us Q I r h
  obtain ⟨a, xs, d, ds, rfl, hs, hd, ha, hcl, hdp, q⟩ := h
  rw [Vals.ref1 r]
  obtain ⟨its, rv, pl, _⟩ := I.list hs
  obtain ⟨as, hr⟩ := Dp.readsAll I (d :: ds) xs its hd rv
  refine min_list_data (I.ok.hd hc) pl.isList hr ha (by omega) fun i v h' tk bs hv hrd hk => ?_
  have I2 : Inv X pins σ H { s with heap := h', toks := tk } := I.kept hk
  have hv : its[i]? = some v := by
    rw [← hv]
    simp
  have hi : i < xs.length := by
    rw [rv.length]
    exact (List.getElem?_eq_some_iff.mp hv).1
  have hy : xs[i]? = some xs[i] := List.getElem?_eq_getElem hi
  generalize xs[i] = y at hy
  obtain ⟨u, hu2, ry⟩ := rv.get hy
  rw [hv] at hu2
  cases hu2
  obtain ⟨e, he, hye⟩ := dps_get hd hy
  obtain ⟨as2, r2⟩ := Dp.reads I2 e y v hye ry
  have eq := PySem.SeqAt.Reads.unique e (minD d ds) v as2 bs (hcl e (List.mem_of_getElem? he)) r2 hrd
  exact ⟨y, H, I2, ry, q i y hy (eq ▸ he)⟩
end
/-! ### a list turned round -/
def rRevL (K : Frag) (x : V) (H : Hp) (Q : VK) : Prop := ∃ a xs, x = .ref a ∧ SqL K H a xs ∧ ∀ p, H p = none → Q (.ref p) (upd H p (.lst xs.reverse))
theorem pe_revLK {X : Cx} {K : Frag} (h : X.K = K) {e : Expr} {te : TE} {k : Nat} {p1 p2 p3 pos : Pos} (he : PE X e te) : PE X (.Subscript e (.Slice none none (some (.UnaryOp .USub (.Constant (.int 1) k p1) p2)) p3) pos) (tRevL K te) := h ▸ pe_revL he
section
variable {K : Frag} {F : List (Addr × HO)} {G : List Ft} {σ : L2.St} {H : Hp} {Q : VK} {te : TE} {l : Addr} {xs : List V}
theorem g_revL (k : te σ H fun x H1 => rRevL K x H1 Q) : tRevL K te σ H Q := k
theorem g_revL1 (S : Sy K F G H) (h : SqL K H l xs) (k : ∀ p H', Sy K ((p, .lst xs.reverse) :: F) G H' → Q (.ref p) H') : rRevL K (.ref l) H Q := ⟨l, xs, rfl, h, fun p hp => k p _ (S.push hp)⟩
/-! truth of None and of whole numbers -/
theorem g_truN {QB : Bool → Hp → Prop} (k : QB false H) : rTruK K .non H QB := ⟨_, rfl, k⟩
theorem g_truI {n : Int} {QB : Bool → Hp → Prop} (k : QB (n != 0) H) : rTruK K (.int n) H QB := ⟨_, rfl, k⟩
end
end OB

set_option Elab.async false
set_option linter.all false
set_option maxRecDepth 100000
set_option maxHeartbeats 4000000
/-! OB, part n: a comprehension inside of one; items that are objects that may change. -/
namespace OB
open PySem PySem.Spec PyProof.Rows L2 PySem.W
theorem pi_seqK {X : Cx} {K : Frag} {tg l : Expr} {tl : TE} (h : X.K = K) (hl : PE X l tl) : PI X tg l (iSeq K tl) := h ▸ pi_seq hl
section
variable {K : Frag}
/-! ### a comprehension whose items are objects that may change -/
abbrev Turn3 (K : Frag) (G : List Ft) (I : Nat → List (Addr × HO) → List V → Prop) (σ : L2.St) (own : List Nat) (g : TG) (tt : TT) (te : TE) (i : Nat) (x : V) : Prop :=
  ∀ (Dp : Addr) (H : Hp) (F : List (Addr × HO)) (vs : List V) (QE : VK) (QR : Hp → Prop), I i F vs → Sy K ((Dp, .lst vs) :: F) G H →
    (∀ y F' H', I (i + 1) F' (vs ++ [y]) → Sy K ((Dp, .lst vs) :: F') G H' → QE y H') → (∀ F' H', I (i + 1) F' vs → Sy K ((Dp, .lst vs) :: F') G H' → QR H') →
    g x (wipe σ own) H fun σ2 H2 => wipe σ2 own = wipe σ own ∧ tt σ2 H2 fun b H3 => if b = true then te σ2 H3 QE else QR H3
def LcP3 (K : Frag) (G : List Ft) (I : Nat → List (Addr × HO) → List V → Prop) (Dp : Addr) (i : Nat) (H : Hp) : Prop :=
  ∃ (F : List (Addr × HO)) (vs : List V), I i F vs ∧ Sy K ((Dp, .lst vs) :: F) G H
theorem lcp_turn3 {G : List Ft} {σ : L2.St} {H : Hp} {I : Nat → List (Addr × HO) → List V → Prop} {own : List Nat} {g : TG} {tt : TT} {te : TE} {Dp : Addr} {i : Nat} {x : V} (hl : ∀ i F vs, I i F vs → vs.length < 100000) (t : Turn3 K G I σ own g tt te i x) (p : LcP3 K G I Dp i H) :
    g x (wipe σ own) H fun σ2 H2 => wipe σ2 own = wipe σ own ∧ tt σ2 H2 fun b H3 =>
      if b = true then te σ2 H3 fun y H4 => ∃ acc, H4 Dp = some (.lst acc) ∧ acc.length < sizeLine ∧ LcP3 K G I Dp (i + 1) (upd H4 Dp (.lst (acc ++ [y]))) else LcP3 K G I Dp (i + 1) H3 := by
  obtain ⟨F, vs, hi, S⟩ := p
  refine t Dp H F vs _ (LcP3 K G I Dp (i + 1)) hi S (fun y F' H' hi' S' => ?_) fun F' H' hi' S' => ⟨F', vs, hi', S'⟩
  have lt := hl _ _ _ hi'
  rw [List.length_append] at lt
  exact ⟨vs, S'.at 0 rfl, Nat.lt_of_lt_of_le (by omega) (show 100000 ≤ sizeLine by decide), F', vs ++ [y], hi', S'.put (o' := .lst (vs ++ [y])) 0 rfl rfl⟩
theorem g_lcV {F : List (Addr × HO)} {G : List Ft} {σ : L2.St} {H : Hp} {Q : VK} {own : List Nat} {g : TG} {tt : TT} {te tl : TE} {a : Addr} {xs : List V} (I : Nat → List (Addr × HO) → List V → Prop) (S : Sy K F G H) (ht : ∀ Q' : VK, Q' (.ref a) H → tl σ H Q') (h0 : I 0 F [])
    (hq : ∀ i F' vs H', I i F' vs → Sy K F' G H' → SqL K H' a xs) (hl : ∀ i F vs, I i F vs → vs.length < 100000)
    (turn : ∀ i x, xs[i]? = some x → Turn3 K G I σ own g tt te i x)
    (done : ∀ Dp H' F' vs, H Dp = none → I xs.length F' vs → Sy K ((Dp, .lst vs) :: F') G H' → Q (.ref Dp) H') : tLc (iSeq K tl) g tt te own σ H Q := by
  refine ht _ ⟨a, rfl, ?_⟩
  have q0 := hq 0 F [] H h0 S
  have sub : ∀ {Dp i H'}, LcP3 K G I Dp i H' → SqL K H' a xs := fun ⟨F', vs, hi, S'⟩ => hq _ F' vs _ hi S'.less
  refine .inl ⟨⟨xs, q0⟩, fun Dp hD => lc_list (K := K) (a := a) (xs := xs) (LcP3 K G I Dp) ⟨F, [], h0, S.push hD⟩ (fun i H' _ p => sub p) (fun i x H' hx p => lcp_turn3 hl (turn i x hx) p) fun H' p => ?_⟩
  obtain ⟨F', vs, hi, S'⟩ := p
  exact done Dp H' F' vs hD hi S'
theorem Sy.tail {G : List Ft} {H : Hp} : ∀ {A F : List (Addr × HO)}, Sy K (A ++ F) G H → Sy K F G H
  | [], _, S => S
  | _ :: A, _, S => Sy.tail (A := A) (Sy.less S)
end
end OB

set_option Elab.async false
set_option linter.all false
set_option maxRecDepth 100000
set_option maxHeartbeats 4000000
/-! OB, part o: a comprehension over enumerate; not in, of data in a list. -/
namespace OB
open PySem PySem.Spec PyProof.Rows L2 PySem.W
def YEn (xs : List V) : Nat → Hp → V → Hp → Prop := fun i H v H' => ∃ T x, v = .ref T ∧ H T = none ∧ H' = upd H T (.tup [.int (i : Nat), x]) ∧ xs[i]? = some x
theorem walk_enumK {K : Frag} {k : Bool} {a : Addr} {xs : List V} : Walk (IteK K k a) xs.length (fun H => SqK K H k a xs) (YEn xs) where
  goes := fun i H hi qa => ⟨xs, xs[i]'(by omega), qa, List.getElem?_eq_getElem _⟩
  stops := fun H qa => ⟨xs, qa, rfl⟩
  yields := fun i H x H' hi qa ⟨T, u, e1, hT, e2, f1⟩ => ⟨T, u, e1, hT, e2, f1 xs qa⟩
section
variable {K : Frag} {F : List (Addr × HO)} {G : List Ft} {σ : L2.St} {H : Hp} {Q : VK} {D : Ends} {g : TG} {tt : TT} {te : TE} {tb : TS} {own : List Nat}
def EnLc (K : Frag) (g : TG) (tt : TT) (te : TE) (own : List Nat) (σ : L2.St) (Q : VK) (vs : List V) (H1 : Hp) : Prop := ∃ k a xs, vs = [.ref a] ∧ SqK K H1 k a xs ∧ ∀ Da, H1 Da = none → ∃ W : Nat → Nat → Hp → Prop, (∃ m, W 0 m (upd H1 Da (.lst []))) ∧ ∀ i m H, W i m H →
  ((IteK K k a).stop i H ∧ Q (.ref Da) H) ∨ ((IteK K k a).go i H ∧ ∃ Nx : Hp → Prop, (∀ H', Nx H' → ∃ m', m' < m ∧ W (i + 1) m' H') ∧ ∀ x H', (IteK K k a).yld i H x H' → g x (wipe σ own) H' fun σ2 H2 => wipe σ2 own = wipe σ own ∧ tt σ2 H2 fun b H3 =>
    if b = true then te σ2 H3 fun y H4 => ∃ acc, H4 Da = some (.lst acc) ∧ acc.length < sizeLine ∧ Nx (upd H4 Da (.lst (acc ++ [y]))) else Nx H3)
theorem g_lcEn {ta : TA} (k : ta σ H fun vs H1 => EnLc K g tt te own σ Q vs H1) : tLc (iEnumK K ta) g tt te own σ H Q := k
theorem enlc_of {k : Bool} {a : Addr} {xs : List V} (I : Nat → List (Addr × HO) → List PyData → Prop) (S : Sy K F G H) (h0 : I 0 F [])
    (hq : ∀ i F' ds H', I i F' ds → Sy K F' G H' → SqK K H' k a xs) (hl : ∀ i F ds, I i F ds → ds.length < 100000)
    (turn : ∀ (i : Nat) x, xs[i]? = some x → TurnZ K G I σ own g tt te i (.int (i : Nat)) x)
    (done : ∀ Da H' F' vs ds, H Da = none → I xs.length F' ds → Sy K ((Da, .lst vs) :: F') (.dat vs ds :: G) H' → Q (.ref Da) H') : EnLc K g tt te own σ Q [.ref a] H := by
  have q1 := hq 0 F [] H h0 S
  refine ⟨k, a, xs, rfl, q1, fun Da hD => lc_it (walk_enumK (K := K) (xs := xs)) (LcP K G I Da) (lcp_start S h0 hD) (fun i H' _ p => ?_) (fun i v H1 H' hi p y => ?_) fun H' p => ?_⟩
  · obtain ⟨F', vs, ds, hi, S'⟩ := p
    exact hq i F' ds _ hi S'.drop.less
  · obtain ⟨F', vs, ds, hI, S'⟩ := p
    obtain ⟨T, x, rfl, hT, rfl, e1⟩ := y
    refine turn i x e1 Da T H1 F' vs ds _ (LcP K G I Da (i + 1)) hI hT S' (fun z d F2 H2 hi' S2 => ?_) fun F2 H2 hi' S2 => ⟨F2, vs, ds, hi', S2⟩
    have len := dps_length (S2.dps 1 rfl)
    have lt := hl _ _ _ hi'
    rw [List.length_append] at lt
    refine ⟨vs, S2.at 0 rfl, Nat.lt_of_lt_of_le (by omega) (show 100000 ≤ sizeLine by decide), F2, vs ++ [z], ds ++ [d], hi', ?_⟩
    have S3 : Sy K ((Da, .lst (vs ++ [z])) :: F2) (.dat [z] [d] :: .dat vs ds :: G) (upd H2 Da (.lst (vs ++ [z]))) := S2.put (o' := .lst (vs ++ [z])) 0 rfl rfl
    exact (S3.drop.drop).fact (dps_append (S3.dps 1 rfl) (S3.dps 0 rfl)) (by rw [immAll_append, S2.dpi 1 rfl, S2.dpi 0 rfl]; rfl)
  · obtain ⟨F', vs, ds, hI, S'⟩ := p
    exact done Da H' F' vs ds hD hI S'
/-! in, of data in a list -/
theorem g_notinD {x : V} {l : Addr} {vs : List V} {d : PyData} {ds : List PyData} (h1 : L2.Dp K H x d) (h2 : SqL K H l vs) (h3 : DpAll K H vs ds) (s1 : SeqAt.shaped d = true) (s2 : SeqAt.shaped (.list ds) = true) (k : Q (.bl (!ds.any fun z => PyData.eqv z d)) H) : rNotInD K x (.ref l) H Q := ⟨d, ds, h1, .lst h2 h3, s1, s2, k⟩
end
end OB

set_option Elab.async false
set_option linter.all false
set_option maxRecDepth 100000
set_option maxHeartbeats 4000000
/-! OB, part p: what repr writes of numbers differs where they differ; in, of data in a list. -/
namespace OB
open PySem PySem.Spec PyProof.Rows L2 PySem.W PySem.NumText
theorem sh_int {i : Int} : (PyData.int i).shown.cps.toList = (toString i).toList.map Char.toNat := by
  rw [PyData.shown_int]
  exact signs_ofString _
theorem nat_repr_inj {m n : Nat} (h : Nat.repr m = Nat.repr n) : m = n := by
  have h2 := congrArg String.toList h
  rw [Nat.toList_repr, Nat.toList_repr] at h2
  rw [← Nat.ofDigitChars_ten_toDigits (n := m), h2, Nat.ofDigitChars_ten_toDigits]
theorem no_dash {n : Nat} : '-' ∉ (Nat.repr n).toList := fun h => by
  rw [Nat.toList_repr] at h
  have := Nat.isDigit_of_mem_toDigits (by decide) (by decide) h
  exact absurd this (by decide)
theorem int_str_inj {i j : Int} (h : toString i = toString j) : i = j := by
  rw [Int.toString_eq_repr, Int.toString_eq_repr, Int.repr_eq_if, Int.repr_eq_if] at h
  split at h <;> split at h
  · have := nat_repr_inj h
    omega
  · exfalso
    exact no_dash (n := i.toNat) (by rw [h, String.toList_append]; exact List.mem_append_left _ (by decide))
  · exfalso
    exact no_dash (n := j.toNat) (by rw [← h, String.toList_append]; exact List.mem_append_left _ (by decide))
  · have h2 := congrArg String.toList h
    rw [String.toList_append, String.toList_append] at h2
    have h3 := List.append_cancel_left h2
    have := nat_repr_inj (String.toList_injective h3)
    omega
theorem int_sh_inj {i j : Int} (h : (PyData.int i).shown = (PyData.int j).shown) : i = j := by
  have h2 := congrArg (fun s : Str => s.cps.toList) h
  simp only [sh_int] at h2
  have h3 : (toString i).toList = (toString j).toList := by
    refine List.map_inj_right ?_ |>.mp h2
    intro a b e
    exact Char.toNat_inj.mp e
  exact int_str_inj (String.toList_injective h3)
theorem int_sh {i j : Int} : decide ((PyData.int i).shown = (PyData.int j).shown) = decide (i = j) := by
  by_cases h : i = j
  · subst h
    rw [decide_eq_true rfl, decide_eq_true rfl]
  · rw [decide_eq_false h, decide_eq_false fun z => h (int_sh_inj z)]
/-- the signs of a number's text -/
theorem int_sign {i : Int} {c : Nat} (h : c ∈ (PyData.int i).shown.cps.toList) : c ≤ 57 ∧ 45 ≤ c := by
  rw [sh_int] at h
  obtain ⟨ch, hc, rfl⟩ := List.mem_map.mp h
  have dig : ∀ n : Nat, ch ∈ (Nat.repr n).toList → ch.toNat ≤ 57 ∧ 45 ≤ ch.toNat := fun n hn => by
    rw [Nat.toList_repr] at hn
    have r := digit_range (Nat.isDigit_of_mem_toDigits (by decide) (by decide) hn)
    omega
  rw [Int.toString_eq_repr, Int.repr_eq_if] at hc
  split at hc
  · exact dig _ hc
  · rw [String.toList_append, List.mem_append] at hc
    rcases hc with hc | hc
    · have : ch = '-' := by simpa using hc
      subst this
      decide
    · exact dig _ hc
theorem bl_sh {b : Bool} {j : Int} : decide ((PyData.bool b).shown = (PyData.int j).shown) = false := decide_eq_false fun z => by
  cases b
  · have : 70 ∈ (PyData.int j).shown.cps.toList := by rw [← z]; decide +kernel
    have := int_sign this
    omega
  · have : 84 ∈ (PyData.int j).shown.cps.toList := by rw [← z]; decide +kernel
    have := int_sign this
    omega
theorem tup_sh {l : List PyData} {j : Int} : decide ((PyData.tuple l).shown = (PyData.int j).shown) = false := decide_eq_false fun z => by
  have : 40 ∈ (PyData.int j).shown.cps.toList := by
    rw [← z, PyData.shown_tuple]
    show 40 ∈ ((((("(" : String) : Str).cps ++ (Str.join ", " (PyData.shownAll l)).cps) ++ _ : Array Nat)).toList
    rw [Array.toList_append, Array.toList_append]
    exact List.mem_append_left _ (List.mem_append_left _ (by decide +kernel))
  have := int_sign this
  omega
section
variable {K : Frag} {H : Hp} {Q : VK}
theorem g_inD {x : V} {l : Addr} {vs : List V} {d : PyData} {ds : List PyData} (h1 : L2.Dp K H x d) (h2 : SqL K H l vs) (h3 : DpAll K H vs ds) (s1 : SeqAt.shaped d = true) (s2 : SeqAt.shaped (.list ds) = true) (k : Q (.bl (ds.any fun z => PyData.eqv z d)) H) : rInD K x (.ref l) H Q := ⟨d, ds, h1, .lst h2 h3, s1, s2, k⟩
end
end OB

set_option Elab.async false
set_option linter.all false
set_option maxRecDepth 100000
set_option maxHeartbeats 4000000
/-! OB, part q: own classes of errors over ValueError, the first of them with an __init__ that says super().__init__(value) and keeps value. -/
namespace OB
open PySem PySem.Spec PyProof.Rows L2 PySem.W
/-- what the written part says of a class of errors, D being the one with the __init__ -/
structure ErC (K : Frag) (D C : Addr) : Prop where
  ox : OexC K C
  sub : mroIn K C (.ref D) = some true
  sup : ks_superIn K C D "__init__" = some (some (.builtin "ValueError.__init__"))
  val : subIn K (.ref C) (.type "ValueError") = some true
  fld : findIn K (.ref C) "value" = some none
abbrev eiBody (p0 p1 p2 p3 p4 p5 q1 q2 q3 q4 : Pos) : List Stmt :=
  [.Expr (.Call (.Attribute (.Call (.Name "super" p0) [] [] p1) "__init__" p2) [.Name "value" p3] [] p4) p5, .Assign [.Attribute (.Name "self" q1) "value" q2] (.Name "value" q3) q4]
abbrev eiNames : List (Str × NameKind) := [("self", .local), ("value", .local), ("super", .globalImplicit), ("__class__", .free)]
def sp_einit (K : Frag) (D : Addr) : Sp := fun vs H Q E => vs.length = 2 ∧ ∃ (a C : Addr) (y : V), vs = [.ref a, y] ∧ ErC K D C ∧ H a = some (exo a C none) ∧ ∀ dx, H dx = none → dx ≠ a → Q .non (upd (upd H dx (exd dx [("value", y)])) a (exo a C (some dx)))
theorem ei_eval {env : Env} {p0 p1 p2 p3 p4 : Pos} (hp : (p2.endLine == p4.line) = true) :
    eval (.Call (.Attribute (.Call (.Name "super" p0) [] [] p1) "__init__" p2) [.Name "value" p3] [] p4) env = (do
      let ov ← attributeBase (.Call (.Name "super" p0) [] [] p1) "__init__" env (eval (.Call (.Name "super" p0) [] [] p1) env)
      standAt p2.atName
      let (f, first) ← holding [ov] (getMethod ov "__init__" (do return (← importBound (.Call (.Name "super" p0) [] [] p1) env).getD true))
      callWith p4 f first (backTo p4 (starEach [.Name "value" p3] env)) []) := by
  refine (show eval _ env = (attributeBase (.Call (.Name "super" p0) [] [] p1) "__init__" env (eval (.Call (.Name "super" p0) [] [] p1) env) >>= fun ov => standAt p2.atName >>= fun _ =>
    methodCall (.Call (.Name "super" p0) [] [] p1) "__init__" p2 p4 env ov 1 (backTo p4 (starEach [.Name "value" p3] env)) []) from rfl).trans ?_
  congr 1
  funext ov
  congr 1
  funext _
  unfold methodCall
  rw [show methodCallForm 1 (backTo p4 (starEach [.Name "value" p3] env)) [] = true from rfl]
  unfold methodCallPos calleeOf
  rw [hp]
  rfl
theorem ei_inter {q : Str} {sc : Scope} {L f : Addr} {cd : Value} {cc : Addr} (sk : sc.kind = .function) : interactive (ksEnv q sc L f cd cc) = false := by
  unfold interactive
  show (sc.kind == .module && _) = false
  rw [sk]
  rfl
section
variable {P : Program} {w : World} {K : Frag} {mg : Str → Option Value} {base : Heap} {CX : CXT}
/-- ValueError.__init__ bound to the object at a, called -/
theorem mw_init {A : Around} {E : Value → Shared → Prop} {h : Heap} {g : Array GenState} {d : Drawn} {t : Nat} {os : OsState} {u a C t1 : Addr} {us : List Value} {Q : Value → Shared → Prop} (T : OexC K C) (KH : K.In h) (hu : h.get? u = some (kxs_mw "ValueError.__init__" a))
    (hx : h.get? a = some ({ cls := .ref C, dict := none, data := .fields #[.ref t1, .none, .none, .none, .bool false, .none] } : Obj)) (hl : us.length ≤ sizeLine)
    (k : ∀ h' t2, (∀ b o, b ≠ a → h.get? b = some o → h'.get? b = some o) → h'.get? a = some ({ cls := .ref C, dict := none, data := .fields #[.ref t2, .none, .none, .none, .bool false, .none] } : Obj) → Q .none ⟨h', g, d, t, os⟩) :
    wpAny (model P w) A (call (.ref u) us) Q E ⟨h, g, d, t, os⟩ := by
  obtain ⟨nm, q, N, bs, bm, sn, sub, ab, col, dd, k0, k1, k2, k3, k5, hC, hbm⟩ := T.cls
  refine wpAny_call (codeAny_of_tree (show wpAny _ A.in1 (callAny (.ref u) ⟨us, []⟩) _ _ _ from ?_))
  simp only [callAny]
  refine wpAny_bind (wpAny_load hu ?_)
  have e1 : (Value.type "method-wrapper" == Value.type "method" || Value.type "method-wrapper" == Value.type "builtin_function_or_method" || Value.type "method-wrapper" == Value.type "method-wrapper") = true := by decide
  simp only [kxs_mw, e1, if_true]
  refine KFB.if_so (by decide) (wpAny_bind (check_bound_init PySem.F.excBase_ValueError.toExcCallFacts (KH _ _ hC) hx rfl ?_))
  refine wpAny_bind (wpAny_pure (wpAny_pure ⟨plainId_quiet PySem.F.excBase_ValueError.init.plain _, ?_⟩))
  refine codeAny_builtin PySem.F.excBase_ValueError.initEntry ?_
  exact exc_init_tree (cls := .ref C) (t0 := t1) (dv := none) (c2 := .none) (c3 := .none) (b4 := .bool false) hx hl fun h' kk e' _ => k h' _ kk e'
/-- the end: the object at a has its dict at dx -/
theorem ei_end {A : Around} {outer : List Env} {s : Shared} {H : Hp} {Q : VK} {a C dx t3 : Addr} {y : V} {u : Value} {h4 : Heap} {t4 : Nat} (e0 : Env0 P w K mg base A outer s H) (ha : H a = some (exo a C none)) (hdx : H dx = none) (dne : dx ≠ a) (sz : s.heap.objs.size ≤ dx)
    (kAll : ∀ b o, b ≠ a → s.heap.get? b = some o → h4.get? b = some o) (x4 : h4.get? a = some ({ cls := .ref C, dict := some dx, data := .fields #[.ref t3, .none, .none, .none, .bool false, .none] } : Obj))
    (hn4 : h4.Ns1 dx (fun z => if z = "value" then some u else none)) (ry : RelV y u) (kq : Q .non (upd (upd H dx (exd dx [("value", y)])) a (exo a C (some dx)))) :
    CE outer P w H s Q .none ⟨h4, s.gens, s.drawn, t4, s.os⟩ := by
  have na : ∀ {b : Addr} {o : HO}, H b = some o → o ≠ exo a C none → b ≠ a := fun {b o} e ne z => by
    subst z
    rw [ha] at e
    exact ne (Option.some.inj e).symm
  have nn : ∀ {b : Addr}, H b = none → b ≠ a := fun {b} e z => by
    subst z
    rw [ha] at e
    cases e
  have nx : ∀ {b : Addr} {o : HO}, H b = some o → b ≠ dx := fun {b o} e z => by
    subst z
    rw [hdx] at e
    cases e
  have lt : ∀ {b : Addr} {o : Obj}, s.heap.get? b = some o → b ≠ dx := fun {b o} e => Nat.ne_of_lt (Nat.lt_of_lt_of_le (Heap.lt_size e) sz)
  have at' : ∀ {b : Addr}, b ≠ a → b ≠ dx → upd (upd H dx (exd dx [("value", y)])) a (exo a C (some dx)) b = H b := fun {b} n1 n2 => (upd_ne n1).trans (upd_ne n2)
  refine ⟨.non, _, rfl, e0.bare, ?_, fun b o e => ?_, rfl, kq⟩
  · exact {
      keep := fun b o e n _ _ => kAll b o (nn n) e
      slot := fun b o e n _ _ => ⟨o.slots, kAll b o (nn n) e⟩
      free := fun b o e n _ => (at' (nn n) (lt e)).trans n
      there := fun b o e _ => if z : b = a then ⟨_, z ▸ x4⟩ else ⟨o, kAll b o z e⟩
      tups := fun b xs e => (at' (na e fun z => exo_tup z.symm) (nx e)).trans e
      frzs := fun b o v e => (at' (na e fun z => exo_frz z.symm) (nx e)).trans e
      tbls := fun b ps e => ⟨#[], by rw [at' (na e fun z => exo_tbl z.symm) (nx e), e, Array.append_empty]⟩ }
  · by_cases c1 : b = a
    · subst c1
      rw [upd_same] at e
      cases e
      exact exo_ok x4
    · by_cases c2 : b = dx
      · subst c2
        rw [upd_ne c1, upd_same] at e
        cases e
        exact exd_ok hn4 (relO_put (fs := []) ry fun _ => True.intro)
      · rw [at' c1 c2] at e
        refine (e0.hok b o e).stay (fun c v hc z => kAll c v ?_ z) (fun c hc => (at' (na hc fun z => exo_own z.symm) (nx hc)).trans hc) fun c xs hc => (at' (na hc fun z => exo_tup z.symm) (nx hc)).trans hc
        rcases hc with rfl | hc
        · exact c1
        · exact na hc fun z => exo_own z.symm
theorem einit_run {k : Nat} {fI D cda cc : Addr} {q : Str} {pa : Arguments} {ar : Arg} {sc : Scope} {dV kV doc pm ct oc ccl cl : Value} {an od cdd cld : Option Addr} {osl ccs csl : Array (Option Value)} {vs2 : Array Value} {file : Str} {tf : Tok} {cdD : ClassData}
    {p0 p1 p2 p3 p4 p5 q1 q2 q3 q4 : Pos} (hp : (p2.endLine == p4.line) = true)
    (lk : K.lookup fI = some ⟨oc, od, .func (ksFn "__init__" q pa (eiBody p0 p1 p2 p3 p4 p5 q1 q2 q3 q4) sc dV kV doc pm an (.ref cda) ct cc), osl⟩) (hcd : codeIn K (.ref cda) q = true)
    (hpa : (pa.posonlyargs ++ pa.args).head? = some ar) (har : ar.arg = "self") (hcode : K.lookup cda = some ⟨ccl, cdd, .fields vs2, ccs⟩) (hvs : vs2[2]? = some (.str file tf)) (hfile : ((P.main.file : Str) == file) = true)
    (hcell : K.lookup cc = some ⟨cl, cld, .cell (some (.ref D)), csl⟩) (hD : clsIn K D = some cdD) (hop : nsIn K cStatics "thirdparty.any" = some none) (hms : mg "super" = none) (htop : (P.main.scope.names.lookup ("super" : Str)).isSome = false)
    (sk : sc.kind = .function) (sco : sc.isCoroutine = false) (sg : sc.isGenerator = false) (sn : ∀ x ∈ sc.names, x.2 ≠ .cell) (s1 : sc.names.lookup ("self" : Str) = some .local) (s2 : sc.names.lookup ("value" : Str) = some .local)
    (s3 : sc.names.lookup ("super" : Str) = some .globalImplicit) (s4 : sc.names.lookup ("__class__" : Str) = some .free) :
    FnOk P w K mg base CX k fI (ksFn "__init__" q pa (eiBody p0 p1 p2 p3 p4 p5 q1 q2 q3 q4) sc dV kV doc pm an (.ref cda) ct cc) ["self", "value"] (sp_einit K D) where
  len := fun vs H Q E h => h.1
  run := by
    intro A outer s H args us vs Q E hr e0 hb hv hs
    obtain ⟨_, a, C, y, rfl, ec, ha, kq⟩ := hs
    obtain ⟨u0, u, rfl, r0, ry⟩ := vals2 hv
    obtain rfl : u0 = Value.ref a := r0
    have bk : ∀ b o, base.get? b = some o → s.heap.get? b = some o := fun b o e => (e0.bs b o e).1
    have KX : K.In s.heap := e0.mod.kin.keeps bk
    have lim : s.heap.NoLimit := e0.mod.nolimit.keeps bk
    obtain ⟨t1, hx⟩ := exo_at e0.hok ha
    refine ks_codeAny_call_defAt hr.depth (KX _ _ lk) rfl lim (codeRec_of KX hcd) rfl hb sn (fun z hz => ?_) (fun h₀ hns kp => ?_) sco sg sk
    · simp only [List.zip_cons_cons, List.zip_nil_right, List.mem_cons, List.not_mem_nil, or_false] at hz
      rcases hz with rfl | rfl
      · exact s1
      · exact s2
    have K0 : K.In h₀ := KX.keeps kp
    obtain ⟨mb, hbn, hbv⟩ := e0.mod.blt
    obtain ⟨oD, hD1, hD2⟩ : ∃ oD, K.lookup D = some oD ∧ oD.data = .cls cdD := by
      unfold clsIn at hD
      split at hD
      · rename_i c d cd' sl ho
        cases hD
        exact ⟨_, ho, rfl⟩
      · cases hD
    have n1 : (List.lookup ("self" : Str) ((["self", "value"] : List Str).zip [Value.ref a, u]).reverse) = some (.ref a) := rfl
    have n2 : (List.lookup ("value" : Str) ((["self", "value"] : List Str).zip [Value.ref a, u]).reverse) = some u := rfl
    show PySem.wpAt _ _ (.func _ (ksEnv q sc s.heap.objs.size fI (.ref cda) cc)) (execs _ (ksEnv q sc s.heap.objs.size fI (.ref cda) cc)) _ _ _
    refine ks_wpAt_execs_cons (ks_wpAt_Expr_any (ks_wpAt_MethodCall ?_ (ei_eval hp)) (ei_inter sk))
    refine ks_wpAt_super_base (env := ksEnv q sc s.heap.objs.size fI (.ref cda) cc) s3 s4 rfl rfl (K0 _ _ lk) rfl hpa rfl (K0 _ _ hcode) rfl hvs hfile htop ?_
    refine ks_loadName_global sk s3 (Calls.loadGlobal_builtin (env := ksEnv q sc s.heap.objs.size fI (.ref cda) cc) (e0.mod.glob.keeps fun b o e => kp b o (bk b o e)) hms (hbn.keeps fun b o e => kp b o (bk b o e)) ((hbv _ (by decide)).trans Boot.«super») ⟨rfl, ?_⟩)
    refine wpAny_loadName_free sk s4 rfl ⟨_, K0 _ _ hcell, rfl⟩ ?_
    rw [har]
    refine wpAny_loadName_local sk s1 hns n1 ?_
    refine ks_wpAny_isType_cls (K0 _ _ hD1) hD2 ⟨rfl, ?_⟩
    refine ks_wpAny_call_super (K0 _ _ hD1) hD2 (kp _ _ hx) rfl (fun c e => by cases e) (looks_mroIn K0 ec.sub) fun h1 eso k1 => ?_
    have K1 : K.In h1 := K0.keeps k1
    have x1 := k1 _ _ (kp _ _ hx)
    obtain ⟨cd, hcl⟩ : ∃ cd, clsIn K C = some cd := by
      cases z : clsIn K C with
      | some cd => exact ⟨cd, rfl⟩
      | none =>
        have q := ec.sup
        unfold ks_superIn at q
        rw [z] at q
        cases q
    have sup := ec.sup
    unfold ks_superIn at sup
    rw [hcl, Option.bind_some] at sup
    have I1 : InstAt h1 a _ C none := ⟨x1, rfl, rfl, trivial⟩
    refine kxs_getMethod kxs_ValueError eso (looks_opaque K1 hop) (l₀ := cd.mro) (fun A Q E s k q => wpAny_bind ((looks_clsIn K1 hcl) A _ E s k (wpAny_pure q))) rfl K1 sup (I1.type.andThen (looks_subIn K1 ec.val)) (ks_ne K1 I1 hcl) rfl ?_
    have k2 : ∀ b o, h1.get? b = some o → (h1.push (kxs_mw "ValueError.__init__" a)).get? b = some o := fun b o e => Heap.get?_push_of_some _ e
    have hmw : (h1.push (kxs_mw "ValueError.__init__" a)).get? h1.objs.size = some (kxs_mw "ValueError.__init__" a) := Heap.get?_push_at rfl rfl
    refine kxs_callWith (i := "ValueError.__init__") (x := a) rfl (Calls.evalArgs_plain ?_)
    refine Calls.spliced_cons (wpAny_Name (wpAny_loadName_local sk s2 (hns.at fun o e => k2 _ _ (k1 _ _ e)) n2 ?_))
    refine Calls.spliced_nil ⟨hmw, ?_⟩
    have K2 : K.In (h1.push (kxs_mw "ValueError.__init__" a)) := K1.keeps k2
    have x2 := k2 _ _ x1
    have hns2 : (h1.push (kxs_mw "ValueError.__init__" a)).Ns s.heap.objs.size (fun x => List.lookup x ((["self", "value"] : List Str).zip [Value.ref a, u]).reverse) := hns.at fun o e => k2 _ _ (k1 _ _ e)
    generalize h1.push (kxs_mw "ValueError.__init__" a) = h2 at *
    refine mw_init ec.ox K2 hmw x2 (us := [u]) (Nat.le_of_ble_eq_true rfl) fun h3 t3 k3 x3 => ?_
    have c0 : base.get? a = none := by
      cases z : base.get? a with
      | none => rfl
      | some o =>
        have := (e0.bs a o z).2
        rw [ha] at this
        cases this
    have K3 : K.In h3 := fun b o e => k3 b o (fun z => by
      have := e0.mod.kin b o e
      rw [z, c0] at this
      cases this) (K2 b o e)
    have fr : s.heap.objs.size ≠ a := Nat.ne_of_gt (Heap.lt_size hx)
    have hns3 : h3.Ns s.heap.objs.size (fun x => List.lookup x ((["self", "value"] : List Str).zip [Value.ref a, u]).reverse) := hns2.at fun o e => k3 _ _ fr e
    obtain ⟨nm, qn, N, bs, bm, nsl, sub, ab, col, dd, z0, z1, z2, z3, z5, hC, hbm⟩ := ec.ox.cls
    have hcl2 : clsIn K C = some { name := nm, bases := bs, mro := .ref C :: bm, ns := N, qualname := qn, hasDict := true, slotNames := nsl, subclasses := sub, abstract := ab, collection := col, hasDel := false } := by
      unfold clsIn
      rw [hC] <;> rfl
    refine ks_wpAt_execs_cons (ks_wpAt_Assign_Attr (wpAt_of_wpAny (wpAny_Name (wpAny_loadName_local sk s2 hns3 n2 (wpAny_Name (wpAny_loadName_local sk s1 hns3 n1 ?_))))))
    refine set_plain K3 (ox := { cls := .ref C, dict := none, data := .fields #[.ref t3, .none, .none, .none, .bool false, .none] }) (od := none) ⟨x3, rfl, rfl, trivial⟩ ec.ox.sa ?_
    refine HandSPX.exc_osa K3 x3 hcl2 (show HandSPX.refsVE (.ref C :: bm) = true from hbm) rfl ec.fld fun h4 t4 dx k4 dn dne x4 hn4 => ?_
    refine wpAt_of_wpAny (wpAny_pure (show CE outer P w H s Q .none _ from ?_))
    have sz : s.heap.objs.size ≤ dx := by
      obtain ⟨oL, _, _, hL, _⟩ := hns3
      exact Nat.le_trans (Nat.le_of_lt (Heap.lt_size hL)) dn
    have hdx : H dx = none := e0.hok.fresh sz
    have kAll : ∀ b o, b ≠ a → s.heap.get? b = some o → h4.get? b = some o := fun b o nb e => k4 b o nb (k3 b o nb (k2 b o (k1 b o (kp b o e))))
    exact ei_end e0 ha hdx dne sz kAll x4 hn4 ry (kq dx hdx dne)
end
end OB

set_option Elab.async false
set_option linter.all false
set_option maxRecDepth 100000
set_option maxHeartbeats 4000000
/-! OB, part r: errors as values: made, their field read, isinstance. -/
namespace OB
open PySem PySem.Spec PyProof.Rows L2 PySem.W
/-- C(e), C an own class of errors: the object stays with us -/
def tMkE (C : Addr) (sp : Sp) (ta : TA) : TE := fun σ H Q => ta σ H fun vs H1 => vs.length = 1 ∧ ∀ a, H1 a = none → sp (.ref a :: vs) (upd H1 a (exo a C none)) (fun v H2 => v = .non ∧ Q (.ref a) H2) fun _ _ _ => False
/-- x.f of an error -/
def rEf (K : Frag) (f : Str) (x : V) (H : Hp) (Q : VK) : Prop := ∃ (a C dx : Addr) (fs : List (Str × V)) (v : V), x = .ref a ∧ XfC K C ∧ findIn K (.ref C) f = some none ∧ H a = some (exo a C (some dx)) ∧ H dx = some (exd dx fs) ∧ fs.lookup f = some v ∧ Q v H
def tEf (K : Frag) (f : Str) (te : TE) : TE := fun σ H Q => te σ H fun x H1 => rEf K f x H1 Q
/-- isinstance(e, c), e an error -/
def rIsX (K : Frag) : List V → Hp → VK → Prop := fun xs H Q => ∃ (a C dx : Addr) (fs : List (Str × V)) (c : V) (cv : Value) (b : Bool), xs = [.ref a, c] ∧ ClsV c cv ∧ ExcC K C ∧ H a = some (exo a C (some dx)) ∧ H dx = some (exd dx fs) ∧ fs.lookup ("__class__" : Str) = none ∧ kitOne K (.ref C) cv = some b ∧ Q (.bl b) H
section
variable {X : Cx} {e : Expr} {es : List Expr} {te : TE} {ta : TA} {p p' pos : Pos}
theorem pe_mkE {CX : CXT} {x : Str} {C fI : Addr} {k : Nat} {fd : FuncData} {sp : Sp} (T : OexC X.K C) (iC : findIn X.K (.ref C) "__init__" = some (some (.ref fI))) (tI : typeIn X.K (.ref fI) = some (.type "function"))
    (F1 : FnOk X.prog X.w X.K X.mg X.base CX k fI fd ["self", "value"] sp) (hr : Room (k + 1) X.A) (hb : L2.Binds X.K fd ["self", "value"] []) (hx : Passes CX X fun _ _ _ => False) (hg : Gl X x) (hm : X.mg x = some (.ref C)) (ha : PA X (e :: es) ta)
    (hdb : (x == ("__debug__" : Str)) = false := by decide) (he : starEach (e :: es) X.env = (false, eval e X.env) :: starEach es X.env := by rfl) (hpl : (backTo pos (starEach es X.env)).any (·.1) = false := by rfl) : PE X (.Call (.Name x p) (e :: es) [] pos) (tMkE C sp ta) := by
  refine ⟨fun pins s σ H Q I h => ?_⟩
  obtain ⟨nm, q, N, bs, bm, sn, sub, ab, col, dd, k0, k1, k2, k3, k5, hC, hbm⟩ := T.cls
  refine wpAny_Call_Name_kw (ld_glob I hg hm ?_ hdb)
  refine callWith_K (h₀ := X.base) I.ok.mod.kin T.kC (thn (ha.run pos pins s σ H _ I h) fun us s1 ⟨vs, H1, I1, r1, hz, q1⟩ => ⟨I1.kIn, show wpAny _ _ (call (.ref C) us) _ _ _ from ?_⟩) he hpl
  obtain ⟨hp, g, dr, tk, os⟩ := s1
  have hn : H1 (hp.objs.size + 1) = none := I1.hok.fresh (Nat.le_succ _)
  have hq := q1 (hp.objs.size + 1) hn
  have hget : ((hp.push (kdv_tup us)).push (HandSPX.excO C hp.objs.size)).get? (hp.objs.size + 1) = some (HandSPX.excO C hp.objs.size) := by heap_get
  have J : Inv X pins σ (upd H1 (hp.objs.size + 1) (exo (hp.objs.size + 1) C none)) ⟨(hp.push (kdv_tup us)).push (HandSPX.excO C hp.objs.size), g, dr, tk, os⟩ :=
    I1.laid (t' := tk) (fun b o z => Heap.get?_push_of_some _ (Heap.get?_push_of_some _ z)) (Nat.le_succ _) (exo_ok hget)
  have r2 : Vals (V.ref (hp.objs.size + 1) :: vs) (Value.ref (hp.objs.size + 1) :: us) := .cons rfl r1
  have ul : us.length = 1 := (Paired.length r1).symm.trans hz
  refine wpAny_call (HandSPX.call_own PySem.F.excBase_ValueError (fun Y => HandSPX.refsVE_contains Y bm hbm) (I1.kIn _ _ hC) (looks_findIn I1.kIn iC) (fun self => bind_fn I1.kIn self tI) (by rw [ul]; decide)
    (codeAny_mono (F1.run _ X.stack _ _ ⟨Value.ref (hp.objs.size + 1) :: us, []⟩ (Value.ref (hp.objs.size + 1) :: us) _ _ (fun _ _ _ => False) (hr.make C us []) (J.env0.make C us [])
      (by have := hb _ (Value.ref (hp.objs.size + 1) :: us) J.kIn (by rw [List.append_nil, List.length_cons, ul]; rfl); rw [List.append_nil] at this; exact this) r2 hq) fun r s' hq' => ?_))
  cases r with
  | error er => exact hx pins σ _ _ er s' J hq'
  | ok fl =>
    cases fl with
    | ret u =>
      obtain ⟨v, H', I', rv, rfl, q2⟩ := J.after hq'
      exact ⟨rv, .ref (hp.objs.size + 1), H', I', rfl, q2⟩
    | next => exact False.elim hq'
    | brk => exact False.elim hq'
    | cont => exact False.elim hq'
theorem pe_ef {n : Str} (he : PE X e te) (hb : attributeBase e n X.env (eval e X.env) = eval e X.env := by rfl) : PE X (.Attribute e n pos) (tEf X.K n te) := by
  refine ⟨fun pins s σ H Q I h => attr_of hb (thn (he.run pins s σ H _ I h) fun u s1 hh => ?_)⟩
  obtain ⟨x, H1, I1, rx, a, C, dx, fs, v, ex, T, hno, ea, ed, l, q⟩ := hh
  subst ex
  obtain rfl : u = Value.ref a := rx
  obtain ⟨t1, ho⟩ := exo_at I1.hok ea
  obtain ⟨mA, hns, rel⟩ := exd_at I1.hok ed
  obtain ⟨od, hd, hl⟩ := lookIn_ns hns
  obtain ⟨u, hu, ru⟩ := RelO.some_of (v := v) (o := mA n) (by rw [← l]; exact rel n)
  exact HandSPX.exc_get I1.kIn (⟨ho, rfl, rfl, hd⟩ : InstAt s1.heap a _ C (some od)) T.ga T.gg T.exC (findObj_own T.hdC hno rfl (by rw [hl, hu])) (handed_of ru) ⟨v, H1, I1.tok _, ru, q⟩
theorem call_isX : CallR X (.builtin "isinstance") (rIsX X.K) := by
  intro pins s σ H xs us Q I r h
  obtain ⟨a, C, dx, fs, c, cv, b, rfl, hc, T, ea, ed, hl, e, q⟩ := h
  obtain ⟨u1, u2, rfl, r1, r2⟩ := vals2 r
  obtain rfl : u2 = cv := hc.eq r2
  obtain rfl : u1 = Value.ref a := r1
  obtain ⟨t1, ho⟩ := exo_at I.hok ea
  obtain ⟨mA, hns, rel⟩ := exd_at I.hok ed
  obtain ⟨od, hd, hl2⟩ := lookIn_ns hns
  obtain ⟨cdD, hcD, _⟩ := any_some T.hd
  have J : InstAt s.heap a _ C (some od) := ⟨ho, rfl, rfl, hd⟩
  exact kia_one (kitx_exc (by rw [hcD]; rfl) T.hg T.hk T.hs T.ha T.hn T.ht T.hm) I.kIn J e (fun z => nomatch z) fun tk => ⟨.bl b, H, I.tok tk, rfl, q⟩
end
end OB

set_option Elab.async false
set_option linter.all false
set_option maxRecDepth 100000
set_option maxHeartbeats 4000000
/-! OB, part s: what a class of errors must have, checked at once. -/
namespace OB
open PySem PySem.Spec PyProof.Rows L2 PySem.W
/-- a class of errors: D the first one of them, whose __init__ stands at I -/
structure ErrC (K : Frag) (D I C : Addr) : Prop where
  er : ErC K D C
  ini : findIn K (.ref C) "__init__" = some (some (.ref I))
  xf : XfC K C
  ex : ExcC K C
  cls : ((clsIn K C).isSome && typeIn K (.ref C) == some (.type "type")) = true
  kitD : kitOne K (.ref C) (.ref D) = some true
  kitV : kitOne K (.ref C) (.type "ValueError") = some true
  kitN : ∀ C', C' ≠ C → C' ≠ D → ((clsIn K C').isSome && typeIn K (.ref C') == some (.type "type")) = true → kitOne K (.ref C) (.ref C') = some false
def shB (K : Frag) (D C : Addr) : Bool := match K.lookup C with
  | some ⟨.type "type", _, .cls cd, sl⟩ => (match cd.mro, sl.toList with
    | .ref C' :: bm, [_, _, _, _, some (.builtin n), _] => C' == C && (n == "ValueError.__new__" && (!cd.hasDel && (cd.hasDict && bm == (if C == D then HandSPX.veTail else .ref D :: HandSPX.veTail))))
    | _, _ => false)
  | _ => false
def erB (K : Frag) (D I C : Addr) : Bool := shB K D C && (decide (findIn K (.ref C) "__setattr__" = some (some (.builtin "object.__setattr__"))) && (decide (findIn K (.ref C) "__init__" = some (some (.ref I))) &&
  (decide (findIn K (.ref C) "__getattribute__" = some (some (.builtin "BaseException.__getattribute__"))) && (decide (findIn K (.ref C) "__getattr__" = some none) &&
  (decide (findIn K (.ref C) "__class__" = some (some (.builtin "object.__class__"))) && (decide (findIn K (.ref C) "value" = some none) && keepIn K (.ref C)))))))
theorem ve_init (K : Frag) : alongIn K "__init__" HandSPX.veTail = some (some (.builtin "ValueError.__init__")) := by kernel_rfl
theorem erB_ok {K : Frag} {D I C : Addr} (hn : specialIn K (.builtin "object.__class__") "__get__" = some (some (.builtin "getset_descriptor.__get__"))) (ht : takesIn K (.builtin "object.__class__") = some true) (hD : ((clsIn K D).isSome && typeIn K (.ref D) == some (.type "type")) = true) (h : erB K D I C = true) : ErrC K D I C := by
  unfold erB at h
  simp only [Bool.and_eq_true, decide_eq_true_eq] at h
  obtain ⟨h1, hsa, hini, hga, hgt, hca, hva, hk⟩ := h
  unfold shB at h1
  split at h1
  · rename_i dd cd sl hC
    split at h1
    · rename_i C' bm k0 k1 k2 k3 n k5 hm hs
      simp only [Bool.and_eq_true, beq_iff_eq, Bool.not_eq_true'] at h1
      obtain ⟨rfl, rfl, hdel, hdc, hbm⟩ := h1
      obtain ⟨nm, bs, mro, ns, qn, hd, sn, sb, ab, col, del⟩ := cd
      dsimp only at hm hdel hdc
      subst hm hdel hdc
      have hsl : sl = #[k0, k1, k2, k3, some (.builtin "ValueError.__new__"), k5] := by
        obtain ⟨l⟩ := sl
        simp only at hs
        rw [hs]
      subst hsl
      have hcl : clsIn K C' = some { name := nm, bases := bs, mro := .ref C' :: bm, ns := ns, qualname := qn, hasDict := true, slotNames := sn, subclasses := sb, abstract := ab, collection := col, hasDel := false } := by
        unfold clsIn
        rw [hC] <;> rfl
      have mi : ∀ b, mroIn K C' b = some ((Value.ref C' :: bm).contains b) := fun b => by
        unfold mroIn
        rw [hcl]
        rfl
      have ty : typeIn K (.ref C') = some (.type "type") := by
        show (K.lookup C').map (·.cls) = _
        rw [hC]
        rfl
      have hvt : HandSPX.refsVE bm = true := by
        rw [hbm]
        split <;> rfl
      have con : ∀ T, HandSPX.veTail.contains (Value.type T) = true → (Value.ref C' :: bm).contains (Value.type T) = true := fun T e => by
        rw [List.contains_cons, hbm]
        split
        · rw [e, Bool.or_true]
        · rw [List.contains_cons, e, Bool.or_true, Bool.or_true]
      have cD : (Value.ref C' :: bm).contains (Value.ref D) = true := by
        rw [List.contains_cons, hbm]
        split
        · rename_i e
          have e : C' = D := by simpa using e
          subst e
          rw [beq_self_eq_true, Bool.true_or]
        · rw [List.contains_cons, beq_self_eq_true, Bool.true_or, Bool.or_true]
      have hcls : ((clsIn K C').isSome && typeIn K (.ref C') == some (.type "type")) = true := by
        rw [hcl, ty]
        rfl
      have hsup : ks_superIn K C' D "__init__" = some (some (.builtin "ValueError.__init__")) := by
        unfold ks_superIn
        rw [hcl, Option.bind_some, ← ve_init K, hbm]
        congr 1
        split
        · rename_i e
          have e : C' = D := by simpa using e
          subst e
          simp [List.dropWhile_cons]
        · rename_i e
          have e : C' ≠ D := by simpa using e
          simp [List.dropWhile_cons, e]
      have ox : OexC K C' := ⟨⟨nm, qn, ns, bs, bm, sn, sb, ab, col, dd, k0, k1, k2, k3, k5, hC, hvt⟩, hsa, (mi _).trans (congrArg some (con "BaseException" (by decide +kernel))), ty, hk⟩
      have hdi : hasDictIn K C' = true := by
        unfold hasDictIn
        rw [hcl]
        rfl
      refine ⟨⟨ox, (mi _).trans (congrArg some cD), hsup, (mi _).trans (congrArg some (con "ValueError" (by decide +kernel))), hva⟩, hini, ⟨hga, hgt, ox.exC, hdi⟩, ⟨hga, hgt, ox.exC, hdi, hca, hn, ht, (mi _).trans (congrArg some (con "object" (by decide +kernel)))⟩, hcls, ?_, ?_, fun C2 n1 n2 h2 => ?_⟩
      · unfold kitOne
        by_cases c : C' = D
        · subst c
          rw [if_pos (beq_self_eq_true _)]
        · rw [if_neg (by simpa using c)]
          show (if ((clsIn K D).isSome && typeIn K (.ref D) == some (.type "type")) = true then mroIn K C' (.ref D) else none) = some true
          rw [if_pos hD, mi, cD]
      · unfold kitOne
        rw [if_neg (by simp)]
        show (if kitMeta "ValueError" = true then mroIn K C' (.type "ValueError") else none) = some true
        rw [if_pos (by decide +kernel), mi, con "ValueError" (by decide +kernel)]
      · unfold kitOne
        rw [if_neg (by simpa using fun z => n1 z.symm)]
        show (if ((clsIn K C2).isSome && typeIn K (.ref C2) == some (.type "type")) = true then mroIn K C' (.ref C2) else none) = some false
        rw [if_pos h2, mi, List.contains_cons, hbm]
        have q1 : (Value.ref C2 == Value.ref C') = false := by simpa using n1
        have q2 : (Value.ref C2 == Value.ref D) = false := by simpa using n2
        have q3 : HandSPX.veTail.contains (Value.ref C2) = false := by simp [HandSPX.veTail]
        rw [q1]
        split
        · rw [q3]; rfl
        · rw [List.contains_cons, q2, q3]; rfl
    · cases h1
  · cases h1
end OB

set_option Elab.async false
set_option linter.all false
set_option maxRecDepth 100000
set_option maxHeartbeats 4000000
/-! OB, part t: errors' fields with K told; list.count and index of data; repr and != of small dicts; lists joined. -/
namespace OB
open PySem PySem.Spec PyProof.Rows L2 PySem.W
section
variable {X : Cx} {K : Frag}
theorem pe_efK (h : X.K = K) {e : Expr} {te : TE} {pos : Pos} {n : Str} (he : PE X e te) (hb : attributeBase e n X.env (eval e X.env) = eval e X.env := by rfl) : PE X (.Attribute e n pos) (tEf K n te) := h ▸ pe_ef he hb
theorem mtrK {id : String} {r : Frag → V → List V → Hp → VK → Prop} (h : X.K = K) (c : MtR X id (r X.K)) : MtR X id (r K) := h ▸ c
theorem oprK {f : Value → Value → Sem Value} {r : Frag → R2} (h : X.K = K) (c : OpR X f (r X.K)) : OpR X f (r K) := h ▸ c
/-- l.count(x) of data -/
def rCntD (K : Frag) : V → List V → Hp → VK → Prop := fun x xs H Q => ∃ (a : Addr) (y : V) (d : PyData) (ds : List PyData), x = V.ref a ∧ xs = [y] ∧ L2.Dp K H (V.ref a) (.list ds) ∧ L2.Dp K H y d ∧ SeqAt.shaped (.list ds) = true ∧ SeqAt.shaped d = true ∧
  Q (.int ((ds.countP fun z => PyData.eqv z d : Nat) : Int)) H
theorem mt_cntD (hu : X.A.units + 65 < cLine) : MtR X "list.count" (rCntD X.K) := by
  intro pins s σ H x xs v us Q I rx rxs h
  obtain ⟨a, y, d, ds, rfl, rfl, hl, hy, sl, sd, q⟩ := h
  cases rx
  obtain ⟨uy, rfl, ry⟩ := rxs.one
  obtain ⟨bs, r1⟩ := Dp.reads I d y uy hy ry
  have room : X.A.units + 1 + min (PyData.depthAll ds) d.depth < cLine := room_in_shaped sd hu
  have lay : PyData.canLayAll0 ds = true := SeqAt.canLay_of_shaped sl
  cases hl with
  | lst hs ha =>
    obtain ⟨its, rv, ⟨⟨cls, dd, data, sls⟩, n, ho, hc, hdn, hdt⟩, hlen⟩ := I.list hs
    simp only at hc hdt
    subst hc hdt
    obtain ⟨as, r4⟩ := Dp.readsAll I ds _ its ha rv
    have hmap : its.map (SeqAt.readOf s.heap) = ds := SeqAt.readsAll_map ds its as lay r4
    have hcnt : its.toArray.toList.countP (fun u => PyData.eqv (SeqAt.readOf s.heap u) d) = ds.countP fun z => PyData.eqv z d := by
      rw [← hmap, List.countP_map]
      rfl
    refine call_meets PySem.F.slot_list_count ⟨_, ho, rfl⟩ PySem.F.entry_list_count (PySem.F.args_list_count_2 _ _) (SeqAt.list_countAt a its.toArray n dd sls uy fun u => PyData.eqv (SeqAt.readOf s.heap u) d)
      ⟨ho, SeqAt.items_eqAt (vs := its.toArray) (show ReadsAll s.heap its.toArray.toList ds as from r4) r1 lay (SeqAt.canLay_of_shaped sd) room, ?_⟩
    rw [hcnt]
    exact ⟨.int _, H, I.tok _, ⟨_, rfl⟩, q⟩
/-- the small dicts of which is asked here -/
def oddK (kvs : List (Key × V)) (d : PyData) : Prop := (kvs = [] ∧ d = .dict []) ∨ (kvs = [(.inr "a", .int 1)] ∧ d = .dict [(.str "a", .int 1)])
def rReprX (K : Frag) : List V → Hp → VK → Prop := fun xs H Q => rRepr K xs H Q ∨ ∃ (a : Addr) (kvs : List (Key × V)) (d : PyData), xs = [.ref a] ∧ H a = some (.dK kvs) ∧ oddK kvs d ∧ Q (.str d.shown) H
theorem odd_reads {P : Program} {w : World} {H : Hp} {h : Heap} {a : Addr} {kvs : List (Key × V)} {d : PyData} (hok : HOk P w H h) (ha : H a = some (.dK kvs)) (o : oddK kvs d) : ∃ as, Reads h (.ref a) d as ∧ sysModules ∉ as := by
  obtain ⟨_, hs, vs, kv, ob, es, ep, hg, hx, hd, _, hp, _⟩ := hok a _ ha
  have hs' : sysModules ≠ a := fun z => by
    subst z
    simp at hs
  rcases o with ⟨rfl, rfl⟩ | ⟨rfl, rfl⟩
  · cases kv
    cases he : es.toList with
    | cons e r =>
      rw [he] at hp
      cases hp
    | nil =>
      refine ⟨_, Reads.dict (kvs := []) hg hx.1 hd (by rw [he]; exact .nil) (by rw [he]; exact .nil), ?_⟩
      simp [hs']
  · obtain ⟨qk, qv, rfl, e1, e2⟩ : ∃ (qk : Key) (qv : Value), vs = [(qk, qv)] ∧ (.inr "a" : Key) = qk ∧ RelV (.int 1) qv := by
      cases kv with
      | cons k1 kv =>
        cases kv
        exact ⟨_, _, rfl, k1.1, k1.2⟩
    subst e1
    obtain ⟨t2, rfl⟩ := e2
    cases he : es.toList with
    | nil =>
      rw [he] at hp
      cases hp
    | cons e r =>
      rw [he] at hp
      cases hp with
      | cons ke ve hp =>
        cases hp
        rcases keyIs_shape (show keyIs (.inr "a") e.key = true from ke) with ⟨i, t, z, _⟩ | ⟨x, t, z, ek⟩
        · cases z
        · cases z
          refine ⟨_, Reads.dict (kvs := [(.str "a", .int 1)]) hg hx.1 hd (by rw [he]; simp only [List.map_cons, List.map_nil, ek]; exact .cons (.str _ _) .nil) (by rw [he]; simp only [List.map_cons, List.map_nil, ve]; exact .cons (.int _ _) .nil), ?_⟩
          simp [hs']
theorem call_reprX {k : Nat} (g : RG k X.A) : CallR X (.builtin "repr") (rReprX X.K) := by
  intro pins s σ H xs us Q I r h
  rcases h with h | ⟨a, kvs, d, rfl, ha, o, q⟩
  · exact call_repr g pins s σ H xs us Q I r h
  · obtain ⟨u, rfl, ru⟩ := vals1 r
    cases ru
    have hun := g.rm.un
    obtain ⟨as, rd, ns⟩ := odd_reads I.hok ha o
    have fin : d.showable = true ∧ d.depth ≤ 3 ∧ d.shown.length ≤ 20 := by
      rcases o with ⟨_, rfl⟩ | ⟨_, rfl⟩
      · exact ⟨by decide +kernel, by decide +kernel, by decide +kernel⟩
      · exact ⟨by decide +kernel, by decide +kernel, by decide +kernel⟩
    exact repr_of_reads' rd fin.1 (fun _ => ns) g.gd (by have := fin.2.1; omega) (fun _ _ e => e) (fun h' u tk hk => ⟨.str _, H, I.kept hk, ⟨_, rfl⟩, q⟩) (by have := fin.2.2; rw [sizeLine_eq]; omega)
def rNeX (K : Frag) : R2 := fun x y H Q => rNeD K x y H Q ∨ rNeDA x y H Q
theorem op_neX (hu : X.A.units + 64 < cLine) : OpR X (compareOp .NotEq) (rNeX X.K) := by
  intro pins s σ H x y v u Q I rx ry h
  rcases h with h | h
  · exact op_neD hu pins s σ H x y v u Q I rx ry h
  · exact op_ne_dictA (by omega) pins s σ H x y v u Q I rx ry h
end
section
variable {K : Frag} {F : List (Addr × HO)} {G : List Ft} {H : Hp} {Q : VK} {l b : Addr} {vs zs : List V}
theorem g_catH (S : Sy K F G H) (h1 : H l = some (.lst vs)) (h2 : H b = some (.lst zs)) (hl : vs.length + zs.length ≤ 100000) (k : ∀ p H', Sy K ((p, .lst (vs ++ zs)) :: F) G H' → Q (.ref p) H') : rCat (.ref l) (.ref b) H Q :=
  ⟨l, b, vs, zs, rfl, rfl, h1, h2, Nat.le_trans hl (by decide), fun p hp => k p _ (S.push hp)⟩
end
end OB

set_option Elab.async false
set_option linter.all false
set_option maxRecDepth 100000
set_option maxHeartbeats 4000000
/-! OB, part v: dicts with tuple keys: setdefault, get, d[k], d[k] = v, their keys and items gone through, sorted; sorted of a list of data. -/
namespace OB
open PySem PySem.Spec PyProof.Rows L2 PySem.W
section
variable {K : Frag} {F F' : List (Addr × HO)} {G : List Ft} {H : Hp} {p : Addr} {xs : List V}
theorem Sy.perm (S : Sy K F G H) (h : F'.Perm F) : Sy K F' G H := ⟨fun q hq => S.st q (h.mem_iff.mp hq), (h.map _).nodup_iff.mpr S.nd, S.ft⟩
theorem Sy.toTT : ∀ {l : List (Addr × List V)}, Sy K (l.map (fun q => (q.1, HO.tup q.2)) ++ F) G H → Sy K F (.tt l :: G) H := fun {l} S =>
  ⟨fun q hq => S.st q (List.mem_append_right _ hq), by
    have := S.nd
    rw [List.map_append] at this
    exact (List.nodup_append.mp this).2.1, fun g hg => by
    rcases List.mem_cons.mp hg with rfl | hg
    · exact fun q hq => S.st (q.1, .tup q.2) (List.mem_append_left _ (List.mem_map.mpr ⟨q, hq, rfl⟩))
    · exact S.ft g hg⟩
theorem Sy.toTT1 (S : Sy K ((p, .tup xs) :: F) G H) : Sy K F (.tt [(p, xs)] :: G) H := Sy.toTT (l := [(p, xs)]) S
end
/-! ### methods -/
def rSetdT (x : V) (xs : List V) (H : Hp) (Q : VK) : Prop := ∃ a kvs k b z, x = .ref a ∧ xs = [.ref b, z] ∧ H a = some (.dT kvs) ∧ H b = some (.tup (k.map kV)) ∧ kvs.length < sizeLine ∧ (∀ v, valV kvs k = some v → Q v H) ∧ (valV kvs k = none → Q z (upd H a (.dT (putK kvs k z))))
def rGetT (x : V) (xs : List V) (H : Hp) (Q : VK) : Prop := ∃ a kvs k b z, x = .ref a ∧ xs = [.ref b, z] ∧ Rd H a (.dT kvs) ∧ H b = some (.tup (k.map kV)) ∧ Q ((valV kvs k).getD z) H
section
variable {X : Cx}
theorem mt_setdT (hu : X.A.units + 1 < cLine) : MtR X "dict.setdefault" rSetdT := by
  intro pins s σ H x xs v us Q I rx rxs h
  obtain ⟨a, kvs, k, b, z, rfl, rfl, e, eb, hl, h1, h2⟩ := h
  cases rx
  obtain ⟨u0, u1, rfl, r0, r1⟩ : ∃ u0 u1, us = [u0, u1] ∧ RelV (.ref b) u0 ∧ RelV z u1 := by
    cases rxs with
    | cons r0 t =>
      cases t with
      | cons r1 t => cases t; exact ⟨_, _, rfl, r0, r1⟩
  cases r0
  obtain ⟨hz, hd, ks, rel, dd⟩ := dt_of I.hok e
  have hzl : ks.length ≤ sizeLine := by rw [← Paired.length rel]; exact hz
  refine call_setdefault_heap (hsz := hzl) (tupleKind_room_in1 hu) (key_of I.hok eb) hd dd (fun q hq => ?_) fun hn h' dd' hs => ?_
  · have q1 := rel.val k
    rw [hq] at q1
    cases q0 : valV kvs k with
    | none =>
      rw [q0] at q1
      exact (show False from q1).elim
    | some v0 =>
      rw [q0] at q1
      exact ⟨v0, H, I.tok _, q1, h1 v0 q0⟩
  · have q1 := rel.val k
    rw [hn] at q1
    cases q0 : valV kvs k with
    | some v0 =>
      rw [q0] at q1
      exact (show False from q1).elim
    | none =>
      have hl2 : (putK kvs k z).length ≤ sizeLine := by
        have := length_putK kvs k z
        omega
      obtain ⟨q, es, ep, hq, c2, c3, c4, c5, c6⟩ := dd'
      refine ⟨z, _, d_write (ob := .dT (putK kvs k z)) (t' := s.toks + _) I (by rw [e]; exact True.intro) hs ⟨q, hq⟩ ⟨hl2, hd, _, (rel.put k eb r1).keeps fun c ys ec => ?_, q, es, ep, hq, c2, c3, c4, c6⟩, r1, h2 q0⟩
      rw [upd_ne (ne_of ec e (fun z => nomatch z))]
      exact ec
theorem mt_getT (hu : X.A.units + 1 < cLine) : MtR X "dict.get" rGetT := by
  intro pins s σ H x xs v us Q I rx rxs h
  obtain ⟨a, kvs, k, b, z, rfl, rfl, e, eb, q⟩ := h
  cases rx
  obtain ⟨u0, u1, rfl, r0, r1⟩ : ∃ u0 u1, us = [u0, u1] ∧ RelV (.ref b) u0 ∧ RelV z u1 := by
    cases rxs with
    | cons r0 t =>
      cases t with
      | cons r1 t => cases t; exact ⟨_, _, rfl, r0, r1⟩
  exact d_get2 hu I (y := .ref b) (o := valV kvs k) (.inr ⟨kvs, k, b, e, rfl, eb, rfl⟩) r0 r1 fun w' s3 I3 rw' => ⟨_, H, I3, rw', q⟩
end
section
variable {K : Frag} {F : List (Addr × HO)} {G : List Ft} {σ : L2.St} {H : Hp} {Q : VK} {d b : Addr} {kvs : List (List Key × V)} {k : List Key} {i : Nat} {v z : V}
theorem g_setdT (S : Sy K F G H) (h : F[i]? = some (d, .dT kvs)) (hb : H b = some (.tup (k.map kV))) (hl : kvs.length < 100000) (h1 : ∀ v, valV kvs k = some v → Q v H)
    (h2 : ∀ H', valV kvs k = none → Sy K (F.set i (d, .dT (kvs ++ [(k, z)]))) G H' → Q z H') : rSetdT (.ref d) [.ref b, z] H Q :=
  ⟨d, kvs, k, b, z, rfl, rfl, S.at i h, hb, Nat.lt_of_lt_of_le hl (by decide), h1, fun hn => h2 _ hn (by have := S.put (o' := .dT (putK kvs k z)) i h rfl; rw [putK_new z hn] at this ⊢; exact this)⟩
theorem g_getT (h : Rd H d (.dT kvs)) (hb : H b = some (.tup (k.map kV))) (q : Q ((valV kvs k).getD z) H) : rGetT (.ref d) [.ref b, z] H Q := ⟨d, kvs, k, b, z, rfl, rfl, h, hb, q⟩
theorem g_dgetT (h : Rd H d (.dT kvs)) (hb : H b = some (.tup (k.map kV))) (e : valV kvs k = some v) (q : Q v H) : rDGet (.ref d) (.ref b) H Q := ⟨d, v, rfl, .inr ⟨kvs, k, b, h, rfl, hb, e.symm⟩, q⟩
theorem g_setDT {QH : Hp → Prop} (S : Sy K F G H) (h : F[i]? = some (d, .dT kvs)) (hb : H b = some (.tup (k.map kV))) (hl : kvs.length < 100000) (q : ∀ H', Sy K (F.set i (d, .dT (putK kvs k v))) G H' → QH H') : rSetD (.ref d) (.ref b) v H QH :=
  ⟨d, _, rfl, .inr ⟨kvs, k, b, S.at i h, rfl, hb, Nat.lt_of_lt_of_le hl (by decide), rfl⟩, q _ (S.put i h rfl)⟩
end
/-! ### a value locked for good -/
def tFrz (t : TE) : TE := fun σ H Q => t σ H fun x H1 => ∃ d u, x = .ref d ∧ H1 d = some u ∧ Mut (some u) ∧ ∀ od, Q (.ref d) (upd H1 d (.frz od u))
theorem pe_frz {X : Cx} {e : Expr} {t : TE} (h : PE X e t) : PE X e (tFrz t) := by
  refine ⟨fun pins s σ H Q I hw => ?_⟩
  refine thn (h.run pins s σ H _ I hw) fun u s1 ⟨x, H1, I1, rx, d, o, ex, hd, mu, q⟩ => ?_
  subst ex
  obtain ⟨od, I2⟩ := I1.lock hd mu
  exact ⟨.ref d, _, I2, rx, q od⟩
/-! ### the items -/
def Itit (d : Addr) (o : Obj) (kvs : List (List Key × V)) : It :=
  ⟨fun i H => H d = some (.frz o (.dT kvs)) ∧ i < kvs.length, fun i H x H' => ∃ T k v q, kvs[i]? = some (k, v) ∧ x = .ref T ∧ H T = none ∧ H q = some (.tup (k.map kV)) ∧ H' = upd H T (.tup [.ref q, v]), fun i H => H d = some (.frz o (.dT kvs)) ∧ kvs.length ≤ i⟩
section
variable {P : Program} {w : World} {K : Frag} {X : Cx} {pins : List (Addr × Obj)} {σ : L2.St} {H : Hp} {s : Shared} {d : Addr} {o : Obj} {es : Array DictEntry} {ep : Nat}
theorem frzT' {kvs : List (List Key × V)} (I : Inv X pins σ H s) (h : H d = some (.frz o (.dT kvs))) :
    (d == sysModules) = false ∧ s.heap.get? d = some o ∧ o.ExactDict ∧ ∃ (es : Array DictEntry) (ep : Nat), o.data = .dict es ep ∧ es.size = kvs.length ∧
      ∀ (i : Nat) (k : List Key) (v : V), kvs[i]? = some (k, v) → ∃ (en : DictEntry) (q : Addr), es[i]? = some en ∧ en.key = .ref q ∧ H q = some (.tup (k.map kV)) ∧ RelV v en.val := by
  obtain ⟨hd, z, hs, xs, pr, o', es, ep, ho, hx, hdt, he, _⟩ := I.hok d _ h
  rw [hd] at ho
  cases ho
  refine ⟨hs, hd, hx, es, ep, hdt, ?_, fun i k v e => ?_⟩
  · have l1 : es.size = xs.length := size_of_entries he
    have l2 : kvs.length = xs.length := Paired.length pr
    omega
  · obtain ⟨b, hb, e1, e2, e3⟩ := paired_get pr e
    have q := entry_at he i
    rw [hb] at q
    exact ⟨_, b.2.1, q, rfl, e2, e3⟩
theorem turn_itemsT {kvs : List (List Key × V)} {elts : List Expr} {kk : Nat} {tpos : Pos} (it : Addr) (hod : o.data = .dict es ep) :
    Turn P w K (.Tuple elts kk tpos) (Itit d o kvs) [it] it (fun i h => ∃ ok ov, IsItemIter h it d i kvs.length ep ok ov) where
  mem := by simp
  obj := fun i h st b hb => by
    have e : b = it := by simpa using hb
    subst e
    obtain ⟨ok, ov, e⟩ := st
    exact ⟨_, e, fun v z => nomatch z⟩
  keep := fun i h h' st k => let ⟨ok, ov, e⟩ := st; ⟨ok, ov, k it (by simp) _ e⟩
  item := by
    intro X hP hw hK hc i pins s σ H E I hf st hg
    subst hP hw hK
    obtain ⟨hd, hi⟩ := hg
    obtain ⟨hs, hgd, hx, es', ep', hdt, hsz, ent⟩ := frzT' I hd
    obtain ⟨rfl, rfl⟩ := dict_ep hod hdt
    obtain ⟨⟨k, v⟩, hkv⟩ : ∃ p, kvs[i]? = some p := ⟨kvs[i], List.getElem?_eq_getElem hi⟩
    obtain ⟨en, q, hen, hkey, hq, rv⟩ := ent i k v hkv
    obtain ⟨ok, ov, he⟩ := st
    rw [← hsz] at he
    have hi' : i < es'.size := by omega
    have e3 : es'[i] = en := by
      have := Array.getElem?_eq_getElem hi'
      rw [hen] at this
      exact (Option.some.inj this).symm
    have hlt : it < s.heap.objs.size := Heap.lt_size he
    refine DT.nextI he ⟨o, hgd, hx, hdt⟩ hi' fun h' ho hT hz hk => ?_
    rw [e3] at ho hT
    refine ⟨_, rfl, wpAny_letOwnedTupleGo_items (s := { s with heap := h' }) ho fun h'' he' sb => ?_⟩
    have hT2 : h''.get? s.heap.objs.size = some { cls := .type "tuple", data := .seq #[en.key, en.val] } := (sb.2 _ (Nat.ne_of_gt hlt)).trans hT
    have new : ObjOk X.prog X.w (upd H s.heap.objs.size (.tup [.ref q, v])) h'' s.heap.objs.size (.tup [.ref q, v]) :=
      ⟨by show 2 ≤ sizeLine; decide, [en.key, en.val], .cons hkey (.cons rv .nil), ⟨_, hT2, rfl, _, rfl⟩⟩
    have I1 : Inv X pins σ (upd H s.heap.objs.size (.tup [.ref q, v])) { s with heap := h'' } :=
      I.turnedNew (t' := s.toks) (ch := [it]) (fun b ob hb e => (sb.2 b (by simpa using hb)).trans (hk b ob (by simpa using hb) e)) hf (Nat.le_refl _) new
    refine ⟨.ref s.heap.objs.size, _, I1, rfl, ⟨_, k, v, q, hkv, rfl, I.hok.fresh (Nat.le_refl _), hq, rfl⟩, ⟨en.key, en.val, ?_⟩, fun b hb => ?_⟩
    · rw [← hsz]; exact he'
    · have e : b = it := by simpa using hb
      rw [e, upd_ne (Nat.ne_of_lt hlt)]
      exact (hf it (by simp)).1
  done := by
    intro X hP hw hK hc i pins s σ H E I hf st hg
    subst hP hw hK
    obtain ⟨hd, hi⟩ := hg
    obtain ⟨f0, f1, f2, f3, f4, f5⟩ := hf it (by simp)
    obtain ⟨hs, hgd, hx, es', ep', hdt, hsz, ent⟩ := frzT' I hd
    obtain ⟨rfl, rfl⟩ := dict_ep hod hdt
    obtain ⟨ok, ov, he⟩ := st
    rw [← hsz] at he
    exact DT.endI (I.ok.hd hc) he ⟨o, hgd, hx, hdt⟩ (by omega) fun h' eb => ⟨rfl, I.turned (t' := s.toks) (fun b ob hb e => eb b ob hb e) f0 f1 f3 f4 f5⟩
  self := fun A i s Q E st h => let ⟨_, _, e⟩ := st; PySem.W.kcp_self e h
end
def iItemsT (td : TE) : TI := fun σ H R => td σ H fun x H1 => ∃ d o kvs, x = .ref d ∧ H1 d = some (.frz o (.dT kvs)) ∧ R (Itit d o kvs) H1
theorem pi_itemsT {X : Cx} {e : Expr} {td : TE} {apos cpos : Pos} {elts : List Expr} {kk : Nat} {tpos : Pos} (he : PE X e td) (hbase : attributeBase e "items" X.env (eval e X.env) = eval e X.env := by rfl) (hline : (apos.endLine == cpos.line) = true := by rfl) :
    PI X (.Tuple elts kk tpos) (.Call (.Attribute e "items" apos) [] [] cpos) (iItemsT td) := by
  refine ⟨fun pins s σ H R I h => ?_⟩
  refine wpAny_Call_method (T := "dict") (id := "dict.items") hbase rfl hline F.plainAttrs_dict F.slot_dict_items F.type_dict_items (thn (he.run pins s σ H _ I h) fun u s1 ⟨x, H1, I1, rx, d, o, kvs, ex, hd, q⟩ => ?_)
  subst ex
  obtain rfl : u = Value.ref d := rx
  obtain ⟨hs, hgd, hx, es, ep, hdt, hsz, ent⟩ := frzT' I1 hd
  refine ⟨⟨o, hgd, hx.1⟩, fun b q => ?_, ?_⟩
  · cases q
    exact ⟨o, hgd, hx.2.1⟩
  have I2 : Inv X pins σ H1 { s1 with heap := s1.heap.push { cls := .type "dict_items", data := .fields #[.ref d] } } := I1.kept (t' := s1.toks) fun b ob q => Heap.get?_push_of_some _ q
  have fin : wpAny (model X.prog X.w) X.A (pyIter (.ref s1.heap.objs.size)) (PIE X pins σ (.Tuple elts kk tpos) R) X.xe { s1 with heap := s1.heap.push { cls := .type "dict_items", data := .fields #[.ref d] } } := by
    refine DT.iterI (d := d) (es := es) (ep := ep) ⟨_, Heap.get?_push_size _ rfl, rfl, rfl⟩ ⟨o, Heap.get?_push_of_some _ hgd, hx, hdt⟩ (pi_one (tk := s1.toks) I2 _ (turn_itemsT _ hdt) ⟨.none, .none, ?_⟩ q)
    rw [← hsz]
    exact Heap.get?_push_size _ rfl
  show wpAny _ _ (callWith cpos (.builtin "dict.items") [.ref d] [] []) _ X.xe s1
  exact method_meetsIn F.slot_dict_items F.entry_dict_items rfl (PySem.evalArgs_none ⟨rfl, ⟨o, hgd, hx.1⟩, F.args_dict_items_1 _, _, DT.meetsItems (es := es) (ep := ep) hs, ⟨⟨o, hgd, hx, hdt⟩, fin⟩⟩)
/-! ### sorted -/
def rSortD (K : Frag) : List V → Hp → VK → Prop := fun vs H Q => ∃ a xs ds, vs = [.ref a] ∧ SqL K H a xs ∧ DpAll K H xs ds ∧ AllAlike ds ∧ PySem.W.Sortable ds ∧ (∀ d ∈ ds, d.depth ≤ 50) ∧ xs.length ≤ 100000 ∧
  ∀ p, H p = none → Q (.ref p) (upd H p (.lst (((xs.zip ds).mergeSort (dataLe false Prod.snd)).map Prod.fst)))
theorem eachs_zip {h : Heap} : ∀ {xs : List V} {its : List Value} {ds : List PyData}, Vals xs its → EachIs (fun v b => ∃ as, Reads h v b as) its ds → EachIs (fun v b => RelV b.1 v) its (xs.zip ds) ∧ EachIs (fun v b => ∃ as, Reads h v b.2 as) its (xs.zip ds)
  | [], _, _, .nil, .nil => ⟨.nil, .nil⟩
  | _ :: _, _, _, .cons r t, .cons e u => ⟨.cons r (eachs_zip t u).1, .cons e (eachs_zip t u).2⟩
theorem eachs_vals : ∀ {out : List Value} {bs : List (V × PyData)}, EachIs (fun v b => RelV b.1 v) out bs → Vals (bs.map Prod.fst) out
  | [], _, .nil => .nil
  | _ :: _, _, .cons r t => .cons r (eachs_vals t)
section
variable {X : Cx}
theorem c_sortD (hu : X.A.units + 64 < cLine) : CallR X (.builtin "sorted") (rSortD X.K) := by
  intro pins s σ H vs us Q I r h
  obtain ⟨a, xs, ds, rfl, hs, hd, ha, hk, hdp, hl, q⟩ := h
  rw [Vals.ref1 r]
  obtain ⟨its, rv, pl, _⟩ := I.list hs
  obtain ⟨as, hr⟩ := Dp.readsAll I ds xs its hd rv
  have e0 : EachIs (fun v b => ∃ as, Reads s.heap v b as) its ds := readsAll_each (enc := id) (by rw [List.map_id]; exact hr)
  obtain ⟨e1, e2⟩ := eachs_zip rv e0
  have lx : xs.length = ds.length := dps_length hd
  have em : (xs.zip ds).map Prod.snd = ds := List.map_snd_zip (by omega)
  have lz : (xs.zip ds).length = xs.length := by rw [List.length_zip, lx, Nat.min_self]
  refine sorted_data (bs := xs.zip ds) (enc := Prod.snd) (R := fun v b => RelV b.1 v) pl.isList e1 e2 (by rw [em]; exact ha) (by rw [em]; exact hk) (by rw [lz]; exact Nat.le_trans hl (by decide)) (fun b hb => ?_) fun out ho eo => ?_
  · have := hdp b.2 (by rw [← em]; exact List.mem_map.mpr ⟨b, hb, rfl⟩)
    omega
  · have rv2 := eachs_vals eo
    obtain ⟨c, hc⟩ := sortedAll_at s.heap its (List.toArray out)
    refine ⟨.ref (s.heap.objs.size + 1), _, I.laid (t' := s.toks) (a := s.heap.objs.size + 1) (o := .lst (((xs.zip ds).mergeSort (dataLe false Prod.snd)).map Prod.fst)) (fun _ _ => sortedAll_old) (Nat.le_succ _) ?_, rfl, q _ (I.hok.fresh (Nat.le_succ _))⟩
    refine ⟨?_, out, c, rv2, hc⟩
    rw [List.length_map, List.length_mergeSort, lz]
    exact Nat.le_trans hl (by decide)
end
end OB

set_option Elab.async false
set_option linter.all false
set_option maxRecDepth 100000
set_option maxHeartbeats 4000000
/-! OB, part w: sorted of a dict with tuple keys; comprehensions over its items, over its keys and the lists that it holds, over a text; texts cut, joined, read as numbers; remove. -/
namespace OB
open PySem PySem.Spec PyProof.Rows L2 PySem.W
/-! ### sorted(d) -/
def kD : L2.Key → PyData
  | .inl i => .int i
  | .inr s => .str s
def kDs (k : List L2.Key) : PyData := .tuple (k.map kD)
theorem dps_key {K : Frag} {H : Hp} : ∀ k : List L2.Key, DpAll K H (k.map kV) (k.map kD)
  | [] => .nil
  | .inl i :: r => .cons (.int i) (dps_key r)
  | .inr s :: r => .cons (.str s) (dps_key r)
theorem dp_key {K : Frag} {H : Hp} {q : Addr} {k : List L2.Key} (h : H q = some (.tup (k.map kV))) : Dp K H (.ref q) (kDs k) := .tup (.inl (.inl h)) (dps_key k)
def rSortDT : List V → Hp → VK → Prop := fun vs H Q => ∃ d kvs, vs = [.ref d] ∧ Rd H d (.dT kvs) ∧ kvs.length ≤ 100000 ∧ AllAlike (kvs.map fun p => kDs p.1) ∧ (∀ p ∈ kvs, p.1 ≠ []) ∧ (∀ p ∈ kvs, (kDs p.1).depth ≤ 50) ∧
  ∀ p bs, H p = none → IsKeys H kvs bs → Q (.ref p) (upd H p (.lst (((bs.zip (kvs.map Prod.fst)).mergeSort (dataLe false fun b => kDs b.2)).map fun b => V.ref b.1)))
theorem isKeys_get {H : Hp} : ∀ {kvs : List (List L2.Key × V)} {bs : List Addr}, IsKeys H kvs bs → ∀ z ∈ bs.zip (kvs.map Prod.fst), H z.1 = some (.tup (z.2.map kV))
  | [], [], .nil, _, h => by cases h
  | _ :: _, _ :: _, .cons h t, z, hz => by
    rcases List.mem_cons.mp hz with rfl | hz
    · exact h
    · exact isKeys_get t z hz
theorem eachs_refs {R : Value → Addr × List L2.Key → Prop} : ∀ {vs : List Value} {bs : List (Addr × List L2.Key)}, vs = bs.map (fun b => Value.ref b.1) → (∀ b ∈ bs, R (.ref b.1) b) → EachIs R vs bs
  | _, [], rfl, _ => .nil
  | _, b :: bs, rfl, h => .cons (h b (List.mem_cons_self ..)) (eachs_refs rfl fun c hc => h c (List.mem_cons_of_mem _ hc))
theorem eachs_out : ∀ {out : List Value} {bs : List (Addr × List L2.Key)}, EachIs (fun v b => v = .ref b.1) out bs → Vals (bs.map fun b => V.ref b.1) out
  | [], _, .nil => .nil
  | _ :: _, _, .cons rfl t => .cons rfl (eachs_out t)
section
variable {X : Cx}
theorem c_sortDT (hc : X.calm = true) (hu : X.A.units + 64 < cLine) : CallR X (.builtin "sorted") rSortDT := by
  intro pins s σ H xs us Q I r h
  obtain ⟨d, kvs, rfl, hd, hl, hal, hne, hdp, q⟩ := h
  rw [Vals.ref1 r]
  obtain ⟨z, hs, ks, pr, o, es, ep, ho, hx, hdt, he, hn⟩ := (show ObjOk X.prog X.w H s.heap d (.dT kvs) from hd.ok I.hok)
  have l1 : es.size = ks.length := size_of_entries he
  have l2 : kvs.length = ks.length := Paired.length pr
  have z1 : es.size ≤ sizeLine := by
    have : 100000 ≤ sizeLine := by decide
    omega
  refine Calls.call_function_entry kind_sorted plain_sorted entry_sorted (args_sorted1 _) ?_
  unfold Builtin.«sorted»
  refine wpAny_bind (m := checkCount "sorted" 1 1 _) (wpAny_pure ?_)
  refine wpAny_bind (PySem.W.kdu_collect (A := X.A.in1) (kdl_raw hs hx hdt) (I.ok.hd hc) ho z1 fun h' tk acc hk it => ?_)
  have hacc : acc.toList.length = ks.length := by rw [Array.length_toList, it.1]; exact l1
  have ea : acc.toList = ks.map fun x => Value.ref x.2.1 := by
    apply List.ext_getElem?
    intro j
    rw [List.getElem?_map]
    cases hj : acc.toList[j]? with
    | none =>
      have h1 := List.getElem?_eq_none_iff.mp hj
      rw [List.getElem?_eq_none (by omega)]
      all_goals rfl
    | some v =>
      obtain ⟨en, hen, hv⟩ := it.2 j v (by rw [← Array.getElem?_toList]; exact hj)
      have qe := entry_at he j
      rw [hen] at qe
      cases hb : ks[j]? with
      | none =>
        rw [hb] at qe
        exact nomatch (show some en = none from qe)
      | some b =>
        rw [hb] at qe
        have e2 : en = entryOfKey (tupleKind (mixKind X.prog X.w)) b := Option.some.inj qe
        rw [hv, e2]
        all_goals rfl
  refine wpAny_bind (wpAny_newList ?_ (by rw [hacc, ← l1]; exact z1))
  have ik : IsKeys H kvs (ks.map fun x => x.2.1) := isKeys_of pr
  have em : ((ks.map fun x => x.2.1).zip (kvs.map Prod.fst)).map Prod.fst = ks.map fun x => x.2.1 := List.map_fst_zip (by rw [List.length_map, List.length_map]; omega)
  have em2 : ((ks.map fun x => x.2.1).zip (kvs.map Prod.fst)).map Prod.snd = kvs.map Prod.fst := List.map_snd_zip (by rw [List.length_map, List.length_map]; omega)
  generalize hB : (ks.map fun x => x.2.1).zip (kvs.map Prod.fst) = bs at em em2
  have lb : bs.length = kvs.length := by
    have := congrArg List.length em2
    rw [List.length_map, List.length_map] at this
    exact this
  have eab : acc.toList = bs.map fun b => Value.ref b.1 := by
    rw [ea, show (ks.map fun x => Value.ref x.2.1) = (ks.map fun x => x.2.1).map Value.ref by rw [List.map_map]; rfl, ← em, List.map_map]
    rfl
  have I1 : Inv X pins σ H { s with heap := h', toks := tk } := I.kept hk
  have I2 : Inv X pins σ H { s with heap := h'.push { cls := .type "list", data := .seq acc.toList.toArray }, toks := tk } := I1.kept (t' := tk) fun b o e => Heap.get?_push_of_some _ e
  have hob : (h'.push { cls := .type "list", data := .seq acc.toList.toArray }).get? h'.objs.size = some (seqObj "list" acc.toList.toArray 0) := Heap.get?_push_size _ rfl
  have ekd : bs.map (fun b => kDs b.2) = kvs.map fun p => kDs p.1 := by
    rw [show (bs.map fun b => kDs b.2) = (bs.map Prod.snd).map kDs by rw [List.map_map]; rfl, em2, List.map_map]
    rfl
  have mk : ∀ b ∈ bs, ∃ p ∈ kvs, p.1 = b.2 := fun b hb => by
    have : b.2 ∈ kvs.map Prod.fst := by rw [← em2]; exact List.mem_map.mpr ⟨b, hb, rfl⟩
    obtain ⟨p, hp, e⟩ := List.mem_map.mp this
    exact ⟨p, hp, e⟩
  have rd : ∀ b ∈ bs, ∃ as, Reads (h'.push { cls := .type "list", data := .seq acc.toList.toArray }) (.ref b.1) (kDs b.2) as ∧ h'.objs.size ∉ as := fun b hb => by
    have hH := isKeys_get ik b (by rw [hB]; exact hb)
    obtain ⟨as, ra⟩ := Dp.reads I1 (kDs b.2) (.ref b.1) (.ref b.1) (dp_key hH) rfl
    refine ⟨as, Reads.keeps (fun _ _ e => Heap.get?_push_of_some _ e) ra, fun hm => ?_⟩
    have : as = [] := by
      have key : ∀ (k : List L2.Key) (v : Value) (as : List Addr), Reads h' v (kDs k) as → as = [] := by
        intro k v as r
        cases r with
        | tuple h1 h2 h3 h4 =>
          have all : ∀ (k : List L2.Key) (vs : List Value) (as : List Addr), ReadsAll h' vs (k.map kD) as → as = [] := by
            intro k
            induction k with
            | nil => intro vs as r; cases r; rfl
            | cons x k ih =>
              intro vs as r
              cases r with
              | cons r1 r2 =>
                rw [ih _ _ r2]
                cases x with
                | inl i => cases (show Reads h' _ (.int i) _ from r1); rfl
                | inr t => cases (show Reads h' _ (.str t) _ from r1); rfl
          exact all k _ _ h4
      exact key _ _ _ ra
    rw [this] at hm
    cases hm
  refine wpAny_bind (wpAny_holding (list_sort_data (n := 0) (vs := acc.toList) (bs := bs) (enc := fun b => kDs b.2) (R := fun v b => v = .ref b.1) hob (eachs_refs eab fun b hb => rfl) (eachs_refs eab rd) (by rw [ekd]; exact hal) (.inl fun e hm => ?_) ?_ (fun b hb => ?_) fun out ho eo => ?_))
  · obtain ⟨b, hb, rfl⟩ := List.mem_map.mp hm
    obtain ⟨p, hp, e⟩ := mk b hb
    have := hne p hp
    rw [e] at this
    cases hk : b.2 with
    | nil => exact absurd hk this
    | cons x r => exact ⟨kD x, r.map kD, rfl⟩
  · rw [lb]
    exact Nat.le_trans hl (by decide)
  · obtain ⟨p, hp, e⟩ := mk b hb
    have := hdp p hp
    rw [e] at this
    show X.A.units + 1 + 1 + (kDs b.2).depth < cLine
    omega
  · refine wpAny_pure ?_
    have ho2 : (sortedHeap (h'.push { cls := .type "list", data := .seq acc.toList.toArray }) h'.objs.size acc.toList (List.toArray out)).get? h'.objs.size = _ := (sortedHeap_at (vs := acc.toList) (out := List.toArray out) hob).choose_spec
    refine ⟨_, rfl, .ref h'.objs.size, _, I1.laid (t' := tk) (a := h'.objs.size) (o := .lst ((bs.mergeSort (dataLe false fun b => kDs b.2)).map fun b => V.ref b.1)) (fun b u e1 => ?_) (Nat.le_refl _) ?_, rfl, ?_⟩
    · have e2 : (h'.push { cls := .type "list", data := .seq acc.toList.toArray }).get? b = some u := Heap.get?_push_of_some _ e1
      exact (sortedHeap_old (Nat.ne_of_lt (Heap.lt_size e1)) (Heap.lt_size e2)).trans e2
    · refine ⟨?_, out, _, eachs_out eo, ho2⟩
      rw [List.length_map, List.length_mergeSort, lb]
      exact Nat.le_trans hl (by decide)
    · have := q h'.objs.size (ks.map fun x => x.2.1) (I1.hok.fresh (Nat.le_refl _)) ik
      rw [hB] at this
      exact this
end
end OB

set_option Elab.async false
set_option linter.all false
set_option maxRecDepth 100000
set_option maxHeartbeats 4000000
/-! OB, part x: comprehensions over the items of a dict with tuple keys, over its keys and the lists that it holds, over a text; texts cut, joined, read as numbers; remove. -/
namespace OB
open PySem PySem.Spec PyProof.Rows L2 PySem.W
section
variable {K : Frag} {F : List (Addr × HO)} {G : List Ft} {σ : L2.St} {H : Hp} {Q : VK} {g : TG} {tt : TT} {te : TE} {own : List Nat} {d : Addr} {o : Obj}
/-! ### over the items -/
def TurnI (K : Frag) (G : List Ft) (I : Nat → List (Addr × HO) → List PyData → Prop) (σ : L2.St) (own : List Nat) (g : TG) (tt : TT) (te : TE) (i : Nat) (k : List L2.Key) (y : V) : Prop :=
  ∀ (Da T q : Addr) (H2 : Hp) (F2 : List (Addr × HO)) (vs : List V) (ds : List PyData) (QE : VK) (QR : Hp → Prop), I i F2 ds → H2 T = none → H2 q = some (.tup (k.map kV)) → Sy K ((Da, .lst vs) :: F2) (.dat vs ds :: G) H2 →
    (∀ (z : V) (d : PyData) F' H', I (i + 1) F' (ds ++ [d]) → Sy K ((Da, .lst vs) :: F') (.dat [z] [d] :: .dat vs ds :: G) H' → QE z H') →
    (∀ F' H', I (i + 1) F' ds → Sy K ((Da, .lst vs) :: F') (.dat vs ds :: G) H' → QR H') →
    g (.ref T) (wipe σ own) (upd H2 T (.tup [.ref q, y])) fun σ2 H2 => wipe σ2 own = wipe σ own ∧ tt σ2 H2 fun b H3 => if b = true then te σ2 H3 QE else QR H3
theorem walk_itemsT {kvs : List (List L2.Key × V)} : Walk (Itit d o kvs) kvs.length (fun H => H d = some (.frz o (.dT kvs)))
    (fun i H x H' => ∃ T k v q, kvs[i]? = some (k, v) ∧ x = .ref T ∧ H T = none ∧ H q = some (.tup (k.map kV)) ∧ H' = upd H T (.tup [.ref q, v])) :=
  ⟨fun _ _ hi q => ⟨q, hi⟩, fun _ q => ⟨q, Nat.le_refl _⟩, fun _ _ _ _ _ _ y => y⟩
theorem g_lcIT {td : TE} {kvs : List (List L2.Key × V)} (I : Obj → Nat → List (Addr × HO) → List PyData → Prop)
    (ht : td σ H fun x H1 => ∃ d F u, x = .ref d ∧ u = .dT kvs ∧ H1 d = some u ∧ ∃ j, F[j]? = some (d, u) ∧ Sy K F G H1 ∧ ∀ od,
      I od 0 (F.set j (d, .frz od u)) [] ∧ (∀ i F' ds H', I od i F' ds → Sy K F' G H' → H' d = some (.frz od (.dT kvs))) ∧ (∀ i F ds, I od i F ds → ds.length < 100000) ∧
      (∀ i k v, kvs[i]? = some (k, v) → TurnI K G (I od) σ own g tt te i k v) ∧
      (∀ Dp H' F' vs ds, I od kvs.length F' ds → Sy K ((Dp, .lst vs) :: F') (.dat vs ds :: G) H' → Q (.ref Dp) H'))
    (mono : ∀ (H : Hp) (Q Q' : VK), (∀ x H', Q x H' → Q' x H') → td σ H Q → td σ H Q') : tLc (iItemsT (tFrz td)) g tt te own σ H Q := by
  refine mono _ _ _ (fun x H1 h => ?_) ht
  obtain ⟨d, F, u, rfl, rfl, hd, j, hj, S, h⟩ := h
  refine ⟨d, _, rfl, hd, trivial, fun od => ?_⟩
  obtain ⟨h0, hq, hl, turn, done⟩ := h od
  have S1 := S.put (o' := .frz od (.dT kvs)) j hj rfl
  refine ⟨d, od, kvs, rfl, upd_same, fun Dp hD => ?_⟩
  refine lc_it (walk_itemsT (d := d) (o := od) (kvs := kvs)) (LcP K G (I od) Dp) (lcp_start S1 h0 hD) (fun i H' _ p => ?_) (fun i v H1 H' hi p y => ?_) fun H' p => ?_
  · obtain ⟨F', vs, ds, hi, S'⟩ := p
    exact hq i F' ds _ hi S'.drop.less
  · obtain ⟨F', vs, ds, hI, S'⟩ := p
    obtain ⟨T, k, v, q, hk, rfl, hT, hq, rfl⟩ := y
    refine turn i k v hk Dp T q H1 F' vs ds _ (LcP K G (I od) Dp (i + 1)) hI hT hq S' (fun z d F2 H2 hi' S2 => ?_) fun F2 H2 hi' S2 => ⟨F2, vs, ds, hi', S2⟩
    have len := dps_length (S2.dps 1 rfl)
    have lt := hl _ _ _ hi'
    rw [List.length_append] at lt
    refine ⟨vs, S2.at 0 rfl, Nat.lt_of_lt_of_le (by omega) (show 100000 ≤ sizeLine by decide), F2, vs ++ [z], ds ++ [d], hi', ?_⟩
    have S3 : Sy K ((Dp, .lst (vs ++ [z])) :: F2) (.dat [z] [d] :: .dat vs ds :: G) (upd H2 Dp (.lst (vs ++ [z]))) := S2.put (o' := .lst (vs ++ [z])) 0 rfl rfl
    exact (S3.drop.drop).fact (dps_append (S3.dps 1 rfl) (S3.dps 0 rfl)) (by rw [immAll_append, S2.dpi 1 rfl, S2.dpi 0 rfl]; rfl)
  · obtain ⟨F', vs, ds, hI, S'⟩ := p
    exact done Dp H' F' vs ds hI S'
theorem g_tYes {f : Bool → Hp → Prop} (k : f true H) : tYes σ H f := k
/-! ### [x for k in d for x in d[k]], d a dict of lists of whole numbers -/
theorem lc2_it {J : It} {n : Nat} {Gd : Hp → Prop} {Y : Nat → Hp → V → Hp → Prop} (w : Walk J n Gd Y) {wi1 : TI} {g1 : TG} {tt1 : TT} {vs vs1 : List Nat} {H1 : Hp} {D : Addr} {Qd : Hp → Prop} (Pv : Nat → Hp → Prop) (h0 : Pv 0 (upd H1 D (.lst []))) (hG : ∀ i H, i ≤ n → Pv i H → Gd H)
    (hs : ∀ i x H H', i < n → Pv i H → Y i H x H' → g x (wipe σ vs) H' fun σ2 H2 => wipe σ2 vs = wipe σ vs ∧ tt σ2 H2 fun b H3 =>
      if b = true then wi1 σ2 H3 fun J1 H4 => ∃ W1 : Nat → Nat → Hp → Prop, (∃ m, W1 0 m H4) ∧ ∀ j k H, W1 j k H →
        (J1.stop j H ∧ Pv (i + 1) H) ∨ (J1.go j H ∧ ∃ Nx1 : Hp → Prop, (∀ H', Nx1 H' → ∃ k', k' < k ∧ W1 (j + 1) k' H') ∧ ∀ x H', J1.yld j H x H' → g1 x (wipe σ2 vs1) H' fun σ3 H5 => wipe σ3 vs1 = wipe σ2 vs1 ∧ tt1 σ3 H5 fun b H6 =>
          if b = true then te σ3 H6 fun y H7 => ∃ acc, H7 D = some (.lst acc) ∧ acc.length < sizeLine ∧ Nx1 (upd H7 D (.lst (acc ++ [y]))) else Nx1 H6)
      else Pv (i + 1) H3) (hd : ∀ H, Pv n H → Qd H) :
    ∃ W : Nat → Nat → Hp → Prop, (∃ m, W 0 m (upd H1 D (.lst []))) ∧ ∀ i m H, W i m H →
      (J.stop i H ∧ Qd H) ∨ (J.go i H ∧ ∃ Nx : Hp → Prop, (∀ H', Nx H' → ∃ m', m' < m ∧ W (i + 1) m' H') ∧ ∀ x H', J.yld i H x H' → g x (wipe σ vs) H' fun σ2 H2 => wipe σ2 vs = wipe σ vs ∧ tt σ2 H2 fun b H3 =>
        if b = true then wi1 σ2 H3 fun J1 H4 => ∃ W1 : Nat → Nat → Hp → Prop, (∃ m, W1 0 m H4) ∧ ∀ j k H, W1 j k H →
          (J1.stop j H ∧ Nx H) ∨ (J1.go j H ∧ ∃ Nx1 : Hp → Prop, (∀ H', Nx1 H' → ∃ k', k' < k ∧ W1 (j + 1) k' H') ∧ ∀ x H', J1.yld j H x H' → g1 x (wipe σ2 vs1) H' fun σ3 H5 => wipe σ3 vs1 = wipe σ2 vs1 ∧ tt1 σ3 H5 fun b H6 =>
            if b = true then te σ3 H6 fun y H7 => ∃ acc, H7 D = some (.lst acc) ∧ acc.length < sizeLine ∧ Nx1 (upd H7 D (.lst (acc ++ [y]))) else Nx1 H6)
        else Nx H3) := by
  refine ⟨fun i m H => m = n - i ∧ i ≤ n ∧ Pv i H, ⟨n, by simp, Nat.zero_le _, h0⟩, ?_⟩
  rintro i m H ⟨rfl, hi, p⟩
  have q := hG i H hi p
  by_cases hlt : i < n
  · refine .inr ⟨w.goes i H hlt q, Pv (i + 1), fun H' p' => ⟨n - (i + 1), by omega, rfl, hlt, p'⟩, fun x H' y => hs i x H H' hlt p (w.yields i H x H' hlt q y)⟩
  · have e : i = n := by omega
    subst e
    exact .inl ⟨w.stops H q, hd H p⟩
/-- the rows of such a dict: key, where the list stands, its numbers -/
abbrev Row : Type := List L2.Key × Addr × List Int
def rowD (rs : List Row) : HO := .dT (rs.map fun r => (r.1, V.ref r.2.1))
def rowL (rs : List Row) : List (Addr × HO) := rs.map fun r => (r.2.1, HO.lst (r.2.2.map V.int))
theorem g_lc2R {rs : List Row} {a b c : Nat} (hab : a ≠ b) (hca : c ≠ a) (hcb : c ≠ b) (la : a < σ.length) (lb : b < σ.length) (S : Sy K F G H) {i : Nat} (hi : F[i]? = some (d, rowD rs)) (hr : ∀ r ∈ rs, (r.2.1, HO.lst (r.2.2.map V.int)) ∈ F) (nd : (rs.map (·.1)).Nodup)
    (hl : (rs.flatMap fun r => r.2.2).length < 100000) (hc : σ[c]? = some (some (.ref d)))
    (done : ∀ p H', Sy K ((p, .lst ((rs.flatMap fun r => r.2.2).map V.int)) :: F) G H' → Q (.ref p) H') :
    tLockE (tLc2 (iKeys (tVar c)) (gName a) tYes (iSeq K (tDGet (tVar c) (tVar a))) (gName b) tYes (tVar b) [a, b] [b]) σ H Q := by
  have mu : Mut (some (rowD rs)) := trivial
  refine ⟨d, rowD rs, S.at i hi, mu, fun od => ?_⟩
  have S1 := S.put (o' := .frz od (rowD rs)) i hi rfl
  have hil := (List.getElem?_eq_some_iff.mp hi).1
  have hFd : (F.set i (d, .frz od (rowD rs)))[i]? = some (d, .frz od (rowD rs)) := List.getElem?_set_self hil
  have hrow : ∀ r ∈ rs, (r.2.1, HO.lst (r.2.2.map V.int)) ∈ F.set i (d, .frz od (rowD rs)) := fun r hr' => by
    obtain ⟨j, hj⟩ := List.mem_iff_getElem?.mp (hr r hr')
    have hne : i ≠ j := fun e => by
      subst e
      rw [hi] at hj
      cases hj
    refine List.mem_of_getElem? (i := j) ?_
    rw [List.getElem?_set_ne hne]
    exact hj
  refine ⟨_, hc, d, od, rfl, .inr ⟨_, upd_same, fun D hD => ?_⟩⟩
  refine lc2_it (walk_keysT (d := d) (o := od)) (fun n H' => Sy K ((D, .lst (((rs.take n).flatMap fun r => r.2.2).map V.int)) :: F.set i (d, .frz od (rowD rs))) G H') (S1.push hD) (fun n H' _ S' => S'.at (i + 1) hFd) (fun n x H1 H2 hn S' y => ?_) fun H' S' => ?_
  · obtain ⟨rfl, k, v, q, hk, rfl, hq⟩ := y
    rw [List.getElem?_map] at hk
    obtain ⟨r, hr1, hr2⟩ := Option.map_eq_some_iff.mp hk
    obtain ⟨rfl, rfl⟩ := Prod.mk.inj hr2
    have hrm := List.mem_of_getElem? hr1
    have e1 : (wipe σ [a, b]).length = σ.length := wipe_length σ [a, b]
    have wc : (wipe σ [a, b])[c]? = some (some (.ref d)) := by rw [wipe_out (by simp [hca, hcb])]; exact hc
    show gName a (.ref q) (wipe σ [a, b]) H2 _
    show _ ∧ _
    refine ⟨?_, ?_⟩
    · simp only [wipe]
      apply List.ext_getElem?
      intro j
      simp only [List.getElem?_set, List.length_set]
      by_cases ja : a = j <;> by_cases jb : b = j <;> simp [ja, jb]
    refine g_tYes ?_
    refine g_T rfl ?_
    have c1 : ((wipe σ [a, b]).set a (some (.ref q)))[c]? = some (some (.ref d)) := by rw [List.getElem?_set_ne (Ne.symm hca)]; exact wc
    have a1 : ((wipe σ [a, b]).set a (some (.ref q)))[a]? = some (some (.ref q)) := List.getElem?_set_self (by rw [e1]; exact la)
    have vv : valV (rs.map fun r => (r.1, V.ref r.2.1)) r.1 = some (.ref r.2.1) := by
      clear hl done hr hrow hi hc hFd S S1 S' mu hD wc c1 a1 hn hq
      induction rs generalizing n with
      | nil => cases hrm
      | cons x rs ih =>
        rw [List.map_cons, List.nodup_cons] at nd
        rcases List.mem_cons.mp hrm with rfl | hm
        · exact valV_pos rfl
        · rw [List.map_cons, valV_neg (fun e => nd.1 (by rw [show x.1 = r.1 from e]; exact List.mem_map.mpr ⟨r, hm, rfl⟩))]
          obtain ⟨m, hm1⟩ := List.mem_iff_getElem?.mp hm
          exact ih nd.2 m hm1 (by rw [hm1]; rfl) hm
    show iSeq K (tDGet (tVar c) (tVar a)) _ H2 _
    refine ⟨_, c1, _, a1, d, .ref r.2.1, rfl, .inr ⟨_, r.1, q, .inr ⟨od, S'.at (i + 1) hFd⟩, rfl, hq, vv.symm⟩, r.2.1, rfl, .inl ⟨⟨r.2.2.map V.int, ?_⟩, ?_⟩⟩
    · exact .inl (.inl (S'.st _ (List.mem_cons_of_mem _ (hrow r hrm))))
    · have hpre : (rs.take (n + 1)).flatMap (fun r => r.2.2) = (rs.take n).flatMap (fun r => r.2.2) ++ r.2.2 := by
        rw [List.take_succ, hr1, List.flatMap_append]
        simp
      have hle : ((rs.take (n + 1)).flatMap fun r => r.2.2).length ≤ (rs.flatMap fun r => r.2.2).length := by
        have : rs.flatMap (fun r => r.2.2) = (rs.take (n + 1)).flatMap (fun r => r.2.2) ++ (rs.drop (n + 1)).flatMap (fun r => r.2.2) := by rw [← List.flatMap_append, List.take_append_drop]
        rw [this, List.length_append]
        omega
      refine ⟨fun j k H' => k = r.2.2.length - j ∧ j ≤ r.2.2.length ∧ Sy K ((D, .lst (((rs.take n).flatMap (fun r => r.2.2) ++ r.2.2.take j).map V.int)) :: F.set i (d, .frz od (rowD rs))) G H', ⟨_, rfl, Nat.zero_le _, by rw [List.take_zero, List.append_nil]; exact S'⟩, ?_⟩
      rintro j k H' ⟨rfl, hj, S2⟩
      have hL : SqL K H' r.2.1 (r.2.2.map V.int) := .inl (.inl (S2.st _ (List.mem_cons_of_mem _ (hrow r hrm))))
      by_cases hlt : j < r.2.2.length
      · refine .inr ⟨⟨_, V.int (r.2.2[j]), hL, by rw [List.getElem?_map, List.getElem?_eq_getElem hlt]; rfl⟩, fun H5 => Sy K ((D, .lst (((rs.take n).flatMap (fun r => r.2.2) ++ r.2.2.take (j + 1)).map V.int)) :: F.set i (d, .frz od (rowD rs))) G H5, fun H5 S5 => ⟨_, by omega, rfl, hlt, S5⟩, fun x H5 y => ?_⟩
        obtain ⟨rfl, y⟩ := y
        have hx := y _ hL
        rw [List.getElem?_map, List.getElem?_eq_getElem hlt] at hx
        obtain rfl : V.int r.2.2[j] = x := Option.some.inj hx
        show _ ∧ _
        refine ⟨?_, ?_⟩
        · simp only [wipe]
          apply List.ext_getElem?
          intro z
          simp only [List.getElem?_set, List.length_set]
          by_cases jb : b = z <;> simp [jb]
        refine g_tYes ?_
        refine g_T rfl ?_
        refine ⟨_, List.getElem?_set_self ?_, _, S2.at 0 rfl, ?_, ?_⟩
        · show b < (((wipe σ [a, b]).set a (some (V.ref q))).set b none).length
          rw [List.length_set, List.length_set, e1]
          exact lb
        · rw [List.length_map, List.length_append, List.length_take]
          have := congrArg List.length hpre
          rw [List.length_append] at this
          have h3 : 100000 ≤ sizeLine := by decide
          omega
        · have S3 := S2.put (o' := .lst (((rs.take n).flatMap (fun r => r.2.2) ++ r.2.2.take j).map V.int ++ [V.int r.2.2[j]])) 0 rfl rfl
          have e5 : ((rs.take n).flatMap (fun r => r.2.2) ++ r.2.2.take (j + 1)).map V.int = ((rs.take n).flatMap (fun r => r.2.2) ++ r.2.2.take j).map V.int ++ [V.int r.2.2[j]] := by
            rw [List.take_succ, List.getElem?_eq_getElem hlt, ← List.append_assoc, List.map_append (l₂ := (some r.2.2[j]).toList)]
            rfl
          rw [e5]
          exact S3
      · have e : j = r.2.2.length := by omega
        subst e
        refine .inl ⟨⟨_, hL, by rw [List.length_map]; exact Nat.le_refl _⟩, ?_⟩
        rw [List.take_of_length_le (Nat.le_refl _), ← hpre] at S2
        exact S2
  · rw [List.length_map, List.take_of_length_le (Nat.le_refl _)] at S'
    obtain ⟨e1, S2⟩ := S'.unlock hi rfl
    exact ⟨e1, done D _ S2⟩
end
end OB

set_option Elab.async false
set_option linter.all false
set_option maxRecDepth 100000
set_option maxHeartbeats 4000000
/-! OB, part y: texts gone through, cut, joined, read as numbers; list.remove of whole numbers. -/
namespace OB
open PySem PySem.Spec PyProof.Rows L2 PySem.W
def tx (l : List Nat) : Str := ⟨l.toArray⟩
theorem tx_cps (l : List Nat) : (tx l).cps.toList = l := rfl
theorem tx_len (l : List Nat) : (tx l).length = l.length := by simp [tx, Str.length]
theorem tx_of (z : Str) : tx z.cps.toList = z := by simp [tx]
theorem tx_append (l m : List Nat) : tx l ++ tx m = tx (l ++ m) := by
  refine Str.ext' ?_
  show l.toArray ++ m.toArray = (l ++ m).toArray
  simp
theorem tx_inj {l m : List Nat} (h : tx l = tx m) : l = m := by
  have := congrArg (fun z : Str => z.cps.toList) h
  simpa [tx] using this
theorem sIx_nat {n k d : Nat} (h : k ≤ n) : HT.sIx n d (some (k : Int)) = k := by
  unfold HT.sIx
  show (if (k : Int) < 0 then ((k : Int) + (n : Int)).toNat else min (k : Int).toNat n) = k
  rw [if_neg (by omega)]
  omega
theorem cut_take (l : List Nat) (k : Nat) (h : k ≤ l.length) : cutS (tx l) none (some (k : Int)) = tx (l.take k) := by
  unfold cutS
  rw [tx_len, sIx_nat h, show HT.sIx l.length 0 none = 0 from rfl, tx_cps, List.drop_zero, Nat.sub_zero]
  rfl
theorem cut_drop (l : List Nat) (k : Nat) (h : k ≤ l.length) : cutS (tx l) (some (k : Int)) none = tx (l.drop k) := by
  unfold cutS
  rw [tx_len, sIx_nat h, show HT.sIx l.length l.length none = l.length from rfl, tx_cps, List.take_of_length_le (by rw [List.length_drop]; exact Nat.le_refl _)]
  rfl
section
variable {K : Frag} {F : List (Addr × HO)} {G : List Ft} {σ : L2.St} {H : Hp} {Q : VK} {D : Ends} {g : TG} {tt : TT} {te : TE} {own : List Nat}
/-- a comprehension over a text -/
theorem g_lcStr {tl : TE} {l : List Nat} (I : Nat → List (Addr × HO) → List PyData → Prop) (S : Sy K F G H) (ht : ∀ Q' : VK, Q' (.str (tx l)) H → tl σ H Q') (h0 : I 0 F [])
    (hl : ∀ i F ds, I i F ds → ds.length < 100000)
    (turn : ∀ i c, l[i]? = some c → Turn1 K G I σ own g tt te i (.str (tx [c])))
    (done : ∀ Dp H' F' vs ds, H Dp = none → I l.length F' ds → Sy K ((Dp, .lst vs) :: F') (.dat vs ds :: G) H' → Q (.ref Dp) H') : tLc (iStr tl) g tt te own σ H Q := by
  refine ht _ ⟨tx l, rfl, fun Dp hD => ?_⟩
  have e : (tx l).cps.size = l.length := tx_len l
  refine lc_it (walk_str (z := tx l)) (LcP K G I Dp) (lcp_start S h0 hD) (fun i H' _ p => trivial) (fun i x H1 H2 hi p y => ?_) fun H' p => ?_
  · obtain ⟨rfl, c, hc, rfl⟩ := y
    rw [← Array.getElem?_toList, tx_cps] at hc
    exact lcp_turn hl (turn i c hc) p
  · rw [e] at p
    obtain ⟨F', vs, ds, hi, S'⟩ := p
    exact done Dp H' F' vs ds hD hi S'
/-! z[i], z[i:j], z + y -/
theorem g_ixS {l : List Nat} {i : Int} {c : Nat} (h : atI l i = some c) (hl : l.length ≤ 100000) (k : Q (.str (tx [c])) H) : rIxU K (.str (tx l)) (.int i) H Q :=
  .inr (.inr (.inr ⟨tx l, i, c, rfl, rfl, by rw [tx_len]; exact Nat.le_trans hl (by decide), h, k⟩))
theorem g_slS {l : List Nat} {lo hi : Option Int} (hl : l.length ≤ 100000) (k : Q (.str (cutS (tx l) lo hi)) H) : rSlS (.str (tx l)) lo hi H Q := ⟨tx l, rfl, by rw [tx_len]; exact Nat.le_trans hl (by decide), k⟩
theorem g_catS {l m : List Nat} (h : l.length + m.length ≤ 100000) (k : Q (.str (tx (l ++ m))) H) : rCatS (.str (tx l)) (.str (tx m)) H Q :=
  ⟨tx l, tx m, rfl, rfl, by rw [tx_len, tx_len]; exact Nat.le_trans h (by decide), by rw [tx_append]; exact k⟩
theorem g_lenS {l : List Nat} (k : Q (.int (l.length : Nat)) H) (r : rLen K [.str (tx l)] H Q) : rLen K [.str (tx l)] H Q := r
end
/-! int(z) -/
def rIntS : List V → Hp → VK → Prop := fun xs H Q => ∃ a n, xs = [.str a] ∧ PySem.intText? a = some n ∧ a.length ≤ 640 ∧ Q (.int n) H
theorem c_intS {X : Cx} : CallR X (.type "int") rIntS := call_int_str
/-! l.remove(k) -/
def rRemI (x : V) (xs : List V) (H : Hp) (Q : VK) : Prop := ∃ (l : Addr) (ns : List Int) (k : Int), x = .ref l ∧ xs = [.int k] ∧ H l = some (.lst (ns.map V.int)) ∧ k ∈ ns ∧ Q .non (upd H l (.lst ((ns.erase k).map V.int)))
theorem mt_remI {X : Cx} : MtR X "list.remove" rRemI := by
  intro pins s σ H x xs v us Q I rx rxs h
  obtain ⟨l, ns, k, rfl, rfl, hH, hk, qy⟩ := h
  cases rx
  obtain ⟨u, rfl, ry⟩ := rxs.one
  obtain ⟨t, rfl⟩ := (show ∃ t, u = Value.int k t from ry)
  obtain ⟨z, its, n, r, hl, e0⟩ := I.lstM hH
  have hi : IntsAre its ns := intsAre_of r
  have heq := eq_isInt k t hi
  have hnl : ns.length = its.length := by rw [← hl, List.length_map]
  have hsz : its.toArray.size ≤ sizeLine := by rw [List.size_toArray, ← hl]; exact z
  obtain ⟨j, j1, j2, j3, j4⟩ := first_at hk
  have hj : j < its.length := by omega
  refine call_meets PySem.F.slot_list_remove ⟨_, e0, rfl⟩ PySem.F.entry_list_remove (PySem.F.args_list_remove_2 _ _)
    (MeetsSeq.list_remove l its.toArray n (.int k t) (isInt k) (fun y hy => heq y (by simpa using hy)) j (by rw [List.size_toArray]; exact hj) ?hit (fun i hi2 hlt => ?hno) hsz) ⟨e0, ?_⟩
  case hit =>
    show isInt k its[j] = true
    exact (L2.isInt_at k hi j hj).mpr j2
  case hno =>
    have hi3 : i < its.length := by rw [List.size_toArray] at hi2; exact hi2
    show isInt k its[i] = false
    rw [Bool.eq_false_iff]
    intro w
    exact j3 i hlt ((L2.isInt_at k hi i hi3).mp w)
  have r2 : Vals ((ns.erase k).map V.int) (its.eraseIdx j) := by
    have w := r.eraseIdx j
    rw [map_eraseIdx', j4] at w
    exact w
  refine ⟨.non, _, I.lset (its' := its.eraseIdx j) hH e0 ?_ r2 ?_, rfl, qy⟩
  · show its.toArray.eraseIdxIfInBounds j = (its.eraseIdx j).toArray
    rw [List.eraseIdxIfInBounds_toArray]
  · rw [List.length_map]
    have := List.length_erase_le (a := k) (l := ns)
    rw [List.length_map] at z
    omega
theorem g_remI {K : Frag} {F : List (Addr × HO)} {G : List Ft} {H : Hp} {Q : VK} {l : Addr} {ns : List Int} {k : Int} {i : Nat} (S : Sy K F G H) (h : F[i]? = some (l, .lst (ns.map V.int))) (hk : k ∈ ns) (q : ∀ H', Sy K (F.set i (l, .lst ((ns.erase k).map V.int))) G H' → Q .non H') : rRemI (.ref l) [.int k] H Q :=
  ⟨l, ns, k, rfl, rfl, S.at i h, hk, q _ (S.put i h rfl)⟩
theorem RG.hu1 {k : Nat} {A : Around} (g : RG k A) : A.units + 1 < cLine := by
  have := g.hu64
  omega
/-! sorted -/
section
variable {K : Frag} {F : List (Addr × HO)} {G : List Ft} {H : Hp} {Q : VK} {l : Addr} {xs : List V} {ds : List PyData}
theorem g_sortD (S : Sy K F G H) (h : SqL K H l xs) (hd : DpAll K H xs ds) (m : immAll ds = true) (ha : AllAlike ds) (hk : PySem.W.Sortable ds) (hdp : ∀ d ∈ ds, d.depth ≤ 50) (hl : ds.length ≤ 100000)
    (k : ∀ p H' ys, Sy K ((p, .lst ys) :: F) (.dat ys (ds.mergeSort (dataLe false id)) :: G) H' → Q (.ref p) H') : rSortD K [.ref l] H Q := by
  have lx := dps_length hd
  refine ⟨l, xs, ds, rfl, h, hd, ha, hk, hdp, by omega, fun p hp => k p _ (((xs.zip ds).mergeSort (dataLe false Prod.snd)).map Prod.fst) ?_⟩
  have em : (xs.zip ds).map Prod.snd = ds := List.map_snd_zip (by omega)
  have e1 : ((xs.zip ds).mergeSort (dataLe false Prod.snd)).map Prod.snd = ds.mergeSort (dataLe false id) := by
    have := sort_maps (r := dataLe false (Prod.snd : V × PyData → PyData)) (s := dataLe false (id : PyData → PyData)) Prod.snd (l := xs.zip ds) (fun a _ b _ => rfl)
    rw [this, em]
  refine (S.push hp).fact (dps_keep (Tx.new hp) _ _ ?_ ?_) ?_
  · rw [← e1]
    refine immAll_of fun d hd2 => immAll_mem m d ?_
    obtain ⟨b, hb, rfl⟩ := List.mem_map.mp hd2
    rw [← em]
    exact List.mem_map.mpr ⟨b, (List.mergeSort_perm _ _).mem_iff.mp hb, rfl⟩
  · rw [← e1]
    have key : ∀ bs : List (V × PyData), (∀ b ∈ bs, Dp K H b.1 b.2) → DpAll K H (bs.map Prod.fst) (bs.map Prod.snd) := fun bs => by
      induction bs with
      | nil => exact fun _ => .nil
      | cons b bs ih => exact fun hb => .cons (hb b (List.mem_cons_self ..)) (ih fun c hc => hb c (List.mem_cons_of_mem _ hc))
    refine key _ fun b hb => ?_
    have hz : ∀ {xs : List V} {ds : List PyData}, DpAll K H xs ds → ∀ b ∈ xs.zip ds, Dp K H b.1 b.2 := fun {xs} => by
      induction xs with
      | nil => intro ds _ b hb; cases hb
      | cons x xs ih =>
        intro ds hd b hb
        cases hd with
        | cons h1 h2 =>
          rcases List.mem_cons.mp hb with rfl | hb
          · exact h1
          · exact ih h2 b hb
    exact hz hd b ((List.mergeSort_perm _ _).mem_iff.mp hb)
  · rw [← e1]
    refine immAll_of fun d hd2 => immAll_mem m d ?_
    obtain ⟨b, hb, rfl⟩ := List.mem_map.mp hd2
    rw [← em]
    exact List.mem_map.mpr ⟨b, (List.mergeSort_perm _ _).mem_iff.mp hb, rfl⟩
end
end OB

set_option Elab.async false
set_option linter.all false
set_option maxRecDepth 100000
set_option maxHeartbeats 4000000
/-! OB, part z: sorted of tuples of which the first one is (). -/
namespace PySem.SeqAt
theorem ob_call_tuple_lt {s : Shared} {A : Around} {prog : Program} {w : World} {E : Value → Shared → Prop} {Q : Value → Shared → Prop} {l b : Addr} {items items2 : Array Value} {e r : Nat → Bool} (hl : s.heap.IsTuple l items) (hb : s.heap.IsTuple b items2)
    (he : ∀ j (h1 : j < items.size) (h2 : j < items2.size), EqAt A.in1 s items[j] items2[j] (e j)) (hr : ∀ j (h1 : j < items.size) (h2 : j < items2.size), e j = false → RcLt A.in1 s items[j] items2[j] (r j))
    (h : Q (.bool (firstLt e r (decide (items.size < items2.size)) (List.range (min items.size items2.size)))) s) : wpAny (model prog w) A (call (.builtin "tuple.__lt__") [.ref l, .ref b]) Q E s := by
  obtain ⟨⟨cls, dd, data, sl⟩, ho, hc, n, hd⟩ := id hl
  obtain ⟨⟨cls2, dd2, data2, sl2⟩, ho2, hc2, n2, hd2⟩ := id hb
  simp only at hc hd hc2 hd2
  subst hc hd hc2 hd2
  exact call_meets F.slot_tuple_lt ⟨_, ho, rfl⟩ F.entry_tuple_lt (F.args_tuple_lt_2 _ _) (tuple_ltAt l b items items2 n n2 dd dd2 sl sl2 e r) ⟨ho, ho2, he, hr, h⟩
end PySem.SeqAt
namespace PySem.W
open PySem PySem.Calls PyProof.Rows PySem.SeqAt
section
variable {prog : Program} {w : World} {A : Around} {E : Value → Shared → Prop} {s : Shared}
theorem ob_oneLt_tup {xs ys : List PyData} {a b : Value} {as bs : List Addr} {Q : Bool → Shared → Prop} (ra : Reads s.heap a (.tuple xs) as) (rb : Reads s.heap b (.tuple ys) bs) (hal : alikeAll xs ys = true)
    (hu : A.units + min (PyData.tuple xs).depth (PyData.tuple ys).depth < cLine) (hq : Q (dataLt (.tuple xs) (.tuple ys)) s) : wpAny (model prog w) A (oneLt' true a b) Q E s := by
  cases ra with
  | @tuple l o vs n _ as₁ h1 h2 h3 h4 =>
    cases rb with
    | @tuple l' o' vs' n' _ bs₁ k1 k2 k3 k4 =>
      have n1 : vs.size = xs.length := by simpa using SeqAt.ReadsAll.length _ _ _ h4
      have n2 : vs'.size = ys.length := by simpa using SeqAt.ReadsAll.length _ _ _ k4
      rw [dataLt_tuple, ← firstLt_toks xs ys hal, ← n1, ← n2] at hq
      rw [oneLt'_eq]
      simp only [if_true]
      refine wpAny_bind (wpAny_cRoomFor (room_here hu) ?_)
      refine wpAny_bind (wpAny_callSpecialIfBound?_slot (T := "tuple") ⟨_, h1, h2⟩ F.slot_tuple_lt (ob_call_tuple_lt (e := pairEq xs ys) (r := fun j => dataLt (xs.getD j .none) (ys.getD j .none)) ⟨_, h1, h2, _, h3⟩ ⟨_, k1, k2, _, k3⟩ (fun j j1 j2 => ?_) (fun j j1 j2 hj => ?_) ?_))
      · have := eqAt_alikeAll xs ys A.in1 s vs.toList vs'.toList _ _ h4 k4 hal (room_in hu) j (by simpa using j1) (by simpa using j2)
        simpa using this
      · have := rcLt_alikeAll xs ys A.in1 s vs.toList vs'.toList _ _ h4 k4 hal (room_in hu) j (by simpa using j1) (by simpa using j2) hj
        simpa using this
      · exact wpAny_truthy_bool hq
/-- all tuples, the first one empty -/
def Sortable0 (ds : List PyData) : Prop := ∃ rest, ds = .tuple [] :: rest ∧ ∀ d ∈ rest, ∃ xs, d = .tuple xs
end
section
variable {M : Model} {A : Around} {E : Value → Shared → Prop} {s : Shared}
theorem ob_mapM0 : ∀ (l : List Value) {Q : List (Option Value) → Shared → Prop}, (∀ v ∈ l, ∃ d as, Reads s.heap v (.tuple d) as) → (∀ rs : List (Option Value), rs.length = l.length → Q rs s) → wpAny M A (l.mapM firstOfTuple') Q E s
  | [], _, _, h => by rw [List.mapM_nil]; exact wpAny_pure (h [] rfl)
  | x :: l, Q, hf, h => by
    rw [List.mapM_cons, kas_first_eq]
    obtain ⟨d, as, r⟩ := hf x (List.mem_cons_self ..)
    refine wpAny_bind ?_
    cases r with
    | @tuple a o xs n _ _ ho hc hd hr =>
      refine wpAny_bind (Looks.here (show Looks M s.heap (typeOf (.ref a)) o.cls from (Looks.ld ho).andThen .now) ?_)
      rw [hc, if_neg (by first | decide | simp)]
      refine wpAny_bind (listItems_at ho hd (wpAny_pure ?_))
      exact wpAny_bind (ob_mapM0 l (Q := fun bs s' => wpAny M A (pure (xs[0]? :: bs)) Q E s') (fun v hv => hf v (List.mem_cons_of_mem _ hv)) fun rs hrs => wpAny_pure (h _ (by rw [List.length_cons, hrs]; rfl)))
theorem ob_kind0 {v0 : Value} {vs : List Value} {as0 : List Addr} {Q : SortKind → Shared → Prop} (h0 : Reads s.heap v0 (.tuple []) as0) (hv : ∀ v ∈ vs, ∃ d as, Reads s.heap v (.tuple d) as) (h : Q oneType' s) : wpAny M A (keyKind' (v0 :: vs).toArray) Q E s := by
  rw [keyKind'_eq, List.mapM_toArray, map_eq_pure_bind]
  refine wpAny_bind (wpAny_bind ?_)
  rw [List.mapM_cons, kas_first_eq]
  have hT : ∀ v ∈ v0 :: vs, Looks M s.heap (typeOf v) (.type "tuple") := fun v hm => by
    rcases List.mem_cons.mp hm with rfl | hm
    · exact looks_reads h0
    · obtain ⟨d, as, r⟩ := hv v hm
      exact looks_reads r
  refine wpAny_bind ?_
  cases h0 with
  | @tuple a o xs n _ _ ho hc hd hr =>
    refine wpAny_bind (Looks.here (show Looks M s.heap (typeOf (.ref a)) o.cls from (Looks.ld ho).andThen .now) ?_)
    rw [hc, if_neg (by first | decide | simp)]
    refine wpAny_bind (listItems_at ho hd (wpAny_pure ?_))
    have hx : xs[0]? = none := by
      have : xs.toList = [] := by
        cases q : xs.toList with
        | nil => rfl
        | cons x r => rw [q] at hr; cases hr
      rw [← Array.getElem?_toList, this]
      rfl
    rw [hx]
    refine wpAny_bind (ob_mapM0 vs hv fun rs hrs => wpAny_pure (wpAny_pure ?_))
    rw [if_neg (by simp), if_neg (by simp)]
    rw [oneTypeOnly'_eq, List.mapM_toArray, map_eq_pure_bind]
    refine wpAny_bind (wpAny_bind (wpAny_bind (kas_mapM (r := Value.type "tuple") _ (fun v hv Q' hq => (hT v hv).here hq) (wpAny_pure ?_))))
    have hall : ((List.map (fun _ => Value.type "tuple") (Value.ref a :: vs)).toArray.all fun x => x == Value.type "tuple") = true := by
      simp only [List.all_toArray, List.all_map, List.all_eq_true]
      intro _ _
      exact beq_self_eq_true _
    have h1 : (List.map (fun _ => Value.type "tuple") (Value.ref a :: vs)).toArray[0]? = some (Value.type "tuple") := by simp
    rw [h1]
    simp only [hall, if_true]
    exact wpAny_pure (wpAny_pure h)
end
section
variable {prog : Program} {w : World} {A : Around} {E : Value → Shared → Prop} {s : Shared}
theorem SortsAt.data0 {vs : List Value} {ds : List PyData} (e : EachIs (fun v d => ∃ as, Reads s.heap v d as) vs ds) (hal : AllAlike ds) (hk : Sortable0 ds) (hu : ∀ d, d ∈ ds → A.units + d.depth < cLine) : SortsAt prog w A s (dataKind s.heap ds) vs := by
  have room : ∀ {d d' : PyData}, d ∈ ds → A.units + min d.depth d'.depth < cLine := fun {d d'} hd => Nat.lt_of_le_of_lt (Nat.add_le_add_left (Nat.min_le_left _ _) _) (hu d hd)
  obtain ⟨rest, rfl, ht⟩ := hk
  have ht2 : ∀ d ∈ PyData.tuple [] :: rest, ∃ xs, d = .tuple xs := fun d hd => by
    rcases List.mem_cons.mp hd with rfl | hd
    · exact ⟨[], rfl⟩
    · exact ht d hd
  refine ⟨fun v hv => ?_, oneType', ?_, fun h2 E Q hq => ?_⟩
  · obtain ⟨d, hd, as, r⟩ := e.left v hv
    exact ⟨_, dataKind_some hal hd r⟩
  · intro E x y a b Q ha hb hq
    obtain ⟨d, as, hd, ra, rfl⟩ := dataKind_inv ha
    obtain ⟨d', as', hd', rb, rfl⟩ := dataKind_inv hb
    rw [keyLt'_oneType]
    have hdd := hal d hd d' hd'
    have hroom := room (d' := d') hd
    obtain ⟨xs, rfl⟩ := ht2 d hd
    obtain ⟨ys, rfl⟩ := ht2 d' hd'
    exact ob_oneLt_tup ra rb (by simpa [alike] using hdd) hroom hq
  · cases e with
    | cons r0 t =>
      obtain ⟨as0, r0⟩ := r0
      refine ob_kind0 r0 (fun v hv => ?_) hq
      obtain ⟨d, hd, as, r⟩ := t.left v hv
      obtain ⟨xs, rfl⟩ := ht d hd
      exact ⟨xs, as, r⟩
theorem sorted_data0 {β : Type} {vs : List Value} {bs : List β} {enc : β → PyData} {R : Value → β → Prop} {l : Addr} {Q : Value → Shared → Prop} (hl : s.heap.IsList l vs.toArray) (e : EachIs R vs bs) (er : EachIs (fun v b => ∃ as, Reads s.heap v (enc b) as) vs bs) (hal : AllAlike (bs.map enc)) (hk : Sortable0 (bs.map enc)) (hL : bs.length ≤ sizeLine)
    (hu : ∀ b, b ∈ bs → A.units + 2 + (enc b).depth < cLine) (h : ∀ out, out.length = bs.length → EachIs R out (bs.mergeSort (dataLe false enc)) → Q (.ref (s.heap.objs.size + 1)) { s with heap := sortedAll s.heap vs (List.toArray out) }) :
    wpAny (model prog w) A (call (.builtin "sorted") [.ref l]) Q E s := by
  have er' : EachIs (fun v b => ∃ as, Reads (sortingHeap (copyHeap s.heap vs) (s.heap.objs.size + 1) vs) v (enc b) as) vs bs := er.mono fun _ _ ⟨as, r⟩ => ⟨as, PyProof.Rows.Reads.keeps (fun _ _ => sorting_copy_old) r⟩
  exact sorted_vals hl (SortsAt.data0 (s := { s with heap := sortingHeap (copyHeap s.heap vs) (s.heap.objs.size + 1) vs }) (each_map (R := fun v d => ∃ as, Reads (sortingHeap (copyHeap s.heap vs) (s.heap.objs.size + 1) vs) v d as) enc er') hal hk (bound_map hu)) (by rw [e.length]; exact hL)
    (h _ (by rw [sortVals_length false rfl]; exact e.length) (sortVals_data false e er' hal))
end
end PySem.W
namespace OB
open PySem PySem.Spec PyProof.Rows L2 PySem.W
/-- sorted of a list of data: of a kind, tuples with the first one empty as well -/
def rSortE (K : Frag) : List V → Hp → VK → Prop := fun vs H Q => ∃ a xs ds, vs = [.ref a] ∧ SqL K H a xs ∧ DpAll K H xs ds ∧ AllAlike ds ∧ (PySem.W.Sortable ds ∨ Sortable0 ds) ∧ (∀ d ∈ ds, d.depth ≤ 50) ∧ xs.length ≤ 100000 ∧
  ∀ p, H p = none → Q (.ref p) (upd H p (.lst (((xs.zip ds).mergeSort (dataLe false Prod.snd)).map Prod.fst)))
section
variable {X : Cx}
theorem c_sortE (hu : X.A.units + 64 < cLine) : CallR X (.builtin "sorted") (rSortE X.K) := by
  intro pins s σ H vs us Q I r h
  obtain ⟨a, xs, ds, rfl, hs, hd, ha, hk, hdp, hl, q⟩ := h
  rcases hk with hk | hk
  · exact c_sortD hu pins s σ H _ us Q I r ⟨a, xs, ds, rfl, hs, hd, ha, hk, hdp, hl, q⟩
  rw [Vals.ref1 r]
  obtain ⟨its, rv, pl, _⟩ := I.list hs
  obtain ⟨as, hr⟩ := Dp.readsAll I ds xs its hd rv
  have e0 : EachIs (fun v b => ∃ as, Reads s.heap v b as) its ds := readsAll_each (enc := id) (by rw [List.map_id]; exact hr)
  obtain ⟨e1, e2⟩ := eachs_zip rv e0
  have lx : xs.length = ds.length := dps_length hd
  have em : (xs.zip ds).map Prod.snd = ds := List.map_snd_zip (by omega)
  have lz : (xs.zip ds).length = xs.length := by rw [List.length_zip, lx, Nat.min_self]
  refine sorted_data0 (bs := xs.zip ds) (enc := Prod.snd) (R := fun v b => RelV b.1 v) pl.isList e1 e2 (by rw [em]; exact ha) (by rw [em]; exact hk) (by rw [lz]; exact Nat.le_trans hl (by decide)) (fun b hb => ?_) fun out ho eo => ?_
  · have := hdp b.2 (by rw [← em]; exact List.mem_map.mpr ⟨b, hb, rfl⟩)
    omega
  · have rv2 := eachs_vals eo
    obtain ⟨c, hc⟩ := sortedAll_at s.heap its (List.toArray out)
    refine ⟨.ref (s.heap.objs.size + 1), _, I.laid (t' := s.toks) (a := s.heap.objs.size + 1) (o := .lst (((xs.zip ds).mergeSort (dataLe false Prod.snd)).map Prod.fst)) (fun _ _ => sortedAll_old) (Nat.le_succ _) ?_, rfl, q _ (I.hok.fresh (Nat.le_succ _))⟩
    refine ⟨?_, out, c, rv2, hc⟩
    rw [List.length_map, List.length_mergeSort, lz]
    exact Nat.le_trans hl (by decide)
end
end OB

set_option Elab.async false
set_option linter.all false
set_option maxRecDepth 100000
set_option maxHeartbeats 4000000
/-! OB, part za: defs that raise own errors with values, and try .. except D as n around a call of one. -/
namespace OB
open PySem PySem.Spec PyProof.Rows L2 PySem.W
section
variable {P : Program} {w : World} {K : PySem.W.Frag} {mg : Str → Option Value} {base : Heap} {f : Addr} {fd : FuncData} {ps : List Str} {sp : Sp}
/-- a def of the text that may raise -/
theorem Fun.fgX {x qual : Str} {st : Stmt} {N : List Str} {k : Nat} (F : Fun K x qual st f fd) (S : FnScope N ps (defScope st)) (len : ∀ vs H Q E, sp vs H Q E → vs.length = ps.length)
    (hbody : ∀ (cdv : Value) (A : Around) (out : List Env) (s : Shared) (H : Hp) (vs : List V) (Q : VK) (E : XK), RG k (A.deeper (envOfC qual (defScope st) s.heap.objs.size f cdv)) → sp vs H Q E →
      ∃ t, PSs (cxOf (L2.CX P w) P w K mg base N qual (defScope st) f cdv A out s H E) (defBody st) t ∧ t { nx := fun _ H' => Q .non H', rt := Q } (start N vs) H) : FG P w K mg base (L2.CX P w) (k + 1) f fd ps sp := by
  obtain ⟨oc, od, kV, doc, pm, an, cdv, ct, osl, rfl, lk, hcd⟩ := F.ex
  exact fg_of lk hcd S len fun A out s H vs Q E g hsp => hbody cdv A out s H vs Q E g hsp
end
/-! ### a call in a try's body -/
def tCgS (n m : Nat) (ix : List Nat) (sp : Sp) (E : L2.St → XK) (t tk : TA) : TE := fun σ H Q => t σ H fun vs H1 => tk σ H1 fun zs H2 => vs.length = n ∧ zs.length = m ∧ sp (pick ix (vs ++ zs)) H2 Q (E σ)
theorem g_cgS {σ : L2.St} {H : Hp} {Q : VK} {n m : Nat} {ix : List Nat} {sp : Sp} {E : L2.St → XK} {t tk : TA} (k : t σ H fun vs H1 => tk σ H1 fun zs H2 => vs.length = n ∧ zs.length = m ∧ sp (pick ix (vs ++ zs)) H2 Q (E σ)) : tCgS n m ix sp E t tk σ H Q := k
section
variable {X : Cx} {CX : CXT} {k n : Nat} {f C : Addr} {fd : FuncData} {ps ks : List Str} {ix : List Nat} {sp : Sp} {E : L2.St → XK} {x : Str} {p pos : Pos} {e : Expr} {es : List Expr} {kws : List Keyword} {t tk : TA}
theorem run_gS {pins : List (Addr × Obj)} {σ : L2.St} {H : Hp} {s : Shared} {Q : VK} {us ws : List Value} {vs zs : List V} (F : FG X.prog X.w X.K X.mg X.base CX k f fd ps sp) (g : RG k X.A) (hb : Bd X.K fd ps n ks ix) (hx : PassesAt CX X σ (E σ))
    (I : Inv X pins σ H s) (r : Vals vs us) (rz : Vals zs ws) (l1 : vs.length = n) (l2 : zs.length = ks.length) (h : sp (pick ix (vs ++ zs)) H Q (E σ)) :
    wpAny (model X.prog X.w) X.A (call (.ref f) us (ks.zip ws)) (EP X pins σ Q) X.xe s := by
  refine wpAny_call (codeAny_mono (F.go X.A X.stack s H ⟨us, ks.zip ws⟩ (pick ix (us ++ ws)) (pick ix (vs ++ zs)) Q (E σ) g I.env0 (.of_eq (hb.to us ws (r.length.symm.trans l1) (rz.length.symm.trans l2))) (vals_pick (r.append rz) ix) h) fun r s' hq => ?_)
  match r, hq with
  | .error e, hq => exact hx pins H s e s' I hq
  | .ok (.ret u), hq => exact I.after hq
  | .ok .next, hq => exact False.elim hq
  | .ok .brk, hq => exact False.elim hq
  | .ok .cont, hq => exact False.elim hq
theorem pe_cgS (F : FG X.prog X.w X.K X.mg X.base CX k f fd ps sp) (g : RG k X.A) (hg : Gl X x) (hm : X.mg x = some (.ref f)) (hk : PySem.W.keepIn X.K (.ref f) = true) (hb : Bd X.K fd ps n ks ix) (hx : ∀ σ, PassesAt CX X σ (E σ))
    (ha : PA X (e :: es) t) (hkw : PK X kws tk) (hall : (backToKw pos (keywordEach kws X.env)).all (·.1.isSome) = true := by rfl) (hks : (backToKw pos (keywordEach kws X.env)).filterMap (·.1) = ks := by rfl)
    (hdb : (x == ("__debug__" : Str)) = false := by decide) (he : starEach (e :: es) X.env = (false, eval e X.env) :: starEach es X.env := by rfl)
    (hpl : ((backTo pos (starEach (e :: es) X.env)).any (·.1) || (backToKw pos (keywordEach kws X.env)).any (·.1.isNone)) = false := by rfl) : PE X (.Call (.Name x p) (e :: es) kws pos) (tCgS n ks.length ix sp E t tk) := by
  refine ⟨fun pins s σ H Q I h => wpAny_Call_Name_kw (ld_glob I hg hm ?_ hdb)⟩
  refine PySem.W.callWith_KW (h₀ := X.base) I.ok.mod.kin hk hall (thn (ha.run pos pins s σ H _ I h) fun us s1 ⟨vs, H1, I1, r, q⟩ => ?_) hpl he
  refine thn (hkw.run pos pins s1 σ H1 _ I1 q) fun ws s2 ⟨zs, H2, I2, rz, l1, l2, q2⟩ => ⟨I2.kIn, ?_⟩
  rw [hks]
  exact run_gS F g hb (hx σ) I2 r rz l1 l2 q2
theorem pe_cgS0 (F : FG X.prog X.w X.K X.mg X.base CX k f fd ps sp) (g : RG k X.A) (hg : Gl X x) (hm : X.mg x = some (.ref f)) (hk : PySem.W.keepIn X.K (.ref f) = true) (hb : Bd X.K fd ps 0 ks ix) (hx : ∀ σ, PassesAt CX X σ (E σ))
    (hkw : PK X kws tk) (hall : (backToKw pos (keywordEach kws X.env)).all (·.1.isSome) = true := by rfl) (hks : (backToKw pos (keywordEach kws X.env)).filterMap (·.1) = ks := by rfl)
    (hdb : (x == ("__debug__" : Str)) = false := by decide)
    (hpl : ((backTo pos (starEach [] X.env)).any (·.1) || (backToKw pos (keywordEach kws X.env)).any (·.1.isNone)) = false := by rfl) : PE X (.Call (.Name x p) [] kws pos) (tCgS 0 ks.length ix sp E tNil tk) := by
  refine ⟨fun pins s σ H Q I h => wpAny_Call_Name_kw (ld_glob I hg hm ?_ hdb)⟩
  refine PySem.W.callWith_KW0 (h₀ := X.base) I.ok.mod.kin hk hall ?_ hpl
  refine thn (hkw.run pos pins s σ H _ I h) fun ws s2 ⟨zs, H2, I2, rz, l1, l2, q2⟩ => ⟨I2.kIn, ?_⟩
  rw [hks]
  exact run_gS (us := []) (vs := []) F g hb (hx σ) I2 .nil rz l1 l2 q2
end
/-! ### what an except suite asks of the error -/
/-- room and no guard around, a handled error or none -/
structure RH (A : Around) : Prop where
  un : A.units + 200 < cLine
  gd : A.guards = some []
theorem RG.rh {k : Nat} {A : Around} (g : RG k A) : RH A := ⟨by have := g.rm.un; omega, g.gd⟩
theorem RH.suite {A : Around} (g : RH A) (e : Option Value) : RH (A.mark e) := ⟨g.un, g.gd⟩
section
variable {X : Cx}
theorem call_reprH (g : RH X.A) : CallR X (.builtin "repr") (rRepr X.K) := by
  intro pins s σ H xs us Q I r h
  obtain ⟨v, d, rfl, hd, hs, hn, hdep, hsz, q⟩ := h
  obtain ⟨u, rfl, ru⟩ := vals1 r
  have hun := g.un
  obtain ⟨as, rd⟩ := Dp.reads I d v u hd ru
  cases hd with
  | non =>
    cases ru
    exact PySem.P.repr_of_none ⟨.str _, H, I.tok _, ⟨_, rfl⟩, q⟩
  | bl b =>
    cases ru
    exact PySem.P.repr_of_bool ⟨.str _, H, I.tok _, ⟨_, rfl⟩, q⟩
  | int i =>
    obtain ⟨t, rfl⟩ := ru
    exact PySem.P.repr_of_int (of_decide_eq_true hs) ⟨.str _, H, I.tok _, ⟨_, rfl⟩, q⟩
  | str x =>
    obtain ⟨t, rfl⟩ := ru
    exact PySem.P.repr_of_str ⟨.str _, H, I.tok _, ⟨_, rfl⟩, q⟩ hsz
  | lst h1 h2 =>
    cases ru
    exact repr_of_reads' rd hs (PyData.noDict_hsm hn) g.gd (by omega) (fun _ _ e => e) (fun h' u tk hk => ⟨.str _, H, I.kept hk, ⟨_, rfl⟩, q⟩) hsz
  | tup h1 h2 =>
    cases ru
    exact repr_of_reads' rd hs (PyData.noDict_hsm hn) g.gd (by omega) (fun _ _ e => e) (fun h' u tk hk => ⟨.str _, H, I.kept hk, ⟨_, rfl⟩, q⟩) hsz
end
/-- error.f, whatever class of ours the error is of -/
def tXg (K : Frag) (a : Addr) (cls : Value) (d : Option Addr) (f : Str) (te : TE) : TE := fun σ H Q => te σ H fun x H1 => x = .ref a ∧ ∃ (C dd : Addr) (fs : List (Str × V)) (v : V), cls = .ref C ∧ XfC K C ∧ findIn K (.ref C) f = some none ∧ d = some dd ∧ H1 dd = some (.xd fs) ∧ fs.lookup f = some v ∧ Q v H1
/-- isinstance(error, c) -/
def rIsG (K : Frag) (a : Addr) (cls : Value) (d : Option Addr) : List V → Hp → VK → Prop := fun xs H Q => ∃ (C dd : Addr) (fs : List (Str × V)) (c : V) (cv : Value) (b : Bool), xs = [.ref a, c] ∧ cls = .ref C ∧ ExcC K C ∧ ClsV c cv ∧ d = some dd ∧ H dd = some (.xd fs) ∧ fs.lookup ("__class__" : Str) = none ∧ kitOne K (.ref C) cv = some b ∧ Q (.bl b) H
section
variable {X : Cx} {a : Addr} {oe : Obj} {cls : Value} {d : Option Addr} {pn : List (Addr × Obj)} {e : Expr} {te : TE} {pos : Pos} {n : Str}
theorem pe_xg (hz : Zc cls d oe) (hf : ∃ vs, oe.data = .fields vs) (he : PE (X.suite a ((a, oe) :: pn)) e te) (hb : attributeBase e n X.env (eval e X.env) = eval e X.env := by rfl) :
    PE (X.suite a ((a, oe) :: pn)) (.Attribute e n pos) (tXg X.K a cls d n te) := by
  refine ⟨fun pins s σ H Q I h => ?_⟩
  refine attr_of hb (thn (he.run pins s σ H _ I h) fun u s1 hh => ?_)
  obtain ⟨x, H1, I1, rx, ex, C, dd, fs, v, ec, T, hno, ed, ea, l, q⟩ := hh
  subst ex
  obtain rfl : u = Value.ref a := rx
  subst ec
  subst ed
  obtain ⟨ha, _⟩ := I1.pin (a, oe) (List.mem_append_left _ List.mem_cons_self)
  obtain ⟨vs, hd⟩ := hf
  have hx : ObjOk X.prog X.w H1 s1.heap dd (.xd fs) := I1.hok dd _ ea
  obtain ⟨mA, hns, hr⟩ := hx
  obtain ⟨od, ho, hl⟩ := lookIn_ns hns
  obtain ⟨u, hu, ru⟩ := RelO.some_of (v := v) (o := mA n) (by rw [← l]; exact hr n)
  have J : PySem.W.InstAt s1.heap a oe C (some od) := ⟨ha, hz.1, by unfold PySem.W.notCls; rw [hd] <;> rfl, by rw [hz.2]; exact ho⟩
  exact HandSPX.exc_get I1.kIn J T.ga T.gg T.exC (PySem.W.findObj_own T.hdC hno rfl (by rw [hl, hu])) (handed_of ru) ⟨v, H1, I1.tok _, ru, q⟩
theorem call_isG (hz : Zc cls d oe) (hf : ∃ vs, oe.data = .fields vs) : CallR (X.suite a ((a, oe) :: pn)) (.builtin "isinstance") (rIsG X.K a cls d) := by
  intro pins s σ H xs us Q I r h
  obtain ⟨C, dd, fs, c, cv, b, rfl, ec, T, hc, ed, ea, hl, e, q⟩ := h
  subst ec
  subst ed
  obtain ⟨u1, u2, rfl, r1, r2⟩ := vals2 r
  obtain rfl : u2 = cv := hc.eq r2
  obtain rfl : u1 = Value.ref a := r1
  obtain ⟨ha, _⟩ := I.pin (a, oe) (List.mem_append_left _ List.mem_cons_self)
  obtain ⟨vs, hd⟩ := hf
  have hx : ObjOk X.prog X.w H s.heap dd (.xd fs) := I.hok dd _ ea
  obtain ⟨mA, hns, rel⟩ := hx
  obtain ⟨od, ho, hl2⟩ := lookIn_ns hns
  obtain ⟨cdD, hcD, _⟩ := any_some T.hd
  have J : InstAt s.heap a oe C (some od) := ⟨ha, hz.1, by unfold PySem.W.notCls; rw [hd] <;> rfl, by rw [hz.2]; exact ho⟩
  exact kia_one (kitx_exc (by rw [hcD]; rfl) T.hg T.hk T.hs T.ha T.hn T.ht T.hm) I.kIn J e (fun z => nomatch z) fun tk => ⟨.bl b, H, I.tok tk, rfl, q⟩
end
/-- the except clause names the first class of errors -/
theorem ErrC.exm {K : Frag} {D I C : Addr} (hD : ErrC K D I D) (hC : ErrC K D I C) : exmOne K (.ref C) (.ref D) = some true :=
  exm_ref hD.er.ox.exC hD.xf.hdC hD.er.ox.tyC hC.er.sub
end OB

set_option Elab.async false
set_option linter.all false
set_option maxRecDepth 100000
set_option maxHeartbeats 4000000
/-! OB, part zb: steps met in the laws of the chapter match. -/
namespace OB
open PySem PySem.Spec PyProof.Rows L2 PySem.W
section
variable {K : Frag}
theorem g_tydT {P : Prop} {H : Hp} {d : Addr} {kvs : List (List L2.Key × V)} (h : H d = some (.dT kvs)) (k : P) : tyV K "dict" (.ref d) H ∧ P := ⟨.inr (.inr (.inl ⟨rfl, .inr ⟨_, h⟩⟩)), k⟩
theorem valV_some {rows : List OB.Row} {k : List L2.Key} {v : V} (h : valV (rows.map fun r => (r.1, V.ref r.2.1)) k = some v) : ∃ (j : Nat) (p : Addr) (l : List Int), rows[j]? = some (k, p, l) ∧ v = .ref p := by
  induction rows with
  | nil => cases h
  | cons r rows ih =>
    rw [List.map_cons] at h
    by_cases c : r.1 = k
    · rw [valV_pos c] at h
      exact ⟨0, r.2.1, r.2.2, by rw [← c]; rfl, (Option.some.inj h).symm⟩
    · rw [valV_neg c] at h
      obtain ⟨j, p, l, h1, h2⟩ := ih h
      exact ⟨j + 1, p, l, h1, h2⟩
theorem valV_none {rows : List OB.Row} {k : List L2.Key} (h : valV (rows.map fun r => (r.1, V.ref r.2.1)) k = none) : ∀ r ∈ rows, r.1 ≠ k := by
  induction rows with
  | nil => exact fun _ h => (nomatch h)
  | cons r rows ih =>
    rw [List.map_cons] at h
    by_cases c : r.1 = k
    · rw [valV_pos c] at h
      cases h
    · rw [valV_neg c] at h
      intro s hs
      rcases List.mem_cons.mp hs with rfl | hs
      · exact c
      · exact ih h s hs
theorem Sy.cut {F : List (Addr × HO)} {x : Ft} {L G : List Ft} {H : Hp} (S : Sy K F (x :: (L ++ G)) H) : Sy K F (x :: G) H := Sy.facts S fun g hg => by
  rcases List.mem_cons.mp hg with rfl | hg
  · exact List.mem_cons_self ..
  · exact List.mem_cons_of_mem _ (List.mem_append_right _ hg)
theorem imm3 {a b c : List PyData} (h1 : immAll a = true) (h2 : immAll b = true) (h3 : immAll c = true) : immAll [.tuple a, .tuple b, .tuple c] = true := by
  show (immAll a && (immAll b && (immAll c && true))) = true
  rw [h1, h2, h3]
  rfl
theorem alike_ints (l : List Int) : AllAlike (l.map PyData.int) := fun d hd e he => by
  obtain ⟨x, _, rfl⟩ := List.mem_map.mp hd
  obtain ⟨y, _, rfl⟩ := List.mem_map.mp he
  rfl
theorem sortable_ints (l : List Int) : PySem.W.Sortable (l.map PyData.int) := Sortable.others (enc := PyData.int) (bs := l) fun b => ⟨fun z => PyData.noConfusion z, fun xs z => PyData.noConfusion z⟩
theorem dataLe_int (a b : Int) : dataLe false id (PyData.int a) (PyData.int b) = decide (a ≤ b) := by
  show (!dataLt (.int b) (.int a)) = _
  rw [show dataLt (.int b) (.int a) = decide (b < a) from by rw [show dataLt (.int b) (.int a) = itemLt (.inl b) (.inl a) from lex_one _ _]; rfl]
  by_cases h : b < a
  · rw [decide_eq_true h, decide_eq_false (by omega)]
    rfl
  · rw [decide_eq_false h, decide_eq_true (by omega)]
    rfl
theorem sort_ints (l : List Int) : (l.map PyData.int).mergeSort (dataLe false id) = (l.mergeSort fun a b => decide (a ≤ b)).map PyData.int :=
  (sort_maps PyData.int fun a _ b _ => (dataLe_int a b).symm).symm
theorem ints_imm (l : List Int) : immAll (l.map PyData.int) = true := immAll_of fun x hx => by
  obtain ⟨s, _, rfl⟩ := List.mem_map.mp hx
  rfl
theorem dps_intsV {H : Hp} {vs : List V} {ns : List Int} (h : DpAll K H vs (ns.map PyData.int)) : vs = ns.map V.int := by
  rw [dps_scal h fun d hd => by
    obtain ⟨s, _, rfl⟩ := List.mem_map.mp hd
    rfl, List.map_map]
  rfl
theorem g_lcIC {σ : L2.St} {H : Hp} {Q : VK} {g : TG} {td te : TE} {tt : TT} {own : List Nat} (k : td σ H fun x H1 => tLc (iItemsT (tFrz (tC x))) g tt te own σ H1 Q) : tLc (iItemsT (tFrz td)) g tt te own σ H Q := k
theorem op_eqDK {X : Cx} {K : Frag} (h : X.K = K) (hu : X.A.units + 64 < cLine) : OpR X (compareOp .Eq) (rEqD K) := h ▸ op_eqD hu
theorem erase_cast (l : List Nat) (x : Nat) : (l.map fun i : Nat => (i : Int)).erase (x : Int) = (l.erase x).map fun i : Nat => (i : Int) := by
  induction l with
  | nil => rfl
  | cons y l ih =>
    by_cases h : y = x
    · subst h
      rw [List.map_cons, List.erase_cons_head, List.erase_cons_head]
    · rw [List.map_cons, List.erase_cons_tail (by simp; omega), ih, List.erase_cons_tail (by simp [h]), List.map_cons]
theorem op_catS {X : Cx} : OpR X (binaryOp .Add) rCatS := op_add_str
theorem tx_ne {c d : Nat} : decide (tx [c] ≠ tx [d]) = !decide (c = d) := by
  by_cases h : c = d
  · subst h
    simp
  · have : tx [c] ≠ tx [d] := fun e => h (by simpa using tx_inj e)
    simp [this, h]
theorem log2_small {n : Nat} (h : n < 18446744073709551616) : n.log2 < 1920 := by
  by_cases h0 : n = 0
  · subst h0
    decide
  · exact Nat.lt_trans ((Nat.log2_lt h0).mpr (show n < 2 ^ 64 from h)) (by decide)
theorem g_eqB {b c : Bool} {H : Hp} {Q : VK} (k : Q (.bl (decide (b = c))) H) : rEq (.bl b) (.bl c) H Q := ⟨rfl, by
  have e : decide (V.bl b = V.bl c) = decide (b = c) := by simp
  rw [e]
  exact k⟩
theorem g_andS {F : List (Addr × HO)} {G : List Ft} {σ : L2.St} {H : Hp} {Q : VK} {sm d : Bool} {t : TE} (S : Sy K F G H) (ht : ∀ Q' : VK, (∀ H', Sy K F G H' → Q' (.bl d) H') → t σ H Q') (k : ∀ H', Sy K F G H' → Q (.bl (sm && d)) H') : if sm = true then t σ H Q else Q (.bl false) H := by
  cases sm with
  | true =>
    rw [if_pos rfl]
    exact ht _ fun H' S' => by have := k H' S'; rwa [Bool.true_and] at this
  | false =>
    rw [if_neg (by decide)]
    exact k H S
theorem g_orS {F : List (Addr × HO)} {G : List Ft} {σ : L2.St} {H : Hp} {Q : VK} {sm d : Bool} {t : TE} (S : Sy K F G H) (ht : ∀ Q' : VK, (∀ H', Sy K F G H' → Q' (.bl d) H') → t σ H Q') (k : ∀ H', Sy K F G H' → Q (.bl (sm || d)) H') : if sm = true then Q (.bl true) H else t σ H Q := by
  cases sm with
  | true =>
    rw [if_pos rfl]
    exact k H S
  | false =>
    rw [if_neg (by decide)]
    exact ht _ fun H' S' => by have := k H' S'; rwa [Bool.false_or] at this
theorem g_truD {H : Hp} {p : Addr} {ds : List PyData} {QB : Bool → Hp → Prop} (h : L2.Dp K H (.ref p) (.tuple ds)) (k : QB (!ds.isEmpty) H) : rTruK K (.ref p) H QB := by
  obtain ⟨a, xs, e, h1, h2⟩ := dp_tuple h
  cases e
  refine ⟨_, .inr (.inl ⟨xs, h1, rfl⟩), ?_⟩
  have e : xs.isEmpty = ds.isEmpty := by
    cases h2 <;> rfl
  rw [e]
  exact k
theorem viaS {t : TS} {D : Ends} {σ : L2.St} {H : Hp} (R : L2.St → Hp → Prop) (h : ∀ (N : L2.St → Hp → Prop) (A : VK) (B C : L2.St → Hp → Prop), (∀ σ' H', R σ' H' → N σ' H') → t ⟨N, A, B, C⟩ σ H) (c : ∀ σ' H', R σ' H' → D.nx σ' H') : t D σ H := h D.nx D.rt D.bk D.ct c
theorem atIfS {t : TT} {t1 t2 : TS} {D : Ends} {σ : L2.St} {H : Hp} (h : tIfS t t1 t2 D σ H) : tIfS t t1 t2 D σ H := h
theorem via {t : TE} {σ : L2.St} {H : Hp} {Q : VK} (R : V → Hp → Prop) (h : ∀ Q : VK, (∀ v H', R v H' → Q v H') → t σ H Q) (c : ∀ v H', R v H' → Q v H') : t σ H Q := h Q c
theorem atIf {t : TT} {ta tb : TE} {σ : L2.St} {H : Hp} {Q : VK} (h : tIf t ta tb σ H Q) : tIf t ta tb σ H Q := h
theorem atNewT {xs : List V} {H : Hp} {Q : VK} (h : rNewT xs H Q) : rNewT xs H Q := h
theorem g_newTt {F : List (Addr × HO)} {G : List Ft} {H : Hp} {Q : VK} {vs : List V} (S : Sy K F G H) (hl : vs.length ≤ 100000) (k : ∀ p H', Sy K F (.tt [(p, vs)] :: G) H' → Q (.ref p) H') : rNewT vs H Q :=
  ⟨Nat.le_trans hl (by decide), fun p hp => k p _ ((S.over hp).add (.tt [(p, vs)]) fun q hq => by rcases List.mem_singleton.mp hq with rfl; exact upd_same)⟩
theorem seqIx_nn {r : Int} {n : Nat} (h0 : 0 ≤ r) (h1 : r < n) : seqIndex? r n = some r.toNat := by
  unfold seqIndex?
  first
    | (rw [if_pos (by omega)]; simp; done)
    | (simp; omega)
theorem g_popA {F : List (Addr × HO)} {G : List Ft} {H : Hp} {Q : VK} {l : Addr} {f : Nat} {x : V} {xs : List V} {r : Int} (S : Sy K F G H) (h : F[f]? = some (l, .lst xs)) (hx : xs[r.toNat]? = some x) (h0 : 0 ≤ r) (h1 : r < xs.length) (hl : xs.length ≤ 100000) (k : ∀ H', Sy K (F.set f (l, .lst (xs.eraseIdx r.toNat))) G H' → Q x H') : rPopAt (.ref l) [.int r] H Q := by
  exact ⟨l, xs, r, r.toNat, x, rfl, rfl, S.at f h, by omega, by omega, seqIx_nn h0 h1, hx, k _ (S.put f h rfl)⟩
theorem eraseIdx_perm {α : Type} {l : List α} {i : Nat} (h : i < l.length) : ([l[i]] ++ l.eraseIdx i).Perm l := by
  induction l generalizing i with
  | nil => cases h
  | cons x l ih =>
    cases i with
    | zero => exact .refl _
    | succ i =>
      have h2 : i < l.length := Nat.lt_of_succ_lt_succ h
      have := ih h2
      exact (List.Perm.swap x (l[i]'h2) _).trans (this.cons x)
theorem g_tupA {F : List (Addr × HO)} {G : List Ft} {H : Hp} {Q : VK} {l : Addr} {vs : List V} (S : Sy K F G H) (h : SqL K H l vs) (k : ∀ t H', Sy K F (.tq t vs :: G) H' → Q (.ref t) H') : rTuple K [.ref l] H Q :=
  ⟨l, vs, rfl, .inl ⟨h, fun p hp => k p _ ((S.over hp).add (.tq p vs) (.inl (.inl upd_same)))⟩⟩
theorem perm_map {α β : Type} (f : α → β) {ys zs : List β} (h : ys.Perm zs) : ∀ l : List α, zs = l.map f → ∃ l' : List α, l'.Perm l ∧ ys = l'.map f := by
  induction h with
  | nil =>
    intro l e
    exact ⟨l, .refl _, e⟩
  | cons x h ih =>
    intro l e
    cases l with
    | nil => cases e
    | cons a l =>
      rw [List.map_cons] at e
      obtain ⟨rfl, e2⟩ := List.cons.inj e
      obtain ⟨l', p, e3⟩ := ih l e2
      exact ⟨a :: l', p.cons a, by rw [e3]; rfl⟩
  | swap x y l0 =>
    intro l e
    match l, e with
    | a :: b :: l, e =>
      rw [List.map_cons, List.map_cons] at e
      obtain ⟨rfl, e2⟩ := List.cons.inj e
      obtain ⟨rfl, rfl⟩ := List.cons.inj e2
      exact ⟨b :: a :: l, List.Perm.swap _ _ _, rfl⟩
  | trans h1 h2 ih1 ih2 =>
    intro l e
    obtain ⟨l1, p1, e1⟩ := ih2 l e
    obtain ⟨l2, p2, e2⟩ := ih1 l1 e1
    exact ⟨l2, p2.trans p1, e2⟩
theorem rglc3_of {n : Nat} {F : List (Addr × HO)} {G : List Ft} {σ : L2.St} {H : Hp} {Q : VK} {own : List Nat} {g : TG} {tt : TT} {te : TE} (I : Nat → List (Addr × HO) → List V → List Ft → Prop) (S : Sy K F G H) (h0 : I 0 F [] G) (hl : ∀ i F vs G, I i F vs G → vs.length < 100000)
    (turn : ∀ i, i < n → ∀ (Dp : Addr) (H : Hp) (F : List (Addr × HO)) (G : List Ft) (vs : List V) (QE : VK) (QR : Hp → Prop), I i F vs G → Sy K ((Dp, .lst vs) :: F) G H →
      (∀ y F' G' H', I (i + 1) F' (vs ++ [y]) G' → Sy K ((Dp, .lst vs) :: F') G' H' → QE y H') →
      g (.int (0 + i)) (wipe σ own) H fun σ2 H2 => wipe σ2 own = wipe σ own ∧ tt σ2 H2 fun b H3 => if b = true then te σ2 H3 QE else QR H3)
    (done : ∀ Dp H' F' G' vs, H Dp = none → I n F' vs G' → Sy K ((Dp, .lst vs) :: F') G' H' → Q (.ref Dp) H') : RgLc K g tt te own σ Q n H := fun Dp hD => by
  refine lc_range (lo := 0) (n := n) (fun i H' => ∃ F' vs G', I i F' vs G' ∧ Sy K ((Dp, .lst vs) :: F') G' H') ⟨F, [], G, h0, S.push hD⟩ (fun i H' hi ⟨F', vs, G', hI, S'⟩ => ?_) fun H' ⟨F', vs, G', hI, S'⟩ => done Dp H' F' G' vs hD hI S'
  refine turn i hi Dp H' F' G' vs _ _ hI S' fun y F2 G2 H2 hI2 S2 => ?_
  have lt := hl _ _ _ _ hI2
  rw [List.length_append] at lt
  exact ⟨vs, S2.at 0 rfl, Nat.lt_of_lt_of_le (by omega) (show 100000 ≤ sizeLine by decide), F2, vs ++ [y], G2, hI2, S2.put (o' := .lst (vs ++ [y])) 0 rfl rfl⟩
theorem SmallL.len {n k m : Nat} {xs : List PyData} (h : ∀ x ∈ xs, Small n k x) (hl : xs.length ≤ m) : SmallL ((n + 2) * m) k xs := (SmallL.all h).mono (Nat.mul_le_mul_left _ hl) (Nat.le_refl _)
theorem nodup_sub {α : Type} [DecidableEq α] : ∀ {L M : List α}, L.Nodup → (∀ x ∈ L, x ∈ M) → L.length ≤ M.length
  | [], _, _, _ => Nat.zero_le _
  | x :: L, M, nd, h => by
    rw [List.nodup_cons] at nd
    have hx := h x (List.mem_cons_self ..)
    have ih := nodup_sub (L := L) (M := M.erase x) nd.2 fun y hy => by
      have hne : y ≠ x := fun e => nd.1 (e ▸ hy)
      exact (List.mem_erase_of_ne hne).mpr (h y (List.mem_cons_of_mem _ hy))
    rw [List.length_erase_of_mem hx] at ih
    have := List.length_pos_of_mem hx
    rw [List.length_cons]
    omega
theorem isKeys_len {H : Hp} : ∀ {kvs : List (List L2.Key × V)} {bs : List Addr}, IsKeys H kvs bs → bs.length = kvs.length
  | [], [], .nil => rfl
  | _ :: _, _ :: _, .cons h t => by rw [List.length_cons, List.length_cons, isKeys_len t]
theorem g_tDGet {σ : L2.St} {td ty : TE} (k : td σ H fun x H1 => ty σ H1 fun y H2 => rDGet x y H2 Q) : tDGet td ty σ H Q := k
theorem g_filtI {σ : L2.St} {H : Hp} {Q : VK} {F : List (Addr × HO)} {G : List Ft} {tl te : TE} {tt : TT} {own : List Nat} {z j : Nat} {a : Addr} {ns : List Int} (f : Int → Bool) (S : Sy K F G H) (hF : F[j]? = some (a, .lst (ns.map V.int))) (hl : ns.length < 1000) (ht : ∀ Q' : VK, Q' (.ref a) H → tl σ H Q')
    (turn : ∀ (x : Int) (H : Hp) (QE : VK) (QR : Hp → Prop), (f x = true → QE (.int x) H) → (f x = false → QR H) → gName z (.int x) (wipe σ own) H fun σ2 H2 => wipe σ2 own = wipe σ own ∧ tt σ2 H2 fun b H3 => if b = true then te σ2 H3 QE else QR H3)
    (k : ∀ p H', Sy K ((p, .lst ((ns.filter f).map V.int)) :: F) G H' → Q (.ref p) H') : tLc (iSeq K tl) (gName z) tt te own σ H Q := by
  have hn : (ns.map V.int).length = ns.length := List.length_map ..
  refine g_lcS (a := a) (xs := ns.map V.int) true (fun i F' ds => F' = F ∧ ds = ((ns.take i).filter f).map PyData.int ∧ i ≤ ns.length) S ht ⟨rfl, rfl, Nat.zero_le _⟩ (fun i F' ds H' hi S4 => by
      rw [hi.1] at S4
      exact SqL.of (S4.at j hF)) (fun i F' ds hi => by
      rw [hi.2.1, List.length_map]
      refine Nat.lt_of_le_of_lt (List.length_filter_le _ _) ?_
      rw [List.length_take]
      omega) ?_ ?_
  · intro i x hx Dq H4 F2 zs ds QE QR hi S4 kE kR
    obtain ⟨rfl, rfl, hi2⟩ := hi
    rw [List.getElem?_map] at hx
    obtain ⟨n, hn2, rfl⟩ := Option.map_eq_some_iff.mp hx
    have hi3 := (List.getElem?_eq_some_iff.mp hn2).1
    have st : (ns.take (i + 1)).filter f = (ns.take i).filter f ++ if f n = true then [n] else [] := by
      rw [List.take_succ, List.filter_append, hn2]
      by_cases h : f n = true <;> simp [h]
    refine turn n H4 QE QR (fun h => ?_) fun h => ?_
    · refine kE _ (.int n) _ _ ⟨rfl, ?_, hi3⟩ (S4.fact (dps_one (.int _)) rfl)
      rw [st, if_pos h, List.map_append]
      rfl
    · refine kR _ _ ⟨rfl, ?_, hi3⟩ S4
      rw [st, if_neg (by rw [h]; decide), List.append_nil]
  · rintro Dq H4 F2 zs ds hD ⟨rfl, rfl, _⟩ S4
    rw [hn, List.take_of_length_le (Nat.le_refl _)] at S4
    have hv := dps_intsV (S4.dps 0 rfl)
    subst hv
    exact k _ _ S4.drop
theorem atForR {ta : TA} {g : TG} {tb : TS} {D : Ends} {σ : L2.St} {H : Hp} (h : tFor (iRng1 ta) g tb D σ H) : tFor (iRng1 ta) g tb D σ H := h
end
end OB

set_option Elab.async false
set_option linter.all false
set_option maxRecDepth 100000
set_option maxHeartbeats 4000000
/-! OB, part zc: setdefault and get of dicts with whole numbers as keys; starred items. -/
namespace OB
open PySem PySem.Spec PyProof.Rows L2 PySem.W
def rSetdK (x : V) (xs : List V) (H : Hp) (Q : VK) : Prop := ∃ a kvs k z, x = .ref a ∧ xs = [kV k, z] ∧ H a = some (.dK kvs) ∧ kvs.length < sizeLine ∧ (∀ v, valV kvs k = some v → Q v H) ∧ (valV kvs k = none → Q z (upd H a (.dK (putK kvs k z))))
def rGetK (x : V) (xs : List V) (H : Hp) (Q : VK) : Prop := ∃ a kvs k z, x = .ref a ∧ xs = [kV k, z] ∧ Rd H a (.dK kvs) ∧ Q ((valV kvs k).getD z) H
section
variable {X : Cx}
theorem mt_setdK (hu : X.A.units + 1 < cLine) : MtR X "dict.setdefault" rSetdK := by
  intro pins s σ H x xs v us Q I rx rxs h
  obtain ⟨a, kvs, k, z, rfl, rfl, e, hl, h1, h2⟩ := h
  cases rx
  obtain ⟨u0, u1, rfl, r0, r1⟩ : ∃ u0 u1, us = [u0, u1] ∧ RelV (kV k) u0 ∧ RelV z u1 := by
    cases rxs with
    | cons r0 t =>
      cases t with
      | cons r1 t => cases t; exact ⟨_, _, rfl, r0, r1⟩
  exact d_setd I e r0 r1 hl (fun v hv w' s4 I4 rw' => ⟨v, _, I4, rw', h1 v hv⟩) fun hn w' s4 I4 rw' => ⟨z, _, I4, rw', h2 hn⟩
theorem mt_getK (hu : X.A.units + 1 < cLine) : MtR X "dict.get" rGetK := by
  intro pins s σ H x xs v us Q I rx rxs h
  obtain ⟨a, kvs, k, z, rfl, rfl, e, q⟩ := h
  cases rx
  obtain ⟨u0, u1, rfl, r0, r1⟩ : ∃ u0 u1, us = [u0, u1] ∧ RelV (kV k) u0 ∧ RelV z u1 := by
    cases rxs with
    | cons r0 t =>
      cases t with
      | cons r1 t => cases t; exact ⟨_, _, rfl, r0, r1⟩
  exact d_get2 hu I (y := kV k) (o := valV kvs k) (.inl ⟨kvs, k, e, rfl, rfl⟩) r0 r1 fun w' s3 I3 rw' => ⟨_, H, I3, rw', q⟩
end
theorem pa_starK {X : Cx} {K : Frag} {e : Expr} {es : List Expr} {te : TE} {t : TA} {p : Pos} (h : X.K = K) (he : PE X e te) (hr : PA X es t) (hs : starEach (.Starred e p :: es) X.env = (true, eval e X.env) :: starEach es X.env := by rfl) : PA X (.Starred e p :: es) (StX.tStar K te t) := h ▸ StX.pa_star he hr hs
section
variable {K : Frag} {F : List (Addr × HO)} {G : List Ft} {σ : L2.St} {H : Hp} {Q : VK} {d : Addr} {kvs : List (Key × V)} {n : Int} {i : Nat} {v z : V}
theorem g_setdK (S : Sy K F G H) (h : F[i]? = some (d, .dK kvs)) (hl : kvs.length < 100000) (h1 : ∀ v, valV kvs (.inl n) = some v → Q v H)
    (h2 : ∀ H', valV kvs (.inl n) = none → Sy K (F.set i (d, .dK (kvs ++ [(.inl n, z)]))) G H' → Q z H') : rSetdK (.ref d) [.int n, z] H Q :=
  ⟨d, kvs, .inl n, z, rfl, rfl, S.at i h, Nat.lt_of_lt_of_le hl (by decide), h1, fun hn => h2 _ hn (by have := S.put (o' := .dK (putK kvs (.inl n) z)) i h rfl; rw [putK_new z hn] at this ⊢; exact this)⟩
theorem g_getK (h : Rd H d (.dK kvs)) (q : Q ((valV kvs (.inl n)).getD z) H) : rGetK (.ref d) [.int n, z] H Q := ⟨d, kvs, .inl n, z, rfl, rfl, h, q⟩
theorem g_starL {te : TE} {t : TA} {QL : List V → Hp → Prop} (k : te σ H fun x H1 => (fun x H1 => ∃ p xs, x = V.ref p ∧ (SqT K H1 p xs ∨ SqL K H1 p xs) ∧ t σ H1 fun ys H2 => QL (xs ++ ys) H2) x H1) : StX.tStar K te t σ H QL := k
theorem g_stL {p : Addr} {xs : List V} {f : List V → Prop} (h : SqL K H p xs) (k : f xs) : ∃ q zs, V.ref p = V.ref q ∧ (SqT K H q zs ∨ SqL K H q zs) ∧ f zs := ⟨p, xs, rfl, .inr h, k⟩
theorem g_stT {p : Addr} {xs : List V} {f : List V → Prop} (h : SqT K H p xs) (k : f xs) : ∃ q zs, V.ref p = V.ref q ∧ (SqT K H q zs ∨ SqL K H q zs) ∧ f zs := ⟨p, xs, rfl, .inl h, k⟩
/-- for over range(a, b) -/
theorem g_dnewK (k : ∀ p, H p = none → Q (.ref p) (upd H p (.dK []))) : tDNewK σ H Q := k
end
end OB

set_option Elab.async false
set_option linter.all false
set_option maxRecDepth 100000
set_option maxHeartbeats 4000000
/-! OB, part zd: raise C(value) in a def that may raise; parts without errors lifted; sorted of lots. -/
namespace OB
open PySem PySem.Spec PyProof.Rows L2 PySem.W
section
variable {X : Cx} {st : Stmt} {t : TS}
theorem ps_noxL (h : PS X.nox st t) : PS X st t := ⟨fun pins s σ H D I hw =>
  wpAny_mono (h.run pins s σ H D (I.wish _) hw) (fun _ _ q => q.unwish) fun _ _ z => False.elim z⟩
end
/-- raise C(value) -/
def rRz (C : Addr) (E : XK) (sp : Sp) (vs : List V) (H1 : Hp) : Prop := vs.length ≤ 1000 ∧ ∀ a, H1 a = none → sp (.ref a :: (vs ++ [])) (upd H1 a (exo a C none))
  (fun v H2 => v = .non ∧ ∃ (d : Addr) (fs : List (Str × V)), H2 a = some (exo a C (some d)) ∧ H2 d = some (exd d fs) ∧ H1 d = none ∧ E (.ref C) (some d) (upd (del H2 a) d (.xd fs))) (fun _ _ _ => False)
def tRz (C : Addr) (E : XK) (sp : Sp) (ta : TA) : TS := fun _ σ H => ta σ H fun vs H1 => rRz C E sp vs H1
section
variable {X : Cx} {CX : CXT} {x : Str} {C fI : Addr} {k : Nat} {fd : FuncData} {sp : Sp} {E : XK} {e : Expr} {es : List Expr} {ta : TA} {p pos pos' : Pos}
theorem ps_rz (hc : X.calm = true) (tk : Takes X (fun cls d _ H => E cls d H)) (T : OexC X.K C) (iC : findIn X.K (.ref C) "__init__" = some (some (.ref fI))) (tI : typeIn X.K (.ref fI) = some (.type "function"))
    (F1 : FnOk X.prog X.w X.K X.mg X.base CX k fI fd ["self", "value"] sp) (hr : Room (k + 1) X.A) (hb : L2.Binds X.K fd ["self", "value"] []) (hx : Passes CX X fun _ _ _ => False) (hg : Gl X x) (hm : X.mg x = some (.ref C)) (ha : PA X (e :: es) ta)
    (hdb : (x == ("__debug__" : Str)) = false := by decide) (he : starEach (e :: es) X.env = (false, eval e X.env) :: starEach es X.env := by rfl) (hpl : (backTo pos (starEach es X.env)).any (·.1) = false := by rfl) :
    PS X (.Raise (some (.Call (.Name x p) (e :: es) [] pos)) none pos') (tRz C E sp ta) :=
  ps_raise hc tk (pmk_oex T iC tI F1 hr hb .nil hx hg hm ha hdb he hpl)
end
section
variable {K : Frag} {D I C : Addr} {E : XK} {sp : Sp} {ta : TA} {σ : L2.St} {H : Hp} {De : Ends} {y : V}
theorem g_rz (k : ta σ H fun vs H1 => rRz C E sp vs H1) : tRz C E sp ta De σ H := k
theorem g_rzE (hC : ErrC K D I C) (k : ∀ d, H d = none → E (.ref C) (some d) (upd H d (.xd [("value", y)]))) : rRz C E (sp_einit K D) [y] H := by
  refine ⟨Nat.le_of_ble_eq_true rfl, fun a ha => ⟨rfl, a, C, y, rfl, hC.er, upd_same, fun dx hdx hne => ⟨rfl, dx, [("value", y)], upd_same, ?_, ?_, ?_⟩⟩⟩
  · rw [upd_ne hne, upd_same]
  · rwa [upd_ne hne] at hdx
  · rw [upd_ne hne] at hdx
    have e : upd (del (upd (upd (upd H a (exo a C none)) dx (exd dx [("value", y)])) a (exo a C (some dx))) a) dx (.xd [("value", y)]) = upd H dx (.xd [("value", y)]) := by
      funext b
      by_cases h1 : b = dx
      · subst h1
        rw [upd_same, upd_same]
      · rw [upd_ne h1, upd_ne h1]
        by_cases h2 : b = a
        · subst h2
          rw [del_same, ha]
        · rw [del_ne h2, upd_ne h2, upd_ne h1, upd_ne h2]
    rw [e]
    exact k dx hdx
end
/-! sorted -/
section
variable {K : Frag} {F : List (Addr × HO)} {G : List Ft} {H : Hp} {Q : VK} {l : Addr} {xs : List V} {ds : List PyData}
theorem g_sortE (S : Sy K F G H) (h : SqL K H l xs) (hd : DpAll K H xs ds) (m : immAll ds = true) (ha : AllAlike ds) (hk : PySem.W.Sortable ds ∨ Sortable0 ds) (hdp : ∀ d ∈ ds, d.depth ≤ 50) (hl : ds.length ≤ 100000)
    (k : ∀ p H' ys, Sy K ((p, .lst ys) :: F) (.dat ys (ds.mergeSort (dataLe false id)) :: G) H' → Q (.ref p) H') : rSortE K [.ref l] H Q := by
  have lx := dps_length hd
  refine ⟨l, xs, ds, rfl, h, hd, ha, hk, hdp, by omega, fun p hp => k p _ (((xs.zip ds).mergeSort (dataLe false Prod.snd)).map Prod.fst) ?_⟩
  have em : (xs.zip ds).map Prod.snd = ds := List.map_snd_zip (by omega)
  have e1 : ((xs.zip ds).mergeSort (dataLe false Prod.snd)).map Prod.snd = ds.mergeSort (dataLe false id) := by
    have := sort_maps (r := dataLe false (Prod.snd : V × PyData → PyData)) (s := dataLe false (id : PyData → PyData)) Prod.snd (l := xs.zip ds) (fun a _ b _ => rfl)
    rw [this, em]
  refine (S.push hp).fact (dps_keep (Tx.new hp) _ _ ?_ ?_) ?_
  · rw [← e1]
    refine immAll_of fun d hd2 => immAll_mem m d ?_
    obtain ⟨b, hb, rfl⟩ := List.mem_map.mp hd2
    rw [← em]
    exact List.mem_map.mpr ⟨b, (List.mergeSort_perm _ _).mem_iff.mp hb, rfl⟩
  · rw [← e1]
    have key : ∀ bs : List (V × PyData), (∀ b ∈ bs, Dp K H b.1 b.2) → DpAll K H (bs.map Prod.fst) (bs.map Prod.snd) := fun bs => by
      induction bs with
      | nil => exact fun _ => .nil
      | cons b bs ih => exact fun hb => .cons (hb b (List.mem_cons_self ..)) (ih fun c hc => hb c (List.mem_cons_of_mem _ hc))
    refine key _ fun b hb => ?_
    have hz : ∀ {xs : List V} {ds : List PyData}, DpAll K H xs ds → ∀ b ∈ xs.zip ds, Dp K H b.1 b.2 := fun {xs} => by
      induction xs with
      | nil => intro ds _ b hb; cases hb
      | cons x xs ih =>
        intro ds hd b hb
        cases hd with
        | cons h1 h2 =>
          rcases List.mem_cons.mp hb with rfl | hb
          · exact h1
          · exact ih h2 b hb
    exact hz hd b ((List.mergeSort_perm _ _).mem_iff.mp hb)
  · rw [← e1]
    refine immAll_of fun d hd2 => immAll_mem m d ?_
    obtain ⟨b, hb, rfl⟩ := List.mem_map.mp hd2
    rw [← em]
    exact List.mem_map.mpr ⟨b, (List.mergeSort_perm _ _).mem_iff.mp hb, rfl⟩
theorem g_lcE2 {tl te : TE} {g : TG} {tt : TT} {own : List Nat} {σ : L2.St} (k : tl σ H fun x H1 => tLc (iSeq K (tC x)) g tt te own σ H1 Q) : tLc (iSeq K tl) g tt te own σ H Q := k
theorem g_forE3 {tl : TE} {g : TG} {tb : TS} {D : Ends} {σ : L2.St} {H : Hp} (k : tl σ H fun x H1 => tFor (iSeq K (tC x)) g tb D σ H1) : tFor (iSeq K tl) g tb D σ H := k
end
theorem Sy.to {K : Frag} {F F' : List (Addr × HO)} {G G' : List Ft} {H : Hp} (S : Sy K F G H) (h1 : F'.Sublist F) (h2 : ∀ g ∈ G', g ∈ G) : Sy K F' G' H := ⟨fun q hq => S.st q (h1.subset hq), (h1.map _).nodup S.nd, fun g hg => S.ft g (h2 g hg)⟩
section
variable {X : Cx} {K : Frag} {T id : String} {name : Str} {r : V → List V → Hp → VK → Prop} {o e : Expr} {es : List Expr} {to : TE} {t : TA} {cpos apos : Pos}
theorem pe_bmK (h : X.K = K) (pa : PySem.PlainAttrs T) (slot : PySem.Slot T name id) (hty : typeOf (.builtin id) = pure (.type "method_descriptor")) (hm : MtR X id r) (ho : PE X o to) (ha : PA X (e :: es) t)
    (hbase : attributeBase o name X.env (eval o X.env) = eval o X.env := by rfl)
    (hfew : ((backTo cpos (starEach (e :: es) X.env)).all (fun x => !x.1) && (backToKw cpos (keywordEach [] X.env)).all (fun x => x.1.isSome)
      && decide ((e :: es).length + ([] : List Keyword).length + (if ([] : List Keyword).isEmpty then 0 else 1) < 30)) = true := by rfl)
    (hline : (apos.endLine == cpos.line) = true := by rfl) (hs : starEach (e :: es) X.env = (false, eval e X.env) :: starEach es X.env := by rfl) (hplain : (backTo cpos (starEach es X.env)).any (·.1) = false := by rfl) :
    PE X (.Call (.Attribute o name apos) (e :: es) [] cpos) (tBM K T r to t) := h ▸ pe_bm pa slot hty hm ho ha hbase hfew hline hs hplain
theorem op_neDK {X : Cx} {K : Frag} (h : X.K = K) (hu : X.A.units + 64 < cLine) : OpR X (compareOp .NotEq) (rNeD K) := h ▸ op_neD hu
end
/-! a list unpacked; a comprehension over a tuple of objects that may change -/
theorem pg_lstK {X : Cx} {K : Frag} (hK : X.K = K) {es : List Expr} {k pos : _} {t : TGs} {n : Nat} (hc : X.calm = true) (h : PGs X es t)
    (hn : (assignEach es X.env).length = n := by rfl) (hst : (assignEach es X.env).findIdx? (·.1) = none := by rfl) : PG X (.Tuple es k pos) (gLst K n t) := hK ▸ pg_lst hc h hn hst
theorem g_unpL {K : Frag} {σ : L2.St} {H : Hp} {QS : L2.St → Hp → Prop} {n : Nat} {tgs : TGs} {l : Addr} {vs : List V} (h : SqL K H l vs) (hl : vs.length = n) (k : tgs vs σ H QS) : gLst K n tgs (.ref l) σ H QS := ⟨l, vs, rfl, h, hl, k⟩
theorem g_lcVT {K : Frag} {F : List (Addr × HO)} {G : List Ft} {σ : L2.St} {H : Hp} {Q : VK} {own : List Nat} {g : TG} {tt : TT} {te tl : TE} {a : Addr} {xs : List V} (I : Nat → List (Addr × HO) → List V → Prop) (S : Sy K F G H) (ht : ∀ Q' : VK, Q' (.ref a) H → tl σ H Q') (h0 : I 0 F [])
    (hq : ∀ i F' vs H', I i F' vs → Sy K F' G H' → SqT K H' a xs) (hl : ∀ i F vs, I i F vs → vs.length < 100000)
    (turn : ∀ i x, xs[i]? = some x → Turn3 K G I σ own g tt te i x)
    (done : ∀ Dp H' F' vs, H Dp = none → I xs.length F' vs → Sy K ((Dp, .lst vs) :: F') G H' → Q (.ref Dp) H') : tLc (iSeq K tl) g tt te own σ H Q := by
  refine ht _ ⟨a, rfl, ?_⟩
  have q0 := hq 0 F [] H h0 S
  have sub : ∀ {Dp i H'}, LcP3 K G I Dp i H' → SqT K H' a xs := fun ⟨F', vs, hi, S'⟩ => hq _ F' vs _ hi S'.less
  refine .inr ⟨⟨xs, q0⟩, fun Dp hD => lc_tup (K := K) (a := a) (xs := xs) (LcP3 K G I Dp) ⟨F, [], h0, S.push hD⟩ (fun i H' _ p => sub p) (fun i x H' hx p => lcp_turn3 hl (turn i x hx) p) fun H' p => ?_⟩
  obtain ⟨F', vs, hi, S'⟩ := p
  exact done Dp H' F' vs hD hi S'
theorem takes0 {X : Cx} : Takes X (fun _ _ _ _ => False) := fun _ _ x => by
  obtain ⟨_, _, _, _, _, _, _, _, _, _, _, _, _, _, _, _, z⟩ := x
  exact z.elim
end OB

set_option Elab.async false
set_option linter.all false
set_option maxRecDepth 100000
namespace LAW
open PySem PySem.Spec PyProof.Rows L2 PySem.W OB
local macro_rules | `(tactic| walk_at "obc") => `(tactic| first
  | exact Or.inl ⟨by omega, by omega⟩
  | exact Or.inr ⟨by omega, by omega⟩
  | exact cdiv_ok (by omega) (by omega)
  | (show (0 : Int) < _; omega)
  | exact ⟨by omega, by decide⟩
  | exact ⟨by decide, by decide⟩)
local macro_rules | `(tactic| walk_at "obat") => `(tactic| first
  | exact Sy.at (by assumption) 0 rfl | exact Sy.at (by assumption) 1 rfl | exact Sy.at (by assumption) 2 rfl | exact Sy.at (by assumption) 3 rfl
  | exact Sy.at (by assumption) 4 rfl | exact Sy.at (by assumption) 5 rfl | exact Sy.at (by assumption) 6 rfl | exact Sy.at (by assumption) _ (by assumption) | exact Sy.at (by assumption) (_ + 1) (by assumption) | exact Sy.at (by assumption) (_ + 2) (by assumption))
local macro_rules | `(tactic| walk_at "obt") => `(tactic| first
  | exact Sy.tqs (by assumption) 0 rfl | exact Sy.tqs (by assumption) 1 rfl | exact Sy.tqs (by assumption) 2 rfl | exact Sy.tqs (by assumption) 3 rfl | exact Sy.tqs (by assumption) 4 rfl | exact Sy.tqs (by assumption) 5 rfl
  | exact Sy.tqs (by assumption) 6 rfl | exact Sy.tqs (by assumption) 7 rfl | assumption)
local macro_rules | `(tactic| walk_at "obl") => `(tactic| first
  | exact SqL.of (by walk_at "obat")
  | exact Sy.sq (by assumption) 0 rfl | exact Sy.sq (by assumption) 1 rfl | exact Sy.sq (by assumption) 2 rfl | exact Sy.sq (by assumption) 3 rfl | exact Sy.sq (by assumption) _ (by assumption))
local macro_rules | `(tactic| walk_at "obd") => `(tactic| first
  | exact Dp.int _ | exact Dp.bl _ | exact Dp.str _ | exact Dp.non
  | exact Sy.dp (by assumption) 0 rfl | exact Sy.dp (by assumption) 1 rfl | exact Sy.dp (by assumption) 2 rfl | exact Sy.dp (by assumption) 3 rfl
  | exact Sy.dp (by assumption) 4 rfl | exact Sy.dp (by assumption) 5 rfl | exact Sy.dp (by assumption) 6 rfl | exact Sy.dp (by assumption) 7 rfl
  | exact Sy.dp (by assumption) 8 rfl | exact Sy.dp (by assumption) 9 rfl | exact Sy.dp (by assumption) _ (by assumption) | assumption)
local macro_rules | `(tactic| walk_at "obds") => `(tactic| first
  | exact DpAll.nil
  | (refine' DpAll.cons ?ob1 ?ob2; (case ob1 => walk_at "obd"); (case ob2 => walk_at "obds"))
  | exact Sy.dps (by assumption) 0 rfl | exact Sy.dps (by assumption) 1 rfl | exact Sy.dps (by assumption) 2 rfl | exact Sy.dps (by assumption) 3 rfl | assumption)
local macro_rules | `(tactic| walk_at "obsc") => `(tactic| first
  | exact ScL.nil
  | ((first | refine' ScL.int ?obz | refine' ScL.str ?obz | refine' ScL.bl ?obz | refine' ScL.non ?obz); (case obz => walk_at "obsc")))
local macro_rules | `(tactic| walk_at "ob1") => `(tactic| first
  | ((with_reducible refine' g_var ?obh ?_); (case obh => rfl))
  | with_reducible refine g_c ?_
  | with_reducible refine g_nx ?_
  | with_reducible refine g_rt ?_
  | with_reducible refine g_bk ?_
  | with_reducible refine g_ct ?_
  | with_reducible refine g_op ?_
  | with_reducible refine g_I0 ?_
  | with_reducible refine g_test ?_
  | with_reducible refine g_bl ?_
  | with_reducible refine g_blx ?_
  | with_reducible refine g_B ?_
  | with_reducible refine g_seq ?_
  | with_reducible refine g_asg ?_
  | with_reducible refine g_name ?_
  | with_reducible refine g_ifS ?_
  | with_reducible refine g_ret ?_
  | with_reducible refine g_cb ?_
  | with_reducible refine g_cons ?_
  | with_reducible refine g_nil ?_
  | with_reducible refine g_int ?_
  | with_reducible refine g_intB ?_
  | with_reducible refine g_abs ?_
  | with_reducible refine g_max ?_
  | with_reducible refine g_min ?_
  | with_reducible refine g_un ?_
  | with_reducible refine g_U ?_
  | with_reducible refine g_eqI ?_
  | with_reducible refine g_neI ?_
  | with_reducible refine g_eqS ?_
  | with_reducible refine g_neS ?_
  | with_reducible refine g_tt ?_
  | with_reducible refine g_ff ?_
  | with_reducible refine g_next ?_
  | with_reducible refine g_drop ?_
  | with_reducible refine g_if ?_
  | with_reducible refine g_andV ?_
  | with_reducible refine g_orV ?_
  | with_reducible refine g_notV ?_
  | with_reducible refine g_and ?_
  | with_reducible refine g_or ?_
  | with_reducible refine g_not ?_
  | with_reducible refine g_yes ?_
  | with_reducible refine g_chain ?_
  | with_reducible refine g_cg ?_
  | with_reducible refine g_mg ?_
  | with_reducible refine g_kg ?_
  | with_reducible refine g_pg ?_
  | ((with_reducible refine' g_call ?obh ?obj ?_); (case obh => rfl); (case obj => rfl))
  | with_reducible refine g_par ?_
  | with_reducible refine g_par2 ?_
  | with_reducible refine g_par3 ?_
  | with_reducible refine g_par33 ?_
  | with_reducible refine g_gnil ?_
  | with_reducible refine g_gcons ?_
  | with_reducible refine g_gsub ?_
  | with_reducible refine g_ipI ?_
  | with_reducible refine g_rAdd ?_
  | with_reducible refine g_rSub ?_
  | ((with_reducible refine' g_aug ?obh ?_); (case obh => rfl))
  | with_reducible refine g_tup ?_
  | with_reducible refine g_lst ?_
  | with_reducible refine g_bm ?_
  | with_reducible refine g_bm0 ?_
  | with_reducible refine g_sl ?_
  | with_reducible refine g_nopart ?_
  | with_reducible refine g_part ?_
  | with_reducible refine g_pint ?_
  | with_reducible refine isi_int ?_
  | with_reducible refine isi_intB ?_
  | ((with_reducible refine' g_I ?obh ?_); (case obh => walk_at "obc"))
  | ((with_reducible refine' g_tyl ?obh ?_); (case obh => walk_at "obl"))
  | ((with_reducible refine' g_lenL ?obh ?_); (case obh => walk_at "obl"))
  | with_reducible refine g_ne ?_
  | ((with_reducible refine' g_neN' ?obh ?_); (case obh => rfl))
  | with_reducible refine g_ntt ?_
  | with_reducible refine g_nff ?_
  | with_reducible refine g_star ?_
  | with_reducible refine g_att ?_
  | with_reducible refine g_sfld ?_
  | with_reducible refine g_faug ?_
  | with_reducible refine g_fld ?_
  | ((with_reducible refine' g_nF ?obh ?_); (case obh => omega))
  | ((with_reducible refine' g_nT ?obh ?_); (case obh => omega))
  | ((with_reducible refine' g_TD ?obh ?_); (case obh => omega))
  | ((with_reducible refine' g_FD ?obh ?_); (case obh => omega))
  | ((with_reducible refine' g_ixUL ?obh ?obi ?_); (case obh => walk_at "obl"); (case obi => exact atI_nn (by omega) (by rfl)))
  | ((with_reducible refine' g_setLS ?obs ?obh ?obi ?_); (case obs => assumption); (case obh => assumption); (case obi => rfl); intro _ _ _)
  | ((with_reducible refine' g_newT ?obs ?obh ?obi ?obj ?_); (case obs => assumption); (case obh => walk_at "obds"); (case obi => rfl); (case obj => exact Nat.le_of_ble_eq_true rfl); intro _ _ _ _)
  | ((with_reducible refine' g_newL ?obs ?obj ?_); (case obs => assumption); (case obj => exact Nat.le_of_ble_eq_true rfl); intro _ _ _ _)
  | ((with_reducible refine' isi_tup ?obh ?_); (case obh => walk_at "obt"))
  | ((with_reducible refine' g_lenT ?obh ?_); (case obh => walk_at "obt"))
  | ((with_reducible refine' g_unpT ?obh ?obi ?_); (case obh => walk_at "obt"); (case obi => rfl))
  | ((with_reducible refine' g_divmod ?obs ?obh ?_); (case obs => assumption); (case obh => exact cdivp_ok (by omega) (by omega) (by omega)); intro _ _ _ _)
  | ((with_reducible refine' g_unpD ?obh ?obi ?obj ?_); (case obh => walk_at "obd"); (case obi => walk_at "obsc"); (case obj => rfl))
  | with_reducible refine g_att ?_)
def top (i : Nat) : Stmt := PySem.Challenge.pw_oncebooked_k36_lots_with_a_sum.main.body.getD i (.Pass ⟨0, 0, 0, 0⟩)
structure Tx (K : Frag) (mg : Str → Option Value) where
  a_lots_of_notes : Addr
  d_lots_of_notes : FuncData
  F_lots_of_notes : Fun K "lots_of_notes" "lots_of_notes" (top 23) a_lots_of_notes d_lots_of_notes
  m_lots_of_notes : mg "lots_of_notes" = some (.ref a_lots_of_notes)
  a_is_integer : Addr
  d_is_integer : FuncData
  F_is_integer : Fun K "is_integer" "is_integer" (top 7) a_is_integer d_is_integer
  m_is_integer : mg "is_integer" = some (.ref a_is_integer)
  a_is_note_word : Addr
  d_is_note_word : FuncData
  F_is_note_word : Fun K "is_note_word" "is_note_word" (top 18) a_is_note_word d_is_note_word
  m_is_note_word : mg "is_note_word" = some (.ref a_is_note_word)
  a_law_take : Addr
  d_law_take : FuncData
  F_law_take : Fun K "_law_take" "_law_take" (top 33) a_law_take d_law_take
  m_law_take : mg "_law_take" = some (.ref a_law_take)
  a_lots_by_sum : Addr
  d_lots_by_sum : FuncData
  F_lots_by_sum : Fun K "lots_by_sum" "lots_by_sum" (top 25) a_lots_by_sum d_lots_by_sum
  m_lots_by_sum : mg "lots_by_sum" = some (.ref a_lots_by_sum)
  a_law_all_sums : Addr
  d_law_all_sums : FuncData
  F_law_all_sums : Fun K "_law_all_sums" "_law_all_sums" (top 38) a_law_all_sums d_law_all_sums
  m_law_all_sums : mg "_law_all_sums" = some (.ref a_law_all_sums)
  a_law_pot : Addr
  d_law_pot : FuncData
  F_law_pot : Fun K "_law_pot" "_law_pot" (top 32) a_law_pot d_law_pot
  m_law_pot : mg "_law_pot" = some (.ref a_law_pot)
  a_law_cells : Addr
  d_law_cells : FuncData
  F_law_cells : Fun K "_law_cells" "_law_cells" (top 35) a_law_cells d_law_cells
  m_law_cells : mg "_law_cells" = some (.ref a_law_cells)
  a_halves : Addr
  d_halves : FuncData
  F_halves : Fun K "halves" "halves" (top 24) a_halves d_halves
  m_halves : mg "halves" = some (.ref a_halves)
  a_is_within : Addr
  d_is_within : FuncData
  F_is_within : Fun K "is_within" "is_within" (top 8) a_is_within d_is_within
  m_is_within : mg "is_within" = some (.ref a_is_within)
  a_law_of : Addr
  d_law_of : FuncData
  F_law_of : Fun K "_law_of" "_law_of" (top 34) a_law_of d_law_of
  m_law_of : mg "_law_of" = some (.ref a_law_of)
  a_is_note_amount : Addr
  d_is_note_amount : FuncData
  F_is_note_amount : Fun K "is_note_amount" "is_note_amount" (top 19) a_is_note_amount d_is_note_amount
  m_is_note_amount : mg "is_note_amount" = some (.ref a_is_note_amount)
  a_law_note : Addr
  d_law_note : FuncData
  F_law_note : Fun K "_law_note" "_law_note" (top 36) a_law_note d_law_note
  m_law_note : mg "_law_note" = some (.ref a_law_note)
  a_is_lot_of : Addr
  d_is_lot_of : FuncData
  F_is_lot_of : Fun K "is_lot_of" "is_lot_of" (top 28) a_is_lot_of d_is_lot_of
  m_is_lot_of : mg "is_lot_of" = some (.ref a_is_lot_of)
  a_law_asked_sum : Addr
  d_law_asked_sum : FuncData
  F_law_asked_sum : Fun K "_law_asked_sum" "_law_asked_sum" (top 39) a_law_asked_sum d_law_asked_sum
  m_law_asked_sum : mg "_law_asked_sum" = some (.ref a_law_asked_sum)
  a_is_note : Addr
  d_is_note : FuncData
  F_is_note : Fun K "is_note" "is_note" (top 20) a_is_note d_is_note
  m_is_note : mg "is_note" = some (.ref a_is_note)
  a_law_book : Addr
  d_law_book : FuncData
  F_law_book : Fun K "_law_book" "_law_book" (top 37) a_law_book d_law_book
  m_law_book : mg "_law_book" = some (.ref a_law_book)
  a_check_notes : Addr
  d_check_notes : FuncData
  F_check_notes : Fun K "check_notes" "check_notes" (top 21) a_check_notes d_check_notes
  m_check_notes : mg "check_notes" = some (.ref a_check_notes)
  a_check_lots : Addr
  d_check_lots : FuncData
  F_check_lots : Fun K "check_lots" "check_lots" (top 22) a_check_lots d_check_lots
  m_check_lots : mg "check_lots" = some (.ref a_check_lots)
  a_near_sums : Addr
  d_near_sums : FuncData
  F_near_sums : Fun K "near_sums" "near_sums" (top 30) a_near_sums d_near_sums
  m_near_sums : mg "near_sums" = some (.ref a_near_sums)
  a_a_lot : Addr
  d_a_lot : FuncData
  F_a_lot : Fun K "a_lot" "a_lot" (top 27) a_a_lot d_a_lot
  m_a_lot : mg "a_lot" = some (.ref a_a_lot)
  a_lots_with : Addr
  d_lots_with : FuncData
  F_lots_with : Fun K "lots_with" "lots_with" (top 26) a_lots_with d_lots_with
  m_lots_with : mg "lots_with" = some (.ref a_lots_with)
  a_shows_lot : Addr
  d_shows_lot : FuncData
  F_shows_lot : Fun K "shows_lot" "shows_lot" (top 29) a_shows_lot d_shows_lot
  m_shows_lot : mg "shows_lot" = some (.ref a_shows_lot)
  a_law_are_lots_right : Addr
  d_law_are_lots_right : FuncData
  F_law_are_lots_right : Fun K "_law_are_lots_right" "_law_are_lots_right" (top 40) a_law_are_lots_right d_law_are_lots_right
  m_law_are_lots_right : mg "_law_are_lots_right" = some (.ref a_law_are_lots_right)
  a_law_is_one_right : Addr
  d_law_is_one_right : FuncData
  F_law_is_one_right : Fun K "_law_is_one_right" "_law_is_one_right" (top 41) a_law_is_one_right d_law_is_one_right
  m_law_is_one_right : mg "_law_is_one_right" = some (.ref a_law_is_one_right)
  a_law_right : Addr
  d_law_right : FuncData
  F_law_right : Fun K "_law_right" "_law_right" (top 42) a_law_right d_law_right
  m_law_right : mg "_law_right" = some (.ref a_law_right)
  a_law : Addr
  d_law : FuncData
  F_law : Fun K "law" "law" (top 43) a_law d_law
  m_law : mg "law" = some (.ref a_law)
  a_BookError : Addr
  m_BookError : mg "BookError" = some (.ref a_BookError)
  a_TooMany : Addr
  m_TooMany : mg "TooMany" = some (.ref a_TooMany)
  a_ei : Addr
  d_ei : FuncData
  ti_ei : typeIn K (.ref a_ei) = some (.type "function")
  ei : ∀ (w : World) (base : Heap) (CX : CXT) (k : Nat), FnOk PySem.Challenge.pw_oncebooked_k36_lots_with_a_sum w K mg base CX k a_ei d_ei ["self", "value"] (sp_einit K a_BookError)
  b_ei : L2.Binds K d_ei ["self", "value"] []
  e_BookError : ErrC K a_BookError a_ei a_BookError
  e_TooMany : ErrC K a_BookError a_ei a_TooMany
  nd_TooMany : a_TooMany ≠ a_BookError
  nodup_errs : List.Nodup [a_TooMany]
  t_LETTERS : Tok
  g_LETTERS : mg "LETTERS" = some (.str "abcdefghijklmnopqrstuvwxyz" t_LETTERS)
  t_MOST_LETTERS : Tok
  g_MOST_LETTERS : mg "MOST_LETTERS" = some (.int 12 t_MOST_LETTERS)
  t_MOST_AMOUNT : Tok
  g_MOST_AMOUNT : mg "MOST_AMOUNT" = some (.int 1000000000000 t_MOST_AMOUNT)
  t_MOST_NOTES : Tok
  g_MOST_NOTES : mg "MOST_NOTES" = some (.int 200 t_MOST_NOTES)
  t_MOST_ALL_LOTS : Tok
  g_MOST_ALL_LOTS : mg "MOST_ALL_LOTS" = some (.int 20 t_MOST_ALL_LOTS)
  t_MOST_ONE_LOT : Tok
  g_MOST_ONE_LOT : mg "MOST_ONE_LOT" = some (.int 24 t_MOST_ONE_LOT)
  t_MOST_LOTS : Tok
  g_MOST_LOTS : mg "MOST_LOTS" = some (.int 1000 t_MOST_LOTS)
  t_PAIR : Tok
  g_PAIR : mg "PAIR" = some (.int 2 t_PAIR)
  n_ValueError : mg "ValueError" = none
  n_abs : mg "abs" = none
  n_all : mg "all" = none
  n_bool : mg "bool" = none
  n_enumerate : mg "enumerate" = none
  n_int : mg "int" = none
  n_isinstance : mg "isinstance" = none
  n_len : mg "len" = none
  n_list : mg "list" = none
  n_max : mg "max" = none
  n_min : mg "min" = none
  n_range : mg "range" = none
  n_repr : mg "repr" = none
  n_sorted : mg "sorted" = none
  n_str : mg "str" = none
  n_sum : mg "sum" = none
  n_tuple : mg "tuple" = none
  n_zip : mg "zip" = none
def mkTx {K : Frag} {h : Heap} {mg : Str → Option Value} {a_lots_of_notes : Addr} {oc_lots_of_notes kV_lots_of_notes dc_lots_of_notes pm_lots_of_notes cd_lots_of_notes ct_lots_of_notes : Value} {od_lots_of_notes an_lots_of_notes : Option Addr} {sl_lots_of_notes : Array (Option Value)} {a_is_integer : Addr} {oc_is_integer kV_is_integer dc_is_integer pm_is_integer cd_is_integer ct_is_integer : Value} {od_is_integer an_is_integer : Option Addr} {sl_is_integer : Array (Option Value)} {a_is_note_word : Addr} {oc_is_note_word kV_is_note_word dc_is_note_word pm_is_note_word cd_is_note_word ct_is_note_word : Value} {od_is_note_word an_is_note_word : Option Addr} {sl_is_note_word : Array (Option Value)} {a_law_take : Addr} {oc_law_take kV_law_take dc_law_take pm_law_take cd_law_take ct_law_take : Value} {od_law_take an_law_take : Option Addr} {sl_law_take : Array (Option Value)} {a_lots_by_sum : Addr} {oc_lots_by_sum kV_lots_by_sum dc_lots_by_sum pm_lots_by_sum cd_lots_by_sum ct_lots_by_sum : Value} {od_lots_by_sum an_lots_by_sum : Option Addr} {sl_lots_by_sum : Array (Option Value)} {a_law_all_sums : Addr} {oc_law_all_sums kV_law_all_sums dc_law_all_sums pm_law_all_sums cd_law_all_sums ct_law_all_sums : Value} {od_law_all_sums an_law_all_sums : Option Addr} {sl_law_all_sums : Array (Option Value)} {a_law_pot : Addr} {oc_law_pot kV_law_pot dc_law_pot pm_law_pot cd_law_pot ct_law_pot : Value} {od_law_pot an_law_pot : Option Addr} {sl_law_pot : Array (Option Value)} {a_law_cells : Addr} {oc_law_cells kV_law_cells dc_law_cells pm_law_cells cd_law_cells ct_law_cells : Value} {od_law_cells an_law_cells : Option Addr} {sl_law_cells : Array (Option Value)} {a_halves : Addr} {oc_halves kV_halves dc_halves pm_halves cd_halves ct_halves : Value} {od_halves an_halves : Option Addr} {sl_halves : Array (Option Value)} {a_is_within : Addr} {oc_is_within kV_is_within dc_is_within pm_is_within cd_is_within ct_is_within : Value} {od_is_within an_is_within : Option Addr} {sl_is_within : Array (Option Value)} {a_law_of : Addr} {oc_law_of kV_law_of dc_law_of pm_law_of cd_law_of ct_law_of : Value} {od_law_of an_law_of : Option Addr} {sl_law_of : Array (Option Value)} {a_is_note_amount : Addr} {oc_is_note_amount kV_is_note_amount dc_is_note_amount pm_is_note_amount cd_is_note_amount ct_is_note_amount : Value} {od_is_note_amount an_is_note_amount : Option Addr} {sl_is_note_amount : Array (Option Value)} {a_law_note : Addr} {oc_law_note kV_law_note dc_law_note pm_law_note cd_law_note ct_law_note : Value} {od_law_note an_law_note : Option Addr} {sl_law_note : Array (Option Value)} {a_is_lot_of : Addr} {oc_is_lot_of kV_is_lot_of dc_is_lot_of pm_is_lot_of cd_is_lot_of ct_is_lot_of : Value} {od_is_lot_of an_is_lot_of : Option Addr} {sl_is_lot_of : Array (Option Value)} {a_law_asked_sum : Addr} {oc_law_asked_sum kV_law_asked_sum dc_law_asked_sum pm_law_asked_sum cd_law_asked_sum ct_law_asked_sum : Value} {od_law_asked_sum an_law_asked_sum : Option Addr} {sl_law_asked_sum : Array (Option Value)} {a_is_note : Addr} {oc_is_note kV_is_note dc_is_note pm_is_note cd_is_note ct_is_note : Value} {od_is_note an_is_note : Option Addr} {sl_is_note : Array (Option Value)} {a_law_book : Addr} {oc_law_book kV_law_book dc_law_book pm_law_book cd_law_book ct_law_book : Value} {od_law_book an_law_book : Option Addr} {sl_law_book : Array (Option Value)} {a_check_notes : Addr} {oc_check_notes kV_check_notes dc_check_notes pm_check_notes cd_check_notes ct_check_notes : Value} {od_check_notes an_check_notes : Option Addr} {sl_check_notes : Array (Option Value)} {a_check_lots : Addr} {oc_check_lots kV_check_lots dc_check_lots pm_check_lots cd_check_lots ct_check_lots : Value} {od_check_lots an_check_lots : Option Addr} {sl_check_lots : Array (Option Value)} {a_near_sums : Addr} {oc_near_sums kV_near_sums dc_near_sums pm_near_sums cd_near_sums ct_near_sums : Value} {od_near_sums an_near_sums : Option Addr} {sl_near_sums : Array (Option Value)} {a_a_lot : Addr} {oc_a_lot kV_a_lot dc_a_lot pm_a_lot cd_a_lot ct_a_lot : Value} {od_a_lot an_a_lot : Option Addr} {sl_a_lot : Array (Option Value)} {a_lots_with : Addr} {oc_lots_with kV_lots_with dc_lots_with pm_lots_with cd_lots_with ct_lots_with : Value} {od_lots_with an_lots_with : Option Addr} {sl_lots_with : Array (Option Value)} {a_shows_lot : Addr} {oc_shows_lot kV_shows_lot dc_shows_lot pm_shows_lot cd_shows_lot ct_shows_lot : Value} {od_shows_lot an_shows_lot : Option Addr} {sl_shows_lot : Array (Option Value)} {a_law_are_lots_right : Addr} {oc_law_are_lots_right kV_law_are_lots_right dc_law_are_lots_right pm_law_are_lots_right cd_law_are_lots_right ct_law_are_lots_right : Value} {od_law_are_lots_right an_law_are_lots_right : Option Addr} {sl_law_are_lots_right : Array (Option Value)} {a_law_is_one_right : Addr} {oc_law_is_one_right kV_law_is_one_right dc_law_is_one_right pm_law_is_one_right cd_law_is_one_right ct_law_is_one_right : Value} {od_law_is_one_right an_law_is_one_right : Option Addr} {sl_law_is_one_right : Array (Option Value)} {a_law_right : Addr} {oc_law_right kV_law_right dc_law_right pm_law_right cd_law_right ct_law_right : Value} {od_law_right an_law_right : Option Addr} {sl_law_right : Array (Option Value)} {a_law : Addr} {oc_law kV_law dc_law pm_law cd_law ct_law : Value} {od_law an_law : Option Addr} {sl_law : Array (Option Value)} {a_BookError : Addr} {a_TooMany : Addr} {a_ei cda_ei cc_ei : Addr} {oc_ei kV_ei dc_ei pm_ei ct_ei ccl_ei cl_ei : Value} {od_ei an_ei cdd_ei cld_ei : Option Addr} {sl_ei ccs_ei csl_ei : Array (Option Value)} {vs_ei : Array Value} {file_ei : Str} {tf_ei : Tok} {cdD_ei : ClassData} {t_LETTERS : Tok} {t_MOST_LETTERS : Tok} {t_MOST_AMOUNT : Tok} {t_MOST_NOTES : Tok} {t_MOST_ALL_LOTS : Tok} {t_MOST_ONE_LOT : Tok} {t_MOST_LOTS : Tok} {t_PAIR : Tok} (X : K.In h) (G : h.Ns mainGlobals mg)
    (n_lots_of_notes : nsIn K mainGlobals "lots_of_notes" = some (some (.ref a_lots_of_notes)))
    (l_lots_of_notes : K.lookup a_lots_of_notes = some ⟨oc_lots_of_notes, od_lots_of_notes, .func (fnOf "lots_of_notes" "lots_of_notes" (defArgs (top 23)) (defBody (top 23)) (defScope (top 23)) .none kV_lots_of_notes dc_lots_of_notes pm_lots_of_notes an_lots_of_notes cd_lots_of_notes ct_lots_of_notes), sl_lots_of_notes⟩)
    (c_lots_of_notes : codeIn K cd_lots_of_notes "lots_of_notes" = true)
    (k_lots_of_notes : keepIn K (.ref a_lots_of_notes) = true)
    (n_is_integer : nsIn K mainGlobals "is_integer" = some (some (.ref a_is_integer)))
    (l_is_integer : K.lookup a_is_integer = some ⟨oc_is_integer, od_is_integer, .func (fnOf "is_integer" "is_integer" (defArgs (top 7)) (defBody (top 7)) (defScope (top 7)) .none kV_is_integer dc_is_integer pm_is_integer an_is_integer cd_is_integer ct_is_integer), sl_is_integer⟩)
    (c_is_integer : codeIn K cd_is_integer "is_integer" = true)
    (k_is_integer : keepIn K (.ref a_is_integer) = true)
    (n_is_note_word : nsIn K mainGlobals "is_note_word" = some (some (.ref a_is_note_word)))
    (l_is_note_word : K.lookup a_is_note_word = some ⟨oc_is_note_word, od_is_note_word, .func (fnOf "is_note_word" "is_note_word" (defArgs (top 18)) (defBody (top 18)) (defScope (top 18)) .none kV_is_note_word dc_is_note_word pm_is_note_word an_is_note_word cd_is_note_word ct_is_note_word), sl_is_note_word⟩)
    (c_is_note_word : codeIn K cd_is_note_word "is_note_word" = true)
    (k_is_note_word : keepIn K (.ref a_is_note_word) = true)
    (n_law_take : nsIn K mainGlobals "_law_take" = some (some (.ref a_law_take)))
    (l_law_take : K.lookup a_law_take = some ⟨oc_law_take, od_law_take, .func (fnOf "_law_take" "_law_take" (defArgs (top 33)) (defBody (top 33)) (defScope (top 33)) .none kV_law_take dc_law_take pm_law_take an_law_take cd_law_take ct_law_take), sl_law_take⟩)
    (c_law_take : codeIn K cd_law_take "_law_take" = true)
    (k_law_take : keepIn K (.ref a_law_take) = true)
    (n_lots_by_sum : nsIn K mainGlobals "lots_by_sum" = some (some (.ref a_lots_by_sum)))
    (l_lots_by_sum : K.lookup a_lots_by_sum = some ⟨oc_lots_by_sum, od_lots_by_sum, .func (fnOf "lots_by_sum" "lots_by_sum" (defArgs (top 25)) (defBody (top 25)) (defScope (top 25)) .none kV_lots_by_sum dc_lots_by_sum pm_lots_by_sum an_lots_by_sum cd_lots_by_sum ct_lots_by_sum), sl_lots_by_sum⟩)
    (c_lots_by_sum : codeIn K cd_lots_by_sum "lots_by_sum" = true)
    (k_lots_by_sum : keepIn K (.ref a_lots_by_sum) = true)
    (n_law_all_sums : nsIn K mainGlobals "_law_all_sums" = some (some (.ref a_law_all_sums)))
    (l_law_all_sums : K.lookup a_law_all_sums = some ⟨oc_law_all_sums, od_law_all_sums, .func (fnOf "_law_all_sums" "_law_all_sums" (defArgs (top 38)) (defBody (top 38)) (defScope (top 38)) .none kV_law_all_sums dc_law_all_sums pm_law_all_sums an_law_all_sums cd_law_all_sums ct_law_all_sums), sl_law_all_sums⟩)
    (c_law_all_sums : codeIn K cd_law_all_sums "_law_all_sums" = true)
    (k_law_all_sums : keepIn K (.ref a_law_all_sums) = true)
    (n_law_pot : nsIn K mainGlobals "_law_pot" = some (some (.ref a_law_pot)))
    (l_law_pot : K.lookup a_law_pot = some ⟨oc_law_pot, od_law_pot, .func (fnOf "_law_pot" "_law_pot" (defArgs (top 32)) (defBody (top 32)) (defScope (top 32)) .none kV_law_pot dc_law_pot pm_law_pot an_law_pot cd_law_pot ct_law_pot), sl_law_pot⟩)
    (c_law_pot : codeIn K cd_law_pot "_law_pot" = true)
    (k_law_pot : keepIn K (.ref a_law_pot) = true)
    (n_law_cells : nsIn K mainGlobals "_law_cells" = some (some (.ref a_law_cells)))
    (l_law_cells : K.lookup a_law_cells = some ⟨oc_law_cells, od_law_cells, .func (fnOf "_law_cells" "_law_cells" (defArgs (top 35)) (defBody (top 35)) (defScope (top 35)) .none kV_law_cells dc_law_cells pm_law_cells an_law_cells cd_law_cells ct_law_cells), sl_law_cells⟩)
    (c_law_cells : codeIn K cd_law_cells "_law_cells" = true)
    (k_law_cells : keepIn K (.ref a_law_cells) = true)
    (n_halves : nsIn K mainGlobals "halves" = some (some (.ref a_halves)))
    (l_halves : K.lookup a_halves = some ⟨oc_halves, od_halves, .func (fnOf "halves" "halves" (defArgs (top 24)) (defBody (top 24)) (defScope (top 24)) .none kV_halves dc_halves pm_halves an_halves cd_halves ct_halves), sl_halves⟩)
    (c_halves : codeIn K cd_halves "halves" = true)
    (k_halves : keepIn K (.ref a_halves) = true)
    (n_is_within : nsIn K mainGlobals "is_within" = some (some (.ref a_is_within)))
    (l_is_within : K.lookup a_is_within = some ⟨oc_is_within, od_is_within, .func (fnOf "is_within" "is_within" (defArgs (top 8)) (defBody (top 8)) (defScope (top 8)) .none kV_is_within dc_is_within pm_is_within an_is_within cd_is_within ct_is_within), sl_is_within⟩)
    (c_is_within : codeIn K cd_is_within "is_within" = true)
    (k_is_within : keepIn K (.ref a_is_within) = true)
    (n_law_of : nsIn K mainGlobals "_law_of" = some (some (.ref a_law_of)))
    (l_law_of : K.lookup a_law_of = some ⟨oc_law_of, od_law_of, .func (fnOf "_law_of" "_law_of" (defArgs (top 34)) (defBody (top 34)) (defScope (top 34)) .none kV_law_of dc_law_of pm_law_of an_law_of cd_law_of ct_law_of), sl_law_of⟩)
    (c_law_of : codeIn K cd_law_of "_law_of" = true)
    (k_law_of : keepIn K (.ref a_law_of) = true)
    (n_is_note_amount : nsIn K mainGlobals "is_note_amount" = some (some (.ref a_is_note_amount)))
    (l_is_note_amount : K.lookup a_is_note_amount = some ⟨oc_is_note_amount, od_is_note_amount, .func (fnOf "is_note_amount" "is_note_amount" (defArgs (top 19)) (defBody (top 19)) (defScope (top 19)) .none kV_is_note_amount dc_is_note_amount pm_is_note_amount an_is_note_amount cd_is_note_amount ct_is_note_amount), sl_is_note_amount⟩)
    (c_is_note_amount : codeIn K cd_is_note_amount "is_note_amount" = true)
    (k_is_note_amount : keepIn K (.ref a_is_note_amount) = true)
    (n_law_note : nsIn K mainGlobals "_law_note" = some (some (.ref a_law_note)))
    (l_law_note : K.lookup a_law_note = some ⟨oc_law_note, od_law_note, .func (fnOf "_law_note" "_law_note" (defArgs (top 36)) (defBody (top 36)) (defScope (top 36)) .none kV_law_note dc_law_note pm_law_note an_law_note cd_law_note ct_law_note), sl_law_note⟩)
    (c_law_note : codeIn K cd_law_note "_law_note" = true)
    (k_law_note : keepIn K (.ref a_law_note) = true)
    (n_is_lot_of : nsIn K mainGlobals "is_lot_of" = some (some (.ref a_is_lot_of)))
    (l_is_lot_of : K.lookup a_is_lot_of = some ⟨oc_is_lot_of, od_is_lot_of, .func (fnOf "is_lot_of" "is_lot_of" (defArgs (top 28)) (defBody (top 28)) (defScope (top 28)) .none kV_is_lot_of dc_is_lot_of pm_is_lot_of an_is_lot_of cd_is_lot_of ct_is_lot_of), sl_is_lot_of⟩)
    (c_is_lot_of : codeIn K cd_is_lot_of "is_lot_of" = true)
    (k_is_lot_of : keepIn K (.ref a_is_lot_of) = true)
    (n_law_asked_sum : nsIn K mainGlobals "_law_asked_sum" = some (some (.ref a_law_asked_sum)))
    (l_law_asked_sum : K.lookup a_law_asked_sum = some ⟨oc_law_asked_sum, od_law_asked_sum, .func (fnOf "_law_asked_sum" "_law_asked_sum" (defArgs (top 39)) (defBody (top 39)) (defScope (top 39)) .none kV_law_asked_sum dc_law_asked_sum pm_law_asked_sum an_law_asked_sum cd_law_asked_sum ct_law_asked_sum), sl_law_asked_sum⟩)
    (c_law_asked_sum : codeIn K cd_law_asked_sum "_law_asked_sum" = true)
    (k_law_asked_sum : keepIn K (.ref a_law_asked_sum) = true)
    (n_is_note : nsIn K mainGlobals "is_note" = some (some (.ref a_is_note)))
    (l_is_note : K.lookup a_is_note = some ⟨oc_is_note, od_is_note, .func (fnOf "is_note" "is_note" (defArgs (top 20)) (defBody (top 20)) (defScope (top 20)) .none kV_is_note dc_is_note pm_is_note an_is_note cd_is_note ct_is_note), sl_is_note⟩)
    (c_is_note : codeIn K cd_is_note "is_note" = true)
    (k_is_note : keepIn K (.ref a_is_note) = true)
    (n_law_book : nsIn K mainGlobals "_law_book" = some (some (.ref a_law_book)))
    (l_law_book : K.lookup a_law_book = some ⟨oc_law_book, od_law_book, .func (fnOf "_law_book" "_law_book" (defArgs (top 37)) (defBody (top 37)) (defScope (top 37)) .none kV_law_book dc_law_book pm_law_book an_law_book cd_law_book ct_law_book), sl_law_book⟩)
    (c_law_book : codeIn K cd_law_book "_law_book" = true)
    (k_law_book : keepIn K (.ref a_law_book) = true)
    (n_check_notes : nsIn K mainGlobals "check_notes" = some (some (.ref a_check_notes)))
    (l_check_notes : K.lookup a_check_notes = some ⟨oc_check_notes, od_check_notes, .func (fnOf "check_notes" "check_notes" (defArgs (top 21)) (defBody (top 21)) (defScope (top 21)) .none kV_check_notes dc_check_notes pm_check_notes an_check_notes cd_check_notes ct_check_notes), sl_check_notes⟩)
    (c_check_notes : codeIn K cd_check_notes "check_notes" = true)
    (k_check_notes : keepIn K (.ref a_check_notes) = true)
    (n_check_lots : nsIn K mainGlobals "check_lots" = some (some (.ref a_check_lots)))
    (l_check_lots : K.lookup a_check_lots = some ⟨oc_check_lots, od_check_lots, .func (fnOf "check_lots" "check_lots" (defArgs (top 22)) (defBody (top 22)) (defScope (top 22)) .none kV_check_lots dc_check_lots pm_check_lots an_check_lots cd_check_lots ct_check_lots), sl_check_lots⟩)
    (c_check_lots : codeIn K cd_check_lots "check_lots" = true)
    (k_check_lots : keepIn K (.ref a_check_lots) = true)
    (n_near_sums : nsIn K mainGlobals "near_sums" = some (some (.ref a_near_sums)))
    (l_near_sums : K.lookup a_near_sums = some ⟨oc_near_sums, od_near_sums, .func (fnOf "near_sums" "near_sums" (defArgs (top 30)) (defBody (top 30)) (defScope (top 30)) .none kV_near_sums dc_near_sums pm_near_sums an_near_sums cd_near_sums ct_near_sums), sl_near_sums⟩)
    (c_near_sums : codeIn K cd_near_sums "near_sums" = true)
    (k_near_sums : keepIn K (.ref a_near_sums) = true)
    (n_a_lot : nsIn K mainGlobals "a_lot" = some (some (.ref a_a_lot)))
    (l_a_lot : K.lookup a_a_lot = some ⟨oc_a_lot, od_a_lot, .func (fnOf "a_lot" "a_lot" (defArgs (top 27)) (defBody (top 27)) (defScope (top 27)) .none kV_a_lot dc_a_lot pm_a_lot an_a_lot cd_a_lot ct_a_lot), sl_a_lot⟩)
    (c_a_lot : codeIn K cd_a_lot "a_lot" = true)
    (k_a_lot : keepIn K (.ref a_a_lot) = true)
    (n_lots_with : nsIn K mainGlobals "lots_with" = some (some (.ref a_lots_with)))
    (l_lots_with : K.lookup a_lots_with = some ⟨oc_lots_with, od_lots_with, .func (fnOf "lots_with" "lots_with" (defArgs (top 26)) (defBody (top 26)) (defScope (top 26)) .none kV_lots_with dc_lots_with pm_lots_with an_lots_with cd_lots_with ct_lots_with), sl_lots_with⟩)
    (c_lots_with : codeIn K cd_lots_with "lots_with" = true)
    (k_lots_with : keepIn K (.ref a_lots_with) = true)
    (n_shows_lot : nsIn K mainGlobals "shows_lot" = some (some (.ref a_shows_lot)))
    (l_shows_lot : K.lookup a_shows_lot = some ⟨oc_shows_lot, od_shows_lot, .func (fnOf "shows_lot" "shows_lot" (defArgs (top 29)) (defBody (top 29)) (defScope (top 29)) .none kV_shows_lot dc_shows_lot pm_shows_lot an_shows_lot cd_shows_lot ct_shows_lot), sl_shows_lot⟩)
    (c_shows_lot : codeIn K cd_shows_lot "shows_lot" = true)
    (k_shows_lot : keepIn K (.ref a_shows_lot) = true)
    (n_law_are_lots_right : nsIn K mainGlobals "_law_are_lots_right" = some (some (.ref a_law_are_lots_right)))
    (l_law_are_lots_right : K.lookup a_law_are_lots_right = some ⟨oc_law_are_lots_right, od_law_are_lots_right, .func (fnOf "_law_are_lots_right" "_law_are_lots_right" (defArgs (top 40)) (defBody (top 40)) (defScope (top 40)) .none kV_law_are_lots_right dc_law_are_lots_right pm_law_are_lots_right an_law_are_lots_right cd_law_are_lots_right ct_law_are_lots_right), sl_law_are_lots_right⟩)
    (c_law_are_lots_right : codeIn K cd_law_are_lots_right "_law_are_lots_right" = true)
    (k_law_are_lots_right : keepIn K (.ref a_law_are_lots_right) = true)
    (n_law_is_one_right : nsIn K mainGlobals "_law_is_one_right" = some (some (.ref a_law_is_one_right)))
    (l_law_is_one_right : K.lookup a_law_is_one_right = some ⟨oc_law_is_one_right, od_law_is_one_right, .func (fnOf "_law_is_one_right" "_law_is_one_right" (defArgs (top 41)) (defBody (top 41)) (defScope (top 41)) .none kV_law_is_one_right dc_law_is_one_right pm_law_is_one_right an_law_is_one_right cd_law_is_one_right ct_law_is_one_right), sl_law_is_one_right⟩)
    (c_law_is_one_right : codeIn K cd_law_is_one_right "_law_is_one_right" = true)
    (k_law_is_one_right : keepIn K (.ref a_law_is_one_right) = true)
    (n_law_right : nsIn K mainGlobals "_law_right" = some (some (.ref a_law_right)))
    (l_law_right : K.lookup a_law_right = some ⟨oc_law_right, od_law_right, .func (fnOf "_law_right" "_law_right" (defArgs (top 42)) (defBody (top 42)) (defScope (top 42)) .none kV_law_right dc_law_right pm_law_right an_law_right cd_law_right ct_law_right), sl_law_right⟩)
    (c_law_right : codeIn K cd_law_right "_law_right" = true)
    (k_law_right : keepIn K (.ref a_law_right) = true)
    (n_law : nsIn K mainGlobals "law" = some (some (.ref a_law)))
    (l_law : K.lookup a_law = some ⟨oc_law, od_law, .func (fnOf "law" "law" (defArgs (top 43)) (defBody (top 43)) (defScope (top 43)) .none kV_law dc_law pm_law an_law cd_law ct_law), sl_law⟩)
    (c_law : codeIn K cd_law "law" = true)
    (k_law : keepIn K (.ref a_law) = true)
    (n_BookError : nsIn K mainGlobals "BookError" = some (some (.ref a_BookError)))
    (n_TooMany : nsIn K mainGlobals "TooMany" = some (some (.ref a_TooMany)))
    (fi_ei : findIn K (.ref a_BookError) "__init__" = some (some (.ref a_ei)))
    (l_ei : K.lookup a_ei = some ⟨oc_ei, od_ei, .func (ksFn "__init__" "BookError.__init__" (defArgs (inClass (top 1) 0)) (eiBody ⟨5, 8, 5, 13⟩ ⟨5, 8, 5, 15⟩ ⟨5, 8, 5, 24⟩ ⟨5, 25, 5, 30⟩ ⟨5, 8, 5, 31⟩ ⟨5, 8, 5, 31⟩ ⟨6, 8, 6, 12⟩ ⟨6, 8, 6, 18⟩ ⟨6, 21, 6, 26⟩ ⟨6, 8, 6, 26⟩) (defScope (inClass (top 1) 0)) .none kV_ei dc_ei pm_ei an_ei (.ref cda_ei) ct_ei cc_ei), sl_ei⟩)
    (c_ei : codeIn K (.ref cda_ei) "BookError.__init__" = true)
    (ti_ei : typeIn K (.ref a_ei) = some (.type "function"))
    (lc_ei : K.lookup cda_ei = some ⟨ccl_ei, cdd_ei, .fields vs_ei, ccs_ei⟩)
    (kr_vs : vs_ei[2]? = some (.str file_ei tf_ei))
    (kr_file : ((PySem.Challenge.pw_oncebooked_k36_lots_with_a_sum.main.file : Str) == file_ei) = true)
    (lx_ei : K.lookup cc_ei = some ⟨cl_ei, cld_ei, .cell (some (.ref a_BookError)), csl_ei⟩)
    (cd_ei : clsIn K a_BookError = some cdD_ei)
    (op_ei : nsIn K cStatics "thirdparty.any" = some none)
    (su_ei : nsIn K mainGlobals "super" = some none)
    (kr_top : (PySem.Challenge.pw_oncebooked_k36_lots_with_a_sum.main.scope.names.lookup ("super" : Str)).isSome = false)
    (sg_ei : specialIn K (.builtin "object.__class__") "__get__" = some (some (.builtin "getset_descriptor.__get__")))
    (st_ei : takesIn K (.builtin "object.__class__") = some true)
    (kr_D : ((clsIn K a_BookError).isSome && typeIn K (.ref a_BookError) == some (.type "type")) = true)
    (kr_BookError : erB K a_BookError a_ei a_BookError = true)
    (kr_TooMany : erB K a_BookError a_ei a_TooMany = true)
    (kr_nd_TooMany : Nat.beq a_TooMany a_BookError = false)
    (kr_nodup : List.Nodup [a_TooMany])
    (g_LETTERS : nsIn K mainGlobals "LETTERS" = some (some (.str "abcdefghijklmnopqrstuvwxyz" t_LETTERS)))
    (g_MOST_LETTERS : nsIn K mainGlobals "MOST_LETTERS" = some (some (.int 12 t_MOST_LETTERS)))
    (g_MOST_AMOUNT : nsIn K mainGlobals "MOST_AMOUNT" = some (some (.int 1000000000000 t_MOST_AMOUNT)))
    (g_MOST_NOTES : nsIn K mainGlobals "MOST_NOTES" = some (some (.int 200 t_MOST_NOTES)))
    (g_MOST_ALL_LOTS : nsIn K mainGlobals "MOST_ALL_LOTS" = some (some (.int 20 t_MOST_ALL_LOTS)))
    (g_MOST_ONE_LOT : nsIn K mainGlobals "MOST_ONE_LOT" = some (some (.int 24 t_MOST_ONE_LOT)))
    (g_MOST_LOTS : nsIn K mainGlobals "MOST_LOTS" = some (some (.int 1000 t_MOST_LOTS)))
    (g_PAIR : nsIn K mainGlobals "PAIR" = some (some (.int 2 t_PAIR)))
    (n_ValueError : nsIn K mainGlobals "ValueError" = some none)
    (n_abs : nsIn K mainGlobals "abs" = some none)
    (n_all : nsIn K mainGlobals "all" = some none)
    (n_bool : nsIn K mainGlobals "bool" = some none)
    (n_enumerate : nsIn K mainGlobals "enumerate" = some none)
    (n_int : nsIn K mainGlobals "int" = some none)
    (n_isinstance : nsIn K mainGlobals "isinstance" = some none)
    (n_len : nsIn K mainGlobals "len" = some none)
    (n_list : nsIn K mainGlobals "list" = some none)
    (n_max : nsIn K mainGlobals "max" = some none)
    (n_min : nsIn K mainGlobals "min" = some none)
    (n_range : nsIn K mainGlobals "range" = some none)
    (n_repr : nsIn K mainGlobals "repr" = some none)
    (n_sorted : nsIn K mainGlobals "sorted" = some none)
    (n_str : nsIn K mainGlobals "str" = some none)
    (n_sum : nsIn K mainGlobals "sum" = some none)
    (n_tuple : nsIn K mainGlobals "tuple" = some none)
    (n_zip : nsIn K mainGlobals "zip" = some none) : Tx K mg where
  a_lots_of_notes := a_lots_of_notes
  d_lots_of_notes := fnOf "lots_of_notes" "lots_of_notes" (defArgs (top 23)) (defBody (top 23)) (defScope (top 23)) .none kV_lots_of_notes dc_lots_of_notes pm_lots_of_notes an_lots_of_notes cd_lots_of_notes ct_lots_of_notes
  F_lots_of_notes := fun_mk (st := (top 23)) l_lots_of_notes c_lots_of_notes k_lots_of_notes
  m_lots_of_notes := mg_of X G n_lots_of_notes
  a_is_integer := a_is_integer
  d_is_integer := fnOf "is_integer" "is_integer" (defArgs (top 7)) (defBody (top 7)) (defScope (top 7)) .none kV_is_integer dc_is_integer pm_is_integer an_is_integer cd_is_integer ct_is_integer
  F_is_integer := fun_mk (st := (top 7)) l_is_integer c_is_integer k_is_integer
  m_is_integer := mg_of X G n_is_integer
  a_is_note_word := a_is_note_word
  d_is_note_word := fnOf "is_note_word" "is_note_word" (defArgs (top 18)) (defBody (top 18)) (defScope (top 18)) .none kV_is_note_word dc_is_note_word pm_is_note_word an_is_note_word cd_is_note_word ct_is_note_word
  F_is_note_word := fun_mk (st := (top 18)) l_is_note_word c_is_note_word k_is_note_word
  m_is_note_word := mg_of X G n_is_note_word
  a_law_take := a_law_take
  d_law_take := fnOf "_law_take" "_law_take" (defArgs (top 33)) (defBody (top 33)) (defScope (top 33)) .none kV_law_take dc_law_take pm_law_take an_law_take cd_law_take ct_law_take
  F_law_take := fun_mk (st := (top 33)) l_law_take c_law_take k_law_take
  m_law_take := mg_of X G n_law_take
  a_lots_by_sum := a_lots_by_sum
  d_lots_by_sum := fnOf "lots_by_sum" "lots_by_sum" (defArgs (top 25)) (defBody (top 25)) (defScope (top 25)) .none kV_lots_by_sum dc_lots_by_sum pm_lots_by_sum an_lots_by_sum cd_lots_by_sum ct_lots_by_sum
  F_lots_by_sum := fun_mk (st := (top 25)) l_lots_by_sum c_lots_by_sum k_lots_by_sum
  m_lots_by_sum := mg_of X G n_lots_by_sum
  a_law_all_sums := a_law_all_sums
  d_law_all_sums := fnOf "_law_all_sums" "_law_all_sums" (defArgs (top 38)) (defBody (top 38)) (defScope (top 38)) .none kV_law_all_sums dc_law_all_sums pm_law_all_sums an_law_all_sums cd_law_all_sums ct_law_all_sums
  F_law_all_sums := fun_mk (st := (top 38)) l_law_all_sums c_law_all_sums k_law_all_sums
  m_law_all_sums := mg_of X G n_law_all_sums
  a_law_pot := a_law_pot
  d_law_pot := fnOf "_law_pot" "_law_pot" (defArgs (top 32)) (defBody (top 32)) (defScope (top 32)) .none kV_law_pot dc_law_pot pm_law_pot an_law_pot cd_law_pot ct_law_pot
  F_law_pot := fun_mk (st := (top 32)) l_law_pot c_law_pot k_law_pot
  m_law_pot := mg_of X G n_law_pot
  a_law_cells := a_law_cells
  d_law_cells := fnOf "_law_cells" "_law_cells" (defArgs (top 35)) (defBody (top 35)) (defScope (top 35)) .none kV_law_cells dc_law_cells pm_law_cells an_law_cells cd_law_cells ct_law_cells
  F_law_cells := fun_mk (st := (top 35)) l_law_cells c_law_cells k_law_cells
  m_law_cells := mg_of X G n_law_cells
  a_halves := a_halves
  d_halves := fnOf "halves" "halves" (defArgs (top 24)) (defBody (top 24)) (defScope (top 24)) .none kV_halves dc_halves pm_halves an_halves cd_halves ct_halves
  F_halves := fun_mk (st := (top 24)) l_halves c_halves k_halves
  m_halves := mg_of X G n_halves
  a_is_within := a_is_within
  d_is_within := fnOf "is_within" "is_within" (defArgs (top 8)) (defBody (top 8)) (defScope (top 8)) .none kV_is_within dc_is_within pm_is_within an_is_within cd_is_within ct_is_within
  F_is_within := fun_mk (st := (top 8)) l_is_within c_is_within k_is_within
  m_is_within := mg_of X G n_is_within
  a_law_of := a_law_of
  d_law_of := fnOf "_law_of" "_law_of" (defArgs (top 34)) (defBody (top 34)) (defScope (top 34)) .none kV_law_of dc_law_of pm_law_of an_law_of cd_law_of ct_law_of
  F_law_of := fun_mk (st := (top 34)) l_law_of c_law_of k_law_of
  m_law_of := mg_of X G n_law_of
  a_is_note_amount := a_is_note_amount
  d_is_note_amount := fnOf "is_note_amount" "is_note_amount" (defArgs (top 19)) (defBody (top 19)) (defScope (top 19)) .none kV_is_note_amount dc_is_note_amount pm_is_note_amount an_is_note_amount cd_is_note_amount ct_is_note_amount
  F_is_note_amount := fun_mk (st := (top 19)) l_is_note_amount c_is_note_amount k_is_note_amount
  m_is_note_amount := mg_of X G n_is_note_amount
  a_law_note := a_law_note
  d_law_note := fnOf "_law_note" "_law_note" (defArgs (top 36)) (defBody (top 36)) (defScope (top 36)) .none kV_law_note dc_law_note pm_law_note an_law_note cd_law_note ct_law_note
  F_law_note := fun_mk (st := (top 36)) l_law_note c_law_note k_law_note
  m_law_note := mg_of X G n_law_note
  a_is_lot_of := a_is_lot_of
  d_is_lot_of := fnOf "is_lot_of" "is_lot_of" (defArgs (top 28)) (defBody (top 28)) (defScope (top 28)) .none kV_is_lot_of dc_is_lot_of pm_is_lot_of an_is_lot_of cd_is_lot_of ct_is_lot_of
  F_is_lot_of := fun_mk (st := (top 28)) l_is_lot_of c_is_lot_of k_is_lot_of
  m_is_lot_of := mg_of X G n_is_lot_of
  a_law_asked_sum := a_law_asked_sum
  d_law_asked_sum := fnOf "_law_asked_sum" "_law_asked_sum" (defArgs (top 39)) (defBody (top 39)) (defScope (top 39)) .none kV_law_asked_sum dc_law_asked_sum pm_law_asked_sum an_law_asked_sum cd_law_asked_sum ct_law_asked_sum
  F_law_asked_sum := fun_mk (st := (top 39)) l_law_asked_sum c_law_asked_sum k_law_asked_sum
  m_law_asked_sum := mg_of X G n_law_asked_sum
  a_is_note := a_is_note
  d_is_note := fnOf "is_note" "is_note" (defArgs (top 20)) (defBody (top 20)) (defScope (top 20)) .none kV_is_note dc_is_note pm_is_note an_is_note cd_is_note ct_is_note
  F_is_note := fun_mk (st := (top 20)) l_is_note c_is_note k_is_note
  m_is_note := mg_of X G n_is_note
  a_law_book := a_law_book
  d_law_book := fnOf "_law_book" "_law_book" (defArgs (top 37)) (defBody (top 37)) (defScope (top 37)) .none kV_law_book dc_law_book pm_law_book an_law_book cd_law_book ct_law_book
  F_law_book := fun_mk (st := (top 37)) l_law_book c_law_book k_law_book
  m_law_book := mg_of X G n_law_book
  a_check_notes := a_check_notes
  d_check_notes := fnOf "check_notes" "check_notes" (defArgs (top 21)) (defBody (top 21)) (defScope (top 21)) .none kV_check_notes dc_check_notes pm_check_notes an_check_notes cd_check_notes ct_check_notes
  F_check_notes := fun_mk (st := (top 21)) l_check_notes c_check_notes k_check_notes
  m_check_notes := mg_of X G n_check_notes
  a_check_lots := a_check_lots
  d_check_lots := fnOf "check_lots" "check_lots" (defArgs (top 22)) (defBody (top 22)) (defScope (top 22)) .none kV_check_lots dc_check_lots pm_check_lots an_check_lots cd_check_lots ct_check_lots
  F_check_lots := fun_mk (st := (top 22)) l_check_lots c_check_lots k_check_lots
  m_check_lots := mg_of X G n_check_lots
  a_near_sums := a_near_sums
  d_near_sums := fnOf "near_sums" "near_sums" (defArgs (top 30)) (defBody (top 30)) (defScope (top 30)) .none kV_near_sums dc_near_sums pm_near_sums an_near_sums cd_near_sums ct_near_sums
  F_near_sums := fun_mk (st := (top 30)) l_near_sums c_near_sums k_near_sums
  m_near_sums := mg_of X G n_near_sums
  a_a_lot := a_a_lot
  d_a_lot := fnOf "a_lot" "a_lot" (defArgs (top 27)) (defBody (top 27)) (defScope (top 27)) .none kV_a_lot dc_a_lot pm_a_lot an_a_lot cd_a_lot ct_a_lot
  F_a_lot := fun_mk (st := (top 27)) l_a_lot c_a_lot k_a_lot
  m_a_lot := mg_of X G n_a_lot
  a_lots_with := a_lots_with
  d_lots_with := fnOf "lots_with" "lots_with" (defArgs (top 26)) (defBody (top 26)) (defScope (top 26)) .none kV_lots_with dc_lots_with pm_lots_with an_lots_with cd_lots_with ct_lots_with
  F_lots_with := fun_mk (st := (top 26)) l_lots_with c_lots_with k_lots_with
  m_lots_with := mg_of X G n_lots_with
  a_shows_lot := a_shows_lot
  d_shows_lot := fnOf "shows_lot" "shows_lot" (defArgs (top 29)) (defBody (top 29)) (defScope (top 29)) .none kV_shows_lot dc_shows_lot pm_shows_lot an_shows_lot cd_shows_lot ct_shows_lot
  F_shows_lot := fun_mk (st := (top 29)) l_shows_lot c_shows_lot k_shows_lot
  m_shows_lot := mg_of X G n_shows_lot
  a_law_are_lots_right := a_law_are_lots_right
  d_law_are_lots_right := fnOf "_law_are_lots_right" "_law_are_lots_right" (defArgs (top 40)) (defBody (top 40)) (defScope (top 40)) .none kV_law_are_lots_right dc_law_are_lots_right pm_law_are_lots_right an_law_are_lots_right cd_law_are_lots_right ct_law_are_lots_right
  F_law_are_lots_right := fun_mk (st := (top 40)) l_law_are_lots_right c_law_are_lots_right k_law_are_lots_right
  m_law_are_lots_right := mg_of X G n_law_are_lots_right
  a_law_is_one_right := a_law_is_one_right
  d_law_is_one_right := fnOf "_law_is_one_right" "_law_is_one_right" (defArgs (top 41)) (defBody (top 41)) (defScope (top 41)) .none kV_law_is_one_right dc_law_is_one_right pm_law_is_one_right an_law_is_one_right cd_law_is_one_right ct_law_is_one_right
  F_law_is_one_right := fun_mk (st := (top 41)) l_law_is_one_right c_law_is_one_right k_law_is_one_right
  m_law_is_one_right := mg_of X G n_law_is_one_right
  a_law_right := a_law_right
  d_law_right := fnOf "_law_right" "_law_right" (defArgs (top 42)) (defBody (top 42)) (defScope (top 42)) .none kV_law_right dc_law_right pm_law_right an_law_right cd_law_right ct_law_right
  F_law_right := fun_mk (st := (top 42)) l_law_right c_law_right k_law_right
  m_law_right := mg_of X G n_law_right
  a_law := a_law
  d_law := fnOf "law" "law" (defArgs (top 43)) (defBody (top 43)) (defScope (top 43)) .none kV_law dc_law pm_law an_law cd_law ct_law
  F_law := fun_mk (st := (top 43)) l_law c_law k_law
  m_law := mg_of X G n_law
  a_BookError := a_BookError
  m_BookError := mg_of X G n_BookError
  a_TooMany := a_TooMany
  m_TooMany := mg_of X G n_TooMany
  a_ei := a_ei
  d_ei := ksFn "__init__" "BookError.__init__" (defArgs (inClass (top 1) 0)) (eiBody ⟨5, 8, 5, 13⟩ ⟨5, 8, 5, 15⟩ ⟨5, 8, 5, 24⟩ ⟨5, 25, 5, 30⟩ ⟨5, 8, 5, 31⟩ ⟨5, 8, 5, 31⟩ ⟨6, 8, 6, 12⟩ ⟨6, 8, 6, 18⟩ ⟨6, 21, 6, 26⟩ ⟨6, 8, 6, 26⟩) (defScope (inClass (top 1) 0)) .none kV_ei dc_ei pm_ei an_ei (.ref cda_ei) ct_ei cc_ei
  ti_ei := ti_ei
  ei := fun w base CX k => einit_run (by rfl) l_ei c_ei (by rfl) (by rfl) lc_ei kr_vs kr_file lx_ei cd_ei op_ei (mg_none_of X G su_ei) kr_top (by rfl) (by rfl) (by rfl) (by decide +kernel) (by rfl) (by rfl) (by rfl) (by rfl)
  b_ei := .all fun us h => match us, h with | [_, _], _ => by rfl
  e_BookError := erB_ok sg_ei st_ei kr_D kr_BookError
  e_TooMany := erB_ok sg_ei st_ei kr_D kr_TooMany
  nd_TooMany := Nat.ne_of_beq_eq_false kr_nd_TooMany
  nodup_errs := kr_nodup
  t_LETTERS := t_LETTERS
  g_LETTERS := mg_of X G g_LETTERS
  t_MOST_LETTERS := t_MOST_LETTERS
  g_MOST_LETTERS := mg_of X G g_MOST_LETTERS
  t_MOST_AMOUNT := t_MOST_AMOUNT
  g_MOST_AMOUNT := mg_of X G g_MOST_AMOUNT
  t_MOST_NOTES := t_MOST_NOTES
  g_MOST_NOTES := mg_of X G g_MOST_NOTES
  t_MOST_ALL_LOTS := t_MOST_ALL_LOTS
  g_MOST_ALL_LOTS := mg_of X G g_MOST_ALL_LOTS
  t_MOST_ONE_LOT := t_MOST_ONE_LOT
  g_MOST_ONE_LOT := mg_of X G g_MOST_ONE_LOT
  t_MOST_LOTS := t_MOST_LOTS
  g_MOST_LOTS := mg_of X G g_MOST_LOTS
  t_PAIR := t_PAIR
  g_PAIR := mg_of X G g_PAIR
  n_ValueError := mg_none_of X G n_ValueError
  n_abs := mg_none_of X G n_abs
  n_all := mg_none_of X G n_all
  n_bool := mg_none_of X G n_bool
  n_enumerate := mg_none_of X G n_enumerate
  n_int := mg_none_of X G n_int
  n_isinstance := mg_none_of X G n_isinstance
  n_len := mg_none_of X G n_len
  n_list := mg_none_of X G n_list
  n_max := mg_none_of X G n_max
  n_min := mg_none_of X G n_min
  n_range := mg_none_of X G n_range
  n_repr := mg_none_of X G n_repr
  n_sorted := mg_none_of X G n_sorted
  n_str := mg_none_of X G n_str
  n_sum := mg_none_of X G n_sum
  n_tuple := mg_none_of X G n_tuple
  n_zip := mg_none_of X G n_zip
section
variable {P : Program} {w : World} {K : Frag} {mg : Str → Option Value} {base : Heap}
/-! ### words -/
def inW (v : V) (b c : Int) : Bool := match v with
  | .int a => decide (b ≤ a ∧ a ≤ c)
  | _ => false
def isI (v : V) : Bool := match v with
  | .int _ => true
  | _ => false
/-- a number or a truth value -/
def Nb (v : V) : Prop := (∃ a, v = .int a) ∨ ∃ b, v = .bl b
theorem isi_bl {b : Bool} {H : Hp} {Q : VK} (k : Q (.bl true) H) : rIsi K [.bl b, .ty "int"] H Q := ⟨_, _, _, _, true, rfl, .ty "int", .base (.bl b), kit_ty (by decide +kernel), k⟩
theorem isi_blB {b : Bool} {H : Hp} {Q : VK} (k : Q (.bl true) H) : rIsi K [.bl b, .ty "bool"] H Q := ⟨_, _, _, _, true, rfl, .ty "bool", .base (.bl b), kit_ty (by decide +kernel), k⟩
/-- no number -/
structure NI (K : Frag) (H : Hp) (v : V) : Prop where
  i : isI v = false
  w : ∀ b c, inW v b c = false
  k : ∀ Q : VK, Q (.bl false) H → rIsi K [v, .ty "int"] H Q
/-- a value of which is asked whether it is a number -/
def Nc (K : Frag) (H : Hp) (v : V) : Prop := Nb v ∨ NI K H v
def sp_is_integer (K : Frag) : Sp := fun vs H Q E => vs.length = 1 ∧ ∃ v, vs = [v] ∧ Nc K H v ∧ Q (.bl (isI v)) H
abbrev names_is_integer : List Str := ["value"]
theorem sc_is_integer : FnScope names_is_integer ["value"] (defScope (top 7)) := ⟨rfl, rfl, rfl, by decide +kernel, rfl, by decide +kernel, by decide +kernel⟩
set_option maxHeartbeats 4000000 in
theorem ok_is_integer (T : Tx K mg) : FG P w K mg base CX0 1 T.a_is_integer T.d_is_integer ["value"] (sp_is_integer K) := by
  refine OB.Fun.fg T.F_is_integer sc_is_integer (fun vs H Q E h => h.1) (fun cdv A out s H vs Q E g h => ?_)
  obtain ⟨_, v, rfl, hv, k⟩ := h
  refine ⟨_, (pss_one (ps_ret (pe_and (pe_callB (toK (r := rIsi) (K := K) rfl call_isi) (by rfl) T.n_isinstance (by decide +kernel) (pa_cons (pv 0) (pa_cons (pe_bltn (v := .ty "int") (by rfl) T.n_int (by decide +kernel) rfl) pa_nil))) (pe_one (pe_not (pe_callB (toK (r := rIsi) (K := K) rfl call_isi) (by rfl) T.n_isinstance (by decide +kernel) (pa_cons (pv 0) (pa_cons (pe_bltn (v := .ty "bool") (by rfl) T.n_bool (by decide +kernel) rfl) pa_nil)))))))), ?_⟩
  refine g_start (σ := [some _]) rfl ?_
  rcases hv with (⟨a, rfl⟩ | ⟨b, rfl⟩) | hn
  · repeat walk_at "ob1"
    exact k
  · repeat walk_at "ob1"
    refine isi_bl ?_
    repeat walk_at "ob1"
    refine isi_blB ?_
    repeat walk_at "ob1"
    exact k
  · rw [hn.i] at k
    repeat walk_at "ob1"
    refine hn.k _ ?_
    repeat walk_at "ob1"
    exact k
def sp_is_within (K : Frag) : Sp := fun vs H Q E => vs.length = 3 ∧ ∃ v, ∃ b c : Int, vs = [v, .int b, .int c] ∧ Nc K H v ∧ Q (.bl (inW v b c)) H
abbrev names_is_within : List Str := ["value", "least", "most"]
theorem sc_is_within : FnScope names_is_within ["value", "least", "most"] (defScope (top 8)) := ⟨rfl, rfl, rfl, by decide +kernel, rfl, by decide +kernel, by decide +kernel⟩
set_option maxHeartbeats 4000000 in
theorem ok_is_within (T : Tx K mg) : FG P w K mg base CX0 2 T.a_is_within T.d_is_within ["value", "least", "most"] (sp_is_within K) := by
  refine OB.Fun.fg T.F_is_within sc_is_within (fun vs H Q E h => h.1) (fun cdv A out s H vs Q E g h => ?_)
  obtain ⟨_, v, b, c, rfl, hv, k⟩ := h
  refine ⟨_, (pss_one (ps_ret (pe_and (pe_cg (ok_is_integer T) (g.mono (by decide : 1 ≤ 1)) (by rfl) T.m_is_integer T.F_is_integer.kp (OB.Fun.bd T.F_is_integer (ps := ["value"]) (n := 1) (ks := []) (ix := [0]) (fun _ _ _ _ _ _ us ws h1 h2 => match us, ws, h1, h2 with | [_], [], _, _ => rfl)) pass0 (pa_cons (pv 0) pa_nil) pk_nil) (pe_one (pe_chain op_le op_le (pv 1) (pv 0) (pv 2)))))), ?_⟩
  refine g_start (σ := [some _, some _, some _]) rfl ?_
  rcases hv with (⟨a, rfl⟩ | ⟨x, rfl⟩) | hn
  · repeat walk_at "ob1"
    refine ⟨rfl, .int a, rfl, .inl (.inl ⟨a, rfl⟩), ?_⟩
    unfold isI
    unfold inW at k
    repeat walk_at "ob1"
    refine g_iteD (fun h1 => ?_) (fun h1 => ?_)
    · repeat walk_at "ob1"
      have e : decide (b ≤ a ∧ a ≤ c) = decide (a ≤ c) := by simp [h1]
      rw [← e]
      exact k
    · have e : decide (b ≤ a ∧ a ≤ c) = false := by simp [h1]
      rw [← e]
      exact k
  · repeat walk_at "ob1"
    refine ⟨rfl, .bl x, rfl, .inl (.inr ⟨x, rfl⟩), ?_⟩
    unfold isI
    unfold inW at k
    repeat walk_at "ob1"
    exact k
  · rw [hn.w] at k
    repeat walk_at "ob1"
    refine ⟨rfl, v, rfl, .inr hn, ?_⟩
    rw [hn.i]
    repeat walk_at "ob1"
    exact k
/-! ### draws -/
/-- the pot: n draws were made at most -/
def potO (a b c : Int) : HO := .lst [.int a, .int b, .int c]
structure PotOk (n : Nat) (a b c : Int) : Prop where
  a0 : 0 ≤ a
  a1 : a.natAbs < 2 ^ 1000
  b0 : 0 ≤ b
  b1 : b < 2 ^ 61
  c0 : 0 ≤ c
  c1 : c ≤ n
theorem pot_div {n : Nat} {a b c u : Int} (o : PotOk n a b c) (u0 : 0 < u) : PotOk (n + 1) (a / u) b c := by
  obtain ⟨a0, a1, b0, b1, c0, c1⟩ := o
  have h1 : 0 ≤ a / u := Int.ediv_nonneg a0 (by omega)
  have h2 : a / u ≤ a := Int.ediv_le_self _ a0
  exact ⟨h1, by omega, b0, b1, c0, by omega⟩
def sp_law_take (K : Frag) : Sp := fun vs H Q E => vs.length = 2 ∧ ∃ (F : List (Addr × HO)) (G : List Ft) (i : Nat) (p : Addr) (n : Nat) (u a b c : Int), vs = [.ref p, .int u] ∧ Sy K F G H ∧ F[i]? = some (p, potO a b c) ∧ PotOk n a b c ∧ n < 1000000 ∧ 0 < u ∧ u < 2 ^ 60 ∧
  ∀ (r a' b' c' : Int) (H' : Hp), 0 ≤ r → r < u → PotOk (n + 1) a' b' c' → Sy K (F.set i (p, potO a' b' c')) G H' → Q (.int r) H'
abbrev names_law_take : List Str := ["pot", "upto", "digit", "prime", "blend"]
theorem sc_law_take : FnScope names_law_take ["pot", "upto"] (defScope (top 33)) := ⟨rfl, rfl, rfl, by decide +kernel, rfl, by decide +kernel, by decide +kernel⟩
set_option maxHeartbeats 4000000 in
theorem ok_law_take (T : Tx K mg) : FG P w K mg base CX0 1 T.a_law_take T.d_law_take ["pot", "upto"] (sp_law_take K) := by
  refine OB.Fun.fg T.F_law_take sc_law_take (fun vs H Q E h => h.1) (fun cdv A out s H vs Q E g h => ?_)
  obtain ⟨_, F, G, i, p, n, u, a, b, c, rfl, S, hF, ok, hn, u0, u1, k⟩ := h
  refine ⟨_, (pss_cons (ps_if (pt_cmpR op_gt (pe_ix (ix_UK (K := K) rfl) (pv 0) pe_int (fun _ _ => rfl)) pe_int (nomark _)) (pss_cons (ps_set (i := 2) sc_law_take.nd rfl (by first | exact Or.inl rfl | exact Or.inr rfl) (pe_op op_mod (pe_callTy c_int (by rfl) T.n_int (by decide +kernel) (pa_cons (pe_ix (ix_UK (K := K) rfl) (pv 0) pe_int (fun _ _ => rfl)) pa_nil)) (pv 1)))
      (pss_cons (ps_asg (pe_op op_fdivW (pe_ix (ix_UK (K := K) rfl) (pv 0) pe_int (fun _ _ => rfl)) (pv 1)) (pg_sub (pv 0) pe_int set_list))
      (pss_one (ps_ret (pv 2))))) pss_nil)
      (pss_cons (ps_asg (pe_op op_add (pe_ix (ix_UK (K := K) rfl) (pv 0) pe_int (fun _ _ => rfl)) pe_int) (pg_sub (pv 0) pe_int set_list))
      (pss_cons (ps_set (i := 3) sc_law_take.nd rfl (by first | exact Or.inl rfl | exact Or.inr rfl) (pe_ix (ix_UK (K := K) rfl) (pe_lst (pa_cons pe_int (pa_cons pe_int (pa_cons pe_int (pa_cons pe_int (pa_cons pe_int pa_nil)))))) (pe_op op_mod (pe_callTy c_int (by rfl) T.n_int (by decide +kernel) (pa_cons (pe_ix (ix_UK (K := K) rfl) (pv 0) pe_int (fun _ _ => rfl)) pa_nil)) pe_int) (fun _ _ => rfl)))
      (pss_cons (ps_set (i := 4) sc_law_take.nd rfl (by first | exact Or.inl rfl | exact Or.inr rfl) (pe_op op_mod (pe_callTy c_int (by rfl) T.n_int (by decide +kernel) (pa_cons (pe_op op_powX (pe_callTy c_int (by rfl) T.n_int (by decide +kernel) (pa_cons (pe_op op_add (pe_op op_add (pe_ix (ix_UK (K := K) rfl) (pv 0) pe_int (fun _ _ => rfl)) (pe_op op_mul (pe_op op_mul pe_int (pe_ix (ix_UK (K := K) rfl) (pv 0) pe_int (fun _ _ => rfl))) (pe_ix (ix_UK (K := K) rfl) (pv 0) pe_int (fun _ _ => rfl)))) pe_int) pa_nil)) pe_int) pa_nil)) (pv 3)))
      (pss_cons (ps_set (i := 4) sc_law_take.nd rfl (by first | exact Or.inl rfl | exact Or.inr rfl) (pe_op op_mod (pe_callTy c_int (by rfl) T.n_int (by decide +kernel) (pa_cons (pe_op op_mul (pv 4) (pe_op op_add (pe_op op_mod (pe_callTy c_int (by rfl) T.n_int (by decide +kernel) (pa_cons (pv 4) pa_nil)) pe_int) (pe_op op_mul pe_int (pe_ix (ix_UK (K := K) rfl) (pv 0) pe_int (fun _ _ => rfl))))) pa_nil)) pe_int))
      (pss_one (ps_ret (pe_op op_mod (pe_callTy c_int (by rfl) T.n_int (by decide +kernel) (pa_cons (pe_op op_fdivW (pv 4) pe_int) pa_nil)) (pv 1))))))))), ?_⟩
  refine g_start (σ := [some _, some _, none, none, none]) rfl ?_
  repeat walk_at "ob1"
  refine g_iteD (fun h1 => ?_) (fun h1 => ?_)
  · repeat walk_at "ob1"
    refine k (a % u) (a / u) b c _ ?_ ?_ ?_ (by assumption)
    · exact Int.emod_nonneg _ (by omega)
    · exact Int.emod_lt_of_pos _ u0
    · exact pot_div ok u0
  · obtain ⟨a0, a1, b0, b1, c0, c1⟩ := ok
    repeat walk_at "ob1"
    obtain ⟨pr, hm, hp⟩ := atI_ints (ns := [2147483647, 2147483629, 2147483587, 2147483579, 2147483563]) (i := (c + 1) % 5) (by omega) (by show _ < (5 : Int); omega)
    have hpr : 0 < pr ∧ pr < 2147483648 := (show ∀ n ∈ ([2147483647, 2147483629, 2147483587, 2147483579, 2147483563] : List Int), 0 < n ∧ n < 2147483648 by decide) pr hm
    refine g_ixUL (by walk_at "obl") hp ?_
    repeat walk_at "ob1"
    have hs : (c + 1) * (c + 1) ≤ 1000000 * 1000000 := Int.mul_le_mul (by omega) (by omega) (by omega) (by decide)
    have hs0 : 0 ≤ (c + 1) * (c + 1) := Int.mul_nonneg (by omega) (by omega)
    have hx : 99401 * (c + 1) * (c + 1) = 99401 * ((c + 1) * (c + 1)) := Int.mul_assoc ..
    refine g_I (cpow_ok (a := 64) (by omega) (by decide) (by decide)) ?_
    repeat walk_at "ob1"
    refine k _ a b (c + 1) _ ?_ ?_ ⟨a0, a1, b0, b1, by omega, by omega⟩ (Sy.less (by assumption))
    · exact Int.emod_nonneg _ (by omega)
    · exact Int.emod_lt_of_pos _ u0
theorem use_take {F : List (Addr × HO)} {G : List Ft} {H : Hp} {Q : VK} {E : XK} {i n : Nat} {p : Addr} {u a b c : Int} (S : Sy K F G H) (hF : F[i]? = some (p, potO a b c)) (ok : PotOk n a b c) (hn : n < 1000000) (u0 : 0 < u) (u1 : u < 2 ^ 60)
    (k : ∀ (r a' b' c' : Int) (H' : Hp), 0 ≤ r → r < u → PotOk (n + 1) a' b' c' → Sy K (F.set i (p, potO a' b' c')) G H' → (F.set i (p, potO a' b' c'))[i]? = some (p, potO a' b' c') → Q (.int r) H') : sp_law_take K [.ref p, .int u] H Q E :=
  ⟨rfl, F, G, i, p, n, u, a, b, c, rfl, S, hF, ok, hn, u0, u1, fun r a' b' c' H' h1 h2 h3 h4 => k r a' b' c' H' h1 h2 h3 h4 (List.getElem?_set_self (List.getElem?_eq_some_iff.mp hF).1)⟩
theorem use_is_integer {a : Int} {H : Hp} {Q : VK} {E : XK} (k : Q (.bl true) H) : sp_is_integer K [.int a] H Q E := ⟨rfl, .int a, rfl, .inl (.inl ⟨a, rfl⟩), k⟩
theorem use_is_within {a b c : Int} {H : Hp} {Q : VK} {E : XK} (k : Q (.bl (decide (b ≤ a ∧ a ≤ c))) H) : sp_is_within K [.int a, .int b, .int c] H Q E := ⟨rfl, .int a, b, c, rfl, .inl (.inl ⟨a, rfl⟩), k⟩
local macro_rules | `(tactic| walk_at "ob") => `(tactic| first
  | walk_at "ob1"
  | refine use_is_integer ?_
  | refine use_is_within ?_
  | with_reducible refine g_lstRg ?_
  | with_reducible refine g_rg1 ?_
  | with_reducible refine g_rg2 ?_
  | with_reducible refine g_tTru ?_
  | ((with_reducible refine' g_truL ?obh ?_); (case obh => walk_at "obl"))
  | ((with_reducible refine' g_ixUT ?obh ?obi ?_); (case obh => walk_at "obt"); (case obi => rfl))
  | with_reducible refine g_forZ ?_
  | with_reducible refine g_forR2 ?_
  | with_reducible refine g_forE ?_
  | with_reducible refine g_lcZ ?_)
theorem PotOk.mono {n m : Nat} {a b c : Int} (o : PotOk n a b c) (h : n ≤ m) : PotOk m a b c := ⟨o.a0, o.a1, o.b0, o.b1, o.c0, by have := o.c1; omega⟩
/-- what a draw leaves -/
def PotK (K : Frag) (F : List (Addr × HO)) (G : List Ft) (i : Nat) (p : Addr) (n : Nat) (R : Hp → Prop) : Prop :=
  ∀ (a' b' c' : Int) (H' : Hp), PotOk n a' b' c' → Sy K (F.set i (p, potO a' b' c')) G H' → (F.set i (p, potO a' b' c'))[i]? = some (p, potO a' b' c') → R H'
def sp_law_of (K : Frag) : Sp := fun vs H Q E => vs.length = 2 ∧ ∃ (F : List (Addr × HO)) (G : List Ft) (i j : Nat) (p q : Addr) (n : Nat) (xs : List V) (a b c : Int), vs = [.ref p, .ref q] ∧ Sy K F G H ∧ F[i]? = some (p, potO a b c) ∧ F[j]? = some (q, .lst xs) ∧ i ≠ j ∧ PotOk n a b c ∧ n < 1000000 ∧ 0 < xs.length ∧ xs.length < 2000000 ∧
  ∀ r ∈ xs, PotK K F G i p (n + 1) (Q r)
abbrev names_law_of : List Str := ["pot", "some"]
theorem sc_law_of : FnScope names_law_of ["pot", "some"] (defScope (top 34)) := ⟨rfl, rfl, rfl, by decide +kernel, rfl, by decide +kernel, by decide +kernel⟩
set_option maxHeartbeats 4000000 in
theorem ok_law_of (T : Tx K mg) : FG P w K mg base CX0 2 T.a_law_of T.d_law_of ["pot", "some"] (sp_law_of K) := by
  refine OB.Fun.fg T.F_law_of sc_law_of (fun vs H Q E h => h.1) (fun cdv A out s H vs Q E g h => ?_)
  obtain ⟨_, F, G, i, j, p, q, n, xs, a, b, c, rfl, S, hF, hj, hij, ok, hn, l0, l1, k⟩ := h
  refine ⟨_, (pss_one (ps_ret (pe_ix (ix_UK (K := K) rfl) (pv 1) (pe_cg (ok_law_take T) (g.mono (by decide : 1 ≤ 1)) (by rfl) T.m_law_take T.F_law_take.kp (OB.Fun.bd T.F_law_take (ps := ["pot", "upto"]) (n := 2) (ks := []) (ix := [0, 1]) (fun _ _ _ _ _ _ us ws h1 h2 => match us, ws, h1, h2 with | [_, _], [], _, _ => rfl)) pass0 (pa_cons (pv 0) (pa_cons (pe_callB (toK (r := OB.rLen) (K := K) rfl c_len) (by rfl) T.n_len PySem.boot_len (pa_cons (pv 1) pa_nil)) pa_nil)) pk_nil) (fun _ _ => rfl)))), ?_⟩
  refine g_start (σ := [some _, some _]) rfl ?_
  have hij' : ∀ x, (F.set i x)[j]? = some (q, .lst xs) := fun x => by rw [List.getElem?_set_ne hij]; exact hj
  repeat walk_at "ob"
  refine use_take S hF ok hn (by omega) (by omega) fun r a' b' c' H' h1 h2 o2 S2 hF2 => ?_
  have hl : r.toNat < xs.length := by omega
  refine g_ixUL (v := xs[r.toNat]) (SqL.of (S2.at j (hij' _))) (atI_nn h1 (List.getElem?_eq_getElem hl)) ?_
  repeat walk_at "ob"
  exact k _ (List.getElem_mem hl) a' b' c' H' o2 S2 hF2
theorem pot_less {F : List (Addr × HO)} {G : List Ft} {H : Hp} {i : Nat} {x : Addr × HO} {y z : Addr × HO} (S : Sy K ((x :: F.set i y).set (i + 1) z) G H) : Sy K (F.set i z) G H := by
  have S5 : Sy K (x :: (F.set i y).set i z) G H := S
  have S6 := S5.less
  rw [List.set_set] at S6
  exact S6
theorem set_at {F : List (Addr × HO)} {i : Nat} {x y : Addr × HO} (h : F[i]? = some x) : (F.set i y)[i]? = some y := List.getElem?_set_self (List.getElem?_eq_some_iff.mp h).1
theorem PotK.use {F : List (Addr × HO)} {G : List Ft} {H : Hp} {i n : Nat} {p : Addr} {R : Hp → Prop} {x : Addr × HO} {a b c : Int} (k : PotK K F G i p n R) (hF : F[i]? = some x) (o : PotOk n a b c) (S : Sy K (F.set i (p, potO a b c)) G H) : R H := k a b c H o S (set_at hF)
theorem use_take2 {F : List (Addr × HO)} {G : List Ft} {H : Hp} {Q : VK} {E : XK} {i n : Nat} {p : Addr} {u a b c : Int} {x : Addr × HO} (S : Sy K (F.set i (p, potO a b c)) G H) (hF : F[i]? = some x) (ok : PotOk n a b c) (hn : n < 1000000) (u0 : 0 < u) (u1 : u < 2 ^ 60)
    (k : ∀ (r a' b' c' : Int) (H' : Hp), 0 ≤ r → r < u → PotOk (n + 1) a' b' c' → Sy K (F.set i (p, potO a' b' c')) G H' → Q (.int r) H') : sp_law_take K [.ref p, .int u] H Q E :=
  use_take S (set_at hF) ok hn u0 u1 fun r a' b' c' H' h1 h2 o S' _ => k r a' b' c' H' h1 h2 o (by rw [List.set_set] at S'; exact S')
/-- behind a list that was just made: it falls away -/
theorem use_of2 {F : List (Addr × HO)} {G : List Ft} {H : Hp} {Q : VK} {E : XK} {i n : Nat} {p q : Addr} {ns : List Int} {vs : List V} {a b c : Int} {x : Addr × HO} (S : Sy K ((q, .lst vs) :: F.set i (p, potO a b c)) G H) (e : vs = ns.map V.int) (hF : F[i]? = some x) (ok : PotOk n a b c) (hn : n < 1000000) (l0 : Nat.ble 1 ns.length = true) (l1 : Nat.ble ns.length 99 = true)
    (k : ∀ r ∈ ns, ∀ (a' b' c' : Int) (H' : Hp), PotOk (n + 1) a' b' c' → Sy K (F.set i (p, potO a' b' c')) G H' → Q (.int r) H') : sp_law_of K [.ref p, .ref q] H Q E := by
  subst e
  have l3 := Nat.le_of_ble_eq_true l0
  have l4 := Nat.le_of_ble_eq_true l1
  refine ⟨rfl, _, G, i + 1, 0, p, q, n, ns.map V.int, a, b, c, rfl, S, set_at hF, rfl, by omega, ok, hn, by rw [List.length_map]; omega, by rw [List.length_map]; omega, fun r hr a' b' c' H' o S' _ => ?_⟩
  obtain ⟨m, hm, rfl⟩ := List.mem_map.mp hr
  exact k m hm a' b' c' H' o (pot_less S')
theorem use_of {F : List (Addr × HO)} {G : List Ft} {H : Hp} {Q : VK} {E : XK} {i j n : Nat} {p q : Addr} {ns : List Int} {a b c : Int} (S : Sy K F G H) (hF : F[i]? = some (p, potO a b c)) (hj : F[j]? = some (q, .lst (ns.map V.int))) (hij : i ≠ j) (ok : PotOk n a b c) (hn : n < 1000000) (l0 : 0 < ns.length) (l1 : ns.length < 100)
    (k : ∀ r ∈ ns, PotK K F G i p (n + 1) (Q (.int r))) : sp_law_of K [.ref p, .ref q] H Q E := ⟨rfl, F, G, i, j, p, q, n, ns.map V.int, a, b, c, rfl, S, hF, hj, hij, ok, hn, by rw [List.length_map]; exact l0, by rw [List.length_map]; omega, fun r hr => by
  obtain ⟨m, hm, rfl⟩ := List.mem_map.mp hr
  exact k m hm⟩
theorem pot_under {F : List (Addr × HO)} {G : List Ft} {H : Hp} {i : Nat} {x y z : Addr × HO} (S : Sy K ((x :: F.set i y).set (i + 1) z) G H) : Sy K (x :: F.set i z) G H := by
  have S5 : Sy K (x :: (F.set i y).set i z) G H := S
  rw [List.set_set] at S5
  exact S5
theorem pot_under2 {F : List (Addr × HO)} {G : List Ft} {H : Hp} {i : Nat} {x y u z : Addr × HO} (S : Sy K ((x :: y :: F.set i u).set (i + 2) z) G H) : Sy K (x :: y :: F.set i z) G H := by
  have S5 : Sy K (x :: y :: (F.set i u).set i z) G H := S
  rw [List.set_set] at S5
  exact S5
theorem all_true {n : Nat} : ((List.replicate n true).all id) = true := List.all_eq_true.mpr fun b hb => (List.mem_replicate.mp hb).2
theorem trues {H : Hp} {vs : List V} {n : Nat} (h : DpAll K H vs (List.replicate n (.bool true))) : vs = (List.replicate n true).map V.bl := by
  rw [dps_scal h fun d hd => by rw [(List.mem_replicate.mp hd).2]; rfl, List.map_replicate, List.map_replicate]
  rfl
theorem ints_imm (l : List Int) : immAll (l.map PyData.int) = true := immAll_of fun x hx => by
  obtain ⟨s, _, rfl⟩ := List.mem_map.mp hx
  rfl
theorem dps_intsV {H : Hp} {vs : List V} {ns : List Int} (h : DpAll K H vs (ns.map PyData.int)) : vs = ns.map V.int := by
  rw [dps_scal h fun d hd => by
    obtain ⟨s, _, rfl⟩ := List.mem_map.mp hd
    rfl, List.map_map]
  rfl
theorem sqt_ints {H : Hp} {p : Addr} {es : List Int} (h : L2.Dp K H (.ref p) (.tuple (es.map .int))) : SqT K H p (es.map V.int) := by
  have q := sqt_scal h fun d hd => by
    obtain ⟨s, _, rfl⟩ := List.mem_map.mp hd
    rfl
  rw [List.map_map] at q
  exact q
theorem dat_ints {H : Hp} {p : Addr} {es : List Int} (h : L2.Dp K H (.ref p) (.tuple (es.map .int))) : (Ft.dat [.ref p] [.tuple (es.map .int)]).ok K H := ⟨dps_one h, by show (imm (.tuple (es.map .int)) && true) = true; rw [Bool.and_true]; exact ints_imm es⟩
theorem cut_tail (xs : List V) : cutV xs (some 1) none = xs.drop 1 := by
  unfold cutV
  cases xs with
  | nil => rfl
  | cons x xs =>
    have e1 : HT.sIx (x :: xs).length 0 (some 1) = 1 := by
      unfold HT.sIx
      simp
    have e2 : HT.sIx (x :: xs).length (x :: xs).length none = (x :: xs).length := rfl
    rw [e1, e2]
    exact List.take_of_length_le (by rw [List.length_drop]; omega)
theorem g_slA {F : List (Addr × HO)} {G : List Ft} {H : Hp} {Q : VK} {l : Addr} {vs : List V} (S : Sy K F G H) (h : SqT K H l vs) (k : ∀ p H', Sy K F (.tq p (vs.drop 1) :: G) H' → Q (.ref p) H') : rSlU K (.ref l) (some 1) none H Q := by
  refine .inl ⟨l, vs, rfl, h, fun z => ?_, fun _ p hp => ?_⟩
  · refine k l H (S.add (.tq l (vs.drop 1)) ?_)
    have e : vs.drop 1 = vs := by
      rw [← cut_tail]
      unfold cutV
      rw [z.1, z.2, List.drop_zero, Nat.sub_zero, List.take_length]
    rw [e]
    exact h
  · rw [cut_tail]
    exact k p _ ((S.over hp).add (.tq p _) (.inl (.inl upd_same)))
theorem g_tupC {tl : TE} {σ : L2.St} {H : Hp} {D : Ends} {g : TG} {tb : TS} (k : tl σ H fun x H1 => tFor (iSeq K (tC x)) g tb D σ H1) : tFor (iSeq K tl) g tb D σ H := k
theorem g_lcE2 {σ : L2.St} {H : Hp} {Q : VK} {g : TG} {tl te : TE} {tt : TT} {own : List Nat} (k : tl σ H fun x H1 => tLc (iSeq K (tC x)) g tt te own σ H1 Q) : tLc (iSeq K tl) g tt te own σ H Q := k
theorem small_ints {l : List Int} {n : Nat} (h : ∀ x ∈ l, x.natAbs < 10 ^ 60) (hl : l.length ≤ n) : Small (63 * n + 10) 1 (.tuple (l.map .int)) := by
  have q : SmallL ((61 + 2) * (l.map PyData.int).length) 0 (l.map PyData.int) := SmallL.all fun x hx => by
    obtain ⟨s, hs, rfl⟩ := List.mem_map.mp hx
    exact Small.int (h s hs)
  rw [List.length_map] at q
  exact (Small.tup q).mono (by omega) (by decide)
theorem g_slL {F : List (Addr × HO)} {G : List Ft} {H : Hp} {Q : VK} {l : Addr} {vs : List V} {lo hi : Option Int} (S : Sy K F G H) (h : SqL K H l vs) (k : ∀ p H', Sy K ((p, .lst (cutV vs lo hi)) :: F) G H' → Q (.ref p) H') : rSlU K (.ref l) lo hi H Q :=
  .inr ⟨l, vs, rfl, h, fun p hp => k p _ (S.push hp)⟩
theorem cut_ints (ns : List Int) (lo hi : Option Int) : ∃ ms : List Int, cutV (ns.map V.int) lo hi = ms.map V.int :=
  ⟨(ns.drop (HT.sIx (ns.map V.int).length 0 lo)).take (HT.sIx (ns.map V.int).length (ns.map V.int).length hi - HT.sIx (ns.map V.int).length 0 lo), by
    unfold cutV
    rw [List.map_take, List.map_drop]⟩
theorem big_ok : (((10 : Int) ^ Int.toNat 60) ^ Int.toNat 5).natAbs < 2 ^ 1000 := by decide +kernel
theorem own_ok (x : Int) (t : Bool) : 0 ≤ x % ((10 ^ Int.toNat 60) ^ Int.toNat 5) * (if t = true then 1 else 0) ∧ (x % ((10 ^ Int.toNat 60) ^ Int.toNat 5) * (if t = true then 1 else 0)).natAbs < 2 ^ 1000 := by
  have h0 : (0 : Int) < (10 ^ Int.toNat 60) ^ Int.toNat 5 := by decide +kernel
  have h1 := Int.emod_nonneg x (Int.ne_of_gt h0)
  have h2 := Int.emod_lt_of_pos x h0
  have h3 := big_ok
  generalize ((10 : Int) ^ Int.toNat 60) ^ Int.toNat 5 = m at *
  cases t with
  | true =>
    rw [if_pos rfl, Int.mul_one]
    exact ⟨h1, by omega⟩
  | false =>
    rw [if_neg (by decide), Int.mul_zero]
    exact ⟨Int.le_refl _, by decide⟩
def sp_law_pot (K : Frag) : Sp := fun vs H Q E => vs.length = 2 ∧ ∃ (F : List (Addr × HO)) (G : List Ft) (a : Addr) (ns : List Int) (i : Int), vs = [.ref a, .int i] ∧ Sy K F (.sq a (ns.map V.int) :: G) H ∧ ns.length ≤ 63 ∧ 0 ≤ i ∧ i ≤ 2 ∧
  ∀ (x y z : Int) (p : Addr) H', PotOk 0 x y z → Sy K ((p, potO x y z) :: F) (.sq a (ns.map V.int) :: G) H' → Q (.ref p) H'
abbrev names_law_pot : List Str := ["script", "place", "cell", "own", "small"]
theorem sc_law_pot : FnScope names_law_pot ["script", "place"] (defScope (top 32)) := ⟨rfl, rfl, rfl, by decide +kernel, rfl, by decide +kernel, by decide +kernel⟩
set_option maxHeartbeats 4000000 in
theorem ok_law_pot (T : Tx K mg) : FG P w K mg base CX0 1 T.a_law_pot T.d_law_pot ["script", "place"] (sp_law_pot K) := by
  refine OB.Fun.fg T.F_law_pot sc_law_pot (fun vs H Q E h => h.1) (fun cdv A out s H vs Q E g h => ?_)
  obtain ⟨_, F, G, a, ns, i, rfl, S, hn, i0, i1, k⟩ := h
  refine ⟨_, (pss_cons (ps_set (i := 2) sc_law_pot.nd rfl (by first | exact Or.inl rfl | exact Or.inr rfl) (pe_ifExp (pt_cmpR op_lt (pv 1) (pe_callB (toK (r := OB.rLen) (K := K) rfl c_len) (by rfl) T.n_len PySem.boot_len (pa_cons (pv 0) pa_nil)) (nomark _)) (pe_ix (ix_UK (K := K) rfl) (pv 0) (pv 1) (fun _ _ => rfl)) (pe_op op_add (pe_op op_add (pe_op op_mod (pe_callB (toK (r := rSum) (K := K) rfl (cr_sum rfl)) (by rfl) T.n_sum (by decide +kernel) (pa_cons (pe_slice (sl_UK (K := K) rfl) (pv 0) po_none (po_some pe_int)) pa_nil)) pe_int) (pe_op op_mul pe_int (pv 1))) pe_int)))
      (pss_cons (ps_set (i := 3) sc_law_pot.nd rfl (by first | exact Or.inl rfl | exact Or.inr rfl) (pe_op op_mul (pe_op op_mod (pe_callTy c_int (by rfl) T.n_int (by decide +kernel) (pa_cons (pe_callB c_abs (by rfl) T.n_abs (by decide +kernel) (pa_cons (pv 2) pa_nil)) pa_nil)) (pe_op op_powX (pe_op op_powX pe_int pe_int) pe_int)) (pe_callTy c_int (by rfl) T.n_int (by decide +kernel) (pa_cons (pe_cmpR op_ge (pe_callB c_abs (by rfl) T.n_abs (by decide +kernel) (pa_cons (pv 2) pa_nil)) (pe_op op_powX pe_int pe_int) (nomark _)) pa_nil))))
      (pss_cons (ps_set (i := 4) sc_law_pot.nd rfl (by first | exact Or.inl rfl | exact Or.inr rfl) (pe_op op_mod (pe_callTy c_int (by rfl) T.n_int (by decide +kernel) (pa_cons (pv 2) pa_nil)) pe_int))
      (pss_one (ps_ret (pe_lst (pa_cons (pv 3) (pa_cons (pe_op op_mod (pe_callTy c_int (by rfl) T.n_int (by decide +kernel) (pa_cons (pe_op op_add (pe_op op_add (pe_op op_mul (pv 4) pe_int) (pe_op op_mul (pe_op op_mul pe_int (pv 1)) (pv 1))) pe_int) pa_nil)) pe_int) (pa_cons pe_int pa_nil))))))))), ?_⟩
  refine g_start (σ := [some _, some _, none, none, none]) rfl ?_
  have hl : (((ns.map V.int).length : Nat) : Int) = ns.length := by rw [List.length_map]
  repeat walk_at "ob"
  refine g_iteD (fun h1 => ?_) (fun h1 => ?_)
  · obtain ⟨c, _, hc⟩ := atI_ints (ns := ns) i0 (by omega)
    repeat walk_at "ob"
    refine g_ixUL (by walk_at "obl") hc ?_
    repeat walk_at "ob"
    refine g_I (show (0 : Int) < _ by decide) ?_
    repeat walk_at "ob"
    rename_i q H2 _ S2
    obtain ⟨w1, w2⟩ := own_ok (if c < 0 then -c else c) (decide ((10 : Int) ^ Int.toNat 18 ≤ (if c < 0 then -c else c)))
    exact k _ _ _ q H2 ⟨w1, w2, by omega, by omega, Int.le_refl _, Int.le_refl _⟩ S2
  · repeat walk_at "ob"
    refine g_slL S (by walk_at "obl") fun l H1 S1 => ?_
    obtain ⟨ms, hms⟩ := cut_ints ns none (some 1)
    rw [hms] at S1
    repeat walk_at "ob"
    refine g_sum (ns := ms) (by walk_at "obl") ?_
    repeat walk_at "ob"
    have S3 := S1.less
    clear S1 S
    generalize ms.sum % 1000003 + 1591 * i + 989 = c
    refine g_I (show (0 : Int) < _ by decide) ?_
    repeat walk_at "ob"
    rename_i q H2 _ S2
    obtain ⟨w1, w2⟩ := own_ok (if c < 0 then -c else c) (decide ((10 : Int) ^ Int.toNat 18 ≤ (if c < 0 then -c else c)))
    exact k _ _ _ q H2 ⟨w1, w2, by omega, by omega, Int.le_refl _, Int.le_refl _⟩ S2
def sp_law_cells (K : Frag) : Sp := fun vs H Q E => vs.length = 2 ∧ ∃ (F : List (Addr × HO)) (G : List Ft) (a : Addr) (ns : List Int) (c : Int), vs = [.ref a, .int c] ∧ Sy K F (.sq a (ns.map V.int) :: G) H ∧ ns.length ≤ 63 ∧ 1 ≤ c ∧ c ≤ 3 ∧
  ∀ (ms : List Int) (p : Addr) H', (∀ m ∈ ms, 0 ≤ m ∧ m ≤ 2) → ms.length ≤ 3 → Sy K ((p, .lst (ms.map V.int)) :: F) (.sq a (ns.map V.int) :: G) H' → Q (.ref p) H'
abbrev names_law_cells : List Str := ["script", "most"]
theorem sc_law_cells : FnScope names_law_cells ["script", "most"] (defScope (top 35)) := ⟨rfl, rfl, rfl, by decide +kernel, rfl, by decide +kernel, by decide +kernel⟩
set_option maxHeartbeats 4000000 in
theorem ok_law_cells (T : Tx K mg) : FG P w K mg base CX0 1 T.a_law_cells T.d_law_cells ["script", "most"] (sp_law_cells K) := by
  refine OB.Fun.fg T.F_law_cells sc_law_cells (fun vs H Q E h => h.1) (fun cdv A out s H vs Q E g h => ?_)
  obtain ⟨_, F, G, a, ns, c, rfl, S, hn, c1, c2, k⟩ := h
  refine ⟨_, (pss_one (ps_ret (pe_listRg rfl (by rfl) T.n_list (prg_1 (by rfl) T.n_range (pe_callB (c_max rfl) (by rfl) T.n_max (by decide +kernel) (pa_cons pe_int (pa_cons (pe_callB (c_min rfl) (by rfl) T.n_min (by decide +kernel) (pa_cons (pv 1) (pa_cons (pe_callB (toK (r := OB.rLen) (K := K) rfl c_len) (by rfl) T.n_len PySem.boot_len (pa_cons (pv 0) pa_nil)) pa_nil))) pa_nil))))))), ?_⟩
  refine g_start (σ := [some _, some _]) rfl ?_
  have hl : (((ns.map V.int).length : Nat) : Int) = ns.length := by rw [List.length_map]
  repeat walk_at "ob"
  generalize hm : (if (if ((ns.map V.int).length : Int) < c then ((ns.map V.int).length : Int) else c) > 1 then (if ((ns.map V.int).length : Int) < c then ((ns.map V.int).length : Int) else c) else 1) = M
  have hM : 0 ≤ M ∧ M ≤ 3 := by
    subst hm
    constructor <;> (repeat' split) <;> omega
  refine g_newRg S ⟨by omega, by omega, by omega, by omega, by omega⟩ fun p H1 S1 => ?_
  rw [rgV0] at S1
  refine k _ p H1 (fun m hm => ?_) (by rw [List.length_map, List.length_range]; omega) S1
  obtain ⟨j, hj, rfl⟩ := List.mem_map.mp hm
  have := List.mem_range.mp hj
  omega
end
end LAW

set_option Elab.async false
set_option linter.all false
set_option maxRecDepth 100000
namespace LAW
open PySem PySem.Spec PyProof.Rows L2 PySem.W OB
/-! notes, drawn ones, books: the base of the laws of the chapter match -/
abbrev N : Type := Str × Int
def nK (n : N) : List L2.Key := [.inr n.1, .inl n.2]
def nV (n : N) : List V := [.str n.1, .int n.2]
def nD (n : N) : PyData := .tuple [.str n.1, .int n.2]
theorem nV_eq (n : N) : (nK n).map kV = nV n := rfl
theorem nD_eq (n : N) : kDs (nK n) = nD n := rfl
theorem nK_inj {m n : N} (h : nK m = nK n) : m = n := by
  obtain ⟨a, b⟩ := m
  obtain ⟨c, d⟩ := n
  simp only [nK, List.cons.injEq, Sum.inr.injEq, Sum.inl.injEq, and_true] at h
  exact Prod.ext h.1 h.2
theorem nD_eqv (m n : N) : PyData.eqv (nD m) (nD n) = decide (m = n) := by
  obtain ⟨a, b⟩ := m
  obtain ⟨c, d⟩ := n
  by_cases h1 : a = c <;> by_cases h2 : b = d <;> simp [nD, PyData.eqv, PyData.eqvAll, h1, h2]
local macro_rules | `(tactic| walk_at "obc") => `(tactic| first
  | exact Or.inl ⟨by omega, by omega⟩
  | exact Or.inr ⟨by omega, by omega⟩
  | exact cdiv_ok (by omega) (by omega)
  | (show (0 : Int) < _; omega)
  | exact ⟨by omega, by decide⟩
  | exact ⟨by decide, by decide⟩)
local macro_rules | `(tactic| walk_at "obat") => `(tactic| first
  | exact Sy.at (by assumption) 0 rfl | exact Sy.at (by assumption) 1 rfl | exact Sy.at (by assumption) 2 rfl | exact Sy.at (by assumption) 3 rfl
  | exact Sy.at (by assumption) 4 rfl | exact Sy.at (by assumption) 5 rfl | exact Sy.at (by assumption) 6 rfl | exact Sy.at (by assumption) _ (by assumption) | exact Sy.at (by assumption) (_ + 1) (by assumption) | exact Sy.at (by assumption) (_ + 2) (by assumption))
local macro_rules | `(tactic| walk_at "obt") => `(tactic| first
  | exact Sy.tqs (by assumption) 0 rfl | exact Sy.tqs (by assumption) 1 rfl | exact Sy.tqs (by assumption) 2 rfl | exact Sy.tqs (by assumption) 3 rfl | exact Sy.tqs (by assumption) 4 rfl | exact Sy.tqs (by assumption) 5 rfl
  | exact Sy.tqs (by assumption) 6 rfl | exact Sy.tqs (by assumption) 7 rfl | assumption)
local macro_rules | `(tactic| walk_at "obl") => `(tactic| first
  | exact SqL.of (by walk_at "obat")
  | exact Sy.sq (by assumption) 0 rfl | exact Sy.sq (by assumption) 1 rfl | exact Sy.sq (by assumption) 2 rfl | exact Sy.sq (by assumption) 3 rfl | exact Sy.sq (by assumption) _ (by assumption))
local macro_rules | `(tactic| walk_at "obd") => `(tactic| first
  | exact Dp.int _ | exact Dp.bl _ | exact Dp.str _ | exact Dp.non
  | exact Sy.dp (by assumption) 0 rfl | exact Sy.dp (by assumption) 1 rfl | exact Sy.dp (by assumption) 2 rfl | exact Sy.dp (by assumption) 3 rfl
  | exact Sy.dp (by assumption) 4 rfl | exact Sy.dp (by assumption) 5 rfl | exact Sy.dp (by assumption) 6 rfl | exact Sy.dp (by assumption) 7 rfl
  | exact Sy.dp (by assumption) 8 rfl | exact Sy.dp (by assumption) 9 rfl | exact Sy.dp (by assumption) _ (by assumption) | assumption)
local macro_rules | `(tactic| walk_at "obds") => `(tactic| first
  | exact DpAll.nil
  | (refine' DpAll.cons ?ob1 ?ob2; (case ob1 => walk_at "obd"); (case ob2 => walk_at "obds"))
  | exact Sy.dps (by assumption) 0 rfl | exact Sy.dps (by assumption) 1 rfl | exact Sy.dps (by assumption) 2 rfl | exact Sy.dps (by assumption) 3 rfl | assumption)
local macro_rules | `(tactic| walk_at "obsc") => `(tactic| first
  | exact ScL.nil
  | ((first | refine' ScL.int ?obz | refine' ScL.str ?obz | refine' ScL.bl ?obz | refine' ScL.non ?obz); (case obz => walk_at "obsc")))
local macro_rules | `(tactic| walk_at "ob1") => `(tactic| first
  | ((with_reducible refine' g_var ?obh ?_); (case obh => rfl))
  | with_reducible refine g_c ?_
  | with_reducible refine g_nx ?_
  | with_reducible refine g_rt ?_
  | with_reducible refine g_bk ?_
  | with_reducible refine g_ct ?_
  | with_reducible refine g_op ?_
  | with_reducible refine g_I0 ?_
  | with_reducible refine g_test ?_
  | with_reducible refine g_bl ?_
  | with_reducible refine g_blx ?_
  | with_reducible refine g_B ?_
  | with_reducible refine g_seq ?_
  | with_reducible refine g_asg ?_
  | with_reducible refine g_name ?_
  | with_reducible refine g_ifS ?_
  | with_reducible refine g_ret ?_
  | with_reducible refine g_cb ?_
  | with_reducible refine g_cons ?_
  | with_reducible refine g_nil ?_
  | with_reducible refine g_int ?_
  | with_reducible refine g_intB ?_
  | with_reducible refine g_abs ?_
  | with_reducible refine g_max ?_
  | with_reducible refine g_min ?_
  | with_reducible refine g_un ?_
  | with_reducible refine g_U ?_
  | with_reducible refine g_eqI ?_
  | with_reducible refine g_neI ?_
  | with_reducible refine g_eqS ?_
  | with_reducible refine g_neS ?_
  | with_reducible refine g_tt ?_
  | with_reducible refine g_ff ?_
  | with_reducible refine g_next ?_
  | with_reducible refine g_drop ?_
  | with_reducible refine g_if ?_
  | with_reducible refine g_andV ?_
  | with_reducible refine g_orV ?_
  | with_reducible refine g_notV ?_
  | with_reducible refine g_and ?_
  | with_reducible refine g_or ?_
  | with_reducible refine g_not ?_
  | with_reducible refine g_yes ?_
  | with_reducible refine g_chain ?_
  | with_reducible refine g_cg ?_
  | with_reducible refine g_mg ?_
  | with_reducible refine g_kg ?_
  | with_reducible refine g_pg ?_
  | ((with_reducible refine' g_call ?obh ?obj ?_); (case obh => rfl); (case obj => rfl))
  | with_reducible refine g_par ?_
  | with_reducible refine g_par2 ?_
  | with_reducible refine g_par3 ?_
  | with_reducible refine g_par33 ?_
  | with_reducible refine g_gnil ?_
  | with_reducible refine g_gcons ?_
  | with_reducible refine g_gsub ?_
  | with_reducible refine g_ipI ?_
  | with_reducible refine g_rAdd ?_
  | with_reducible refine g_rSub ?_
  | ((with_reducible refine' g_aug ?obh ?_); (case obh => rfl))
  | with_reducible refine g_tup ?_
  | with_reducible refine g_lst ?_
  | with_reducible refine g_bm ?_
  | with_reducible refine g_bm0 ?_
  | with_reducible refine g_sl ?_
  | with_reducible refine g_nopart ?_
  | with_reducible refine g_part ?_
  | with_reducible refine g_pint ?_
  | with_reducible refine isi_int ?_
  | with_reducible refine isi_intB ?_
  | ((with_reducible refine' g_I ?obh ?_); (case obh => walk_at "obc"))
  | ((with_reducible refine' g_tyl ?obh ?_); (case obh => walk_at "obl"))
  | ((with_reducible refine' g_lenL ?obh ?_); (case obh => walk_at "obl"))
  | with_reducible refine g_ne ?_
  | ((with_reducible refine' g_neN' ?obh ?_); (case obh => rfl))
  | with_reducible refine g_ntt ?_
  | with_reducible refine g_nff ?_
  | with_reducible refine g_star ?_
  | with_reducible refine g_att ?_
  | with_reducible refine g_sfld ?_
  | with_reducible refine g_faug ?_
  | with_reducible refine g_fld ?_
  | ((with_reducible refine' g_nF ?obh ?_); (case obh => omega))
  | ((with_reducible refine' g_nT ?obh ?_); (case obh => omega))
  | ((with_reducible refine' g_TD ?obh ?_); (case obh => omega))
  | ((with_reducible refine' g_FD ?obh ?_); (case obh => omega))
  | ((with_reducible refine' g_ixUL ?obh ?obi ?_); (case obh => walk_at "obl"); (case obi => exact atI_nn (by omega) (by rfl)))
  | ((with_reducible refine' g_setLS ?obs ?obh ?obi ?_); (case obs => assumption); (case obh => assumption); (case obi => rfl); intro _ _ _)
  | ((with_reducible refine' g_newT ?obs ?obh ?obi ?obj ?_); (case obs => assumption); (case obh => walk_at "obds"); (case obi => rfl); (case obj => exact Nat.le_of_ble_eq_true rfl); intro _ _ _ _)
  | ((with_reducible refine' g_newL ?obs ?obj ?_); (case obs => assumption); (case obj => exact Nat.le_of_ble_eq_true rfl); intro _ _ _ _)
  | ((with_reducible refine' isi_tup ?obh ?_); (case obh => walk_at "obt"))
  | ((with_reducible refine' g_lenT ?obh ?_); (case obh => walk_at "obt"))
  | ((with_reducible refine' g_unpT ?obh ?obi ?_); (case obh => walk_at "obt"); (case obi => rfl))
  | ((with_reducible refine' g_divmod ?obs ?obh ?_); (case obs => assumption); (case obh => exact cdivp_ok (by omega) (by omega) (by omega)); intro _ _ _ _)
  | ((with_reducible refine' g_unpD ?obh ?obi ?obj ?_); (case obh => walk_at "obd"); (case obi => walk_at "obsc"); (case obj => rfl))
  | with_reducible refine g_att ?_)
local macro_rules | `(tactic| walk_at "ob") => `(tactic| first
  | walk_at "ob1"
  | refine use_is_integer ?_
  | refine use_is_within ?_
  | with_reducible refine g_lstRg ?_
  | with_reducible refine g_rg1 ?_
  | with_reducible refine g_rg2 ?_
  | with_reducible refine g_tTru ?_
  | ((with_reducible refine' g_truL ?obh ?_); (case obh => walk_at "obl"))
  | ((with_reducible refine' g_ixUT ?obh ?obi ?_); (case obh => walk_at "obt"); (case obi => rfl))
  | with_reducible refine g_forZ ?_
  | with_reducible refine g_forR2 ?_
  | with_reducible refine g_forE ?_
  | with_reducible refine g_lcZ ?_)
local macro_rules | `(tactic| walk_at "ob") => `(tactic| first
  | ((with_reducible refine' g_slS ?obh ?_); (case obh => omega))
  | ((with_reducible refine' g_catS ?obh ?_); (case obh => omega)))
section
variable {P : Program} {w : World} {K : Frag} {mg : Str → Option Value} {base : Heap}
theorem isi_strT {H : Hp} {Q : VK} {z : Str} (k : Q (.bl true) H) : rIsi K [.str z, .ty "str"] H Q := ⟨_, _, _, _, true, rfl, .ty "str", .base (.str z), kit_ty (by decide +kernel), k⟩
def rLnS : List V → Hp → VK → Prop := fun xs H Q => ∃ z, xs = [.str z] ∧ z.length ≤ sizeLine ∧ Q (.int z.length) H
theorem c_lenS {X : Cx} : CallR X (.builtin "len") rLnS := call_len_str
theorem g_lnS {H : Hp} {Q : VK} {l : List Nat} (h : l.length ≤ 100000) (k : Q (.int (l.length : Nat)) H) : rLnS [.str (tx l)] H Q := ⟨tx l, rfl, by rw [tx_len]; exact Nat.le_trans h (by decide), by rw [tx_len]; exact k⟩
/-- a word of notes -/
def WOk (l : List Nat) : Prop := 1 ≤ l.length ∧ l.length ≤ 12 ∧ ∀ c ∈ l, 97 ≤ c ∧ c ≤ 122
/-- a note that may stand -/
def NOk (n : N) : Prop := WOk n.1.cps.toList ∧ n.2 ≠ 0 ∧ -1000000000000 ≤ n.2 ∧ n.2 ≤ 1000000000000
theorem in_letters {c : Nat} (h0 : 97 ≤ c) (h1 : c ≤ 122) : decide (c ∈ ("abcdefghijklmnopqrstuvwxyz" : Str).cps.toList) = true := by
  have : ∀ d, d < 26 → decide ((97 + d) ∈ ("abcdefghijklmnopqrstuvwxyz" : Str).cps.toList) = true := by decide +kernel
  have h := this (c - 97) (by omega)
  rw [show 97 + (c - 97) = c by omega] at h
  exact h
def sp_is_note_word (K : Frag) : Sp := fun vs H Q E => vs.length = 1 ∧ ∃ (F : List (Addr × HO)) (G : List Ft) (l : List Nat), vs = [.str (tx l)] ∧ Sy K F G H ∧ WOk l ∧ ∀ H', Sy K F G H' → Q (.bl true) H'
abbrev names_is_note_word : List Str := ["value", "letter"]
theorem sc_is_note_word : FnScope names_is_note_word ["value"] (defScope (top 18)) := ⟨rfl, rfl, rfl, by decide +kernel, rfl, by decide +kernel, by decide +kernel⟩
set_option maxHeartbeats 4000000 in
theorem ok_is_note_word (T : Tx K mg) : FG P w K mg base CX0 1 T.a_is_note_word T.d_is_note_word ["value"] (sp_is_note_word K) := by
  refine OB.Fun.fg T.F_is_note_word sc_is_note_word (fun vs H Q E h => h.1) (fun cdv A out s H vs Q E g h => ?_)
  obtain ⟨_, F, G, l, rfl, S, ⟨l1, l2, lc⟩, k⟩ := h
  refine ⟨_, (pss_cons (ps_if (PW.pt (pw_or (pt_not (pt_val (pe_callB (toK (r := rIsi) (K := K) rfl call_isi) (by rfl) T.n_isinstance (by decide +kernel) (pa_cons (pv 0) (pa_cons (pe_bltn (v := .ty "str") (by rfl) T.n_str (by decide +kernel) rfl) pa_nil))))) (pw_or1 (pt_not (pt_chain op_le op_le pe_int (pe_callB c_lenS (by rfl) T.n_len PySem.boot_len (pa_cons (pv 0) pa_nil)) (pe_glob (v := .int 12) (by rfl) T.g_MOST_LETTERS ⟨_, rfl⟩)))))) (pss_one (ps_ret pe_bl)) pss_nil)
      (pss_one (ps_ret (pe_callB (toK (r := rAll) (K := K) rfl (cr_all rfl)) (by rfl) T.n_all (by decide +kernel) (pa_cons (pe_lc (own := [("letter", 1)]) (tt := tYes) rfl sc_is_note_word.nd (pi_str (pv 0)) (blkOk_by (N := names_is_note_word) (sc := defScope (top 18)) (own := [("letter", 1)]) (by decide +kernel)) (fun _ _ _ _ _ => (pg_name (i := 1) sc_is_note_word.nd rfl (by first | exact Or.inl rfl | exact Or.inr rfl))) (fun _ _ _ _ _ => pts_nil) (fun _ _ _ _ _ => (pe_cmpR op_inS (pv 1) (pe_glob (v := .str "abcdefghijklmnopqrstuvwxyz") (by rfl) T.g_LETTERS ⟨_, rfl⟩) (by rfl)))) pa_nil))))), ?_⟩
  refine g_start (σ := [some _, none]) rfl ?_
  have hl : (tx l).length = l.length := tx_len l
  repeat walk_at "ob"
  refine isi_strT ?_
  repeat walk_at "ob"
  refine g_lnS (by omega) ?_
  repeat walk_at "ob"
  refine g_lcStr (l := l) (fun i F' ds => F' = F ∧ ds = List.replicate i (.bool true) ∧ i ≤ l.length) S (fun Q' q => by repeat walk_at "ob"; exact q) ⟨rfl, rfl, Nat.zero_le _⟩ (fun i F' ds hi => by
      rw [hi.2.1, List.length_replicate]
      omega) ?_ ?_
  · intro i c hc Dp H2 F2 vs ds QE QR hi S3 kE kR
    obtain ⟨rfl, rfl, hi2⟩ := hi
    obtain ⟨c0, c1⟩ := lc c (List.mem_of_getElem? hc)
    have hi3 := (List.getElem?_eq_some_iff.mp hc).1
    repeat walk_at "ob"
    refine ⟨rfl, ?_⟩
    repeat walk_at "ob"
    refine ⟨c, _, rfl, rfl, ?_⟩
    rw [in_letters c0 c1]
    exact kE _ (.bool true) _ _ ⟨rfl, by rw [List.replicate_succ'], hi3⟩ (S3.fact (dps_one (L2.Dp.bl true)) rfl)
  · rintro Dp H2 F2 vs ds hD ⟨rfl, rfl, _⟩ S3
    have hv : vs = (List.replicate l.length true).map V.bl := by
      rw [dps_scal (S3.dps 0 rfl) fun d hd => by rw [(List.mem_replicate.mp hd).2]; rfl, List.map_replicate, List.map_replicate]
      rfl
    subst hv
    repeat walk_at "ob"
    refine g_all (by walk_at "obl") ?_
    have e : ((List.replicate l.length true).all id) = true := List.all_eq_true.mpr fun b hb => (List.mem_replicate.mp hb).2
    rw [e]
    exact k _ S3.drop.less
theorem nok_amount {n : N} (h : NOk n) : decide (-1000000000000 ≤ n.2 ∧ n.2 ≤ 1000000000000) = true := decide_eq_true ⟨h.2.2.1, h.2.2.2⟩
def sp_is_note_amount (K : Frag) : Sp := fun vs H Q E => vs.length = 1 ∧ ∃ (a : Int), vs = [.int a] ∧ a ≠ 0 ∧ -1000000000000 ≤ a ∧ a ≤ 1000000000000 ∧ Q (.bl true) H
abbrev names_is_note_amount : List Str := ["value"]
theorem sc_is_note_amount : FnScope names_is_note_amount ["value"] (defScope (top 19)) := ⟨rfl, rfl, rfl, by decide +kernel, rfl, by decide +kernel, by decide +kernel⟩
set_option maxHeartbeats 4000000 in
theorem ok_is_note_amount (T : Tx K mg) : FG P w K mg base CX0 3 T.a_is_note_amount T.d_is_note_amount ["value"] (sp_is_note_amount K) := by
  refine OB.Fun.fg T.F_is_note_amount sc_is_note_amount (fun vs H Q E h => h.1) (fun cdv A out s H vs Q E g h => ?_)
  obtain ⟨_, a, rfl, a0, a1, a2, k⟩ := h
  refine ⟨_, (pss_one (ps_ret (pe_and (pe_cg (ok_is_within T) (g.mono (by decide : 2 ≤ 2)) (by rfl) T.m_is_within T.F_is_within.kp (OB.Fun.bd T.F_is_within (ps := ["value", "least", "most"]) (n := 3) (ks := []) (ix := [0, 1, 2]) (fun _ _ _ _ _ _ us ws h1 h2 => match us, ws, h1, h2 with | [_, _, _], [], _, _ => rfl)) pass0 (pa_cons (pv 0) (pa_cons (pe_un un_neg (pe_glob (v := .int 1000000000000) (by rfl) T.g_MOST_AMOUNT ⟨_, rfl⟩)) (pa_cons (pe_glob (v := .int 1000000000000) (by rfl) T.g_MOST_AMOUNT ⟨_, rfl⟩) pa_nil))) pk_nil) (pe_one (pe_cmpR op_ne (pv 0) pe_int (nomark _)))))), ?_⟩
  refine g_start (σ := [some _]) rfl ?_
  repeat walk_at "ob"
  rw [decide_eq_true a0]
  exact k
theorem use_amount {a : Int} {H : Hp} {Q : VK} {E : XK} (a0 : a ≠ 0) (a1 : -1000000000000 ≤ a) (a2 : a ≤ 1000000000000) (k : Q (.bl true) H) : sp_is_note_amount K [.int a] H Q E := ⟨rfl, a, rfl, a0, a1, a2, k⟩
def sp_check_amount (K : Frag) : Sp := fun vs H Q E => vs.length = 1 ∧ ∃ (a : Int), vs = [.int a] ∧ a ≠ 0 ∧ -1000000000000 ≤ a ∧ a ≤ 1000000000000 ∧ Q .non H
/-- notes and where they stand -/
abbrev NS : Type := List (Addr × N)
def NR (rs : NS) : List V := rs.map fun r => V.ref r.1
def NT (rs : NS) : List (Addr × List V) := rs.map fun r => (r.1, nV r.2)
def NG (rs : NS) : Prop := ∀ r ∈ rs, NOk r.2
theorem nt_at {G : List Ft} {F : List (Addr × HO)} {H : Hp} {rs : NS} {i : Nat} {r : Addr × N} (S : Sy K F G H) (h : G[i]? = some (.tt (NT rs))) (hr : r ∈ rs) : H r.1 = some (.tup (nV r.2)) := S.tts i h (r.1, nV r.2) (List.mem_map.mpr ⟨r, hr, rfl⟩)
theorem dp_nV {H : Hp} (n : N) : DpAll K H (nV n) [.str n.1, .int n.2] := .cons (.str _) (.cons (.int _) .nil)
theorem dp_note {H : Hp} {p : Addr} {n : N} (h : H p = some (.tup (nV n))) : L2.Dp K H (.ref p) (nD n) := .tup (.inl (.inl h)) (dp_nV n)
theorem sqt_note {H : Hp} {p : Addr} {n : N} (h : H p = some (.tup (nV n))) : SqT K H p (nV n) := .inl (.inl h)
theorem nr_get {rs : NS} {i : Nat} {x : V} (h : (NR rs)[i]? = some x) : ∃ r, rs[i]? = some r ∧ x = .ref r.1 := by
  unfold NR at h
  rw [List.getElem?_map] at h
  obtain ⟨r, h1, h2⟩ := Option.map_eq_some_iff.mp h
  exact ⟨r, h1, h2.symm⟩
def sp_is_note (K : Frag) : Sp := fun vs H Q E => vs.length = 1 ∧ ∃ (F : List (Addr × HO)) (G : List Ft) (p : Addr) (n : N), vs = [.ref p] ∧ Sy K F G H ∧ H p = some (.tup (nV n)) ∧ NOk n ∧ ∀ H', Sy K F G H' → Q (.bl true) H'
abbrev names_is_note : List Str := ["value"]
theorem sc_is_note : FnScope names_is_note ["value"] (defScope (top 20)) := ⟨rfl, rfl, rfl, by decide +kernel, rfl, by decide +kernel, by decide +kernel⟩
set_option maxHeartbeats 4000000 in
theorem ok_is_note (T : Tx K mg) : FG P w K mg base CX0 4 T.a_is_note T.d_is_note ["value"] (sp_is_note K) := by
  refine OB.Fun.fg T.F_is_note sc_is_note (fun vs H Q E h => h.1) (fun cdv A out s H vs Q E g h => ?_)
  obtain ⟨_, F, G, p, n, rfl, S, hp, ⟨ok, a0, a1, a2⟩, k⟩ := h
  refine ⟨_, (pss_cons (ps_if (PW.pt (pw_or (pt_not (pt_val (pe_callB (toK (r := rIsi) (K := K) rfl call_isi) (by rfl) T.n_isinstance (by decide +kernel) (pa_cons (pv 0) (pa_cons (pe_bltn (v := .ty "tuple") (by rfl) T.n_tuple (by decide +kernel) rfl) pa_nil))))) (pw_or1 (pt_cmpR op_ne (pe_callB (toK (r := OB.rLen) (K := K) rfl c_len) (by rfl) T.n_len PySem.boot_len (pa_cons (pv 0) pa_nil)) (pe_glob (v := .int 2) (by rfl) T.g_PAIR ⟨_, rfl⟩) (nomark _))))) (pss_one (ps_ret pe_bl)) pss_nil)
      (pss_one (ps_ret (pe_and (pe_cg (ok_is_note_word T) (g.mono (by decide : 1 ≤ 3)) (by rfl) T.m_is_note_word T.F_is_note_word.kp (OB.Fun.bd T.F_is_note_word (ps := ["value"]) (n := 1) (ks := []) (ix := [0]) (fun _ _ _ _ _ _ us ws h1 h2 => match us, ws, h1, h2 with | [_], [], _, _ => rfl)) pass0 (pa_cons (pe_ix (ix_UK (K := K) rfl) (pv 0) pe_int (fun _ _ => rfl)) pa_nil) pk_nil) (pe_one (pe_cg (ok_is_note_amount T) (g.mono (by decide : 3 ≤ 3)) (by rfl) T.m_is_note_amount T.F_is_note_amount.kp (OB.Fun.bd T.F_is_note_amount (ps := ["value"]) (n := 1) (ks := []) (ix := [0]) (fun _ _ _ _ _ _ us ws h1 h2 => match us, ws, h1, h2 with | [_], [], _, _ => rfl)) pass0 (pa_cons (pe_ix (ix_UK (K := K) rfl) (pv 0) pe_int (fun _ _ => rfl)) pa_nil) pk_nil)))))), ?_⟩
  refine g_start (σ := [some _]) rfl ?_
  have S1 := S.add (.tt [(p, nV n)]) (fun q hq => by rw [List.mem_singleton.mp hq]; exact hp)
  have S2 := S1.add (.tq p (nV n)) (sqt_note hp)
  clear S S1
  repeat walk_at "ob"
  refine ⟨rfl, F, _, n.1.cps.toList, by rw [tx_of]; rfl, S2, ok, fun H1 S3 => ?_⟩
  repeat walk_at "ob"
  refine use_amount a0 a1 a2 ?_
  exact k _ S3.drop.drop
def sp_check_notes (K : Frag) : Sp := fun vs H Q E => vs.length = 1 ∧ ∃ (F : List (Addr × HO)) (G : List Ft) (p : Addr) (rs : NS), vs = [.ref p] ∧ Sy K F (.tq p (NR rs) :: .tt (NT rs) :: G) H ∧ NG rs ∧ rs.length ≤ 200 ∧ ∀ H', Sy K F (.tq p (NR rs) :: .tt (NT rs) :: G) H' → Q .non H'
abbrev names_check_notes : List Str := ["notes", "note"]
theorem sc_check_notes : FnScope names_check_notes ["notes"] (defScope (top 21)) := ⟨rfl, rfl, rfl, by decide +kernel, rfl, by decide +kernel, by decide +kernel⟩
set_option maxHeartbeats 4000000 in
theorem ok_check_notes (T : Tx K mg) : FG P w K mg base CX0 5 T.a_check_notes T.d_check_notes ["notes"] (sp_check_notes K) := by
  refine OB.Fun.fg T.F_check_notes sc_check_notes (fun vs H Q E h => h.1) (fun cdv A out s H vs Q E g h => ?_)
  obtain ⟨_, F, G, p, rs, rfl, S, ng, hl, k⟩ := h
  refine ⟨_, (pss_one (ps_if (PW.pt (pw_or (pt_not (pt_val (pe_callB (toK (r := rIsi) (K := K) rfl call_isi) (by rfl) T.n_isinstance (by decide +kernel) (pa_cons (pv 0) (pa_cons (pe_bltn (v := .ty "tuple") (by rfl) T.n_tuple (by decide +kernel) rfl) pa_nil))))) (pw_or (pt_cmpR op_gt (pe_callB (toK (r := OB.rLen) (K := K) rfl c_len) (by rfl) T.n_len PySem.boot_len (pa_cons (pv 0) pa_nil)) (pe_glob (v := .int 200) (by rfl) T.g_MOST_NOTES ⟨_, rfl⟩) (nomark _)) (pw_or1 (pt_not (pt_val (pe_callB (toK (r := rAll) (K := K) rfl (cr_all rfl)) (by rfl) T.n_all (by decide +kernel) (pa_cons (pe_lc (own := [("note", 1)]) (tt := tYes) rfl sc_check_notes.nd (pi_seq (pv 0)) (blkOk_by (N := names_check_notes) (sc := defScope (top 21)) (own := [("note", 1)]) (by decide +kernel)) (fun _ _ _ _ _ => (pg_name (i := 1) sc_check_notes.nd rfl (by first | exact Or.inl rfl | exact Or.inr rfl))) (fun _ _ _ _ _ => pts_nil) (fun _ _ _ _ _ => (pe_cg (ok_is_note T) (g.mono (by decide : 4 ≤ 4)) (by rfl) T.m_is_note T.F_is_note.kp (OB.Fun.bd T.F_is_note (ps := ["value"]) (n := 1) (ks := []) (ix := [0]) (fun _ _ _ _ _ _ us ws h1 h2 => match us, ws, h1, h2 with | [_], [], _, _ => rfl)) pass0 (pa_cons (pv 1) pa_nil) pk_nil))) pa_nil)))))))) (pss_one ps_never) pss_nil)), ?_⟩
  refine g_start (σ := [some _, none]) rfl ?_
  have hn : (NR rs).length = rs.length := List.length_map ..
  repeat walk_at "ob"
  refine g_lcS (a := p) (xs := NR rs) false (fun i F' ds => F' = F ∧ ds = List.replicate i (.bool true) ∧ i ≤ rs.length) S (fun Q' q => by repeat walk_at "ob"; exact q) ⟨rfl, rfl, Nat.zero_le _⟩ (fun i F' ds H' hi S3 => S3.tqs 0 rfl) (fun i F' ds hi => by
      rw [hi.2.1, List.length_replicate]
      omega) ?_ ?_
  · intro i x hx Dp H2 F2 vs ds QE QR hi S3 kE kR
    obtain ⟨rfl, rfl, hi2⟩ := hi
    obtain ⟨r, hr, rfl⟩ := nr_get hx
    have hi3 := (List.getElem?_eq_some_iff.mp hr).1
    have hrm := List.mem_of_getElem? hr
    repeat walk_at "ob"
    refine ⟨rfl, ?_⟩
    repeat walk_at "ob"
    refine ⟨rfl, _, _, r.1, r.2, rfl, S3, nt_at S3 (i := 2) rfl hrm, ng r hrm, fun H3 S4 => ?_⟩
    exact kE _ (.bool true) _ _ ⟨rfl, by rw [List.replicate_succ'], hi3⟩ (S4.fact (dps_one (L2.Dp.bl true)) rfl)
  · rintro Dp H2 F2 vs ds hD ⟨rfl, rfl, _⟩ S3
    have hv : vs = (List.replicate (NR rs).length true).map V.bl := by
      rw [dps_scal (S3.dps 0 rfl) fun d hd => by rw [(List.mem_replicate.mp hd).2]; rfl, List.map_replicate, List.map_replicate]
      rfl
    subst hv
    repeat walk_at "ob"
    refine g_all (by walk_at "obl") ?_
    have e : ((List.replicate (NR rs).length true).all id) = true := List.all_eq_true.mpr fun b hb => (List.mem_replicate.mp hb).2
    rw [e]
    repeat walk_at "ob"
    exact k _ S3.drop.less
theorem use_check_notes {F : List (Addr × HO)} {G : List Ft} {H : Hp} {Q : VK} {E : XK} {p : Addr} {rs : NS} (S : Sy K F G H) (h1 : SqT K H p (NR rs)) (h2 : ∀ q ∈ NT rs, H q.1 = some (.tup q.2)) (ng : NG rs) (hl : rs.length ≤ 200) (k : ∀ H', Sy K F G H' → Q .non H') : sp_check_notes K [.ref p] H Q E :=
  ⟨rfl, F, G, p, rs, rfl, (S.add (.tt (NT rs)) h2).add (.tq p (NR rs)) h1, ng, hl, fun H1 S1 => k H1 S1.drop.drop⟩
theorem nr_at {rs : NS} {i : Nat} {r : Addr × N} (h : rs[i]? = some r) : (NR rs)[i]? = some (.ref r.1) := by
  unfold NR
  rw [List.getElem?_map, h]
  rfl
theorem strOk_w {z : Str} (h : WOk z.cps.toList) : PyData.canLay0 (.str z) = true := by
  show z.cps.all (· < 0x110000) = true
  rw [Array.all_eq_true']
  intro c hc
  have := h.2.2 c (by simpa using hc)
  simp
  omega
theorem shaped_nD {n : N} (h : NOk n) : SeqAt.shaped (nD n) = true := by
  show (PyData.canLay0 (nD n) && decide ((nD n).depth ≤ 64)) = true
  have : PyData.canLay0 (nD n) = true := by
    show (PyData.canLay0 (.str n.1) && (true && true)) = true
    rw [strOk_w h.1]
    rfl
  rw [this]
  rfl
/-- the pot stands, n draws were made at most -/
def Pot (K : Frag) (F : List (Addr × HO)) (G : List Ft) (p : Addr) (n : Nat) (H : Hp) : Prop := ∃ a b c, PotOk n a b c ∧ Sy K ((p, potO a b c) :: F) G H
theorem Pot.sub {F : List (Addr × HO)} {G G' : List Ft} {p : Addr} {n m : Nat} {H : Hp} (h : Pot K F G p n H) (hn : n ≤ m) (f : ∀ H F, Sy K F G H → Sy K F G' H) : Pot K F G' p m H := by
  obtain ⟨a, b, c, o, S⟩ := h
  exact ⟨a, b, c, o.mono hn, f _ _ S⟩
theorem Pot.mono {F : List (Addr × HO)} {G : List Ft} {p : Addr} {n m : Nat} {H : Hp} (h : Pot K F G p n H) (hn : n ≤ m) : Pot K F G p m H := h.sub hn fun _ _ S => S
theorem Pot.less {F : List (Addr × HO)} {G : List Ft} {p : Addr} {n : Nat} {H : Hp} {x : Addr × HO} (h : Pot K (x :: F) G p n H) : Pot K F G p n H := by
  obtain ⟨a, b, c, o, S⟩ := h
  exact ⟨a, b, c, o, S.swap.less⟩
theorem use_takeP {F : List (Addr × HO)} {G : List Ft} {H : Hp} {Q : VK} {E : XK} {n : Nat} {p : Addr} {u : Int} (h : Pot K F G p n H) (hn : n < 1000000) (u0 : 0 < u) (u1 : u < 2 ^ 60) (k : ∀ (r : Int) (H' : Hp), 0 ≤ r → r < u → Pot K F G p (n + 1) H' → Q (.int r) H') : sp_law_take K [.ref p, .int u] H Q E := by
  obtain ⟨a, b, c, o, S⟩ := h
  exact use_take (i := 0) S rfl o hn u0 u1 fun r a' b' c' H' h1 h2 o' S' _ => k r H' h1 h2 ⟨a', b', c', o', S'⟩
/-- one of a list -/
theorem use_ofP {F : List (Addr × HO)} {G : List Ft} {H : Hp} {Q : VK} {E : XK} {n : Nat} {p q : Addr} {xs : List V} (h : Pot K ((q, .lst xs) :: F) G p n H) (hn : n < 1000000) (l0 : 0 < xs.length) (l1 : xs.length < 2000000) (k : ∀ r ∈ xs, ∀ H', Pot K ((q, .lst xs) :: F) G p (n + 1) H' → Q r H') : sp_law_of K [.ref p, .ref q] H Q E := by
  obtain ⟨a, b, c, o, S⟩ := h
  exact ⟨rfl, _, G, 0, 1, p, q, n, xs, a, b, c, rfl, S, rfl, rfl, by decide, o, hn, l0, l1, fun r hr a' b' c' H' o' S' _ => k r hr H' ⟨a', b', c', o', S'⟩⟩
def sp_law_note (K : Frag) : Sp := fun vs H Q E => vs.length = 1 ∧ ∃ (F : List (Addr × HO)) (G : List Ft) (p : Addr) (n : Nat), vs = [.ref p] ∧ Pot K F G p n H ∧ n < 900000 ∧ ∀ t (nn : N) H', NOk nn → Pot K F (.tt [(t, nV nn)] :: G) p (n + 5) H' → Q (.ref t) H'
abbrev names_law_note : List Str := ["pot", "some", "amount"]
theorem sc_law_note : FnScope names_law_note ["pot"] (defScope (top 36)) := ⟨rfl, rfl, rfl, by decide +kernel, rfl, by decide +kernel, by decide +kernel⟩
set_option maxHeartbeats 4000000 in
theorem ok_law_note (T : Tx K mg) : FG P w K mg base CX0 3 T.a_law_note T.d_law_note ["pot"] (sp_law_note K) := by
  refine OB.Fun.fg T.F_law_note sc_law_note (fun vs H Q E h => h.1) (fun cdv A out s H vs Q E g h => ?_)
  obtain ⟨_, F, G, p, n, rfl, ⟨a, b, c, o, S⟩, hn, k⟩ := h
  refine ⟨_, (pss_cons (ps_set (i := 1) sc_law_note.nd rfl (by first | exact Or.inl rfl | exact Or.inr rfl) (pe_lst (pa_cons pe_int (pa_cons pe_int (pa_cons pe_int (pa_cons pe_int (pa_cons pe_int (pa_cons pe_int (pa_cons pe_int (pa_cons pe_int (pa_cons pe_int (pa_cons pe_int (pa_cons pe_int (pa_cons pe_int (pa_cons pe_int (pa_cons pe_int (pa_cons pe_int (pa_cons (pe_op op_powX pe_int pe_int) (pa_cons (pe_op op_mul pe_int (pe_op op_powX pe_int pe_int)) (pa_cons (pe_op op_powX pe_int pe_int) pa_nil))))))))))))))))))))
      (pss_cons (ps_set (i := 2) sc_law_note.nd rfl (by first | exact Or.inl rfl | exact Or.inr rfl) (pe_ifExp (pt_cmpR op_gt (pe_cg (ok_law_take T) (g.mono (by decide : 1 ≤ 2)) (by rfl) T.m_law_take T.F_law_take.kp (OB.Fun.bd T.F_law_take (ps := ["pot", "upto"]) (n := 2) (ks := []) (ix := [0, 1]) (fun _ _ _ _ _ _ us ws h1 h2 => match us, ws, h1, h2 with | [_, _], [], _, _ => rfl)) pass0 (pa_cons (pv 0) (pa_cons pe_int pa_nil)) pk_nil) pe_int (nomark _)) (pe_cg (ok_law_of T) (g.mono (by decide : 2 ≤ 2)) (by rfl) T.m_law_of T.F_law_of.kp (OB.Fun.bd T.F_law_of (ps := ["pot", "some"]) (n := 2) (ks := []) (ix := [0, 1]) (fun _ _ _ _ _ _ us ws h1 h2 => match us, ws, h1, h2 with | [_, _], [], _, _ => rfl)) pass0 (pa_cons (pv 0) (pa_cons (pv 1) pa_nil)) pk_nil) (pe_op op_add pe_int (pe_cg (ok_law_take T) (g.mono (by decide : 1 ≤ 2)) (by rfl) T.m_law_take T.F_law_take.kp (OB.Fun.bd T.F_law_take (ps := ["pot", "upto"]) (n := 2) (ks := []) (ix := [0, 1]) (fun _ _ _ _ _ _ us ws h1 h2 => match us, ws, h1, h2 with | [_, _], [], _, _ => rfl)) pass0 (pa_cons (pv 0) (pa_cons pe_int pa_nil)) pk_nil))))
      (pss_one (ps_ret (pe_tup (pa_cons (pe_cg (ok_law_of T) (g.mono (by decide : 2 ≤ 2)) (by rfl) T.m_law_of T.F_law_of.kp (OB.Fun.bd T.F_law_of (ps := ["pot", "some"]) (n := 2) (ks := []) (ix := [0, 1]) (fun _ _ _ _ _ _ us ws h1 h2 => match us, ws, h1, h2 with | [_, _], [], _, _ => rfl)) pass0 (pa_cons (pv 0) (pa_cons (pe_lst (pa_cons pe_str (pa_cons pe_str (pa_cons pe_str (pa_cons pe_str pa_nil))))) pa_nil)) pk_nil) (pa_cons (pe_callTy c_int (by rfl) T.n_int (by decide +kernel) (pa_cons (pe_ifExp (pt_cmpR op_eq (pe_cg (ok_law_take T) (g.mono (by decide : 1 ≤ 2)) (by rfl) T.m_law_take T.F_law_take.kp (OB.Fun.bd T.F_law_take (ps := ["pot", "upto"]) (n := 2) (ks := []) (ix := [0, 1]) (fun _ _ _ _ _ _ us ws h1 h2 => match us, ws, h1, h2 with | [_, _], [], _, _ => rfl)) pass0 (pa_cons (pv 0) (pa_cons pe_int pa_nil)) pk_nil) pe_int (nomark _)) (pe_un un_neg (pv 2)) (pv 2)) pa_nil)) pa_nil))))))), ?_⟩
  refine g_start (σ := [some _, none, none]) rfl ?_
  repeat ((fail_if_success (with_reducible refine atIf ?_)); walk_at "ob")
  rename_i q H1 _ S1
  clear S
  have P1 : Pot K ((q, .lst ([5, 50, 500, 45, 54, 405, 90, 900, 10, 1, 2, 12, 21, 120, 102, 1000000000000, 500000000000, 100000000000].map V.int)) :: F) G p n H1 := ⟨a, b, c, o, S1.swap⟩
  clear S1
  refine via (fun v H' => ∃ x : Int, v = .int x ∧ 1 ≤ x ∧ x ≤ 1000000000000 ∧ Pot K F G p (n + 2) H') (fun Q' qq => ?_) ?_
  · repeat walk_at "ob"
    refine use_takeP P1 (by omega) (by decide) (by decide) fun r H2 r0 r1 P2 => ?_
    repeat walk_at "ob"
    refine g_iteD (fun h1 => ?_) (fun h1 => ?_)
    · repeat walk_at "ob"
      refine use_ofP P2 (by omega) (by decide) (by decide) fun v hv H3 P3 => ?_
      obtain ⟨x, hx, rfl⟩ := List.mem_map.mp hv
      have : 1 ≤ x ∧ x ≤ 1000000000000 := (show ∀ x ∈ ([5, 50, 500, 45, 54, 405, 90, 900, 10, 1, 2, 12, 21, 120, 102, 1000000000000, 500000000000, 100000000000] : List Int), 1 ≤ x ∧ x ≤ 1000000000000 by decide) x hx
      exact qq _ _ ⟨x, rfl, this.1, this.2, P3.less⟩
    · repeat walk_at "ob"
      refine use_takeP P2 (by omega) (by decide) (by decide) fun r2 H3 r20 r21 P3 => ?_
      repeat walk_at "ob"
      exact qq _ _ ⟨1 + r2, rfl, by omega, by omega, P3.less⟩
  clear P1
  rintro v H2 ⟨x, rfl, x0, x1, a2, b2, c2, o2, S2⟩
  repeat walk_at "ob"
  rename_i q2 H3 _ S3
  have P3 : Pot K ((q2, .lst (([("rent" : Str), "pay", "gift", "a"] : List Str).map V.str)) :: F) G p (n + 2) H3 := ⟨a2, b2, c2, o2, S3.swap⟩
  clear S2 S3
  refine use_ofP P3 (by omega) (by decide) (by decide) fun v hv H4 P4 => ?_
  obtain ⟨z, hz, rfl⟩ := List.mem_map.mp hv
  have hz := (show ∀ z ∈ ([("rent" : Str), "pay", "gift", "a"] : List Str), WOk z.cps.toList by
    intro z hz
    have : ∀ z ∈ ([("rent" : Str), "pay", "gift", "a"] : List Str), (decide (1 ≤ z.cps.toList.length) && decide (z.cps.toList.length ≤ 12) && z.cps.toList.all fun c => decide (97 ≤ c) && decide (c ≤ 122)) = true := by decide +kernel
    have h := this z hz
    simp only [Bool.and_eq_true, decide_eq_true_eq, List.all_eq_true] at h
    exact ⟨h.1.1, h.1.2, h.2⟩) z hz
  have P5 := P4.less
  clear P3 P4
  refine g_cons ?_
  refine via (fun v H' => ∃ y : Int, v = .int y ∧ y ≠ 0 ∧ y.natAbs ≤ 1000000000000 ∧ Pot K F G p (n + 4) H') (fun Q' qq => ?_) ?_
  · repeat walk_at "ob"
    refine use_takeP P5 (by omega) (by decide) (by decide) fun r H2 r0 r1 P2 => ?_
    repeat walk_at "ob"
    refine g_iteD (fun h1 => ?_) (fun h1 => ?_)
    · repeat walk_at "ob"
      exact qq _ _ ⟨-x, rfl, by omega, by omega, P2⟩
    · repeat walk_at "ob"
      exact qq _ _ ⟨x, rfl, by omega, by omega, P2⟩
  clear P5
  rintro v H5 ⟨y, rfl, y0, y1, a5, b5, c5, o5, S5⟩
  repeat ((fail_if_success (with_reducible refine atNewT ?_)); walk_at "ob")
  refine g_newTt S5 (Nat.le_of_ble_eq_true rfl) fun t H6 S6 => ?_
  exact k t (z, y) H6 ⟨hz, y0, by omega, by omega⟩ ⟨a5, b5, c5, o5.mono (by omega), S6⟩
theorem use_noteP {F : List (Addr × HO)} {G : List Ft} {H : Hp} {Q : VK} {E : XK} {n : Nat} {p : Addr} (h : Pot K F G p n H) (hn : n < 900000) (k : ∀ t (nn : N) H', NOk nn → Pot K F (.tt [(t, nV nn)] :: G) p (n + 5) H' → Q (.ref t) H') : sp_law_note K [.ref p] H Q E := ⟨rfl, F, G, p, n, rfl, h, hn, k⟩
/-- a list of refs drawn from a pool, in any sequence -/
def sp_law_some (K : Frag) : Sp := fun vs H Q E => vs.length = 3 ∧ ∃ (F : List (Addr × HO)) (G : List Ft) (p q : Addr) (n : Nat) (xs : List V), vs = [.ref p, .ref q, .int (xs.length : Int)] ∧ Pot K ((q, .lst xs) :: F) G p n H ∧ n < 900000 ∧ xs.length ≤ 100 ∧ ∀ t (ys : List V) H', ys.Perm xs → Pot K ((t, .lst ys) :: (q, .lst xs) :: F) G p (n + xs.length) H' → Q (.ref t) H'
theorem tt_app {F : List (Addr × HO)} {G : List Ft} {H : Hp} {us vs : NS} (S : Sy K F (.tt (NT vs) :: .tt (NT us) :: G) H) : Sy K F (.tt (NT (us ++ vs)) :: G) H := by
  refine S.drop.drop.add (.tt (NT (us ++ vs))) fun q hq => ?_
  obtain ⟨r, hr, rfl⟩ := List.mem_map.mp hq
  rcases List.mem_append.mp hr with hr | hr
  · exact nt_at S (i := 1) rfl hr
  · exact nt_at S (i := 0) rfl hr
theorem NG.app {us vs : NS} (h1 : NG us) (h2 : NG vs) : NG (us ++ vs) := fun r hr => (List.mem_append.mp hr).elim (h1 r) (h2 r)
theorem NG.one {r : Addr × N} (h : NOk r.2) : NG [r] := fun q hq => by rw [List.mem_singleton.mp hq]; exact h
theorem dps_NR {G : List Ft} {F : List (Addr × HO)} {H : Hp} {i : Nat} : ∀ (rs : NS), (∀ q ∈ NT rs, H q.1 = some (.tup q.2)) → DpAll K H (NR rs) (rs.map fun r => nD r.2)
  | [], _ => .nil
  | r :: rs, h => .cons (dp_note (h (r.1, nV r.2) (List.mem_cons_self ..))) (dps_NR (G := G) (F := F) (i := i) rs fun q hq => h q (List.mem_cons_of_mem _ hq))
theorem shaped_NR (rs : NS) (ng : NG rs) : SeqAt.shaped (.list (rs.map fun r => nD r.2)) = true := by
  have h1 : PyData.canLayAll0 (rs.map fun r => nD r.2) = true ∧ PyData.depthAll (rs.map fun r => nD r.2) ≤ 1 := by
    induction rs with
    | nil => exact ⟨rfl, by decide⟩
    | cons r rs ih =>
      obtain ⟨i1, i2⟩ := ih fun q hq => ng q (List.mem_cons_of_mem _ hq)
      refine ⟨?_, ?_⟩
      · show ((nD r.2).canLay0 && PyData.canLayAll0 (rs.map fun r => nD r.2)) = true
        rw [i1, show (nD r.2).canLay0 = true from SeqAt.canLay_of_shaped (shaped_nD (ng r (List.mem_cons_self ..)))]
        rfl
      · show max (nD r.2).depth (PyData.depthAll (rs.map fun r => nD r.2)) ≤ 1
        have : (nD r.2).depth = 1 := rfl
        omega
  show (PyData.canLayAll0 (rs.map fun r => nD r.2) && decide ((PyData.list (rs.map fun r => nD r.2)).depth ≤ 64)) = true
  rw [h1.1, Bool.true_and]
  refine decide_eq_true ?_
  show PyData.depthAll (rs.map fun r => nD r.2) + 1 ≤ 64
  omega
def sp_law_book (K : Frag) : Sp := fun vs H Q E => vs.length = 2 ∧ ∃ (F : List (Addr × HO)) (G : List Ft) (p : Addr) (n : Nat) (m : Int), vs = [.ref p, .int m] ∧ Pot K F G p n H ∧ n < 500000 ∧ 0 ≤ m ∧ m ≤ 20 ∧ ∀ t us H', NG us → (us.length : Int) ≤ m → Pot K F (.tq t (NR us) :: .tt (NT us) :: G) p (n + 400) H' → Q (.ref t) H'
abbrev names_law_book : List Str := ["pot", "most", "found", "lap"]
theorem sc_law_book : FnScope names_law_book ["pot", "most"] (defScope (top 37)) := ⟨rfl, rfl, rfl, by decide +kernel, rfl, by decide +kernel, by decide +kernel⟩
set_option maxHeartbeats 4000000 in
theorem ok_law_book (T : Tx K mg) : FG P w K mg base CX0 4 T.a_law_book T.d_law_book ["pot", "most"] (sp_law_book K) := by
  refine OB.Fun.fg T.F_law_book sc_law_book (fun vs H Q E h => h.1) (fun cdv A out s H vs Q E g h => ?_)
  obtain ⟨_, F, G, p, n, m, rfl, ⟨a, b, c, o, S⟩, hn, m0, m1, k⟩ := h
  refine ⟨_, (pss_cons (ps_set (i := 2) sc_law_book.nd rfl (by first | exact Or.inl rfl | exact Or.inr rfl) (pe_lst pa_nil))
      (pss_cons (ps_for PassesOwn.never rfl (pi_range1 rfl T.n_range (pa_cons (pe_cg (ok_law_take T) (g.mono (by decide : 1 ≤ 3)) (by rfl) T.m_law_take T.F_law_take.kp (OB.Fun.bd T.F_law_take (ps := ["pot", "upto"]) (n := 2) (ks := []) (ix := [0, 1]) (fun _ _ _ _ _ _ us ws h1 h2 => match us, ws, h1, h2 with | [_, _], [], _, _ => rfl)) pass0 (pa_cons (pv 0) (pa_cons (pe_op op_add (pv 1) pe_int) pa_nil)) pk_nil) pa_nil)) (pg_name (i := 3) sc_law_book.nd rfl (by first | exact Or.inl rfl | exact Or.inr rfl))
      (pss_one (ps_expr (pe_bm PySem.F.plainAttrs_list PySem.F.slot_list_append PySem.F.type_list_append mt_append (pv 2) (pa_cons (pe_ifExp (PW.pt (pw_and (pt_cmpR (op_neD g.hu64) (pv 2) (pe_lst pa_nil) (nomark _)) (pw_and1 (pt_cmpR op_eq (pe_cg (ok_law_take T) (g.mono (by decide : 1 ≤ 3)) (by rfl) T.m_law_take T.F_law_take.kp (OB.Fun.bd T.F_law_take (ps := ["pot", "upto"]) (n := 2) (ks := []) (ix := [0, 1]) (fun _ _ _ _ _ _ us ws h1 h2 => match us, ws, h1, h2 with | [_, _], [], _, _ => rfl)) pass0 (pa_cons (pv 0) (pa_cons pe_int pa_nil)) pk_nil) pe_int (nomark _))))) (pe_cg (ok_law_of T) (g.mono (by decide : 2 ≤ 3)) (by rfl) T.m_law_of T.F_law_of.kp (OB.Fun.bd T.F_law_of (ps := ["pot", "some"]) (n := 2) (ks := []) (ix := [0, 1]) (fun _ _ _ _ _ _ us ws h1 h2 => match us, ws, h1, h2 with | [_, _], [], _, _ => rfl)) pass0 (pa_cons (pv 0) (pa_cons (pv 2) pa_nil)) pk_nil) (pe_cg (ok_law_note T) (g.mono (by decide : 3 ≤ 3)) (by rfl) T.m_law_note T.F_law_note.kp (OB.Fun.bd T.F_law_note (ps := ["pot"]) (n := 1) (ks := []) (ix := [0]) (fun _ _ _ _ _ _ us ws h1 h2 => match us, ws, h1, h2 with | [_], [], _, _ => rfl)) pass0 (pa_cons (pv 0) pa_nil) pk_nil)) pa_nil)))))
      (pss_one (ps_ret (pe_callTy (toK (r := rTuple) (K := K) rfl c_tuple) (by rfl) T.n_tuple (by decide +kernel) (pa_cons (pv 2) pa_nil)))))), ?_⟩
  refine g_start (σ := [some _, some _, none, none]) rfl ?_
  repeat walk_at "ob"
  rename_i fo H1 _ S1
  clear S
  refine g_forR ?_
  repeat walk_at "ob"
  refine use_takeP ⟨a, b, c, o, S1.swap⟩ (by omega) (by omega) (by omega) fun r H2 r0 r1 P2 => ?_
  clear S1
  repeat walk_at "ob"
  refine g_rgJ (by omega) (by omega) ?_
  refine rgfor_of (fun i σ' H' => ∃ v3 us, σ' = [some (.ref p), some (.int m), some (.ref fo), v3] ∧ us.length = i ∧ NG us ∧ Pot K ((fo, .lst (NR us)) :: F) (.tt (NT us) :: G) p (n + 1 + i * 8) H') ⟨none, [], rfl, rfl, fun _ h => (nomatch h), P2.sub (Nat.le_refl _) fun _ _ S => S.add (.tt (NT [])) fun _ h => (nomatch h)⟩ ?_ ?_
  · rintro i σ' H' hi ⟨v3, us, rfl, hu, ng, P3⟩
    obtain ⟨a3, b3, c3, o3, S3⟩ := P3
    repeat ((fail_if_success (with_reducible refine atIf ?_)); walk_at "ob")
    refine via (fun v H' => ∃ r : Addr × N, v = .ref r.1 ∧ NOk r.2 ∧ Pot K ((fo, .lst (NR us)) :: F) (.tt (NT (us ++ [r])) :: G) p (n + 1 + (i + 1) * 8) H') (fun Q' qq => ?_) ?_
    · have new : ∀ H3, Pot K ((fo, .lst (NR us)) :: F) (.tt (NT us) :: G) p (n + 1 + i * 8 + 1) H3 → sp_law_note K [.ref p] H3 Q' E0 := fun H3 P3 => use_noteP P3 (by omega) fun t nn H4 hnn P4 =>
        qq _ _ ⟨(t, nn), rfl, hnn, P4.sub (by omega) fun _ _ S => tt_app (vs := [(t, nn)]) S⟩
      repeat walk_at "ob"
      rename_i nl H3 _ S4
      refine g_neD (.lst (SqL.of (S4.at 2 rfl)) (dps_NR (F := F) (G := G) (i := 0) us (S4.tts 0 rfl))) (.lst (SqL.of (S4.at 0 rfl)) .nil) (shaped_NR us ng) rfl ?_
      repeat walk_at "ob"
      have S5 := S4.less
      clear S4 S3
      cases hus : us with
      | nil =>
        refine g_F rfl ?_
        repeat walk_at "ob"
        refine new _ ?_
        rw [hus] at S5 ⊢
        exact ⟨a3, b3, c3, o3.mono (by omega), S5⟩
      | cons r1 rs =>
        refine g_T rfl ?_
        repeat walk_at "ob"
        refine use_takeP ⟨a3, b3, c3, o3, S5⟩ (by omega) (by omega) (by omega) fun r2 H4 r20 r21 P4 => ?_
        repeat walk_at "ob"
        refine g_iteD (fun h1 => ?_) (fun h1 => ?_)
        · repeat walk_at "ob"
          have hlu : (NR us).length = us.length := List.length_map ..
          have hpos : 0 < us.length := by rw [hus]; exact Nat.succ_pos _
          refine use_ofP P4 (by omega) (by omega) (by omega) fun v hv H5 P5 => ?_
          obtain ⟨q, hq, rfl⟩ := List.mem_map.mp hv
          refine qq _ _ ⟨q, rfl, ng q hq, P5.sub (by omega) fun H6 F6 S => ?_⟩
          refine tt_app (S.add (.tt (NT [q])) fun z hz => ?_)
          rw [List.mem_singleton.mp (show z ∈ [(q.1, nV q.2)] from hz)]
          exact nt_at S (i := 0) rfl hq
        · repeat walk_at "ob"
          exact new _ P4
    clear S3
    rintro v H3 ⟨q, rfl, hq, a4, b4, c4, o4, S4⟩
    repeat walk_at "ob"
    refine g_appS S4 (f := 1) rfl (by rw [show (NR us).length = us.length from List.length_map ..]; omega) fun H5 S5 => ?_
    repeat walk_at "ob"
    refine ⟨_, us ++ [q], rfl, by rw [List.length_append, hu]; rfl, ng.app (NG.one hq), a4, b4, c4, o4, ?_⟩
    rw [show NR (us ++ [q]) = NR us ++ [V.ref q.1] by unfold NR; rw [List.map_append]; rfl]
    exact S5
  · rintro σ' H' ⟨v3, us, rfl, hu, ng, a3, b3, c3, o3, S3⟩
    repeat walk_at "ob"
    refine g_tupA S3 (SqL.of (S3.at 1 rfl)) fun t H4 S4 => ?_
    refine k t us H4 ng (by omega) ⟨a3, b3, c3, o3.mono (by omega), S4.swap.less⟩
end
end LAW

set_option Elab.async false
set_option linter.all false
set_option maxRecDepth 100000
namespace LAW
open PySem PySem.Spec PyProof.Rows L2 PySem.W OB
/-! ### lots, plainly -/
def amtN (notes : List N) (i : Nat) : Int := ((notes[i]?).map (·.2)).getD 0
abbrev Lt : Type := Int × List Nat
def lotG (notes : List N) (b : Nat) : Nat → List Lt
  | 0 => [(0, [])]
  | n + 1 => lotG notes b n ++ (lotG notes b n).map fun r => (r.1 + amtN notes (b + n), r.2 ++ [b + n])
theorem lotG_len (notes : List N) (b : Nat) : ∀ n, (lotG notes b n).length = 2 ^ n
  | 0 => rfl
  | n + 1 => by
    unfold lotG
    rw [List.length_append, List.length_map, lotG_len notes b n, Nat.pow_succ]
    omega
/-- two lots joined -/
def joinL (a b : Lt) : Lt := (a.1 + b.1, a.2 ++ b.2)
/-- all lots of the first m + k notes: those of the first m, each with each of the next k -/
theorem lotG_split (notes : List N) (m : Nat) : ∀ k, ((lotG notes 0 m).flatMap fun a => (lotG notes m k).map (joinL a)).Perm (lotG notes 0 (m + k))
  | 0 => by
    have e : ((lotG notes 0 m).flatMap fun a => (lotG notes m 0).map (joinL a)) = lotG notes 0 m := by
      have : ∀ l : List Lt, (l.flatMap fun a => (lotG notes m 0).map (joinL a)) = l := fun l => by
        induction l with
        | nil => rfl
        | cons a l ih =>
          rw [List.flatMap_cons, ih]
          show [joinL a (0, [])] ++ l = a :: l
          unfold joinL
          rw [Int.add_zero, List.append_nil]
          rfl
      exact this _
    rw [e, Nat.add_zero]
  | k + 1 => by
    have ih := lotG_split notes m k
    show List.Perm _ (lotG notes 0 (m + k) ++ (lotG notes 0 (m + k)).map fun r => (r.1 + amtN notes (0 + (m + k)), r.2 ++ [0 + (m + k)]))
    have e : ((lotG notes 0 m).flatMap fun a => (lotG notes m (k + 1)).map (joinL a)) = (lotG notes 0 m).flatMap fun a => (lotG notes m k).map (joinL a) ++ ((lotG notes m k).map (joinL a)).map fun r => (r.1 + amtN notes (0 + (m + k)), r.2 ++ [0 + (m + k)]) := by
      congr 1
      funext a
      show (lotG notes m k ++ (lotG notes m k).map fun r => (r.1 + amtN notes (m + k), r.2 ++ [m + k])).map (joinL a) = _
      rw [List.map_append, List.map_map, List.map_map]
      congr 1
      refine List.map_congr_left fun b _ => ?_
      show (a.1 + (b.1 + amtN notes (m + k)), a.2 ++ (b.2 ++ [m + k])) = (a.1 + b.1 + amtN notes (0 + (m + k)), (a.2 ++ b.2) ++ [0 + (m + k)])
      rw [Nat.zero_add, Int.add_assoc, List.append_assoc]
    rw [e]
    have key : ∀ l : List Lt, (l.flatMap fun a => (lotG notes m k).map (joinL a) ++ ((lotG notes m k).map (joinL a)).map fun r => (r.1 + amtN notes (0 + (m + k)), r.2 ++ [0 + (m + k)])).Perm ((l.flatMap fun a => (lotG notes m k).map (joinL a)) ++ (l.flatMap fun a => (lotG notes m k).map (joinL a)).map fun r => (r.1 + amtN notes (0 + (m + k)), r.2 ++ [0 + (m + k)])) := fun l => by
      induction l with
      | nil => exact .refl _
      | cons a l ih2 =>
        rw [List.flatMap_cons, List.flatMap_cons, List.map_append]
        refine (List.Perm.append_left _ ih2).trans ?_
        rw [List.append_assoc, List.append_assoc]
        refine List.Perm.append_left _ ?_
        rw [← List.append_assoc, ← List.append_assoc]
        exact List.Perm.append_right _ List.perm_append_comm
    exact (key _).trans (ih.append (ih.map _))
/-- the lots of some rows that have a sum -/
def withS (rows : List Lt) (x : Int) : List (List Nat) := (rows.filter fun r => decide (r.1 = x)).map (·.2)
/-- lots with a sum, half by half -/
def lotsF (ahead behind : List Lt) (x : Int) : List (List Nat) := ahead.flatMap fun a => (withS behind (x - a.1)).map (a.2 ++ ·)
theorem lotsF_eq (behind : List Lt) (x : Int) : ∀ ahead : List Lt, lotsF ahead behind x = withS (ahead.flatMap fun a => behind.map (joinL a)) x
  | [] => rfl
  | a :: l => by
    show (withS behind (x - a.1)).map (a.2 ++ ·) ++ lotsF l behind x = _
    rw [lotsF_eq behind x l]
    unfold withS
    rw [List.flatMap_cons, List.filter_append, List.map_append]
    congr 1
    rw [List.filter_map, List.map_map, List.map_map]
    have : behind.filter (fun r => decide (r.1 = x - a.1)) = behind.filter ((fun r => decide (r.1 = x)) ∘ joinL a) := by
      refine List.filter_congr fun r _ => ?_
      show decide (r.1 = x - a.1) = decide (a.1 + r.1 = x)
      rw [decide_eq_decide]
      omega
    rw [this]
    rfl
theorem lotsF_perm (notes : List N) (m k : Nat) (x : Int) : (lotsF (lotG notes 0 m) (lotG notes m k) x).Perm (withS (lotG notes 0 (m + k)) x) := by
  rw [lotsF_eq]
  exact ((lotG_split notes m k).filter _).map _
/-! order of lots -/
def lotD (l : List Nat) : PyData := .tuple (l.map fun i : Nat => .int (i : Int))
abbrev leL : List Nat → List Nat → Bool := dataLe false lotD
theorem leL_total : TotalLe leL := sortLe_total _ _ _
theorem toks_nat : ∀ {a b : List Nat}, keyToksAll (a.map fun i : Nat => PyData.int (i : Int)) = keyToksAll (b.map fun i : Nat => PyData.int (i : Int)) → a = b
  | [], [], _ => rfl
  | [], _ :: _, h => by simp [keyToksAll] at h
  | _ :: _, [], h => by simp [keyToksAll] at h
  | x :: a, y :: b, h => by
    simp only [List.map_cons, keyToksAll, keyToks, List.cons_append, List.nil_append, List.cons.injEq, Sum.inl.injEq, true_and] at h
    rw [toks_nat h.2, show x = y by omega]
theorem leL_anti {a b : List Nat} (h1 : leL a b = true) (h2 : leL b a = true) : a = b := by
  have e1 : dataLt (lotD b) (lotD a) = false := by
    have : (!dataLt (lotD b) (lotD a)) = true := h1
    simpa using this
  have e2 : dataLt (lotD a) (lotD b) = false := by
    have : (!dataLt (lotD a) (lotD b)) = true := h2
    simpa using this
  have e3 := lex_total (O := itemOrd) _ _ e1 e2
  refine toks_nat ?_
  simpa [lotD, keyToks] using e3.symm
theorem sortL_perm {a b : List (List Nat)} (h : a.Perm b) : a.mergeSort leL = b.mergeSort leL :=
  List.Perm.eq_of_pairwise (le := fun a b => leL a b = true) (fun _ _ _ _ h1 h2 => leL_anti h1 h2) (sort_pairwise leL_total _) (sort_pairwise leL_total _) (((List.mergeSort_perm _ _).trans h).trans (List.mergeSort_perm _ _).symm)
/-- what lots_with tells -/
def lotsW (notes : List N) (x : Int) : List (List Nat) := (withS (lotG notes 0 notes.length) x).mergeSort leL
theorem lotsF_sort (notes : List N) (m : Nat) (hm : m ≤ notes.length) (x : Int) : (lotsF (lotG notes 0 m) (lotG notes m (notes.length - m)) x).mergeSort leL = lotsW notes x := by
  have := lotsF_perm notes m (notes.length - m) x
  rw [Nat.add_sub_cancel' hm] at this
  exact sortL_perm this
/-! the first lot of all rows is () -/
theorem lotG_head (notes : List N) (b : Nat) : ∀ n, ∃ rest, lotG notes b n = (0, []) :: rest ∧ ∀ r ∈ rest, r.2 ≠ []
  | 0 => ⟨[], rfl, fun _ h => (nomatch h)⟩
  | n + 1 => by
    obtain ⟨rest, e, h⟩ := lotG_head notes b n
    refine ⟨rest ++ (lotG notes b n).map fun r => (r.1 + amtN notes (b + n), r.2 ++ [b + n]), ?_, fun r hr => ?_⟩
    · conv => lhs; unfold lotG
      rw [e]
      rfl
    · rcases List.mem_append.mp hr with hr | hr
      · exact h r hr
      · obtain ⟨q, _, rfl⟩ := List.mem_map.mp hr
        simp
/-! each ascending list of numbers is a lot, and none else -/
def asc (l : List Nat) : Prop := l.Pairwise (· < ·)
theorem lotG_mem {notes : List N} : ∀ {n : Nat} {t : Int} {l : List Nat}, (t, l) ∈ lotG notes 0 n ↔ asc l ∧ (∀ i ∈ l, i < n) ∧ t = (l.map (amtN notes)).sum
  | 0, t, l => by
    constructor
    · intro h
      cases List.mem_singleton.mp h
      exact ⟨List.Pairwise.nil, fun _ h => (nomatch h), rfl⟩
    · rintro ⟨_, h, e⟩
      cases l with
      | nil => rw [e]; exact List.mem_singleton.mpr rfl
      | cons i l => exact absurd (h i (List.mem_cons_self ..)) (Nat.not_lt_zero _)
  | n + 1, t, l => by
    show (t, l) ∈ lotG notes 0 n ++ (lotG notes 0 n).map (fun r => (r.1 + amtN notes (0 + n), r.2 ++ [0 + n])) ↔ _
    rw [List.mem_append, lotG_mem, Nat.zero_add]
    constructor
    · rintro (⟨h1, h2, h3⟩ | h)
      · exact ⟨h1, fun i hi => Nat.lt_succ_of_lt (h2 i hi), h3⟩
      · obtain ⟨⟨t2, l2⟩, hm, e⟩ := List.mem_map.mp h
        obtain ⟨rfl, rfl⟩ := Prod.mk.inj e
        obtain ⟨h1, h2, h3⟩ := lotG_mem.mp hm
        refine ⟨List.pairwise_append.mpr ⟨h1, List.pairwise_singleton _ _, fun a ha b hb => ?_⟩, fun i hi => ?_, ?_⟩
        · rw [List.mem_singleton.mp hb]
          exact h2 a ha
        · rcases List.mem_append.mp hi with hi | hi
          · exact Nat.lt_succ_of_lt (h2 i hi)
          · rw [List.mem_singleton.mp hi]
            exact Nat.lt_succ_self n
        · rw [List.map_append, List.sum_append, h3]
          simp
    · rintro ⟨h1, h2, h3⟩
      by_cases c : n ∈ l
      · right
        have hne : l ≠ [] := fun e => by rw [e] at c; cases c
        have el := List.dropLast_concat_getLast hne
        have hlast : l.getLast hne = n := by
          have hmem := List.getLast_mem hne
          have hlt := h2 _ hmem
          rw [← el] at h1 c
          rcases List.mem_append.mp c with c | c
          · have := (List.pairwise_append.mp h1).2.2 n c _ (List.mem_singleton.mpr rfl)
            omega
          · exact (List.mem_singleton.mp c).symm
        rw [hlast] at el
        refine List.mem_map.mpr ⟨((l.dropLast.map (amtN notes)).sum, l.dropLast), lotG_mem.mpr ⟨?_, fun i hi => ?_, rfl⟩, ?_⟩
        · rw [← el] at h1
          exact (List.pairwise_append.mp h1).1
        · have hlt := h2 i ((List.dropLast_sublist l).subset hi)
          rw [← el] at h1
          have := (List.pairwise_append.mp h1).2.2 i hi n (List.mem_singleton.mpr rfl)
          exact this
        · rw [h3]
          conv => rhs; rw [← el]
          rw [List.map_append, List.sum_append]
          simp
      · left
        exact ⟨h1, fun i hi => by
          have := h2 i hi
          have hne : i ≠ n := fun e => c (e ▸ hi)
          omega, h3⟩
end LAW

set_option Elab.async false
set_option linter.all false
set_option maxRecDepth 100000
namespace LAW
open PySem PySem.Spec PyProof.Rows L2 PySem.W OB
local macro_rules | `(tactic| walk_at "obc") => `(tactic| first
  | exact Or.inl ⟨by omega, by omega⟩
  | exact Or.inr ⟨by omega, by omega⟩
  | exact cdiv_ok (by omega) (by omega)
  | (show (0 : Int) < _; omega)
  | exact ⟨by omega, by decide⟩
  | exact ⟨by decide, by decide⟩)
local macro_rules | `(tactic| walk_at "obat") => `(tactic| first
  | exact Sy.at (by assumption) 0 rfl | exact Sy.at (by assumption) 1 rfl | exact Sy.at (by assumption) 2 rfl | exact Sy.at (by assumption) 3 rfl
  | exact Sy.at (by assumption) 4 rfl | exact Sy.at (by assumption) 5 rfl | exact Sy.at (by assumption) 6 rfl | exact Sy.at (by assumption) _ (by assumption) | exact Sy.at (by assumption) (_ + 1) (by assumption) | exact Sy.at (by assumption) (_ + 2) (by assumption))
local macro_rules | `(tactic| walk_at "obt") => `(tactic| first
  | exact Sy.tqs (by assumption) 0 rfl | exact Sy.tqs (by assumption) 1 rfl | exact Sy.tqs (by assumption) 2 rfl | exact Sy.tqs (by assumption) 3 rfl | exact Sy.tqs (by assumption) 4 rfl | exact Sy.tqs (by assumption) 5 rfl
  | exact Sy.tqs (by assumption) 6 rfl | exact Sy.tqs (by assumption) 7 rfl | assumption)
local macro_rules | `(tactic| walk_at "obl") => `(tactic| first
  | exact SqL.of (by walk_at "obat")
  | exact Sy.sq (by assumption) 0 rfl | exact Sy.sq (by assumption) 1 rfl | exact Sy.sq (by assumption) 2 rfl | exact Sy.sq (by assumption) 3 rfl | exact Sy.sq (by assumption) _ (by assumption))
local macro_rules | `(tactic| walk_at "obd") => `(tactic| first
  | exact Dp.int _ | exact Dp.bl _ | exact Dp.str _ | exact Dp.non
  | exact Sy.dp (by assumption) 0 rfl | exact Sy.dp (by assumption) 1 rfl | exact Sy.dp (by assumption) 2 rfl | exact Sy.dp (by assumption) 3 rfl
  | exact Sy.dp (by assumption) 4 rfl | exact Sy.dp (by assumption) 5 rfl | exact Sy.dp (by assumption) 6 rfl | exact Sy.dp (by assumption) 7 rfl
  | exact Sy.dp (by assumption) 8 rfl | exact Sy.dp (by assumption) 9 rfl | exact Sy.dp (by assumption) _ (by assumption) | assumption)
local macro_rules | `(tactic| walk_at "obds") => `(tactic| first
  | exact DpAll.nil
  | (refine' DpAll.cons ?ob1 ?ob2; (case ob1 => walk_at "obd"); (case ob2 => walk_at "obds"))
  | exact Sy.dps (by assumption) 0 rfl | exact Sy.dps (by assumption) 1 rfl | exact Sy.dps (by assumption) 2 rfl | exact Sy.dps (by assumption) 3 rfl | assumption)
local macro_rules | `(tactic| walk_at "obsc") => `(tactic| first
  | exact ScL.nil
  | ((first | refine' ScL.int ?obz | refine' ScL.str ?obz | refine' ScL.bl ?obz | refine' ScL.non ?obz); (case obz => walk_at "obsc")))
local macro_rules | `(tactic| walk_at "ob1") => `(tactic| first
  | ((with_reducible refine' g_var ?obh ?_); (case obh => rfl))
  | with_reducible refine g_c ?_
  | with_reducible refine g_nx ?_
  | with_reducible refine g_rt ?_
  | with_reducible refine g_bk ?_
  | with_reducible refine g_ct ?_
  | with_reducible refine g_op ?_
  | with_reducible refine g_I0 ?_
  | with_reducible refine g_test ?_
  | with_reducible refine g_bl ?_
  | with_reducible refine g_blx ?_
  | with_reducible refine g_B ?_
  | with_reducible refine g_seq ?_
  | with_reducible refine g_asg ?_
  | with_reducible refine g_name ?_
  | with_reducible refine g_ifS ?_
  | with_reducible refine g_ret ?_
  | with_reducible refine g_cb ?_
  | with_reducible refine g_cons ?_
  | with_reducible refine g_nil ?_
  | with_reducible refine g_int ?_
  | with_reducible refine g_intB ?_
  | with_reducible refine g_abs ?_
  | with_reducible refine g_max ?_
  | with_reducible refine g_min ?_
  | with_reducible refine g_un ?_
  | with_reducible refine g_U ?_
  | with_reducible refine g_eqI ?_
  | with_reducible refine g_neI ?_
  | with_reducible refine g_eqS ?_
  | with_reducible refine g_neS ?_
  | with_reducible refine g_tt ?_
  | with_reducible refine g_ff ?_
  | with_reducible refine g_next ?_
  | with_reducible refine g_drop ?_
  | with_reducible refine g_if ?_
  | with_reducible refine g_andV ?_
  | with_reducible refine g_orV ?_
  | with_reducible refine g_notV ?_
  | with_reducible refine g_and ?_
  | with_reducible refine g_or ?_
  | with_reducible refine g_not ?_
  | with_reducible refine g_yes ?_
  | with_reducible refine g_chain ?_
  | with_reducible refine g_cg ?_
  | with_reducible refine g_mg ?_
  | with_reducible refine g_kg ?_
  | with_reducible refine g_pg ?_
  | ((with_reducible refine' g_call ?obh ?obj ?_); (case obh => rfl); (case obj => rfl))
  | with_reducible refine g_par ?_
  | with_reducible refine g_par2 ?_
  | with_reducible refine g_par3 ?_
  | with_reducible refine g_par33 ?_
  | with_reducible refine g_gnil ?_
  | with_reducible refine g_gcons ?_
  | with_reducible refine g_gsub ?_
  | with_reducible refine g_ipI ?_
  | with_reducible refine g_rAdd ?_
  | with_reducible refine g_rSub ?_
  | ((with_reducible refine' g_aug ?obh ?_); (case obh => rfl))
  | with_reducible refine g_tup ?_
  | with_reducible refine g_lst ?_
  | with_reducible refine g_bm ?_
  | with_reducible refine g_bm0 ?_
  | with_reducible refine g_sl ?_
  | with_reducible refine g_nopart ?_
  | with_reducible refine g_part ?_
  | with_reducible refine g_pint ?_
  | with_reducible refine isi_int ?_
  | with_reducible refine isi_intB ?_
  | ((with_reducible refine' g_I ?obh ?_); (case obh => walk_at "obc"))
  | ((with_reducible refine' g_tyl ?obh ?_); (case obh => walk_at "obl"))
  | ((with_reducible refine' g_lenL ?obh ?_); (case obh => walk_at "obl"))
  | with_reducible refine g_ne ?_
  | ((with_reducible refine' g_neN' ?obh ?_); (case obh => rfl))
  | with_reducible refine g_ntt ?_
  | with_reducible refine g_nff ?_
  | with_reducible refine g_star ?_
  | with_reducible refine g_att ?_
  | with_reducible refine g_sfld ?_
  | with_reducible refine g_faug ?_
  | with_reducible refine g_fld ?_
  | ((with_reducible refine' g_nF ?obh ?_); (case obh => omega))
  | ((with_reducible refine' g_nT ?obh ?_); (case obh => omega))
  | ((with_reducible refine' g_TD ?obh ?_); (case obh => omega))
  | ((with_reducible refine' g_FD ?obh ?_); (case obh => omega))
  | ((with_reducible refine' g_ixUL ?obh ?obi ?_); (case obh => walk_at "obl"); (case obi => exact atI_nn (by omega) (by rfl)))
  | ((with_reducible refine' g_setLS ?obs ?obh ?obi ?_); (case obs => assumption); (case obh => assumption); (case obi => rfl); intro _ _ _)
  | ((with_reducible refine' g_newT ?obs ?obh ?obi ?obj ?_); (case obs => assumption); (case obh => walk_at "obds"); (case obi => rfl); (case obj => exact Nat.le_of_ble_eq_true rfl); intro _ _ _ _)
  | ((with_reducible refine' g_newL ?obs ?obj ?_); (case obs => assumption); (case obj => exact Nat.le_of_ble_eq_true rfl); intro _ _ _ _)
  | ((with_reducible refine' isi_tup ?obh ?_); (case obh => walk_at "obt"))
  | ((with_reducible refine' g_lenT ?obh ?_); (case obh => walk_at "obt"))
  | ((with_reducible refine' g_unpT ?obh ?obi ?_); (case obh => walk_at "obt"); (case obi => rfl))
  | ((with_reducible refine' g_divmod ?obs ?obh ?_); (case obs => assumption); (case obh => exact cdivp_ok (by omega) (by omega) (by omega)); intro _ _ _ _)
  | ((with_reducible refine' g_unpD ?obh ?obi ?obj ?_); (case obh => walk_at "obd"); (case obi => walk_at "obsc"); (case obj => rfl))
  | with_reducible refine g_att ?_)
local macro_rules | `(tactic| walk_at "ob") => `(tactic| first
  | walk_at "ob1"
  | refine use_is_integer ?_
  | refine use_is_within ?_
  | with_reducible refine g_lstRg ?_
  | with_reducible refine g_rg1 ?_
  | with_reducible refine g_rg2 ?_
  | with_reducible refine g_tTru ?_
  | ((with_reducible refine' g_truL ?obh ?_); (case obh => walk_at "obl"))
  | ((with_reducible refine' g_ixUT ?obh ?obi ?_); (case obh => walk_at "obt"); (case obi => rfl))
  | with_reducible refine g_forZ ?_
  | with_reducible refine g_forR2 ?_
  | with_reducible refine g_forE ?_
  | with_reducible refine g_lcZ ?_)
section
variable {P : Program} {w : World} {K : Frag} {mg : Str → Option Value} {base : Heap}
def sp_check_lots (K : Frag) : Sp := fun vs H Q E => vs.length = 3 ∧ ∃ (F : List (Addr × HO)) (G : List Ft) (p : Addr) (rs : NS) (x m : Int), vs = [.ref p, .int x, .int m] ∧ Sy K F G H ∧ SqT K H p (NR rs) ∧ (∀ q ∈ NT rs, H q.1 = some (.tup q.2)) ∧ NG rs ∧ rs.length ≤ 200 ∧ (rs.length : Int) ≤ m ∧ ∀ H', Sy K F G H' → Q .non H'
abbrev names_check_lots : List Str := ["notes", "amount", "most"]
theorem sc_check_lots : FnScope names_check_lots ["notes", "amount", "most"] (defScope (top 22)) := ⟨rfl, rfl, rfl, by decide +kernel, rfl, by decide +kernel, by decide +kernel⟩
set_option maxHeartbeats 4000000 in
theorem ok_check_lots (T : Tx K mg) : FG P w K mg base CX0 6 T.a_check_lots T.d_check_lots ["notes", "amount", "most"] (sp_check_lots K) := by
  refine OB.Fun.fg T.F_check_lots sc_check_lots (fun vs H Q E h => h.1) (fun cdv A out s H vs Q E g h => ?_)
  obtain ⟨_, F, G, p, rs, x, m, rfl, S0, h1, h2, ng, hl, hm, k⟩ := h
  refine ⟨_, (pss_cons (ps_expr (pe_cg (ok_check_notes T) (g.mono (by decide : 5 ≤ 5)) (by rfl) T.m_check_notes T.F_check_notes.kp (OB.Fun.bd T.F_check_notes (ps := ["notes"]) (n := 1) (ks := []) (ix := [0]) (fun _ _ _ _ _ _ us ws h1 h2 => match us, ws, h1, h2 with | [_], [], _, _ => rfl)) pass0 (pa_cons (pv 0) pa_nil) pk_nil))
      (pss_cons (ps_if (pt_not (pt_val (pe_cg (ok_is_integer T) (g.mono (by decide : 1 ≤ 5)) (by rfl) T.m_is_integer T.F_is_integer.kp (OB.Fun.bd T.F_is_integer (ps := ["value"]) (n := 1) (ks := []) (ix := [0]) (fun _ _ _ _ _ _ us ws h1 h2 => match us, ws, h1, h2 with | [_], [], _, _ => rfl)) pass0 (pa_cons (pv 1) pa_nil) pk_nil))) (pss_one ps_never) pss_nil)
      (pss_one (ps_if (pt_cmpR op_gt (pe_callB (toK (r := OB.rLen) (K := K) rfl c_len) (by rfl) T.n_len PySem.boot_len (pa_cons (pv 0) pa_nil)) (pv 2) (nomark _)) (pss_one ps_never) pss_nil)))), ?_⟩
  refine g_start (σ := [some _, some _, some _]) rfl ?_
  have S := (S0.add (.tt (NT rs)) h2).add (.tq p (NR rs)) h1
  clear S0 h1 h2
  have hn : (NR rs).length = rs.length := List.length_map ..
  repeat walk_at "ob"
  refine use_check_notes S (S.tqs 0 rfl) (S.tts 1 rfl) ng hl fun H1 S1 => ?_
  clear S
  repeat walk_at "ob"
  exact k _ S1.drop.drop
def rowD1 (r : Lt) : PyData := .tuple [.int r.1, lotD r.2]
def rowsD (l : List Lt) : List PyData := l.map rowD1
theorem lotD_imm (l : List Nat) : imm (lotD l) = true := by
  show immAll (l.map fun i : Nat => PyData.int (i : Int)) = true
  exact immAll_of fun d hd => by
    obtain ⟨q, _, rfl⟩ := List.mem_map.mp hd
    rfl
theorem rowsD_imm (l : List Lt) : immAll (rowsD l) = true := immAll_of fun d hd => by
  obtain ⟨q, _, rfl⟩ := List.mem_map.mp hd
  show (true && (imm (lotD q.2) && true)) = true
  rw [lotD_imm]
  rfl
def nI (l : List Nat) : List V := l.map fun i : Nat => V.int (i : Int)
theorem dps_lotV {H : Hp} {vs : List V} {l : List Nat} (h : DpAll K H vs (l.map fun i : Nat => PyData.int (i : Int))) : vs = nI l := by
  rw [dps_scal h fun d hd => by
    obtain ⟨s, _, rfl⟩ := List.mem_map.mp hd
    rfl]
  unfold nI
  rw [List.map_map]
  rfl
theorem dp_nI {H : Hp} (l : List Nat) : DpAll K H (nI l) (l.map fun i : Nat => PyData.int (i : Int)) := by
  unfold nI
  induction l with
  | nil => exact .nil
  | cons i l ih => exact .cons (.int _) ih
/-- a row opened -/
theorem row_open {H : Hp} {x : V} {r : Lt} (h : L2.Dp K H x (rowD1 r)) : ∃ t q, x = .ref t ∧ SqT K H t [.int r.1, .ref q] ∧ SqT K H q (nI r.2) := by
  obtain ⟨t, zs, rfl, ht, hz⟩ := dp_tuple h
  cases hz with
  | cons d1 hz =>
  cases hz with
  | cons d2 hz =>
  cases hz
  obtain rfl := dp_int d1
  obtain ⟨q, ys, rfl, hq, hy⟩ := dp_tuple d2
  have := dps_lotV hy
  subst this
  exact ⟨t, q, rfl, ht, hq⟩
theorem lotG_rl {notes : List N} {b : Nat} : ∀ {n : Nat} {r : Lt}, r ∈ lotG notes b n → r.2.length ≤ n
  | 0, r, h => by
    cases List.mem_singleton.mp h
    exact Nat.le_refl _
  | n + 1, r, h => by
    rcases List.mem_append.mp (show r ∈ lotG notes b n ++ (lotG notes b n).map _ from h) with h | h
    · exact Nat.le_succ_of_le (lotG_rl h)
    · obtain ⟨q, hq, rfl⟩ := List.mem_map.mp h
      have := lotG_rl hq
      show (q.2 ++ [b + n]).length ≤ n + 1
      rw [List.length_append]
      exact Nat.succ_le_succ this
def sp_lots_of_notes (K : Frag) : Sp := fun vs H Q E => vs.length = 3 ∧ ∃ (F : List (Addr × HO)) (G : List Ft) (p : Addr) (rs : NS) (b n : Nat), vs = [.ref p, .int (b : Int), .int ((b + n : Nat) : Int)] ∧ Sy K F G H ∧ SqT K H p (NR rs) ∧ (∀ q ∈ NT rs, H q.1 = some (.tup q.2)) ∧ b + n ≤ rs.length ∧ n ≤ 12 ∧ rs.length ≤ 200 ∧
  ∀ q vs H', Sy K ((q, .lst vs) :: F) (.dat vs (rowsD (lotG (rs.map (·.2)) b n)) :: G) H' → Q (.ref q) H'
abbrev names_lots_of_notes : List Str := ["notes", "begin", "end", "found", "number", "total", "lot"]
theorem sc_lots_of_notes : FnScope names_lots_of_notes ["notes", "begin", "end"] (defScope (top 23)) := ⟨rfl, rfl, rfl, by decide +kernel, rfl, by decide +kernel, by decide +kernel⟩
set_option maxHeartbeats 4000000 in
theorem ok_lots_of_notes (T : Tx K mg) : FG P w K mg base CX0 1 T.a_lots_of_notes T.d_lots_of_notes ["notes", "begin", "end"] (sp_lots_of_notes K) := by
  refine OB.Fun.fg T.F_lots_of_notes sc_lots_of_notes (fun vs H Q E h => h.1) (fun cdv A out s H vs Q E g h => ?_)
  obtain ⟨_, F, G0, p, rs, b, n, rfl, S0, h1, h2, hbn, hn, hl, k⟩ := h
  refine ⟨_, (pss_cons (ps_set (i := 3) sc_lots_of_notes.nd rfl (by first | exact Or.inl rfl | exact Or.inr rfl) (pe_lst (pa_cons (pe_tup (pa_cons pe_int (pa_cons (pe_tup pa_nil) pa_nil))) pa_nil)))
      (pss_cons (ps_for PassesOwn.never rfl (pi_range2 rfl T.n_range (pa_cons (pv 1) (pa_cons (pv 2) pa_nil))) (pg_name (i := 4) sc_lots_of_notes.nd rfl (by first | exact Or.inl rfl | exact Or.inr rfl))
      (pss_one (ps_set (i := 3) sc_lots_of_notes.nd rfl (by first | exact Or.inl rfl | exact Or.inr rfl) (pe_lst (StX.pa_star (pv 3) (StX.pa_star (pe_lc (own := [("total", 5), ("lot", 6)]) (tt := tYes) rfl sc_lots_of_notes.nd (pi_seq (pv 3)) (blkOk_by (N := names_lots_of_notes) (sc := defScope (top 23)) (own := [("total", 5), ("lot", 6)]) (by decide +kernel)) (fun _ _ _ _ _ => (pg_tupK (K := K) rfl (n := 2) rfl (pgs_cons (pg_name (i := 5) sc_lots_of_notes.nd rfl (by first | exact Or.inl rfl | exact Or.inr rfl)) (pgs_cons (pg_name (i := 6) sc_lots_of_notes.nd rfl (by first | exact Or.inl rfl | exact Or.inr rfl)) pgs_nil)))) (fun _ _ _ _ _ => pts_nil) (fun _ _ _ _ _ => (pe_tup (pa_cons (pe_op op_add (pv 5) (pe_ix (ix_UK (K := K) rfl) (pe_ix (ix_UK (K := K) rfl) (pv 0) (pv 4) (fun _ _ => rfl)) pe_int (fun _ _ => rfl))) (pa_cons (pe_tup (pa_starK (K := K) rfl (pv 6) (pa_cons (pv 4) pa_nil))) pa_nil))))) pa_nil))))))
      (pss_one (ps_ret (pv 3))))), ?_⟩
  refine g_start (σ := [some _, some _, some _, none, none, none, none]) rfl ?_
  have S := (S0.add (.tt (NT rs)) h2).add (.tq p (NR rs)) h1
  clear S0 h1 h2
  repeat walk_at "ob"
  rename_i fo H1 _ S1
  have S2 : Sy K ((fo, .lst [.ref _]) :: F) (.dat [.ref _] (rowsD (lotG (rs.map (·.2)) b 0)) :: .tq p (NR rs) :: .tt (NT rs) :: G0) H1 := S1.drop2
  refine ⟨_, _, rfl, ⟨by omega, by omega, by omega, by omega⟩, ?_⟩
  rw [show ((((b + n : Nat) : Int) - (b : Int)).toNat) = n by omega]
  refine rg2for_of (fun i σ' H' => ∃ fo fv v4, σ' = [some (.ref p), some (.int b), some (.int ((b + n : Nat) : Int)), some (.ref fo), v4, none, none] ∧ i ≤ n ∧ Sy K ((fo, .lst fv) :: F) (.dat fv (rowsD (lotG (rs.map (·.2)) b i)) :: .tq p (NR rs) :: .tt (NT rs) :: G0) H') ⟨fo, _, none, rfl, Nat.zero_le _, S2⟩ ?_ ?_
  · clear S S1 S2
    rintro i σ' H2 hi ⟨fo, fv, v4, rfl, _, S3⟩
    have h12 : 2 ^ i ≤ 4096 := Nat.pow_le_pow_right (by decide) (show i ≤ 12 by omega)
    have hlen : fv.length = 2 ^ i := by
      have := dps_length (S3.dps 0 rfl)
      rw [this]
      unfold rowsD
      rw [List.length_map, lotG_len]
    repeat walk_at "ob"
    refine g_stL (SqL.of (S3.at 0 rfl)) ?_
    repeat walk_at "ob"
    refine g_lcS (a := fo) (xs := fv) true (fun j F' ds => F' = (fo, .lst fv) :: F ∧ ds = ((lotG (rs.map (·.2)) b i).take j).map fun r => rowD1 (r.1 + amtN (rs.map (·.2)) (b + i), r.2 ++ [b + i])) S3 (fun Q' q => by walk_at "ob"; exact q) ⟨rfl, rfl⟩ (fun j F' ds H' hi S3 => SqL.of ((hi.1 ▸ S3).at 0 rfl)) (fun j F' ds hi => by
      rw [hi.2, List.length_map, List.length_take, lotG_len]; omega) ?_ ?_
    · intro j x hx Dp H3 F3 ws ds QE QR hj S4 kE kR
      obtain ⟨rfl, rfl⟩ := hj
      obtain ⟨r, hr, hdr⟩ := dps_map (S4.dps 1 rfl) hx
      obtain ⟨t, q, rfl, ht, hq⟩ := row_open hdr
      repeat walk_at "ob"
      refine ⟨rfl, ?_⟩
      have hbi : b + i < rs.length := by omega
      have hnr : (NR rs)[b + i]? = some (.ref rs[b + i].1) := nr_at (List.getElem?_eq_getElem hbi)
      have hnt := nt_at S4 (i := 3) rfl (List.getElem_mem hbi)
      have ham : amtN (rs.map (·.2)) (b + i) = rs[b + i].2.2 := by
        unfold amtN
        rw [List.getElem?_map, List.getElem?_eq_getElem hbi]
        rfl
      rw [show (b : Int) + (i : Int) = ((b + i : Nat) : Int) from rfl]
      repeat walk_at "ob"
      refine g_ixUT (S4.tqs 2 rfl) (atI_nn (Int.natCast_nonneg _) hnr) ?_
      repeat walk_at "ob"
      refine g_ixUT (sqt_note hnt) (v := .int rs[b + i].2.2) rfl ?_
      repeat walk_at "ob"
      refine g_stT hq ?_
      repeat walk_at "ob"
      have hrl := lotG_rl (List.mem_of_getElem? hr)
      have eI : nI (r.2 ++ [b + i]) = nI r.2 ++ [V.int ((b + i : Nat) : Int)] := by
        unfold nI
        rw [List.map_append]
        rfl
      rw [← eI]
      refine g_newT (ds := (r.2 ++ [b + i]).map fun i : Nat => PyData.int (i : Int)) S4 (dp_nI _) (lotD_imm _) (by unfold nI; rw [List.length_map, List.length_append]; show _ + 1 ≤ _; omega) fun q2 H4 _ S5 => ?_
      repeat walk_at "ob"
      refine g_newT (ds := [.int (r.1 + rs[b + i].2.2), lotD (r.2 ++ [b + i])]) S5 (.cons (.int _) (S5.dps 0 rfl)) (by
        show (true && (imm (lotD _) && true)) = true
        rw [lotD_imm]
        rfl) (Nat.le_of_ble_eq_true rfl) fun q3 H5 _ S6 => ?_
      rw [← ham] at S6
      refine kE _ (rowD1 (r.1 + amtN (rs.map (·.2)) (b + i), r.2 ++ [b + i])) _ H5 ⟨rfl, ?_⟩ S6.drop2
      rw [List.take_add_one, hr, List.map_append]
      rfl
    · intro Dp H3 F3 ws ds hD hj S4
      obtain ⟨rfl, rfl⟩ := hj
      repeat walk_at "ob"
      refine g_stL (SqL.of (S4.at 0 rfl)) ?_
      have hw := dps_length (S4.dps 0 rfl)
      rw [List.length_map, List.length_take, lotG_len] at hw
      repeat walk_at "ob"
      refine g_newL S4 (by rw [List.length_append, List.length_append, hlen, hw]; show _ + (_ + 0) ≤ _; omega) fun q H4 _ S5 => ?_
      have S6 := S5.fact (dps_append (S5.dps 1 rfl) (S5.dps 0 rfl)) (by rw [immAll_append, S5.dpi 1 rfl, S5.dpi 0 rfl]; rfl)
      repeat walk_at "ob"
      rw [List.append_nil] at S6
      refine ⟨q, fv ++ ws, _, rfl, hi, ?_⟩
      have e : rowsD (lotG (rs.map (·.2)) b (i + 1)) = rowsD (lotG (rs.map (·.2)) b i) ++ ((lotG (rs.map (·.2)) b i).take fv.length).map fun r => rowD1 (r.1 + amtN (rs.map (·.2)) (b + i), r.2 ++ [b + i]) := by
        rw [List.take_of_length_le (by rw [lotG_len, hlen]; exact Nat.le_refl _)]
        conv => lhs; unfold lotG
        unfold rowsD
        rw [List.map_append, List.map_map]
        rfl
      rw [e]
      exact S6.drop2.drop2.swap.less.swap.less
  · rintro σ' H2 ⟨fo, fv, v4, rfl, _, S3⟩
    repeat walk_at "ob"
    exact k fo fv H2 S3.drop2.drop2
end
end LAW

set_option Elab.async false
set_option linter.all false
set_option maxRecDepth 100000
namespace LAW
open PySem PySem.Spec PyProof.Rows L2 PySem.W OB
local macro_rules | `(tactic| walk_at "obc") => `(tactic| first
  | exact Or.inl ⟨by omega, by omega⟩
  | exact Or.inr ⟨by omega, by omega⟩
  | exact cdiv_ok (by omega) (by omega)
  | (show (0 : Int) < _; omega)
  | exact ⟨by omega, by decide⟩
  | exact ⟨by decide, by decide⟩)
local macro_rules | `(tactic| walk_at "obat") => `(tactic| first
  | exact Sy.at (by assumption) 0 rfl | exact Sy.at (by assumption) 1 rfl | exact Sy.at (by assumption) 2 rfl | exact Sy.at (by assumption) 3 rfl
  | exact Sy.at (by assumption) 4 rfl | exact Sy.at (by assumption) 5 rfl | exact Sy.at (by assumption) 6 rfl | exact Sy.at (by assumption) _ (by assumption) | exact Sy.at (by assumption) (_ + 1) (by assumption) | exact Sy.at (by assumption) (_ + 2) (by assumption))
local macro_rules | `(tactic| walk_at "obt") => `(tactic| first
  | exact Sy.tqs (by assumption) 0 rfl | exact Sy.tqs (by assumption) 1 rfl | exact Sy.tqs (by assumption) 2 rfl | exact Sy.tqs (by assumption) 3 rfl | exact Sy.tqs (by assumption) 4 rfl | exact Sy.tqs (by assumption) 5 rfl
  | exact Sy.tqs (by assumption) 6 rfl | exact Sy.tqs (by assumption) 7 rfl | assumption)
local macro_rules | `(tactic| walk_at "obl") => `(tactic| first
  | exact SqL.of (by walk_at "obat")
  | exact Sy.sq (by assumption) 0 rfl | exact Sy.sq (by assumption) 1 rfl | exact Sy.sq (by assumption) 2 rfl | exact Sy.sq (by assumption) 3 rfl | exact Sy.sq (by assumption) _ (by assumption))
local macro_rules | `(tactic| walk_at "obd") => `(tactic| first
  | exact Dp.int _ | exact Dp.bl _ | exact Dp.str _ | exact Dp.non
  | exact Sy.dp (by assumption) 0 rfl | exact Sy.dp (by assumption) 1 rfl | exact Sy.dp (by assumption) 2 rfl | exact Sy.dp (by assumption) 3 rfl
  | exact Sy.dp (by assumption) 4 rfl | exact Sy.dp (by assumption) 5 rfl | exact Sy.dp (by assumption) 6 rfl | exact Sy.dp (by assumption) 7 rfl
  | exact Sy.dp (by assumption) 8 rfl | exact Sy.dp (by assumption) 9 rfl | exact Sy.dp (by assumption) _ (by assumption) | assumption)
local macro_rules | `(tactic| walk_at "obds") => `(tactic| first
  | exact DpAll.nil
  | (refine' DpAll.cons ?ob1 ?ob2; (case ob1 => walk_at "obd"); (case ob2 => walk_at "obds"))
  | exact Sy.dps (by assumption) 0 rfl | exact Sy.dps (by assumption) 1 rfl | exact Sy.dps (by assumption) 2 rfl | exact Sy.dps (by assumption) 3 rfl | assumption)
local macro_rules | `(tactic| walk_at "obsc") => `(tactic| first
  | exact ScL.nil
  | ((first | refine' ScL.int ?obz | refine' ScL.str ?obz | refine' ScL.bl ?obz | refine' ScL.non ?obz); (case obz => walk_at "obsc")))
local macro_rules | `(tactic| walk_at "ob1") => `(tactic| first
  | ((with_reducible refine' g_var ?obh ?_); (case obh => rfl))
  | with_reducible refine g_c ?_
  | with_reducible refine g_nx ?_
  | with_reducible refine g_rt ?_
  | with_reducible refine g_bk ?_
  | with_reducible refine g_ct ?_
  | with_reducible refine g_op ?_
  | with_reducible refine g_I0 ?_
  | with_reducible refine g_test ?_
  | with_reducible refine g_bl ?_
  | with_reducible refine g_blx ?_
  | with_reducible refine g_B ?_
  | with_reducible refine g_seq ?_
  | with_reducible refine g_asg ?_
  | with_reducible refine g_name ?_
  | with_reducible refine g_ifS ?_
  | with_reducible refine g_ret ?_
  | with_reducible refine g_cb ?_
  | with_reducible refine g_cons ?_
  | with_reducible refine g_nil ?_
  | with_reducible refine g_int ?_
  | with_reducible refine g_intB ?_
  | with_reducible refine g_abs ?_
  | with_reducible refine g_max ?_
  | with_reducible refine g_min ?_
  | with_reducible refine g_un ?_
  | with_reducible refine g_U ?_
  | with_reducible refine g_eqI ?_
  | with_reducible refine g_neI ?_
  | with_reducible refine g_eqS ?_
  | with_reducible refine g_neS ?_
  | with_reducible refine g_tt ?_
  | with_reducible refine g_ff ?_
  | with_reducible refine g_next ?_
  | with_reducible refine g_drop ?_
  | with_reducible refine g_if ?_
  | with_reducible refine g_andV ?_
  | with_reducible refine g_orV ?_
  | with_reducible refine g_notV ?_
  | with_reducible refine g_and ?_
  | with_reducible refine g_or ?_
  | with_reducible refine g_not ?_
  | with_reducible refine g_yes ?_
  | with_reducible refine g_chain ?_
  | with_reducible refine g_cg ?_
  | with_reducible refine g_mg ?_
  | with_reducible refine g_kg ?_
  | with_reducible refine g_pg ?_
  | ((with_reducible refine' g_call ?obh ?obj ?_); (case obh => rfl); (case obj => rfl))
  | with_reducible refine g_par ?_
  | with_reducible refine g_par2 ?_
  | with_reducible refine g_par3 ?_
  | with_reducible refine g_par33 ?_
  | with_reducible refine g_gnil ?_
  | with_reducible refine g_gcons ?_
  | with_reducible refine g_gsub ?_
  | with_reducible refine g_ipI ?_
  | with_reducible refine g_rAdd ?_
  | with_reducible refine g_rSub ?_
  | ((with_reducible refine' g_aug ?obh ?_); (case obh => rfl))
  | with_reducible refine g_tup ?_
  | with_reducible refine g_lst ?_
  | with_reducible refine g_bm ?_
  | with_reducible refine g_bm0 ?_
  | with_reducible refine g_sl ?_
  | with_reducible refine g_nopart ?_
  | with_reducible refine g_part ?_
  | with_reducible refine g_pint ?_
  | with_reducible refine isi_int ?_
  | with_reducible refine isi_intB ?_
  | ((with_reducible refine' g_I ?obh ?_); (case obh => walk_at "obc"))
  | ((with_reducible refine' g_tyl ?obh ?_); (case obh => walk_at "obl"))
  | ((with_reducible refine' g_lenL ?obh ?_); (case obh => walk_at "obl"))
  | with_reducible refine g_ne ?_
  | ((with_reducible refine' g_neN' ?obh ?_); (case obh => rfl))
  | with_reducible refine g_ntt ?_
  | with_reducible refine g_nff ?_
  | with_reducible refine g_star ?_
  | with_reducible refine g_att ?_
  | with_reducible refine g_sfld ?_
  | with_reducible refine g_faug ?_
  | with_reducible refine g_fld ?_
  | ((with_reducible refine' g_nF ?obh ?_); (case obh => omega))
  | ((with_reducible refine' g_nT ?obh ?_); (case obh => omega))
  | ((with_reducible refine' g_TD ?obh ?_); (case obh => omega))
  | ((with_reducible refine' g_FD ?obh ?_); (case obh => omega))
  | ((with_reducible refine' g_ixUL ?obh ?obi ?_); (case obh => walk_at "obl"); (case obi => exact atI_nn (by omega) (by rfl)))
  | ((with_reducible refine' g_setLS ?obs ?obh ?obi ?_); (case obs => assumption); (case obh => assumption); (case obi => rfl); intro _ _ _)
  | ((with_reducible refine' g_newT ?obs ?obh ?obi ?obj ?_); (case obs => assumption); (case obh => walk_at "obds"); (case obi => rfl); (case obj => exact Nat.le_of_ble_eq_true rfl); intro _ _ _ _)
  | ((with_reducible refine' g_newL ?obs ?obj ?_); (case obs => assumption); (case obj => exact Nat.le_of_ble_eq_true rfl); intro _ _ _ _)
  | ((with_reducible refine' isi_tup ?obh ?_); (case obh => walk_at "obt"))
  | ((with_reducible refine' g_lenT ?obh ?_); (case obh => walk_at "obt"))
  | ((with_reducible refine' g_unpT ?obh ?obi ?_); (case obh => walk_at "obt"); (case obi => rfl))
  | ((with_reducible refine' g_divmod ?obs ?obh ?_); (case obs => assumption); (case obh => exact cdivp_ok (by omega) (by omega) (by omega)); intro _ _ _ _)
  | ((with_reducible refine' g_unpD ?obh ?obi ?obj ?_); (case obh => walk_at "obd"); (case obi => walk_at "obsc"); (case obj => rfl))
  | with_reducible refine g_att ?_)
local macro_rules | `(tactic| walk_at "ob") => `(tactic| first
  | walk_at "ob1"
  | refine use_is_integer ?_
  | refine use_is_within ?_
  | with_reducible refine g_lstRg ?_
  | with_reducible refine g_rg1 ?_
  | with_reducible refine g_rg2 ?_
  | with_reducible refine g_tTru ?_
  | ((with_reducible refine' g_truL ?obh ?_); (case obh => walk_at "obl"))
  | ((with_reducible refine' g_ixUT ?obh ?obi ?_); (case obh => walk_at "obt"); (case obi => rfl))
  | with_reducible refine g_forZ ?_
  | with_reducible refine g_forR2 ?_
  | with_reducible refine g_forE ?_
  | with_reducible refine g_lcZ ?_)
section
variable {P : Program} {w : World} {K : Frag} {mg : Str → Option Value} {base : Heap}
theorem use_lots {F : List (Addr × HO)} {G : List Ft} {H : Hp} {Q : VK} {E : XK} {p : Addr} {rs : NS} {b n : Nat} (S : Sy K F G H) (h1 : SqT K H p (NR rs)) (h2 : ∀ q ∈ NT rs, H q.1 = some (.tup q.2)) (hbn : b + n ≤ rs.length) (hn : n ≤ 12) (hl : rs.length ≤ 200)
    (k : ∀ q vs H', Sy K ((q, .lst vs) :: F) (.dat vs (rowsD (lotG (rs.map (·.2)) b n)) :: G) H' → Q (.ref q) H') : sp_lots_of_notes K [.ref p, .int (b : Int), .int ((b + n : Nat) : Int)] H Q E := ⟨rfl, F, G, p, rs, b, n, rfl, S, h1, h2, hbn, hn, hl, k⟩
def sp_halves (K : Frag) : Sp := fun vs H Q E => vs.length = 1 ∧ ∃ (F : List (Addr × HO)) (G : List Ft) (p : Addr) (rs : NS), vs = [.ref p] ∧ Sy K F G H ∧ SqT K H p (NR rs) ∧ (∀ q ∈ NT rs, H q.1 = some (.tup q.2)) ∧ rs.length ≤ 24 ∧
  ∀ t q1 q2 v1 v2 H', Sy K ((q2, .lst v2) :: (q1, .lst v1) :: F) (.tq t [.ref q1, .ref q2] :: .dat v2 (rowsD (lotG (rs.map (·.2)) (rs.length / 2) (rs.length - rs.length / 2))) :: .dat v1 (rowsD (lotG (rs.map (·.2)) 0 (rs.length / 2))) :: G) H' → Q (.ref t) H'
abbrev names_halves : List Str := ["notes", "middle"]
theorem sc_halves : FnScope names_halves ["notes"] (defScope (top 24)) := ⟨rfl, rfl, rfl, by decide +kernel, rfl, by decide +kernel, by decide +kernel⟩
set_option maxHeartbeats 4000000 in
theorem ok_halves (T : Tx K mg) : FG P w K mg base CX0 2 T.a_halves T.d_halves ["notes"] (sp_halves K) := by
  refine OB.Fun.fg T.F_halves sc_halves (fun vs H Q E h => h.1) (fun cdv A out s H vs Q E g h => ?_)
  obtain ⟨_, F, G0, p, rs, rfl, S0, h1, h2, hl, k⟩ := h
  refine ⟨_, (pss_cons (ps_set (i := 1) sc_halves.nd rfl (by first | exact Or.inl rfl | exact Or.inr rfl) (pe_op op_fdivW (pe_callB (toK (r := OB.rLen) (K := K) rfl c_len) (by rfl) T.n_len PySem.boot_len (pa_cons (pv 0) pa_nil)) (pe_glob (v := .int 2) (by rfl) T.g_PAIR ⟨_, rfl⟩)))
      (pss_one (ps_ret (pe_tup (pa_cons (pe_cg (ok_lots_of_notes T) (g.mono (by decide : 1 ≤ 1)) (by rfl) T.m_lots_of_notes T.F_lots_of_notes.kp (OB.Fun.bd T.F_lots_of_notes (ps := ["notes", "begin", "end"]) (n := 3) (ks := []) (ix := [0, 1, 2]) (fun _ _ _ _ _ _ us ws h1 h2 => match us, ws, h1, h2 with | [_, _, _], [], _, _ => rfl)) pass0 (pa_cons (pv 0) (pa_cons pe_int (pa_cons (pv 1) pa_nil))) pk_nil) (pa_cons (pe_cg (ok_lots_of_notes T) (g.mono (by decide : 1 ≤ 1)) (by rfl) T.m_lots_of_notes T.F_lots_of_notes.kp (OB.Fun.bd T.F_lots_of_notes (ps := ["notes", "begin", "end"]) (n := 3) (ks := []) (ix := [0, 1, 2]) (fun _ _ _ _ _ _ us ws h1 h2 => match us, ws, h1, h2 with | [_, _, _], [], _, _ => rfl)) pass0 (pa_cons (pv 0) (pa_cons (pv 1) (pa_cons (pe_callB (toK (r := OB.rLen) (K := K) rfl c_len) (by rfl) T.n_len PySem.boot_len (pa_cons (pv 0) pa_nil)) pa_nil))) pk_nil) pa_nil)))))), ?_⟩
  refine g_start (σ := [some _, none]) rfl ?_
  have S := (S0.add (.tt (NT rs)) h2).add (.tq p (NR rs)) h1
  clear S0 h1 h2
  have hn : (NR rs).length = rs.length := List.length_map ..
  repeat walk_at "ob"
  rw [show (((NR rs).length : Nat) : Int) / 2 = ((0 + rs.length / 2 : Nat) : Int) by rw [hn]; omega]
  refine use_lots (b := 0) S (S.tqs 0 rfl) (S.tts 1 rfl) (by omega) (by omega) (by omega) fun q1 v1 H1 S1 => ?_
  repeat walk_at "ob"
  rw [show (((NR rs).length : Nat) : Int) = (((0 + rs.length / 2) + (rs.length - rs.length / 2) : Nat) : Int) by rw [hn]; omega]
  refine use_lots S1 (S1.tqs 1 rfl) (S1.tts 2 rfl) (by omega) (by omega) (by omega) fun q2 v2 H2 S2 => ?_
  repeat walk_at "ob"
  refine g_newTq S2 (Nat.le_of_ble_eq_true rfl) fun t H3 _ S3 => ?_
  rw [Nat.zero_add] at S3
  exact k t q1 q2 v1 v2 H3 (S3.facts fun g hg => by
    rcases List.mem_cons.mp hg with rfl | hg
    · simp
    rcases List.mem_cons.mp hg with rfl | hg
    · simp
    rcases List.mem_cons.mp hg with rfl | hg
    · simp
    simp [hg])
/-! lots by their sums -/
abbrev KRow : Type := Int × Addr × List V
def kO (kr : List KRow) : HO := .dK (kr.map fun r => ((.inl r.1 : L2.Key), V.ref r.2.1))
def kL (kr : List KRow) : List (Addr × HO) := kr.map fun r => (r.2.1, HO.lst r.2.2)
def kF (l : List Lt) (kr : List KRow) : List Ft := kr.map fun r => .dat r.2.2 ((withS l r.1).map lotD)
theorem kr_some {n : Int} {v : V} : ∀ {kr : List KRow}, valV (kr.map fun r => ((.inl r.1 : L2.Key), V.ref r.2.1)) (.inl n) = some v → ∃ (j : Nat) (a : Addr) (ws : List V), kr[j]? = some (n, a, ws) ∧ v = .ref a
  | [], h => nomatch h
  | r :: kr, h => by
    by_cases c : r.1 = n
    · rw [List.map_cons, valV_pos (by rw [c])] at h
      obtain ⟨n2, a, ws⟩ := r
      cases c
      exact ⟨0, a, ws, rfl, (Option.some.inj h).symm⟩
    · rw [List.map_cons, valV_neg (fun e => c (Sum.inl.inj e))] at h
      obtain ⟨j, a, ws, h1, h2⟩ := kr_some h
      exact ⟨j + 1, a, ws, h1, h2⟩
theorem kr_none {n : Int} : ∀ {kr : List KRow}, valV (kr.map fun r => ((.inl r.1 : L2.Key), V.ref r.2.1)) (.inl n) = none → ∀ r ∈ kr, r.1 ≠ n
  | [], _, _, hr => nomatch hr
  | x :: kr, h, r, hr => by
    by_cases c : x.1 = n
    · rw [List.map_cons, valV_pos (by rw [c])] at h
      cases h
    · rw [List.map_cons, valV_neg (fun e => c (Sum.inl.inj e))] at h
      rcases List.mem_cons.mp hr with rfl | hr
      · exact c
      · exact kr_none h r hr
/-- the dict stands -/
def BS (K : Frag) (F : List (Addr × HO)) (G : List Ft) (l : List Lt) (d : Addr) (H : Hp) : Prop := ∃ kr : List KRow, Sy K ((d, kO kr) :: (kL kr ++ F)) (kF l kr ++ G) H ∧ (kr.map (·.1)).Nodup ∧ (∀ x, (∀ r ∈ kr, r.1 ≠ x) → withS l x = []) ∧ kr.length ≤ l.length
theorem withS_snoc (l : List Lt) (r : Lt) (x : Int) : withS (l ++ [r]) x = withS l x ++ if r.1 = x then [r.2] else [] := by
  unfold withS
  rw [List.filter_append, List.map_append]
  congr 1
  by_cases c : r.1 = x
  · rw [if_pos c]
    simp [c]
  · rw [if_neg c]
    simp [c]
theorem withS_len (l : List Lt) (x : Int) : (withS l x).length ≤ l.length := by
  unfold withS
  rw [List.length_map]
  exact List.length_filter_le _ _
theorem lots_imm (ls : List (List Nat)) : immAll (ls.map lotD) = true := immAll_of fun d hd => by
  obtain ⟨q, _, rfl⟩ := List.mem_map.mp hd
  exact lotD_imm q
theorem app_hit {F : List (Addr × HO)} {G : List Ft} {H : Hp} {Q : VK} {l : List Lt} {d a : Addr} {kr : List KRow} {j : Nat} {n : Int} {ws : List V} {y : V} {lot : List Nat} (S : Sy K ((d, kO kr) :: (kL kr ++ F)) (kF l kr ++ G) H)
    (nd : (kr.map (·.1)).Nodup) (hn : ∀ x, (∀ r ∈ kr, r.1 ≠ x) → withS l x = []) (hk : kr.length ≤ l.length) (hl : l.length < 100000) (hj : kr[j]? = some (n, a, ws)) (hy : L2.Dp K H y (lotD lot))
    (k : ∀ H', BS K F G (l ++ [(n, lot)]) d H' → Q .non H') : rAppend (.ref a) [y] H Q := by
  have S1 := S.fact (dps_one hy) (by show (imm (lotD lot) && true) = true; rw [lotD_imm]; rfl)
  have hjl := (List.getElem?_eq_some_iff.mp hj).1
  have hmem := List.mem_of_getElem? hj
  have hlen : ws.length < 100000 := by
    have := (S.ft (.dat ws ((withS l n).map lotD)) (List.mem_append_left _ (List.mem_map.mpr ⟨_, hmem, rfl⟩))).1
    have := dps_length this
    rw [List.length_map] at this
    have := withS_len l n
    omega
  have hF : ((d, kO kr) :: (kL kr ++ F))[j + 1]? = some (a, .lst ws) := by
    rw [List.getElem?_cons_succ, List.getElem?_append_left (by unfold kL; rw [List.length_map]; exact hjl)]
    unfold kL
    rw [List.getElem?_map, hj]
    rfl
  refine g_appS S1 hF hlen fun H' S2 => k H' ⟨kr.set j (n, a, ws ++ [y]), ?_, ?_, ?_, ?_⟩
  · have e1 : kO (kr.set j (n, a, ws ++ [y])) = kO kr := by
      unfold kO
      rw [List.map_set]
      congr 1
      refine List.ext_getElem? fun i => ?_
      rw [List.getElem?_set]
      split
      · rename_i e
        cases e
        rw [List.length_map, if_pos hjl, List.getElem?_map, hj]
        rfl
      · rfl
    have e2 : kL (kr.set j (n, a, ws ++ [y])) = (kL kr).set j (a, .lst (ws ++ [y])) := by
      unfold kL
      rw [List.map_set]
    rw [e1, e2]
    rw [List.set_cons_succ, List.set_append_left _ _ (by unfold kL; rw [List.length_map]; exact hjl)] at S2
    have hy2 := S2.dps 0 rfl
    refine ⟨S2.st, S2.nd, fun g hg => ?_⟩
    rcases List.mem_append.mp hg with hg | hg
    · obtain ⟨r, hr, rfl⟩ := List.mem_map.mp hg
      obtain ⟨i, hi⟩ := List.mem_iff_getElem?.mp hr
      rw [List.getElem?_set] at hi
      split at hi
      · cases hi
        have o := S2.ft (.dat ws ((withS l n).map lotD)) (List.mem_cons_of_mem _ (List.mem_append_left _ (List.mem_map.mpr ⟨_, hmem, rfl⟩)))
        refine ⟨?_, lots_imm _⟩
        show DpAll K H' (ws ++ [y]) ((withS (l ++ [(n, lot)]) n).map lotD)
        rw [withS_snoc, if_pos rfl, List.map_append]
        exact dps_append o.1 hy2
      · rename_i hne
        have hm := List.mem_of_getElem? hi
        have o := S2.ft (.dat r.2.2 ((withS l r.1).map lotD)) (List.mem_cons_of_mem _ (List.mem_append_left _ (List.mem_map.mpr ⟨_, hm, rfl⟩)))
        have hrn : n ≠ r.1 := fun e => hne (by
          have a1 : (kr.map (·.1))[j]? = some n := by rw [List.getElem?_map, hj]; rfl
          have a2 : (kr.map (·.1))[i]? = some n := by rw [List.getElem?_map, hi, e]; rfl
          have hi2 := (List.getElem?_eq_some_iff.mp a2).1
          exact (List.getElem?_inj (by rw [List.length_map]; exact hjl) nd).mp (a1.trans a2.symm))
        refine ⟨?_, lots_imm _⟩
        show DpAll K H' r.2.2 ((withS (l ++ [(n, lot)]) r.1).map lotD)
        rw [withS_snoc, if_neg hrn, List.append_nil]
        exact o.1
    · exact S2.ft g (List.mem_cons_of_mem _ (List.mem_append_right _ hg))
  · rw [List.map_set]
    have : (kr.map (·.1)).set j n = kr.map (·.1) := by
      refine List.ext_getElem? fun i => ?_
      rw [List.getElem?_set]
      split
      · rename_i e
        cases e
        rw [List.length_map, if_pos hjl, List.getElem?_map, hj]
        rfl
      · rfl
    show ((kr.map (·.1)).set j n).Nodup
    rw [this]
    exact nd
  · intro x hx
    have hxn : n ≠ x := hx (n, a, ws ++ [y]) (List.mem_iff_getElem?.mpr ⟨j, by rw [List.getElem?_set_self hjl]⟩)
    rw [withS_snoc, if_neg hxn, List.append_nil]
    refine hn x fun r hr => ?_
    obtain ⟨i, hi⟩ := List.mem_iff_getElem?.mp hr
    by_cases c : j = i
    · cases c
      rw [hj] at hi
      cases hi
      exact hxn
    · exact hx r (List.mem_iff_getElem?.mpr ⟨i, by rw [List.getElem?_set_ne c]; exact hi⟩)
  · rw [List.length_set, List.length_append]
    omega
theorem app_new {F : List (Addr × HO)} {G : List Ft} {H : Hp} {Q : VK} {l : List Lt} {d nl : Addr} {kr : List KRow} {n : Int} {y : V} {lot : List Nat} (S : Sy K ((nl, .lst []) :: (d, .dK ((kr.map fun r => ((.inl r.1 : L2.Key), V.ref r.2.1)) ++ [(.inl n, .ref nl)])) :: (kL kr ++ F)) (kF l kr ++ G) H)
    (nd : (kr.map (·.1)).Nodup) (hn : ∀ x, (∀ r ∈ kr, r.1 ≠ x) → withS l x = []) (hk : kr.length ≤ l.length) (hno : ∀ r ∈ kr, r.1 ≠ n) (hy : L2.Dp K H y (lotD lot))
    (k : ∀ H', BS K F G (l ++ [(n, lot)]) d H' → Q .non H') : rAppend (.ref nl) [y] H Q := by
  have S1 := S.fact (dps_one hy) (by show (imm (lotD lot) && true) = true; rw [lotD_imm]; rfl)
  refine g_appS S1 (f := 0) rfl (by decide) fun H' S2 => k H' ⟨kr ++ [(n, nl, [y])], ?_, ?_, ?_, ?_⟩
  · have e1 : kO (kr ++ [(n, nl, [y])]) = .dK ((kr.map fun r => ((.inl r.1 : L2.Key), V.ref r.2.1)) ++ [(.inl n, .ref nl)]) := by
      unfold kO
      rw [List.map_append]
      rfl
    have e2 : kL (kr ++ [(n, nl, [y])]) = kL kr ++ [(nl, .lst [y])] := by
      unfold kL
      rw [List.map_append]
      rfl
    rw [e1, e2]
    have hy2 := S2.dps 0 rfl
    have S3 : Sy K ((nl, .lst [y]) :: (d, .dK ((kr.map fun r => ((.inl r.1 : L2.Key), V.ref r.2.1)) ++ [(.inl n, .ref nl)])) :: (kL kr ++ F)) _ H' := S2
    have S4 := S3.perm (F' := (d, .dK ((kr.map fun r => ((.inl r.1 : L2.Key), V.ref r.2.1)) ++ [(.inl n, .ref nl)])) :: (kL kr ++ [(nl, .lst [y])] ++ F)) (by
      refine (List.Perm.cons _ ?_).trans (List.Perm.swap ..)
      rw [List.append_assoc]
      exact List.perm_middle)
    refine ⟨S4.st, S4.nd, fun g hg => ?_⟩
    rcases List.mem_append.mp hg with hg | hg
    · obtain ⟨r, hr, rfl⟩ := List.mem_map.mp hg
      rcases List.mem_append.mp hr with hr | hr
      · have o := S2.ft (.dat r.2.2 ((withS l r.1).map lotD)) (List.mem_cons_of_mem _ (List.mem_append_left _ (List.mem_map.mpr ⟨_, hr, rfl⟩)))
        refine ⟨?_, lots_imm _⟩
        show DpAll K H' r.2.2 ((withS (l ++ [(n, lot)]) r.1).map lotD)
        rw [withS_snoc, if_neg (fun e => hno r hr e.symm), List.append_nil]
        exact o.1
      · cases List.mem_singleton.mp hr
        refine ⟨?_, lots_imm _⟩
        show DpAll K H' [y] ((withS (l ++ [(n, lot)]) n).map lotD)
        rw [withS_snoc, if_pos rfl, hn n hno]
        exact hy2
    · exact S2.ft g (List.mem_cons_of_mem _ (List.mem_append_right _ hg))
  · rw [List.map_append]
    refine List.nodup_append.mpr ⟨nd, List.pairwise_singleton _ _, fun a ha b hb e => ?_⟩
    obtain ⟨r, hr, rfl⟩ := List.mem_map.mp ha
    exact hno r hr (e.trans (List.mem_singleton.mp hb))
  · intro x hx
    have hxn : n ≠ x := hx (n, nl, [y]) (List.mem_append_right _ (List.mem_singleton.mpr rfl))
    rw [withS_snoc, if_neg hxn, List.append_nil]
    exact hn x fun r hr => hx r (List.mem_append_left _ hr)
  · rw [List.length_append, List.length_append]
    exact Nat.succ_le_succ hk
theorem g_tydK {P : Prop} {H : Hp} {d : Addr} {kvs : List (L2.Key × V)} (h : H d = some (.dK kvs)) (k : P) : tyV K "dict" (.ref d) H ∧ P := ⟨.inr (.inr (.inl ⟨rfl, .inl ⟨_, h⟩⟩)), k⟩
theorem row_open2 {H : Hp} {x : V} {r : Lt} (h : L2.Dp K H x (rowD1 r)) : ∃ t q, x = .ref t ∧ SqT K H t [.int r.1, .ref q] ∧ L2.Dp K H (.ref q) (lotD r.2) := by
  obtain ⟨t, zs, rfl, ht, hz⟩ := dp_tuple h
  cases hz with
  | cons d1 hz =>
  cases hz with
  | cons d2 hz =>
  cases hz
  obtain rfl := dp_int d1
  obtain ⟨q, ys, rfl, hq, hy⟩ := dp_tuple d2
  exact ⟨t, q, rfl, ht, d2⟩
def sp_lots_by_sum (K : Frag) : Sp := fun vs H Q E => vs.length = 1 ∧ ∃ (F : List (Addr × HO)) (G : List Ft) (p : Addr) (ws : List V) (l : List Lt), vs = [.ref p] ∧ Sy K ((p, .lst ws) :: F) (.dat ws (rowsD l) :: G) H ∧ l.length ≤ 4096 ∧
  ∀ d H', BS K ((p, .lst ws) :: F) (.dat ws (rowsD l) :: G) l d H' → Q (.ref d) H'
abbrev names_lots_by_sum : List Str := ["rows", "found", "total", "lot"]
theorem sc_lots_by_sum : FnScope names_lots_by_sum ["rows"] (defScope (top 25)) := ⟨rfl, rfl, rfl, by decide +kernel, rfl, by decide +kernel, by decide +kernel⟩
set_option maxHeartbeats 4000000 in
theorem ok_lots_by_sum (T : Tx K mg) : FG P w K mg base CX0 1 T.a_lots_by_sum T.d_lots_by_sum ["rows"] (sp_lots_by_sum K) := by
  refine OB.Fun.fg T.F_lots_by_sum sc_lots_by_sum (fun vs H Q E h => h.1) (fun cdv A out s H vs Q E g h => ?_)
  obtain ⟨_, F, G0, p, ws, l, rfl, S, hl, k⟩ := h
  refine ⟨_, (pss_cons (ps_set (i := 1) sc_lots_by_sum.nd rfl (by first | exact Or.inl rfl | exact Or.inr rfl) pe_dnewK)
      (pss_cons (ps_for PassesOwn.never rfl (pi_seq (pv 0)) (pg_tupK (K := K) rfl (n := 2) rfl (pgs_cons (pg_name (i := 2) sc_lots_by_sum.nd rfl (by first | exact Or.inl rfl | exact Or.inr rfl)) (pgs_cons (pg_name (i := 3) sc_lots_by_sum.nd rfl (by first | exact Or.inl rfl | exact Or.inr rfl)) pgs_nil)))
      (pss_one (ps_expr (pe_bm PySem.F.plainAttrs_list PySem.F.slot_list_append PySem.F.type_list_append mt_append (pe_bm PySem.F.plainAttrs_dict PySem.F.slot_dict_setdefault PySem.F.type_dict_setdefault (mt_setdK g.hu1) (pv 1) (pa_cons (pv 2) (pa_cons (pe_lst pa_nil) pa_nil))) (pa_cons (pv 3) pa_nil)))))
      (pss_one (ps_ret (pv 1))))), ?_⟩
  refine g_start (σ := [some _, none, none, none]) rfl ?_
  repeat walk_at "ob"
  refine g_dnewK fun d hd => ?_
  have S1 : Sy K ((d, kO []) :: (kL [] ++ (p, .lst ws) :: F)) (kF [] [] ++ .dat ws (rowsD l) :: G0) _ := S.push hd
  have B0 : BS K ((p, .lst ws) :: F) (.dat ws (rowsD l) :: G0) (l.take 0) d _ := ⟨[], S1, .nil, fun _ _ => rfl, Nat.zero_le _⟩
  have hwl : ws.length = l.length := by
    have := dps_length (S.dps 0 rfl)
    rw [this]
    exact List.length_map ..
  repeat walk_at "ob"
  refine g_forS true (fun i σ' H' => ∃ v2 v3, σ' = [some (.ref p), some (.ref d), v2, v3] ∧ BS K ((p, .lst ws) :: F) (.dat ws (rowsD l) :: G0) (l.take i) d H') (fun Q' q => by walk_at "ob"; exact q) ⟨none, none, rfl, B0⟩ (fun i σ' H' ⟨v2, v3, e, kr, S2, _⟩ => SqL.of (S2.st (p, .lst ws) (by simp))) ?_ ?_
  · clear S S1 B0
    rintro i x σ' H2 hx ⟨v2, v3, rfl, kr, S2, nd, hn, hk⟩
    have hdat := (S2.ft (.dat ws (rowsD l)) (by simp)).1
    obtain ⟨r, hr, hdr⟩ := dps_map hdat hx
    obtain ⟨t, q, rfl, ht, hq⟩ := row_open2 hdr
    repeat walk_at "ob"
    refine g_tydK (S2.at 0 rfl) ?_
    have S3 := S2.fact (dps_one hq) (by show (imm (lotD r.2) && true) = true; rw [lotD_imm]; rfl)
    clear S2
    have et : l.take (i + 1) = l.take i ++ [(r.1, r.2)] := by
      rw [List.take_add_one, hr]
      rfl
    have hti : (l.take i).length ≤ 4096 := by rw [List.length_take]; omega
    rw [et]
    repeat walk_at "ob"
    rename_i nl H3 _ S4
    refine g_setdK S4 (i := 1) rfl (by rw [List.length_map]; omega) (fun v hv => ?_) (fun H4 hv S5 => ?_)
    · obtain ⟨j, a, ws2, hj, rfl⟩ := kr_some hv
      have hS := S4.less.drop
      refine g_tyl (SqL.of (S4.st (a, .lst ws2) ?_)) ?_
      · refine List.mem_cons_of_mem _ (List.mem_cons_of_mem _ (List.mem_append_left _ ?_))
        exact List.mem_map.mpr ⟨_, List.mem_of_getElem? hj, rfl⟩
      repeat walk_at "ob"
      refine app_hit hS nd hn hk (by omega) hj (S4.dp 0 rfl) fun H5 B => ?_
      repeat walk_at "ob"
      exact ⟨_, _, rfl, B⟩
    · refine g_tyl (SqL.of (S5.at 0 rfl)) ?_
      repeat walk_at "ob"
      refine app_new S5.drop nd hn hk (kr_none hv) (S5.dp 0 rfl) fun H5 B => ?_
      repeat walk_at "ob"
      exact ⟨_, _, rfl, B⟩
  · rintro σ' H2 ⟨v2, v3, rfl, B⟩
    rw [hwl, List.take_length] at B
    repeat walk_at "ob"
    exact k d H2 B
end
end LAW

set_option Elab.async false
set_option linter.all false
set_option maxRecDepth 100000
namespace LAW
open PySem PySem.Spec PyProof.Rows L2 PySem.W OB
local macro_rules | `(tactic| walk_at "obc") => `(tactic| first
  | exact Or.inl ⟨by omega, by omega⟩
  | exact Or.inr ⟨by omega, by omega⟩
  | exact cdiv_ok (by omega) (by omega)
  | (show (0 : Int) < _; omega)
  | exact ⟨by omega, by decide⟩
  | exact ⟨by decide, by decide⟩)
local macro_rules | `(tactic| walk_at "obat") => `(tactic| first
  | exact Sy.at (by assumption) 0 rfl | exact Sy.at (by assumption) 1 rfl | exact Sy.at (by assumption) 2 rfl | exact Sy.at (by assumption) 3 rfl
  | exact Sy.at (by assumption) 4 rfl | exact Sy.at (by assumption) 5 rfl | exact Sy.at (by assumption) 6 rfl | exact Sy.at (by assumption) _ (by assumption) | exact Sy.at (by assumption) (_ + 1) (by assumption) | exact Sy.at (by assumption) (_ + 2) (by assumption))
local macro_rules | `(tactic| walk_at "obt") => `(tactic| first
  | exact Sy.tqs (by assumption) 0 rfl | exact Sy.tqs (by assumption) 1 rfl | exact Sy.tqs (by assumption) 2 rfl | exact Sy.tqs (by assumption) 3 rfl | exact Sy.tqs (by assumption) 4 rfl | exact Sy.tqs (by assumption) 5 rfl
  | exact Sy.tqs (by assumption) 6 rfl | exact Sy.tqs (by assumption) 7 rfl | assumption)
local macro_rules | `(tactic| walk_at "obl") => `(tactic| first
  | exact SqL.of (by walk_at "obat")
  | exact Sy.sq (by assumption) 0 rfl | exact Sy.sq (by assumption) 1 rfl | exact Sy.sq (by assumption) 2 rfl | exact Sy.sq (by assumption) 3 rfl | exact Sy.sq (by assumption) _ (by assumption))
local macro_rules | `(tactic| walk_at "obd") => `(tactic| first
  | exact Dp.int _ | exact Dp.bl _ | exact Dp.str _ | exact Dp.non
  | exact Sy.dp (by assumption) 0 rfl | exact Sy.dp (by assumption) 1 rfl | exact Sy.dp (by assumption) 2 rfl | exact Sy.dp (by assumption) 3 rfl
  | exact Sy.dp (by assumption) 4 rfl | exact Sy.dp (by assumption) 5 rfl | exact Sy.dp (by assumption) 6 rfl | exact Sy.dp (by assumption) 7 rfl
  | exact Sy.dp (by assumption) 8 rfl | exact Sy.dp (by assumption) 9 rfl | exact Sy.dp (by assumption) _ (by assumption) | assumption)
local macro_rules | `(tactic| walk_at "obds") => `(tactic| first
  | exact DpAll.nil
  | (refine' DpAll.cons ?ob1 ?ob2; (case ob1 => walk_at "obd"); (case ob2 => walk_at "obds"))
  | exact Sy.dps (by assumption) 0 rfl | exact Sy.dps (by assumption) 1 rfl | exact Sy.dps (by assumption) 2 rfl | exact Sy.dps (by assumption) 3 rfl | assumption)
local macro_rules | `(tactic| walk_at "obsc") => `(tactic| first
  | exact ScL.nil
  | ((first | refine' ScL.int ?obz | refine' ScL.str ?obz | refine' ScL.bl ?obz | refine' ScL.non ?obz); (case obz => walk_at "obsc")))
local macro_rules | `(tactic| walk_at "ob1") => `(tactic| first
  | ((with_reducible refine' g_var ?obh ?_); (case obh => rfl))
  | with_reducible refine g_c ?_
  | with_reducible refine g_nx ?_
  | with_reducible refine g_rt ?_
  | with_reducible refine g_bk ?_
  | with_reducible refine g_ct ?_
  | with_reducible refine g_op ?_
  | with_reducible refine g_I0 ?_
  | with_reducible refine g_test ?_
  | with_reducible refine g_bl ?_
  | with_reducible refine g_blx ?_
  | with_reducible refine g_B ?_
  | with_reducible refine g_seq ?_
  | with_reducible refine g_asg ?_
  | with_reducible refine g_name ?_
  | with_reducible refine g_ifS ?_
  | with_reducible refine g_ret ?_
  | with_reducible refine g_cb ?_
  | with_reducible refine g_cons ?_
  | with_reducible refine g_nil ?_
  | with_reducible refine g_int ?_
  | with_reducible refine g_intB ?_
  | with_reducible refine g_abs ?_
  | with_reducible refine g_max ?_
  | with_reducible refine g_min ?_
  | with_reducible refine g_un ?_
  | with_reducible refine g_U ?_
  | with_reducible refine g_eqI ?_
  | with_reducible refine g_neI ?_
  | with_reducible refine g_eqS ?_
  | with_reducible refine g_neS ?_
  | with_reducible refine g_tt ?_
  | with_reducible refine g_ff ?_
  | with_reducible refine g_next ?_
  | with_reducible refine g_drop ?_
  | with_reducible refine g_if ?_
  | with_reducible refine g_andV ?_
  | with_reducible refine g_orV ?_
  | with_reducible refine g_notV ?_
  | with_reducible refine g_and ?_
  | with_reducible refine g_or ?_
  | with_reducible refine g_not ?_
  | with_reducible refine g_yes ?_
  | with_reducible refine g_chain ?_
  | with_reducible refine g_cg ?_
  | with_reducible refine g_mg ?_
  | with_reducible refine g_kg ?_
  | with_reducible refine g_pg ?_
  | ((with_reducible refine' g_call ?obh ?obj ?_); (case obh => rfl); (case obj => rfl))
  | with_reducible refine g_par ?_
  | with_reducible refine g_par2 ?_
  | with_reducible refine g_par3 ?_
  | with_reducible refine g_par33 ?_
  | with_reducible refine g_gnil ?_
  | with_reducible refine g_gcons ?_
  | with_reducible refine g_gsub ?_
  | with_reducible refine g_ipI ?_
  | with_reducible refine g_rAdd ?_
  | with_reducible refine g_rSub ?_
  | ((with_reducible refine' g_aug ?obh ?_); (case obh => rfl))
  | with_reducible refine g_tup ?_
  | with_reducible refine g_lst ?_
  | with_reducible refine g_bm ?_
  | with_reducible refine g_bm0 ?_
  | with_reducible refine g_sl ?_
  | with_reducible refine g_nopart ?_
  | with_reducible refine g_part ?_
  | with_reducible refine g_pint ?_
  | with_reducible refine isi_int ?_
  | with_reducible refine isi_intB ?_
  | ((with_reducible refine' g_I ?obh ?_); (case obh => walk_at "obc"))
  | ((with_reducible refine' g_tyl ?obh ?_); (case obh => walk_at "obl"))
  | ((with_reducible refine' g_lenL ?obh ?_); (case obh => walk_at "obl"))
  | with_reducible refine g_ne ?_
  | ((with_reducible refine' g_neN' ?obh ?_); (case obh => rfl))
  | with_reducible refine g_ntt ?_
  | with_reducible refine g_nff ?_
  | with_reducible refine g_star ?_
  | with_reducible refine g_att ?_
  | with_reducible refine g_sfld ?_
  | with_reducible refine g_faug ?_
  | with_reducible refine g_fld ?_
  | ((with_reducible refine' g_nF ?obh ?_); (case obh => omega))
  | ((with_reducible refine' g_nT ?obh ?_); (case obh => omega))
  | ((with_reducible refine' g_TD ?obh ?_); (case obh => omega))
  | ((with_reducible refine' g_FD ?obh ?_); (case obh => omega))
  | ((with_reducible refine' g_ixUL ?obh ?obi ?_); (case obh => walk_at "obl"); (case obi => exact atI_nn (by omega) (by rfl)))
  | ((with_reducible refine' g_setLS ?obs ?obh ?obi ?_); (case obs => assumption); (case obh => assumption); (case obi => rfl); intro _ _ _)
  | ((with_reducible refine' g_newT ?obs ?obh ?obi ?obj ?_); (case obs => assumption); (case obh => walk_at "obds"); (case obi => rfl); (case obj => exact Nat.le_of_ble_eq_true rfl); intro _ _ _ _)
  | ((with_reducible refine' g_newL ?obs ?obj ?_); (case obs => assumption); (case obj => exact Nat.le_of_ble_eq_true rfl); intro _ _ _ _)
  | ((with_reducible refine' isi_tup ?obh ?_); (case obh => walk_at "obt"))
  | ((with_reducible refine' g_lenT ?obh ?_); (case obh => walk_at "obt"))
  | ((with_reducible refine' g_unpT ?obh ?obi ?_); (case obh => walk_at "obt"); (case obi => rfl))
  | ((with_reducible refine' g_divmod ?obs ?obh ?_); (case obs => assumption); (case obh => exact cdivp_ok (by omega) (by omega) (by omega)); intro _ _ _ _)
  | ((with_reducible refine' g_unpD ?obh ?obi ?obj ?_); (case obh => walk_at "obd"); (case obi => walk_at "obsc"); (case obj => rfl))
  | with_reducible refine g_att ?_)
local macro_rules | `(tactic| walk_at "ob") => `(tactic| first
  | walk_at "ob1"
  | refine use_is_integer ?_
  | refine use_is_within ?_
  | with_reducible refine g_lstRg ?_
  | with_reducible refine g_rg1 ?_
  | with_reducible refine g_rg2 ?_
  | with_reducible refine g_tTru ?_
  | ((with_reducible refine' g_truL ?obh ?_); (case obh => walk_at "obl"))
  | ((with_reducible refine' g_ixUT ?obh ?obi ?_); (case obh => walk_at "obt"); (case obi => rfl))
  | with_reducible refine g_forZ ?_
  | with_reducible refine g_forR2 ?_
  | with_reducible refine g_forE ?_
  | with_reducible refine g_lcZ ?_)
section
variable {w : World} {K : Frag} {mg : Str → Option Value} {base : Heap}
abbrev P : Program := PySem.Challenge.pw_oncebooked_k36_lots_with_a_sum
/-! sorted lots -/
theorem lots_alike (ls : List (List Nat)) : AllAlike (ls.map lotD) := AllAlike.of fun a b => by
  show alikeAll (a.map fun i : Nat => PyData.int (i : Int)) (b.map fun i : Nat => PyData.int (i : Int)) = true
  have := PySem.W.alike_ints (a.map fun i : Nat => (i : Int)) (b.map fun i : Nat => (i : Int))
  rw [List.map_map, List.map_map] at this
  exact this
theorem lots_sortable {ls : List (List Nat)} (h : (∀ l ∈ ls, l ≠ []) ∨ ∃ r, ls = [] :: r) : PySem.W.Sortable (ls.map lotD) ∨ Sortable0 (ls.map lotD) := by
  rcases h with h | ⟨r, rfl⟩
  · refine .inl (.inl fun d hd => ?_)
    obtain ⟨l, hl, rfl⟩ := List.mem_map.mp hd
    cases l with
    | nil => exact absurd rfl (h _ hl)
    | cons a l => exact ⟨_, _, rfl⟩
  · refine .inr ⟨r.map lotD, rfl, fun d hd => ?_⟩
    obtain ⟨l, hl, rfl⟩ := List.mem_map.mp hd
    exact ⟨_, rfl⟩
theorem lotD_depth (l : List Nat) : (lotD l).depth ≤ 50 := by
  have : ∀ l : List Nat, PyData.depthAll (l.map fun i : Nat => PyData.int (i : Int)) = 0 := fun l => by
    induction l with
    | nil => rfl
    | cons i l ih =>
      show max 0 (PyData.depthAll _) = 0
      rw [ih]
      rfl
  show PyData.depthAll (l.map fun i : Nat => PyData.int (i : Int)) + 1 ≤ 50
  rw [this]
  decide
theorem lots_sorted (ls : List (List Nat)) : (ls.map lotD).mergeSort (dataLe false id) = (ls.mergeSort leL).map lotD := by
  have := sort_maps (r := leL) (s := dataLe false (id : PyData → PyData)) lotD (l := ls) (fun a _ b _ => rfl)
  exact this.symm
theorem withS_first (notes : List N) (b n : Nat) (x : Int) : (∀ l ∈ withS (lotG notes b n) x, l ≠ []) ∨ ∃ r, withS (lotG notes b n) x = [] :: r := by
  obtain ⟨rest, e, h⟩ := lotG_head notes b n
  rw [e]
  unfold withS
  by_cases c : (0 : Int) = x
  · rw [List.filter_cons_of_pos (by simp [c])]
    exact .inr ⟨_, rfl⟩
  · rw [List.filter_cons_of_neg (by simp [c])]
    refine .inl fun l hl => ?_
    obtain ⟨r, hr, rfl⟩ := List.mem_map.mp hl
    exact h r (List.mem_filter.mp hr).1
theorem lotsF_first (notes : List N) (m k : Nat) (x : Int) : (∀ l ∈ lotsF (lotG notes 0 m) (lotG notes m k) x, l ≠ []) ∨ ∃ r, lotsF (lotG notes 0 m) (lotG notes m k) x = [] :: r := by
  obtain ⟨rest, e, h⟩ := lotG_head notes 0 m
  rw [e]
  unfold lotsF
  rw [List.flatMap_cons]
  have e0 : (withS (lotG notes m k) (x - 0)).map (([] : List Nat) ++ ·) = withS (lotG notes m k) x := by
    rw [Int.sub_zero]
    simp
  rw [show ((0 : Int), ([] : List Nat)).1 = 0 from rfl, show ((0 : Int), ([] : List Nat)).2 = [] from rfl, e0]
  rcases withS_first notes m k x with h1 | ⟨r, h1⟩
  · refine .inl fun l hl => ?_
    rcases List.mem_append.mp hl with hl | hl
    · exact h1 l hl
    · obtain ⟨a, ha, hl⟩ := List.mem_flatMap.mp hl
      obtain ⟨z, _, rfl⟩ := List.mem_map.mp hl
      have := h a ha
      intro e
      exact this (List.append_eq_nil_iff.mp e).1
  · rw [h1]
    exact .inr ⟨_, rfl⟩
theorem lotsF_count (behind : List Lt) (x : Int) : ∀ ahead : List Lt, ((ahead.map fun r => (((withS behind (x - r.1)).length : Nat) : Int)).sum) = ((lotsF ahead behind x).length : Int)
  | [] => rfl
  | a :: l => by
    rw [List.map_cons, List.sum_cons, lotsF_count behind x l]
    show _ = ((((withS behind (x - a.1)).map (a.2 ++ ·)) ++ lotsF l behind x).length : Int)
    rw [List.length_append, List.length_map]
    omega
theorem lotsF_snoc (behind : List Lt) (x : Int) (l : List Lt) (r : Lt) : lotsF (l ++ [r]) behind x = lotsF l behind x ++ (withS behind (x - r.1)).map (r.2 ++ ·) := by
  unfold lotsF
  rw [List.flatMap_append]
  simp
theorem lotsF_take (behind : List Lt) (x : Int) (l : List Lt) (i : Nat) : (lotsF (l.take i) behind x).length ≤ (lotsF l behind x).length := by
  conv => rhs; rw [← List.take_append_drop i l]
  unfold lotsF
  rw [List.flatMap_append, List.length_append]
  omega
/-- what a get of the dict tells -/
theorem bs_get {F : List (Addr × HO)} {G : List Ft} {H : Hp} {l : List Lt} {kr : List KRow} {d nl : Addr} (x : Int) (S : Sy K ((nl, .lst []) :: (d, kO kr) :: (kL kr ++ F)) (kF l kr ++ G) H) (hn : ∀ x, (∀ r ∈ kr, r.1 ≠ x) → withS l x = []) :
    ∃ a ws, (valV (kr.map fun r => ((.inl r.1 : L2.Key), V.ref r.2.1)) (.inl x)).getD (.ref nl) = .ref a ∧ (a, HO.lst ws) ∈ (nl, HO.lst []) :: (d, kO kr) :: (kL kr ++ F) ∧ DpAll K H ws ((withS l x).map lotD) := by
  cases e : valV (kr.map fun r => ((.inl r.1 : L2.Key), V.ref r.2.1)) (.inl x) with
  | none =>
    refine ⟨nl, [], rfl, List.mem_cons_self .., ?_⟩
    rw [hn x (kr_none e)]
    exact .nil
  | some v =>
    obtain ⟨j, a, ws, hj, rfl⟩ := kr_some e
    have hm := List.mem_of_getElem? hj
    refine ⟨a, ws, rfl, ?_, ?_⟩
    · exact List.mem_cons_of_mem _ (List.mem_cons_of_mem _ (List.mem_append_left _ (List.mem_map.mpr ⟨_, hm, rfl⟩)))
    · exact (S.ft (.dat ws ((withS l x).map lotD)) (List.mem_append_left _ (List.mem_map.mpr ⟨_, hm, rfl⟩))).1
theorem use_check_lots {F : List (Addr × HO)} {G : List Ft} {H : Hp} {Q : VK} {E : XK} {p : Addr} {rs : NS} {x m : Int} (S : Sy K F G H) (h1 : SqT K H p (NR rs)) (h2 : ∀ q ∈ NT rs, H q.1 = some (.tup q.2)) (ng : NG rs) (hl : rs.length ≤ 200) (hm : (rs.length : Int) ≤ m)
    (k : ∀ H', Sy K F G H' → Q .non H') : sp_check_lots K [.ref p, .int x, .int m] H Q E := ⟨rfl, F, G, p, rs, x, m, rfl, S, h1, h2, ng, hl, hm, k⟩
theorem use_halves {F : List (Addr × HO)} {G : List Ft} {H : Hp} {Q : VK} {E : XK} {p : Addr} {rs : NS} (S : Sy K F G H) (h1 : SqT K H p (NR rs)) (h2 : ∀ q ∈ NT rs, H q.1 = some (.tup q.2)) (hl : rs.length ≤ 24)
    (k : ∀ t q1 q2 v1 v2 H', Sy K ((q2, .lst v2) :: (q1, .lst v1) :: F) (.tq t [.ref q1, .ref q2] :: .dat v2 (rowsD (lotG (rs.map (·.2)) (rs.length / 2) (rs.length - rs.length / 2))) :: .dat v1 (rowsD (lotG (rs.map (·.2)) 0 (rs.length / 2))) :: G) H' → Q (.ref t) H') : sp_halves K [.ref p] H Q E := ⟨rfl, F, G, p, rs, rfl, S, h1, h2, hl, k⟩
theorem use_by_sum {F : List (Addr × HO)} {G : List Ft} {H : Hp} {Q : VK} {E : XK} {p : Addr} {ws : List V} {l : List Lt} (S : Sy K ((p, .lst ws) :: F) (.dat ws (rowsD l) :: G) H) (hl : l.length ≤ 4096) (k : ∀ d H', BS K ((p, .lst ws) :: F) (.dat ws (rowsD l) :: G) l d H' → Q (.ref d) H') : sp_lots_by_sum K [.ref p] H Q E := ⟨rfl, F, G, p, ws, l, rfl, S, hl, k⟩
def sp_lots_with (K : Frag) (C : Addr) : Sp := fun vs H Q E => vs.length = 2 ∧ ∃ (F : List (Addr × HO)) (G : List Ft) (p : Addr) (rs : NS) (x : Int), vs = [.ref p, .int x] ∧ Sy K F G H ∧ SqT K H p (NR rs) ∧ (∀ q ∈ NT rs, H q.1 = some (.tup q.2)) ∧ NG rs ∧ rs.length ≤ 20 ∧
  (1000 < (lotsW (rs.map (·.2)) x).length → ∀ d H', Sy K F G H' → H' d = some (.xd [("value", .int 1000)]) → E (.ref C) (some d) H') ∧
  ((lotsW (rs.map (·.2)) x).length ≤ 1000 → ∀ t H', Sy K F (.dat [.ref t] [.tuple ((lotsW (rs.map (·.2)) x).map lotD)] :: G) H' → Q (.ref t) H')
abbrev names_lots_with : List Str := ["notes", "amount", "ahead", "behind", "known", "total", "lot", "found", "rest"]
theorem sc_lots_with : FnScope names_lots_with ["notes", "amount"] (defScope (top 26)) := ⟨rfl, rfl, rfl, by decide +kernel, rfl, by decide +kernel, by decide +kernel⟩
set_option maxHeartbeats 4000000 in
theorem ok_lots_with (T : Tx K mg) : FG P w K mg base (L2.CX P w) 7 T.a_lots_with T.d_lots_with ["notes", "amount"] (sp_lots_with K T.a_TooMany) := by
  refine OB.Fun.fgX T.F_lots_with sc_lots_with (fun vs H Q E h => h.1) (fun cdv A out s H vs Q E g h => ?_)
  obtain ⟨_, F, G0, p, rs, x, rfl, S0, h1, h2, ng, hl, kE, kQ⟩ := h
  refine ⟨_, (pss_cons (ps_noxL (ps_expr (pe_cg (ok_check_lots T) (g.mono (by decide : 6 ≤ 6)) (by rfl) T.m_check_lots T.F_check_lots.kp (OB.Fun.bd T.F_check_lots (ps := ["notes", "amount", "most"]) (n := 3) (ks := []) (ix := [0, 1, 2]) (fun _ _ _ _ _ _ us ws h1 h2 => match us, ws, h1, h2 with | [_, _, _], [], _, _ => rfl)) pass0 (pa_cons (pv 0) (pa_cons (pv 1) (pa_cons (pe_glob (v := .int 20) (by rfl) T.g_MOST_ALL_LOTS ⟨_, rfl⟩) pa_nil))) pk_nil)))
      (pss_cons (ps_noxL (ps_asg (pe_cg (ok_halves T) (g.mono (by decide : 2 ≤ 6)) (by rfl) T.m_halves T.F_halves.kp (OB.Fun.bd T.F_halves (ps := ["notes"]) (n := 1) (ks := []) (ix := [0]) (fun _ _ _ _ _ _ us ws h1 h2 => match us, ws, h1, h2 with | [_], [], _, _ => rfl)) pass0 (pa_cons (pv 0) pa_nil) pk_nil) (pg_tupK (K := K) rfl (n := 2) rfl (pgs_cons (pg_name (i := 2) sc_lots_with.nd rfl (by first | exact Or.inl rfl | exact Or.inr rfl)) (pgs_cons (pg_name (i := 3) sc_lots_with.nd rfl (by first | exact Or.inl rfl | exact Or.inr rfl)) pgs_nil)))))
      (pss_cons (ps_noxL (ps_set (i := 4) sc_lots_with.nd rfl (by first | exact Or.inl rfl | exact Or.inr rfl) (pe_cg (ok_lots_by_sum T) (g.mono (by decide : 1 ≤ 6)) (by rfl) T.m_lots_by_sum T.F_lots_by_sum.kp (OB.Fun.bd T.F_lots_by_sum (ps := ["rows"]) (n := 1) (ks := []) (ix := [0]) (fun _ _ _ _ _ _ us ws h1 h2 => match us, ws, h1, h2 with | [_], [], _, _ => rfl)) pass0 (pa_cons (pv 3) pa_nil) pk_nil)))
      (pss_cons (ps_if (PT.nox (pt_cmpR op_gt (pe_callB (toK (r := rSum) (K := K) rfl (cr_sum rfl)) (by rfl) T.n_sum (by decide +kernel) (pa_cons (pe_lc (own := [("total", 5), ("lot", 6)]) (tt := tYes) rfl sc_lots_with.nd (pi_seq (pv 2)) (blkOk_by (N := names_lots_with) (sc := defScope (top 26)) (own := [("total", 5), ("lot", 6)]) (by decide +kernel)) (fun _ _ _ _ _ => (pg_tupK (K := K) rfl (n := 2) rfl (pgs_cons (pg_name (i := 5) sc_lots_with.nd rfl (by first | exact Or.inl rfl | exact Or.inr rfl)) (pgs_cons (pg_name (i := 6) sc_lots_with.nd rfl (by first | exact Or.inl rfl | exact Or.inr rfl)) pgs_nil)))) (fun _ _ _ _ _ => pts_nil) (fun _ _ _ _ _ => (pe_callB (toK (r := OB.rLen) (K := K) rfl c_len) (by rfl) T.n_len PySem.boot_len (pa_cons (pe_bmK (K := K) rfl PySem.F.plainAttrs_dict PySem.F.slot_dict_get PySem.F.type_dict_get (mt_getK g.hu1) (pv 4) (pa_cons (pe_op op_sub (pv 1) (pv 5)) (pa_cons (pe_lst pa_nil) pa_nil))) pa_nil)))) pa_nil)) (pe_glob (v := .int 1000) (by rfl) T.g_MOST_LOTS ⟨_, rfl⟩) (nomark _))) (pss_cons (ps_rz rfl (takes_of rfl rfl rfl rfl) T.e_TooMany.er.ox T.e_TooMany.ini T.ti_ei (T.ei _ _ CX0 1) (g.mono (by decide : 2 ≤ 6)).rm T.b_ei pass0 (by rfl) T.m_TooMany (pa_cons (pe_glob (v := .int 1000) (by rfl) T.g_MOST_LOTS ⟨_, rfl⟩) pa_nil))
      pss_nil) pss_nil)
      (PSs.nox (pss_cons (ps_set (i := 7) sc_lots_with.nd rfl (by first | exact Or.inl rfl | exact Or.inr rfl) (pe_lst pa_nil))
      (pss_cons (ps_for PassesOwn.never rfl (pi_seq (pv 2)) (pg_tupK (K := K) rfl (n := 2) rfl (pgs_cons (pg_name (i := 5) sc_lots_with.nd rfl (by first | exact Or.inl rfl | exact Or.inr rfl)) (pgs_cons (pg_name (i := 6) sc_lots_with.nd rfl (by first | exact Or.inl rfl | exact Or.inr rfl)) pgs_nil)))
      (pss_one (ps_expr (pe_bm PySem.F.plainAttrs_list PySem.F.slot_list_extend PySem.F.type_list_extend mt_extend (pv 7) (pa_cons (pe_lc (own := [("rest", 8)]) (tt := tYes) rfl sc_lots_with.nd (pi_seq (pe_bm PySem.F.plainAttrs_dict PySem.F.slot_dict_get PySem.F.type_dict_get (mt_getK g.hu1) (pv 4) (pa_cons (pe_op op_sub (pv 1) (pv 5)) (pa_cons (pe_lst pa_nil) pa_nil)))) (blkOk_by (N := names_lots_with) (sc := defScope (top 26)) (own := [("rest", 8)]) (by decide +kernel)) (fun _ _ _ _ _ => (pg_name (i := 8) sc_lots_with.nd rfl (by first | exact Or.inl rfl | exact Or.inr rfl))) (fun _ _ _ _ _ => pts_nil) (fun _ _ _ _ _ => (pe_tup (pa_starK (K := K) rfl (pv 6) (pa_starK (K := K) rfl (pv 8) pa_nil))))) pa_nil)))))
      (pss_one (ps_ret (pe_callTy (toK (r := rTuple) (K := K) rfl c_tuple) (by rfl) T.n_tuple (by decide +kernel) (pa_cons (pe_callB (toK (r := rSortE) (K := K) rfl (c_sortE g.hu64)) (by rfl) T.n_sorted (by decide +kernel) (pa_cons (pv 7) pa_nil)) pa_nil))))))))))), ?_⟩
  refine g_start (σ := [some _, some _, none, none, none, none, none, none, none]) rfl ?_
  have S := (S0.add (.tt (NT rs)) h2).add (.tq p (NR rs)) h1
  clear S0 h1 h2
  repeat walk_at "ob"
  refine use_check_lots S (S.tqs 0 rfl) (S.tts 1 rfl) ng (by omega) (by omega) fun H1 S1 => ?_
  clear S
  repeat walk_at "ob"
  refine use_halves S1 (S1.tqs 0 rfl) (S1.tts 1 rfl) (by omega) fun t q1 q2 v1 v2 H2 S2 => ?_
  clear S1
  repeat walk_at "ob"
  refine use_by_sum S2.drop (by rw [lotG_len]; exact Nat.le_trans (Nat.pow_le_pow_right (by decide) (show _ ≤ 12 by omega)) (by decide)) fun d H3 B => ?_
  clear S2
  obtain ⟨kr, S3, nd, hn, hk⟩ := B
  have hWF : (lotsF (lotG (rs.map (·.2)) 0 (rs.length / 2)) (lotG (rs.map (·.2)) (rs.length / 2) (rs.length - rs.length / 2)) x).mergeSort leL = lotsW (rs.map (·.2)) x := by
    have := lotsF_sort (rs.map (·.2)) (rs.length / 2) (by rw [List.length_map]; omega) x
    rw [List.length_map] at this
    exact this
  have hWl : (lotsF (lotG (rs.map (·.2)) 0 (rs.length / 2)) (lotG (rs.map (·.2)) (rs.length / 2) (rs.length - rs.length / 2)) x).length = (lotsW (rs.map (·.2)) x).length := by
    rw [← hWF, List.length_mergeSort]
  have hfirst := lotsF_first (rs.map (·.2)) (rs.length / 2) (rs.length - rs.length / 2) x
  have h1l : (lotG (rs.map (·.2)) 0 (rs.length / 2)).length ≤ 4096 := by rw [lotG_len]; exact Nat.le_trans (Nat.pow_le_pow_right (by decide) (show _ ≤ 12 by omega)) (by decide)
  have h1r : ∀ r ∈ lotG (rs.map (·.2)) 0 (rs.length / 2), r.2.length ≤ 24 := fun r hr => by have := lotG_rl hr; omega
  have h2r : ∀ r ∈ lotG (rs.map (·.2)) (rs.length / 2) (rs.length - rs.length / 2), r.2.length ≤ 24 := fun r hr => by have := lotG_rl hr; omega
  generalize lotG (rs.map (·.2)) 0 (rs.length / 2) = LA at *
  generalize lotG (rs.map (·.2)) (rs.length / 2) (rs.length - rs.length / 2) = LB at *
  repeat walk_at "ob"
  refine g_lcS (a := q1) (xs := v1) true (fun j F' ds => F' = (d, kO kr) :: (kL kr ++ (q2, .lst v2) :: (q1, .lst v1) :: F) ∧ ds = (LA.take j).map fun r => PyData.int (((withS LB (x - r.1)).length : Nat) : Int)) S3 (fun Q' q => by walk_at "ob"; exact q) ⟨rfl, rfl⟩ (fun j F' ds H' hi S => SqL.of ((hi.1 ▸ S).st (q1, .lst v1) (by simp))) (fun j F' ds hi => by
    rw [hi.2, List.length_map, List.length_take]; omega) ?_ ?_
  · intro j y hy Dp H4 F' ws ds QE QR hj S4 kE' kR'
    obtain ⟨rfl, rfl⟩ := hj
    obtain ⟨r, hr, hdr⟩ := dps_map (S4.ft (.dat v1 (rowsD LA)) (by simp)).1 hy
    obtain ⟨t2, q, rfl, ht, hq⟩ := row_open hdr
    repeat walk_at "ob"
    refine ⟨rfl, ?_⟩
    repeat walk_at "ob"
    refine g_tydK (S4.at 1 rfl) ?_
    repeat walk_at "ob"
    rename_i nl H5 _ S5
    refine g_getK (Rd.of (S5.at 2 rfl)) ?_
    obtain ⟨a, ws2, ea, ha, hda⟩ := bs_get (x - r.1) S5.swap.less.drop hn
    rw [ea]
    repeat walk_at "ob"
    refine g_lenL (SqL.of (S5.swap.less.st _ ha)) ?_
    rw [dps_length hda, List.length_map]
    refine kE' _ (.int _) _ _ ⟨rfl, ?_⟩ (S5.less.fact (dps_one (L2.Dp.int _)) rfl)
    rw [List.take_add_one, hr, List.map_append]
    rfl
  intro Dp H4 F' ws ds hD hj S4
  obtain ⟨rfl, rfl⟩ := hj
  have hv1 : v1.length = LA.length := by
    rw [dps_length (S3.ft (.dat v1 (rowsD LA)) (by simp)).1]
    exact List.length_map ..
  have hw : ws = ((LA.map fun r => (((withS LB (x - r.1)).length : Nat) : Int)).map V.int) := by
    rw [dps_scal (S4.dps 0 rfl) (fun d hd => by
      obtain ⟨s, _, rfl⟩ := List.mem_map.mp hd
      rfl), hv1, List.take_length, List.map_map, List.map_map]
    rfl
  subst hw
  repeat walk_at "ob"
  refine g_sum (SqL.of (S4.at 0 rfl)) ?_
  rw [lotsF_count]
  have S5 := S4.less.drop
  clear S4 S3
  have subF : F.Sublist ((d, kO kr) :: (kL kr ++ (q2, .lst v2) :: (q1, .lst v1) :: F)) := (((List.sublist_cons_self ..).trans (List.sublist_cons_self ..)).trans (List.sublist_append_right (kL kr) _)).cons _
  have subG : ∀ g ∈ G0, g ∈ kF LB kr ++ Ft.dat v2 (rowsD LB) :: Ft.dat v1 (rowsD LA) :: Ft.tq p (NR rs) :: Ft.tt (NT rs) :: G0 := fun g hg => by simp [hg]
  repeat walk_at "ob"
  refine g_iteD (fun hb => ?_) (fun hb => ?_)
  · repeat walk_at "ob"
    refine g_rz ?_
    repeat walk_at "ob"
    refine g_rzE T.e_TooMany fun d2 hd2 => kE (by omega) d2 _ ((S5.to subF subG).over hd2) upd_same
  repeat walk_at "ob"
  rename_i fo H5 _ S6
  clear S5
  refine g_forS true (fun i σ' H' => ∃ fv v5 v6, σ' = [some (.ref p), some (.int x), some (.ref q1), some (.ref q2), some (.ref d), v5, v6, some (.ref fo), none] ∧ Sy K ((fo, .lst fv) :: (d, kO kr) :: (kL kr ++ (q2, .lst v2) :: (q1, .lst v1) :: F)) (.dat fv ((lotsF (LA.take i) LB x).map lotD) :: (kF LB kr ++ .dat v2 (rowsD LB) :: .dat v1 (rowsD LA) :: .tq p (NR rs) :: .tt (NT rs) :: G0)) H') (fun Q' q => by walk_at "ob"; exact q) ⟨[], none, none, rfl, S6.fact .nil rfl⟩ (fun i σ' H' ⟨fv, v5, v6, e, S7⟩ => SqL.of (S7.st (q1, .lst v1) (by simp))) ?_ ?_
  · clear S6
    rintro i y σ' H6 hy ⟨fv, v5, v6, rfl, S7⟩
    obtain ⟨r, hr, hdr⟩ := dps_map (S7.ft (.dat v1 (rowsD LA)) (by simp)).1 hy
    obtain ⟨t2, q, rfl, ht, hq⟩ := row_open hdr
    have S8 := S7.add (.tq q (nI r.2)) hq
    have hrl := h1r r (List.mem_of_getElem? hr)
    clear S7
    repeat walk_at "ob"
    refine g_lcE2 ?_
    repeat walk_at "ob"
    refine g_tydK (S8.at 1 rfl) ?_
    repeat walk_at "ob"
    rename_i nl H7 _ S9
    refine g_getK (Rd.of (S9.at 2 rfl)) ?_
    obtain ⟨a, ws2, ea, ha, hda⟩ := bs_get (x - r.1) S9.swap.less.drop.drop hn
    rw [ea]
    have ha2 : (a, HO.lst ws2) ∈ (nl, HO.lst []) :: (fo, HO.lst fv) :: (d, kO kr) :: (kL kr ++ (q2, HO.lst v2) :: (q1, HO.lst v1) :: F) := by
      rcases List.mem_cons.mp ha with e | e
      · rw [e]
        exact List.mem_cons_self ..
      · exact List.mem_cons_of_mem _ (List.mem_cons_of_mem _ e)
    have S10 := S9.fact hda (lots_imm _)
    have hcap : ((withS LB (x - r.1)).length) + fv.length ≤ 1000 := by
      have e1 := lotsF_take LB x LA (i + 1)
      rw [List.take_add_one, hr, show (some r).toList = [r] from rfl, lotsF_snoc, List.length_append, List.length_map] at e1
      have e2 := dps_length (S9.dps 1 rfl)
      rw [List.length_map] at e2
      omega
    clear S8 S9
    refine g_lcS (a := a) (xs := ws2) true (fun j F' ds => F' = (nl, HO.lst []) :: (fo, HO.lst fv) :: (d, kO kr) :: (kL kr ++ (q2, HO.lst v2) :: (q1, HO.lst v1) :: F) ∧ ds = ((withS LB (x - r.1)).take j).map fun z => lotD (r.2 ++ z)) S10 (fun Q' q => by walk_at "ob"; exact q) ⟨rfl, rfl⟩ (fun j F' ds H' hi S => SqL.of ((hi.1 ▸ S).st (a, .lst ws2) ha2)) (fun j F' ds hi => by
      rw [hi.2, List.length_map, List.length_take]; omega) ?_ ?_
    · intro j y hy Dp H8 F' ws ds QE QR hj S11 kE' kR'
      obtain ⟨rfl, rfl⟩ := hj
      obtain ⟨z, hz, hdz⟩ := dps_map (S11.dps 1 rfl) hy
      obtain ⟨q3, ys, rfl, hq3, hy3⟩ := dp_tuple hdz
      have := dps_lotV hy3
      subst this
      have hzl : z.length ≤ 24 := by
        have hm := List.mem_of_getElem? hz
        unfold withS at hm
        obtain ⟨r2, hr2, rfl⟩ := List.mem_map.mp hm
        exact h2r r2 (List.mem_filter.mp hr2).1
      repeat walk_at "ob"
      refine ⟨rfl, ?_⟩
      repeat walk_at "ob"
      refine g_stT (S11.tqs 2 rfl) ?_
      repeat walk_at "ob"
      refine g_stT hq3 ?_
      repeat walk_at "ob"
      have eI : nI r.2 ++ (nI z ++ []) = nI (r.2 ++ z) := by
        unfold nI
        rw [List.append_nil, List.map_append]
      rw [eI]
      refine g_newT (ds := (r.2 ++ z).map fun i : Nat => PyData.int (i : Int)) S11 (dp_nI _) (lotD_imm _) (by unfold nI; rw [List.length_map, List.length_append]; omega) fun q4 H9 _ S12 => ?_
      refine kE' _ (lotD (r.2 ++ z)) _ H9 ⟨rfl, ?_⟩ S12
      rw [List.take_add_one, hz, List.map_append]
      rfl
    · intro Dp H8 F' ws ds hD hj S11
      obtain ⟨rfl, rfl⟩ := hj
      have hl2 : ws2.length = (withS LB (x - r.1)).length := by
        rw [dps_length (S11.dps 1 rfl), List.length_map]
      have hl3 := dps_length (S11.dps 0 rfl)
      rw [List.length_map, List.length_take, hl2] at hl3
      repeat walk_at "ob"
      refine g_extS S11 (f := 2) rfl (S11.at 0 rfl) (by omega) fun H9 S12 => ?_
      repeat walk_at "ob"
      refine ⟨fv ++ ws, _, _, rfl, ?_⟩
      have e : (lotsF (LA.take (i + 1)) LB x).map lotD = (lotsF (LA.take i) LB x).map lotD ++ ((withS LB (x - r.1)).take ws2.length).map fun z => lotD (r.2 ++ z) := by
        rw [List.take_add_one, hr, show (some r).toList = [r] from rfl, lotsF_snoc, List.map_append, hl2, List.take_length, List.map_map]
        rfl
      rw [e]
      refine (S12.fact (dps_append (S12.dps 3 rfl) (S12.dps 0 rfl)) (by rw [immAll_append, S12.dpi 3 rfl, S12.dpi 0 rfl]; rfl)).to (((List.Sublist.refl _).cons _).cons _) fun g hg => ?_
      rcases List.mem_cons.mp hg with rfl | hg
      · exact List.mem_cons_self ..
      · exact List.mem_cons_of_mem _ (List.mem_cons_of_mem _ (List.mem_cons_of_mem _ (List.mem_cons_of_mem _ (List.mem_cons_of_mem _ hg))))
  · rintro σ' H6 ⟨fv, v5, v6, rfl, S7⟩
    rw [hv1, List.take_length] at S7
    repeat walk_at "ob"
    have hfl := dps_length (S7.dps 0 rfl)
    rw [List.length_map] at hfl
    refine g_sortE S7 (SqL.of (S7.at 0 rfl)) (S7.dps 0 rfl) (S7.dpi 0 rfl) (lots_alike _) (lots_sortable hfirst) (fun d hd => ?_) (by rw [List.length_map]; omega) fun t2 H7 ys S8 => ?_
    · obtain ⟨z, _, rfl⟩ := List.mem_map.mp hd
      exact lotD_depth z
    rw [lots_sorted, hWF] at S8
    repeat walk_at "ob"
    refine g_tup0 S8 (SqL.of (S8.at 0 rfl)) (S8.dps 0 rfl) (S8.dpi 0 rfl) fun t3 H8 _ S9 => ?_
    refine kQ (by omega) t3 H8 (S9.to ((subF.cons _).cons _) fun g hg => ?_)
    rcases List.mem_cons.mp hg with rfl | hg
    · exact List.mem_cons_self ..
    · exact List.mem_cons_of_mem _ (List.mem_cons_of_mem _ (List.mem_cons_of_mem _ (subG g hg)))
end
end LAW

set_option Elab.async false
set_option linter.all false
set_option maxRecDepth 100000
namespace LAW
open PySem PySem.Spec PyProof.Rows L2 PySem.W OB
local macro_rules | `(tactic| walk_at "obc") => `(tactic| first
  | exact Or.inl ⟨by omega, by omega⟩
  | exact Or.inr ⟨by omega, by omega⟩
  | exact cdiv_ok (by omega) (by omega)
  | (show (0 : Int) < _; omega)
  | exact ⟨by omega, by decide⟩
  | exact ⟨by decide, by decide⟩)
local macro_rules | `(tactic| walk_at "obat") => `(tactic| first
  | exact Sy.at (by assumption) 0 rfl | exact Sy.at (by assumption) 1 rfl | exact Sy.at (by assumption) 2 rfl | exact Sy.at (by assumption) 3 rfl
  | exact Sy.at (by assumption) 4 rfl | exact Sy.at (by assumption) 5 rfl | exact Sy.at (by assumption) 6 rfl | exact Sy.at (by assumption) _ (by assumption) | exact Sy.at (by assumption) (_ + 1) (by assumption) | exact Sy.at (by assumption) (_ + 2) (by assumption))
local macro_rules | `(tactic| walk_at "obt") => `(tactic| first
  | exact Sy.tqs (by assumption) 0 rfl | exact Sy.tqs (by assumption) 1 rfl | exact Sy.tqs (by assumption) 2 rfl | exact Sy.tqs (by assumption) 3 rfl | exact Sy.tqs (by assumption) 4 rfl | exact Sy.tqs (by assumption) 5 rfl
  | exact Sy.tqs (by assumption) 6 rfl | exact Sy.tqs (by assumption) 7 rfl | assumption)
local macro_rules | `(tactic| walk_at "obl") => `(tactic| first
  | exact SqL.of (by walk_at "obat")
  | exact Sy.sq (by assumption) 0 rfl | exact Sy.sq (by assumption) 1 rfl | exact Sy.sq (by assumption) 2 rfl | exact Sy.sq (by assumption) 3 rfl | exact Sy.sq (by assumption) _ (by assumption))
local macro_rules | `(tactic| walk_at "obd") => `(tactic| first
  | exact Dp.int _ | exact Dp.bl _ | exact Dp.str _ | exact Dp.non
  | exact Sy.dp (by assumption) 0 rfl | exact Sy.dp (by assumption) 1 rfl | exact Sy.dp (by assumption) 2 rfl | exact Sy.dp (by assumption) 3 rfl
  | exact Sy.dp (by assumption) 4 rfl | exact Sy.dp (by assumption) 5 rfl | exact Sy.dp (by assumption) 6 rfl | exact Sy.dp (by assumption) 7 rfl
  | exact Sy.dp (by assumption) 8 rfl | exact Sy.dp (by assumption) 9 rfl | exact Sy.dp (by assumption) _ (by assumption) | assumption)
local macro_rules | `(tactic| walk_at "obds") => `(tactic| first
  | exact DpAll.nil
  | (refine' DpAll.cons ?ob1 ?ob2; (case ob1 => walk_at "obd"); (case ob2 => walk_at "obds"))
  | exact Sy.dps (by assumption) 0 rfl | exact Sy.dps (by assumption) 1 rfl | exact Sy.dps (by assumption) 2 rfl | exact Sy.dps (by assumption) 3 rfl | assumption)
local macro_rules | `(tactic| walk_at "obsc") => `(tactic| first
  | exact ScL.nil
  | ((first | refine' ScL.int ?obz | refine' ScL.str ?obz | refine' ScL.bl ?obz | refine' ScL.non ?obz); (case obz => walk_at "obsc")))
local macro_rules | `(tactic| walk_at "ob1") => `(tactic| first
  | ((with_reducible refine' g_var ?obh ?_); (case obh => rfl))
  | with_reducible refine g_c ?_
  | with_reducible refine g_nx ?_
  | with_reducible refine g_rt ?_
  | with_reducible refine g_bk ?_
  | with_reducible refine g_ct ?_
  | with_reducible refine g_op ?_
  | with_reducible refine g_I0 ?_
  | with_reducible refine g_test ?_
  | with_reducible refine g_bl ?_
  | with_reducible refine g_blx ?_
  | with_reducible refine g_B ?_
  | with_reducible refine g_seq ?_
  | with_reducible refine g_asg ?_
  | with_reducible refine g_name ?_
  | with_reducible refine g_ifS ?_
  | with_reducible refine g_ret ?_
  | with_reducible refine g_cb ?_
  | with_reducible refine g_cons ?_
  | with_reducible refine g_nil ?_
  | with_reducible refine g_int ?_
  | with_reducible refine g_intB ?_
  | with_reducible refine g_abs ?_
  | with_reducible refine g_max ?_
  | with_reducible refine g_min ?_
  | with_reducible refine g_un ?_
  | with_reducible refine g_U ?_
  | with_reducible refine g_eqI ?_
  | with_reducible refine g_neI ?_
  | with_reducible refine g_eqS ?_
  | with_reducible refine g_neS ?_
  | with_reducible refine g_tt ?_
  | with_reducible refine g_ff ?_
  | with_reducible refine g_next ?_
  | with_reducible refine g_drop ?_
  | with_reducible refine g_if ?_
  | with_reducible refine g_andV ?_
  | with_reducible refine g_orV ?_
  | with_reducible refine g_notV ?_
  | with_reducible refine g_and ?_
  | with_reducible refine g_or ?_
  | with_reducible refine g_not ?_
  | with_reducible refine g_yes ?_
  | with_reducible refine g_chain ?_
  | with_reducible refine g_cg ?_
  | with_reducible refine g_mg ?_
  | with_reducible refine g_kg ?_
  | with_reducible refine g_pg ?_
  | ((with_reducible refine' g_call ?obh ?obj ?_); (case obh => rfl); (case obj => rfl))
  | with_reducible refine g_par ?_
  | with_reducible refine g_par2 ?_
  | with_reducible refine g_par3 ?_
  | with_reducible refine g_par33 ?_
  | with_reducible refine g_gnil ?_
  | with_reducible refine g_gcons ?_
  | with_reducible refine g_gsub ?_
  | with_reducible refine g_ipI ?_
  | with_reducible refine g_rAdd ?_
  | with_reducible refine g_rSub ?_
  | ((with_reducible refine' g_aug ?obh ?_); (case obh => rfl))
  | with_reducible refine g_tup ?_
  | with_reducible refine g_lst ?_
  | with_reducible refine g_bm ?_
  | with_reducible refine g_bm0 ?_
  | with_reducible refine g_sl ?_
  | with_reducible refine g_nopart ?_
  | with_reducible refine g_part ?_
  | with_reducible refine g_pint ?_
  | with_reducible refine isi_int ?_
  | with_reducible refine isi_intB ?_
  | ((with_reducible refine' g_I ?obh ?_); (case obh => walk_at "obc"))
  | ((with_reducible refine' g_tyl ?obh ?_); (case obh => walk_at "obl"))
  | ((with_reducible refine' g_lenL ?obh ?_); (case obh => walk_at "obl"))
  | with_reducible refine g_ne ?_
  | ((with_reducible refine' g_neN' ?obh ?_); (case obh => rfl))
  | with_reducible refine g_ntt ?_
  | with_reducible refine g_nff ?_
  | with_reducible refine g_star ?_
  | with_reducible refine g_att ?_
  | with_reducible refine g_sfld ?_
  | with_reducible refine g_faug ?_
  | with_reducible refine g_fld ?_
  | ((with_reducible refine' g_nF ?obh ?_); (case obh => omega))
  | ((with_reducible refine' g_nT ?obh ?_); (case obh => omega))
  | ((with_reducible refine' g_TD ?obh ?_); (case obh => omega))
  | ((with_reducible refine' g_FD ?obh ?_); (case obh => omega))
  | ((with_reducible refine' g_ixUL ?obh ?obi ?_); (case obh => walk_at "obl"); (case obi => exact atI_nn (by omega) (by rfl)))
  | ((with_reducible refine' g_setLS ?obs ?obh ?obi ?_); (case obs => assumption); (case obh => assumption); (case obi => rfl); intro _ _ _)
  | ((with_reducible refine' g_newT ?obs ?obh ?obi ?obj ?_); (case obs => assumption); (case obh => walk_at "obds"); (case obi => rfl); (case obj => exact Nat.le_of_ble_eq_true rfl); intro _ _ _ _)
  | ((with_reducible refine' g_newL ?obs ?obj ?_); (case obs => assumption); (case obj => exact Nat.le_of_ble_eq_true rfl); intro _ _ _ _)
  | ((with_reducible refine' isi_tup ?obh ?_); (case obh => walk_at "obt"))
  | ((with_reducible refine' g_lenT ?obh ?_); (case obh => walk_at "obt"))
  | ((with_reducible refine' g_unpT ?obh ?obi ?_); (case obh => walk_at "obt"); (case obi => rfl))
  | ((with_reducible refine' g_divmod ?obs ?obh ?_); (case obs => assumption); (case obh => exact cdivp_ok (by omega) (by omega) (by omega)); intro _ _ _ _)
  | ((with_reducible refine' g_unpD ?obh ?obi ?obj ?_); (case obh => walk_at "obd"); (case obi => walk_at "obsc"); (case obj => rfl))
  | with_reducible refine g_att ?_)
local macro_rules | `(tactic| walk_at "ob") => `(tactic| first
  | walk_at "ob1"
  | refine use_is_integer ?_
  | refine use_is_within ?_
  | with_reducible refine g_lstRg ?_
  | with_reducible refine g_rg1 ?_
  | with_reducible refine g_rg2 ?_
  | with_reducible refine g_tTru ?_
  | ((with_reducible refine' g_truL ?obh ?_); (case obh => walk_at "obl"))
  | ((with_reducible refine' g_ixUT ?obh ?obi ?_); (case obh => walk_at "obt"); (case obi => rfl))
  | with_reducible refine g_forZ ?_
  | with_reducible refine g_forR2 ?_
  | with_reducible refine g_forE ?_
  | with_reducible refine g_lcZ ?_)
section
variable {w : World} {K : Frag} {mg : Str → Option Value} {base : Heap}
/-- which of the first two may stand -/
def someL (a : List Nat) (ys : List (List Nat)) : List (List Nat) := (ys.take 2).filter fun z => decide (a ≠ [] ∨ z ≠ [])
theorem withS_two (notes : List N) (b n : Nat) (x : Int) : ∃ e r, withS (lotG notes b n) x = e ++ r ∧ (e = [] ∨ e = [[]]) ∧ ∀ l ∈ r, l ≠ [] := by
  obtain ⟨rest, e, h⟩ := lotG_head notes b n
  have hr : ∀ l ∈ withS rest x, l ≠ [] := fun l hl => by
    obtain ⟨r, hr, rfl⟩ := List.mem_map.mp hl
    exact h r (List.mem_filter.mp hr).1
  rw [e]
  by_cases c : (0 : Int) = x
  · refine ⟨[[]], withS rest x, ?_, .inr rfl, hr⟩
    unfold withS
    rw [List.filter_cons_of_pos (by simp [c])]
    rfl
  · refine ⟨[], withS rest x, ?_, .inl rfl, hr⟩
    unfold withS
    rw [List.filter_cons_of_neg (by simp [c])]
    rfl
theorem someL_nil {notes : List N} {b n : Nat} {x : Int} {a : List Nat} (h : someL a (withS (lotG notes b n) x) = []) : ∀ z ∈ withS (lotG notes b n) x, a ++ z = [] := by
  obtain ⟨e, r, ew, he, hr⟩ := withS_two notes b n x
  rw [ew] at h ⊢
  unfold someL at h
  rw [List.filter_eq_nil_iff] at h
  have h1 : ∀ z ∈ (e ++ r).take 2, a = [] ∧ z = [] := fun z hz => by
    have := h z hz
    simp only [decide_eq_true_eq, not_or, ne_eq, Classical.not_not] at this
    exact this
  have hrn : r = [] := by
    cases r with
    | nil => rfl
    | cons y r =>
      have hy := hr y (List.mem_cons_self ..)
      rcases he with rfl | rfl
      · exact absurd (h1 y (by simp)).2 hy
      · exact absurd (h1 y (by simp)).2 hy
  subst hrn
  intro z hz
  rw [List.append_nil] at hz h1
  rcases he with rfl | rfl
  · cases hz
  · obtain ⟨h2, h3⟩ := h1 z (by simpa using hz)
    rw [h2, h3]
    rfl
theorem lotD_shaped {l : List Nat} : SeqAt.shaped (lotD l) = true := by
  have h1 : ∀ l : List Nat, PyData.canLayAll0 (l.map fun i : Nat => PyData.int (i : Int)) = true := fun l => by
    induction l with
    | nil => rfl
    | cons i l ih =>
      show (true && PyData.canLayAll0 _) = true
      rw [ih]
      rfl
  show (PyData.canLayAll0 (l.map fun i : Nat => PyData.int (i : Int)) && decide ((lotD l).depth ≤ 64)) = true
  rw [h1, Bool.true_and]
  exact decide_eq_true (Nat.le_trans (lotD_depth l) (by decide))
theorem lotD_eqv0 (l : List Nat) : (!PyData.eqv (lotD l) (.tuple [])) = decide (l ≠ []) := by
  cases l with
  | nil => rfl
  | cons i l => rfl
theorem row_open3 {H : Hp} {x : V} {r : Lt} (h : L2.Dp K H x (rowD1 r)) : ∃ t q, x = .ref t ∧ SqT K H t [.int r.1, .ref q] ∧ SqT K H q (nI r.2) ∧ L2.Dp K H (.ref q) (lotD r.2) := by
  obtain ⟨t, zs, rfl, ht, hz⟩ := dp_tuple h
  cases hz with
  | cons d1 hz =>
  cases hz with
  | cons d2 hz =>
  cases hz
  obtain rfl := dp_int d1
  obtain ⟨q, ys, rfl, hq, hy⟩ := dp_tuple d2
  have := dps_lotV hy
  subst this
  exact ⟨t, q, rfl, ht, hq, d2⟩
theorem cutV_two (xs : List V) : cutV xs none (some 2) = xs.take 2 := by
  unfold cutV
  rw [HT.sIx_none, show (2 : Int) = ((2 : Nat) : Int) from rfl, HT.sIx_nat, List.drop_zero, Nat.sub_zero]
  rcases Nat.le_total 2 xs.length with h | h
  · rw [Nat.min_eq_left h]
  · rw [Nat.min_eq_right h, List.take_length, List.take_of_length_le h]
theorem g_slL2 {F : List (Addr × HO)} {G : List Ft} {H : Hp} {Q : VK} {vs : List V} {l : Addr} {lo hi : Option Int} (S : Sy K F G H) (h : SqL K H l vs) (k : ∀ p H', Sy K ((p, .lst (cutV vs lo hi)) :: F) G H' → Q (.ref p) H') : rSlU K (.ref l) lo hi H Q :=
  .inr ⟨l, vs, rfl, h, fun p hp => k p _ (S.push hp)⟩
theorem dps_take {H : Hp} : ∀ {n : Nat} {vs : List V} {ds : List PyData}, DpAll K H vs ds → DpAll K H (vs.take n) (ds.take n)
  | 0, _, _, _ => .nil
  | _ + 1, _, _, .nil => .nil
  | _ + 1, _, _, .cons h t => .cons h (dps_take t)
def sp_a_lot (K : Frag) : Sp := fun vs H Q E => vs.length = 2 ∧ ∃ (F : List (Addr × HO)) (G : List Ft) (p : Addr) (rs : NS) (x : Int), vs = [.ref p, .int x] ∧ Sy K F G H ∧ SqT K H p (NR rs) ∧ (∀ q ∈ NT rs, H q.1 = some (.tup q.2)) ∧ NG rs ∧ rs.length ≤ 24 ∧
  ((∀ l ∈ withS (lotG (rs.map (·.2)) 0 rs.length) x, l = []) → ∀ H', Sy K F G H' → Q .non H') ∧
  (∀ l, l ∈ withS (lotG (rs.map (·.2)) 0 rs.length) x → l ≠ [] → ∀ t H', Sy K F (.dat [.ref t] [lotD l] :: G) H' → Q (.ref t) H')
abbrev names_a_lot : List Str := ["notes", "amount", "ahead", "behind", "known", "total", "lot", "some", "rest"]
theorem sc_a_lot : FnScope names_a_lot ["notes", "amount"] (defScope (top 27)) := ⟨rfl, rfl, rfl, by decide +kernel, rfl, by decide +kernel, by decide +kernel⟩
set_option maxHeartbeats 4000000 in
theorem ok_a_lot (T : Tx K mg) : FG P w K mg base CX0 7 T.a_a_lot T.d_a_lot ["notes", "amount"] (sp_a_lot K) := by
  refine OB.Fun.fg T.F_a_lot sc_a_lot (fun vs H Q E h => h.1) (fun cdv A out s H vs Q E g h => ?_)
  obtain ⟨_, F, G0, p, rs, x, rfl, S0, h1, h2, ng, hl, kN, kQ⟩ := h
  refine ⟨_, (pss_cons (ps_expr (pe_cg (ok_check_lots T) (g.mono (by decide : 6 ≤ 6)) (by rfl) T.m_check_lots T.F_check_lots.kp (OB.Fun.bd T.F_check_lots (ps := ["notes", "amount", "most"]) (n := 3) (ks := []) (ix := [0, 1, 2]) (fun _ _ _ _ _ _ us ws h1 h2 => match us, ws, h1, h2 with | [_, _, _], [], _, _ => rfl)) pass0 (pa_cons (pv 0) (pa_cons (pv 1) (pa_cons (pe_glob (v := .int 24) (by rfl) T.g_MOST_ONE_LOT ⟨_, rfl⟩) pa_nil))) pk_nil))
      (pss_cons (ps_asg (pe_cg (ok_halves T) (g.mono (by decide : 2 ≤ 6)) (by rfl) T.m_halves T.F_halves.kp (OB.Fun.bd T.F_halves (ps := ["notes"]) (n := 1) (ks := []) (ix := [0]) (fun _ _ _ _ _ _ us ws h1 h2 => match us, ws, h1, h2 with | [_], [], _, _ => rfl)) pass0 (pa_cons (pv 0) pa_nil) pk_nil) (pg_tupK (K := K) rfl (n := 2) rfl (pgs_cons (pg_name (i := 2) sc_a_lot.nd rfl (by first | exact Or.inl rfl | exact Or.inr rfl)) (pgs_cons (pg_name (i := 3) sc_a_lot.nd rfl (by first | exact Or.inl rfl | exact Or.inr rfl)) pgs_nil))))
      (pss_cons (ps_set (i := 4) sc_a_lot.nd rfl (by first | exact Or.inl rfl | exact Or.inr rfl) (pe_cg (ok_lots_by_sum T) (g.mono (by decide : 1 ≤ 6)) (by rfl) T.m_lots_by_sum T.F_lots_by_sum.kp (OB.Fun.bd T.F_lots_by_sum (ps := ["rows"]) (n := 1) (ks := []) (ix := [0]) (fun _ _ _ _ _ _ us ws h1 h2 => match us, ws, h1, h2 with | [_], [], _, _ => rfl)) pass0 (pa_cons (pv 3) pa_nil) pk_nil))
      (pss_cons (ps_for PassesOwn.never rfl (pi_seq (pv 2)) (pg_tupK (K := K) rfl (n := 2) rfl (pgs_cons (pg_name (i := 5) sc_a_lot.nd rfl (by first | exact Or.inl rfl | exact Or.inr rfl)) (pgs_cons (pg_name (i := 6) sc_a_lot.nd rfl (by first | exact Or.inl rfl | exact Or.inr rfl)) pgs_nil)))
      (pss_cons (ps_setLc (i := 7) (own := [("rest", 8)]) rfl sc_a_lot.nd rfl rfl (sw_true rfl rfl rfl (by decide +kernel)) (pi_seq (pe_slice (sl_UK (K := K) rfl) (pe_bm PySem.F.plainAttrs_dict PySem.F.slot_dict_get PySem.F.type_dict_get (mt_getK g.hu1) (pv 4) (pa_cons (pe_op op_sub (pv 1) (pv 5)) (pa_cons (pe_lst pa_nil) pa_nil))) po_none (po_some (pe_glob (v := .int 2) (by rfl) T.g_PAIR ⟨_, rfl⟩)))) (blkOk_by (N := names_a_lot) (sc := defScope (top 27)) (own := [("rest", 8)]) (by decide +kernel)) (fun _ _ _ _ _ => (pg_name (i := 8) sc_a_lot.nd rfl (by first | exact Or.inl rfl | exact Or.inr rfl))) (fun _ _ _ _ _ => pts_one (PW.pt (pw_or (pt_cmpR (op_neDK (K := K) rfl g.hu64) (pv 6) (pe_tup pa_nil) (nomark _)) (pw_or1 (pt_cmpR (op_neDK (K := K) rfl g.hu64) (pv 8) (pe_tup pa_nil) (nomark _)))))) (fun _ _ _ _ _ => (pv 8)))
      (pss_one (ps_if (pt_tru (K := K) rfl (pv 7) (fun _ => rfl)) (pss_one (ps_ret (pe_tup (StX.pa_star (pv 6) (StX.pa_star (pe_ix (ix_UK (K := K) rfl) (pv 7) pe_int (fun _ _ => rfl)) pa_nil))))) pss_nil))))
      (pss_one (ps_ret pe_non)))))), ?_⟩
  refine g_start (σ := [some _, some _, none, none, none, none, none, none, none]) rfl ?_
  have S := (S0.add (.tt (NT rs)) h2).add (.tq p (NR rs)) h1
  clear S0 h1 h2
  repeat walk_at "ob"
  refine use_check_lots S (S.tqs 0 rfl) (S.tts 1 rfl) ng (by omega) (by omega) fun H1 S1 => ?_
  clear S
  repeat walk_at "ob"
  refine use_halves S1 (S1.tqs 0 rfl) (S1.tts 1 rfl) (by omega) fun t q1 q2 v1 v2 H2 S2 => ?_
  clear S1
  repeat walk_at "ob"
  refine use_by_sum S2.drop (by rw [lotG_len]; exact Nat.le_trans (Nat.pow_le_pow_right (by decide) (show _ ≤ 12 by omega)) (by decide)) fun d H3 B => ?_
  clear S2
  obtain ⟨kr, S3, nd, hn, hk⟩ := B
  have hmem : ∀ l, l ∈ withS (lotG (rs.map (·.2)) 0 rs.length) x ↔ l ∈ lotsF (lotG (rs.map (·.2)) 0 (rs.length / 2)) (lotG (rs.map (·.2)) (rs.length / 2) (rs.length - rs.length / 2)) x := fun l => by
    have := lotsF_perm (rs.map (·.2)) (rs.length / 2) (rs.length - rs.length / 2) x
    rw [show rs.length / 2 + (rs.length - rs.length / 2) = rs.length by omega] at this
    exact this.mem_iff.symm
  have hsome := fun (y : Int) (a : List Nat) => someL_nil (notes := rs.map (·.2)) (b := rs.length / 2) (n := rs.length - rs.length / 2) (x := y) (a := a)
  have h1l : (lotG (rs.map (·.2)) 0 (rs.length / 2)).length ≤ 4096 := by rw [lotG_len]; exact Nat.le_trans (Nat.pow_le_pow_right (by decide) (show _ ≤ 12 by omega)) (by decide)
  have h2l : (lotG (rs.map (·.2)) (rs.length / 2) (rs.length - rs.length / 2)).length ≤ 4096 := by rw [lotG_len]; exact Nat.le_trans (Nat.pow_le_pow_right (by decide) (show _ ≤ 12 by omega)) (by decide)
  have h1r : ∀ r ∈ lotG (rs.map (·.2)) 0 (rs.length / 2), r.2.length ≤ 24 := fun r hr => by have := lotG_rl hr; omega
  have h2r : ∀ r ∈ lotG (rs.map (·.2)) (rs.length / 2) (rs.length - rs.length / 2), r.2.length ≤ 24 := fun r hr => by have := lotG_rl hr; omega
  generalize lotG (rs.map (·.2)) 0 (rs.length / 2) = LA at *
  generalize lotG (rs.map (·.2)) (rs.length / 2) (rs.length - rs.length / 2) = LB at *
  have hv1 : v1.length = LA.length := by
    rw [dps_length (S3.ft (.dat v1 (rowsD LA)) (by simp)).1]
    exact List.length_map ..
  have subF : F.Sublist ((d, kO kr) :: (kL kr ++ (q2, .lst v2) :: (q1, .lst v1) :: F)) := (((List.sublist_cons_self ..).trans (List.sublist_cons_self ..)).trans (List.sublist_append_right (kL kr) _)).cons _
  have subG : ∀ g ∈ G0, g ∈ kF LB kr ++ Ft.dat v2 (rowsD LB) :: Ft.dat v1 (rowsD LA) :: Ft.tq p (NR rs) :: Ft.tt (NT rs) :: G0 := fun g hg => by simp [hg]
  repeat walk_at "ob"
  refine g_forS true (fun i σ' H' => ∃ v5 v6 v7, σ' = [some (.ref p), some (.int x), some (.ref q1), some (.ref q2), some (.ref d), v5, v6, v7, none] ∧ (∀ l ∈ lotsF (LA.take i) LB x, l = []) ∧ Sy K ((d, kO kr) :: (kL kr ++ (q2, .lst v2) :: (q1, .lst v1) :: F)) (kF LB kr ++ .dat v2 (rowsD LB) :: .dat v1 (rowsD LA) :: .tq p (NR rs) :: .tt (NT rs) :: G0) H') (fun Q' q => by walk_at "ob"; exact q) ⟨none, none, none, rfl, fun _ h => (nomatch h), S3⟩ (fun i σ' H' ⟨v5, v6, v7, e, _, S7⟩ => SqL.of (S7.st (q1, .lst v1) (by simp))) ?_ ?_
  · clear S3
    rintro i y σ' H6 hy ⟨v5, v6, v7, rfl, hnone, S7⟩
    obtain ⟨r, hr, hdr⟩ := dps_map (S7.ft (.dat v1 (rowsD LA)) (by simp)).1 hy
    obtain ⟨t2, q, rfl, ht, hq, hqd⟩ := row_open3 hdr
    have S8 := (S7.add (.tq q (nI r.2)) hq).fact (dps_one hqd) (by show (imm (lotD r.2) && true) = true; rw [lotD_imm]; rfl)
    have hrl := h1r r (List.mem_of_getElem? hr)
    clear S7
    repeat walk_at "ob"
    refine g_lcE2 ?_
    repeat walk_at "ob"
    refine g_tydK (S8.at 0 rfl) ?_
    repeat walk_at "ob"
    rename_i nl H7 _ S9
    refine g_getK (Rd.of (S9.at 1 rfl)) ?_
    obtain ⟨a, ws2, ea, ha, hda⟩ := bs_get (x - r.1) S9.drop.drop hn
    rw [ea]
    have hl2 : ws2.length ≤ 4096 := by
      have e1 := dps_length hda
      have e2 := withS_len LB (x - r.1)
      rw [List.length_map] at e1
      omega
    repeat walk_at "ob"
    have S10 := S9.fact (dps_take (n := 2) hda) (by rw [← List.map_take]; exact lots_imm _)
    refine g_slL2 S10 (SqL.of (S10.st _ ha)) fun sl H8 S11 => ?_
    rw [cutV_two, ← List.map_take] at S11
    clear S8 S9 S10
    refine g_lcS (a := sl) (xs := ws2.take 2) true (fun j F' ds => F' = (sl, .lst (ws2.take 2)) :: (nl, HO.lst []) :: (d, kO kr) :: (kL kr ++ (q2, HO.lst v2) :: (q1, HO.lst v1) :: F) ∧ ds = ((((withS LB (x - r.1)).take 2).take j).filter fun z => decide (r.2 ≠ [] ∨ z ≠ [])).map lotD) S11 (fun Q' q => by walk_at "ob"; exact q) ⟨rfl, rfl⟩ (fun j F' ds H' hi S => SqL.of ((hi.1 ▸ S).at 0 rfl)) (fun j F' ds hi => by
      rw [hi.2, List.length_map]
      refine Nat.lt_of_le_of_lt (List.length_filter_le ..) ?_
      rw [List.length_take, List.length_take]; omega) ?_ ?_
    · intro j y hy Dp H8 F' ws ds QE QR hj S12 kE' kR'
      obtain ⟨rfl, rfl⟩ := hj
      obtain ⟨z, hz, hdz⟩ := dps_map (S12.dps 1 rfl) hy
      have S13 := S12.fact (dps_one hdz) (by show (imm (lotD z) && true) = true; rw [lotD_imm]; rfl)
      clear S12
      repeat walk_at "ob"
      refine ⟨rfl, ?_⟩
      repeat walk_at "ob"
      rename_i S14
      have ey : (r.2 ≠ [] ∨ z ≠ []) → ((((withS LB (x - r.1)).take 2).take (j + 1)).filter fun z => decide (r.2 ≠ [] ∨ z ≠ [])).map lotD = ((((withS LB (x - r.1)).take 2).take j).filter fun z => decide (r.2 ≠ [] ∨ z ≠ [])).map lotD ++ [lotD z] := fun h => by
        rw [List.take_add_one, hz, List.filter_append, List.map_append]
        congr 1
        rw [show (some z).toList = [z] from rfl, List.filter_cons_of_pos (by exact decide_eq_true h)]
        rfl
      have en : ¬ (r.2 ≠ [] ∨ z ≠ []) → ((((withS LB (x - r.1)).take 2).take (j + 1)).filter fun z => decide (r.2 ≠ [] ∨ z ≠ [])).map lotD = ((((withS LB (x - r.1)).take 2).take j).filter fun z => decide (r.2 ≠ [] ∨ z ≠ [])).map lotD := fun h => by
        rw [List.take_add_one, hz, List.filter_append, List.map_append]
        rw [show (some z).toList = [z] from rfl, List.filter_cons_of_neg (by rw [decide_eq_false h]; exact Bool.false_ne_true)]
        exact List.append_nil _
      refine g_neD (S14.dp 4 rfl) (S14.dp 0 rfl) lotD_shaped rfl ?_
      rw [lotD_eqv0]
      repeat walk_at "ob"
      refine g_iteD (fun h1 => ?_) (fun h1 => ?_)
      · repeat walk_at "ob"
        exact kE' _ (lotD z) _ _ ⟨rfl, (ey (.inl h1)).symm⟩ S14.drop
      · clear S13
        repeat walk_at "ob"
        rename_i S15
        refine g_neD (S15.dp 2 rfl) (S15.dp 0 rfl) lotD_shaped rfl ?_
        rw [lotD_eqv0]
        repeat walk_at "ob"
        refine g_iteD (fun h2 => ?_) (fun h2 => ?_)
        · repeat walk_at "ob"
          exact kE' _ (lotD z) _ _ ⟨rfl, (ey (.inr h2)).symm⟩ S15.drop.drop
        · repeat walk_at "ob"
          exact kR' _ _ ⟨rfl, (en (fun h => h.elim h1 h2)).symm⟩ S15.drop.drop.drop
    · intro Dp H9 F' ws ds hD hj S12
      obtain ⟨rfl, rfl⟩ := hj
      have hl4 : (ws2.take 2).length = ((withS LB (x - r.1)).take 2).length := by
        have := dps_length (S12.dps 1 rfl)
        rw [List.length_map] at this
        exact this
      rw [hl4, List.take_length] at S12
      change Sy K ((Dp, HO.lst ws) :: (sl, HO.lst (ws2.take 2)) :: (nl, HO.lst []) :: (d, kO kr) :: (kL kr ++ (q2, HO.lst v2) :: (q1, HO.lst v1) :: F)) (Ft.dat ws ((someL r.2 (withS LB (x - r.1))).map lotD) :: Ft.dat (ws2.take 2) (((withS LB (x - r.1)).take 2).map lotD) :: Ft.dat [V.ref q] [lotD r.2] :: Ft.tq q (nI r.2) :: (kF LB kr ++ Ft.dat v2 (rowsD LB) :: Ft.dat v1 (rowsD LA) :: Ft.tq p (NR rs) :: Ft.tt (NT rs) :: G0)) H9 at S12
      have hdw := S12.dps 0 rfl
      cases es : someL r.2 (withS LB (x - r.1)) with
      | nil =>
        rw [es] at hdw S12
        cases hdw
        repeat walk_at "ob"
        refine ⟨_, _, _, rfl, fun l hl => ?_, S12.drop.drop.drop.drop.less.less.less⟩
        rw [List.take_add_one, hr, show (some r).toList = [r] from rfl, lotsF_snoc] at hl
        rcases List.mem_append.mp hl with hl | hl
        · exact hnone l hl
        · obtain ⟨z, hz, rfl⟩ := List.mem_map.mp hl
          exact hsome _ _ es z hz
      | cons z0 zs =>
        rw [es] at hdw S12
        cases hdw with
        | cons d1 d2 =>
        rename_i y0 ys0
        obtain ⟨q3, ys, rfl, hq3, hy3⟩ := dp_tuple d1
        have := dps_lotV hy3
        subst this
        have hz0 : z0 ∈ ((withS LB (x - r.1)).take 2) ∧ (r.2 ≠ [] ∨ z0 ≠ []) := by
          have : z0 ∈ someL r.2 (withS LB (x - r.1)) := by rw [es]; exact List.mem_cons_self ..
          unfold someL at this
          have := List.mem_filter.mp this
          exact ⟨this.1, of_decide_eq_true this.2⟩
        have hz1 := List.mem_of_mem_take hz0.1
        have hzl : z0.length ≤ 24 := by
          unfold withS at hz1
          obtain ⟨r2, hr2, rfl⟩ := List.mem_map.mp hz1
          exact h2r r2 (List.mem_filter.mp hr2).1
        have hml : r.2 ++ z0 ∈ lotsF LA LB x := List.mem_flatMap.mpr ⟨r, List.mem_of_getElem? hr, List.mem_map.mpr ⟨z0, hz1, rfl⟩⟩
        repeat walk_at "ob"
        refine g_T rfl ?_
        repeat walk_at "ob"
        refine g_stT (S12.tqs 3 rfl) ?_
        repeat walk_at "ob"
        refine g_stT hq3 ?_
        repeat walk_at "ob"
        have eI : nI r.2 ++ (nI z0 ++ []) = nI (r.2 ++ z0) := by
          unfold nI
          rw [List.append_nil, List.map_append]
        rw [eI]
        refine g_newT (ds := (r.2 ++ z0).map fun i : Nat => PyData.int (i : Int)) S12 (dp_nI _) (lotD_imm _) (by unfold nI; rw [List.length_map, List.length_append]; omega) fun q4 H10 _ S13 => ?_
        refine kQ (r.2 ++ z0) ((hmem _).mpr hml) (fun e => ?_) q4 H10 (S13.to (((subF.cons _).cons _).cons _) fun g hg => ?_)
        · obtain ⟨e1, e2⟩ := List.append_eq_nil_iff.mp e
          exact hz0.2.elim (fun h => h e1) (fun h => h e2)
        · rcases List.mem_cons.mp hg with rfl | hg
          · exact List.mem_cons_self ..
          · exact List.mem_cons_of_mem _ (List.mem_cons_of_mem _ (List.mem_cons_of_mem _ (List.mem_cons_of_mem _ (List.mem_cons_of_mem _ (subG g hg)))))
  · rintro σ' H6 ⟨v5, v6, v7, rfl, hnone, S7⟩
    rw [hv1, List.take_length] at hnone
    repeat walk_at "ob"
    exact kN (fun l hl => hnone l ((hmem l).mp hl)) H6 (S7.to subF subG)
end
end LAW

set_option Elab.async false
set_option linter.all false
set_option maxRecDepth 100000
namespace LAW
open PySem PySem.Spec PyProof.Rows L2 PySem.W OB
local macro_rules | `(tactic| walk_at "obc") => `(tactic| first
  | exact Or.inl ⟨by omega, by omega⟩
  | exact Or.inr ⟨by omega, by omega⟩
  | exact cdiv_ok (by omega) (by omega)
  | (show (0 : Int) < _; omega)
  | exact ⟨by omega, by decide⟩
  | exact ⟨by decide, by decide⟩)
local macro_rules | `(tactic| walk_at "obat") => `(tactic| first
  | exact Sy.at (by assumption) 0 rfl | exact Sy.at (by assumption) 1 rfl | exact Sy.at (by assumption) 2 rfl | exact Sy.at (by assumption) 3 rfl
  | exact Sy.at (by assumption) 4 rfl | exact Sy.at (by assumption) 5 rfl | exact Sy.at (by assumption) 6 rfl | exact Sy.at (by assumption) _ (by assumption) | exact Sy.at (by assumption) (_ + 1) (by assumption) | exact Sy.at (by assumption) (_ + 2) (by assumption))
local macro_rules | `(tactic| walk_at "obt") => `(tactic| first
  | exact Sy.tqs (by assumption) 0 rfl | exact Sy.tqs (by assumption) 1 rfl | exact Sy.tqs (by assumption) 2 rfl | exact Sy.tqs (by assumption) 3 rfl | exact Sy.tqs (by assumption) 4 rfl | exact Sy.tqs (by assumption) 5 rfl
  | exact Sy.tqs (by assumption) 6 rfl | exact Sy.tqs (by assumption) 7 rfl | assumption)
local macro_rules | `(tactic| walk_at "obl") => `(tactic| first
  | exact SqL.of (by walk_at "obat")
  | exact Sy.sq (by assumption) 0 rfl | exact Sy.sq (by assumption) 1 rfl | exact Sy.sq (by assumption) 2 rfl | exact Sy.sq (by assumption) 3 rfl | exact Sy.sq (by assumption) _ (by assumption))
local macro_rules | `(tactic| walk_at "obd") => `(tactic| first
  | exact Dp.int _ | exact Dp.bl _ | exact Dp.str _ | exact Dp.non
  | exact Sy.dp (by assumption) 0 rfl | exact Sy.dp (by assumption) 1 rfl | exact Sy.dp (by assumption) 2 rfl | exact Sy.dp (by assumption) 3 rfl
  | exact Sy.dp (by assumption) 4 rfl | exact Sy.dp (by assumption) 5 rfl | exact Sy.dp (by assumption) 6 rfl | exact Sy.dp (by assumption) 7 rfl
  | exact Sy.dp (by assumption) 8 rfl | exact Sy.dp (by assumption) 9 rfl | exact Sy.dp (by assumption) _ (by assumption) | assumption)
local macro_rules | `(tactic| walk_at "obds") => `(tactic| first
  | exact DpAll.nil
  | (refine' DpAll.cons ?ob1 ?ob2; (case ob1 => walk_at "obd"); (case ob2 => walk_at "obds"))
  | exact Sy.dps (by assumption) 0 rfl | exact Sy.dps (by assumption) 1 rfl | exact Sy.dps (by assumption) 2 rfl | exact Sy.dps (by assumption) 3 rfl | assumption)
local macro_rules | `(tactic| walk_at "obsc") => `(tactic| first
  | exact ScL.nil
  | ((first | refine' ScL.int ?obz | refine' ScL.str ?obz | refine' ScL.bl ?obz | refine' ScL.non ?obz); (case obz => walk_at "obsc")))
local macro_rules | `(tactic| walk_at "ob1") => `(tactic| first
  | ((with_reducible refine' g_var ?obh ?_); (case obh => rfl))
  | with_reducible refine g_c ?_
  | with_reducible refine g_nx ?_
  | with_reducible refine g_rt ?_
  | with_reducible refine g_bk ?_
  | with_reducible refine g_ct ?_
  | with_reducible refine g_op ?_
  | with_reducible refine g_I0 ?_
  | with_reducible refine g_test ?_
  | with_reducible refine g_bl ?_
  | with_reducible refine g_blx ?_
  | with_reducible refine g_B ?_
  | with_reducible refine g_seq ?_
  | with_reducible refine g_asg ?_
  | with_reducible refine g_name ?_
  | with_reducible refine g_ifS ?_
  | with_reducible refine g_ret ?_
  | with_reducible refine g_cb ?_
  | with_reducible refine g_cons ?_
  | with_reducible refine g_nil ?_
  | with_reducible refine g_int ?_
  | with_reducible refine g_intB ?_
  | with_reducible refine g_abs ?_
  | with_reducible refine g_max ?_
  | with_reducible refine g_min ?_
  | with_reducible refine g_un ?_
  | with_reducible refine g_U ?_
  | with_reducible refine g_eqI ?_
  | with_reducible refine g_neI ?_
  | with_reducible refine g_eqS ?_
  | with_reducible refine g_neS ?_
  | with_reducible refine g_tt ?_
  | with_reducible refine g_ff ?_
  | with_reducible refine g_next ?_
  | with_reducible refine g_drop ?_
  | with_reducible refine g_if ?_
  | with_reducible refine g_andV ?_
  | with_reducible refine g_orV ?_
  | with_reducible refine g_notV ?_
  | with_reducible refine g_and ?_
  | with_reducible refine g_or ?_
  | with_reducible refine g_not ?_
  | with_reducible refine g_yes ?_
  | with_reducible refine g_chain ?_
  | with_reducible refine g_cg ?_
  | with_reducible refine g_mg ?_
  | with_reducible refine g_kg ?_
  | with_reducible refine g_pg ?_
  | ((with_reducible refine' g_call ?obh ?obj ?_); (case obh => rfl); (case obj => rfl))
  | with_reducible refine g_par ?_
  | with_reducible refine g_par2 ?_
  | with_reducible refine g_par3 ?_
  | with_reducible refine g_par33 ?_
  | with_reducible refine g_gnil ?_
  | with_reducible refine g_gcons ?_
  | with_reducible refine g_gsub ?_
  | with_reducible refine g_ipI ?_
  | with_reducible refine g_rAdd ?_
  | with_reducible refine g_rSub ?_
  | ((with_reducible refine' g_aug ?obh ?_); (case obh => rfl))
  | with_reducible refine g_tup ?_
  | with_reducible refine g_lst ?_
  | with_reducible refine g_bm ?_
  | with_reducible refine g_bm0 ?_
  | with_reducible refine g_sl ?_
  | with_reducible refine g_nopart ?_
  | with_reducible refine g_part ?_
  | with_reducible refine g_pint ?_
  | with_reducible refine isi_int ?_
  | with_reducible refine isi_intB ?_
  | ((with_reducible refine' g_I ?obh ?_); (case obh => walk_at "obc"))
  | ((with_reducible refine' g_tyl ?obh ?_); (case obh => walk_at "obl"))
  | ((with_reducible refine' g_lenL ?obh ?_); (case obh => walk_at "obl"))
  | with_reducible refine g_ne ?_
  | ((with_reducible refine' g_neN' ?obh ?_); (case obh => rfl))
  | with_reducible refine g_ntt ?_
  | with_reducible refine g_nff ?_
  | with_reducible refine g_star ?_
  | with_reducible refine g_att ?_
  | with_reducible refine g_sfld ?_
  | with_reducible refine g_faug ?_
  | with_reducible refine g_fld ?_
  | ((with_reducible refine' g_nF ?obh ?_); (case obh => omega))
  | ((with_reducible refine' g_nT ?obh ?_); (case obh => omega))
  | ((with_reducible refine' g_TD ?obh ?_); (case obh => omega))
  | ((with_reducible refine' g_FD ?obh ?_); (case obh => omega))
  | ((with_reducible refine' g_ixUL ?obh ?obi ?_); (case obh => walk_at "obl"); (case obi => exact atI_nn (by omega) (by rfl)))
  | ((with_reducible refine' g_setLS ?obs ?obh ?obi ?_); (case obs => assumption); (case obh => assumption); (case obi => rfl); intro _ _ _)
  | ((with_reducible refine' g_newT ?obs ?obh ?obi ?obj ?_); (case obs => assumption); (case obh => walk_at "obds"); (case obi => rfl); (case obj => exact Nat.le_of_ble_eq_true rfl); intro _ _ _ _)
  | ((with_reducible refine' g_newL ?obs ?obj ?_); (case obs => assumption); (case obj => exact Nat.le_of_ble_eq_true rfl); intro _ _ _ _)
  | ((with_reducible refine' isi_tup ?obh ?_); (case obh => walk_at "obt"))
  | ((with_reducible refine' g_lenT ?obh ?_); (case obh => walk_at "obt"))
  | ((with_reducible refine' g_unpT ?obh ?obi ?_); (case obh => walk_at "obt"); (case obi => rfl))
  | ((with_reducible refine' g_divmod ?obs ?obh ?_); (case obs => assumption); (case obh => exact cdivp_ok (by omega) (by omega) (by omega)); intro _ _ _ _)
  | ((with_reducible refine' g_unpD ?obh ?obi ?obj ?_); (case obh => walk_at "obd"); (case obi => walk_at "obsc"); (case obj => rfl))
  | with_reducible refine g_att ?_)
local macro_rules | `(tactic| walk_at "ob") => `(tactic| first
  | walk_at "ob1"
  | refine use_is_integer ?_
  | refine use_is_within ?_
  | with_reducible refine g_lstRg ?_
  | with_reducible refine g_rg1 ?_
  | with_reducible refine g_rg2 ?_
  | with_reducible refine g_tTru ?_
  | ((with_reducible refine' g_truL ?obh ?_); (case obh => walk_at "obl"))
  | ((with_reducible refine' g_ixUT ?obh ?obi ?_); (case obh => walk_at "obt"); (case obi => rfl))
  | with_reducible refine g_forZ ?_
  | with_reducible refine g_forR2 ?_
  | with_reducible refine g_forE ?_
  | with_reducible refine g_lcZ ?_)
section
variable {P : Program} {w : World} {K : Frag} {mg : Str → Option Value} {base : Heap}
/-- no tuple -/
def NTu (K : Frag) (H : Hp) (v : V) : Prop := ∀ Q : VK, Q (.bl false) H → rIsi K [v, .ty "tuple"] H Q
theorem ntu_non {H : Hp} : NTu K H .non := fun Q k => ⟨_, _, _, _, false, rfl, .ty "tuple", .base .non, kit_ty (by decide +kernel), k⟩
theorem ntu_lst {H : Hp} {p : Addr} {xs : List V} (h : H p = some (.lst xs)) : NTu K H (.ref p) := fun Q k => ⟨_, _, _, _, false, rfl, .ty "tuple", .base (.lst h), kit_ty (by decide +kernel), k⟩
theorem ntu_str {H : Hp} {z : Str} : NTu K H (.str z) := fun Q k => ⟨_, _, _, _, false, rfl, .ty "tuple", .base (.str z), kit_ty (by decide +kernel), k⟩
theorem ntu_int {H : Hp} {i : Int} : NTu K H (.int i) := fun Q k => ⟨_, _, _, _, false, rfl, .ty "tuple", .base (.int i), kit_ty (by decide +kernel), k⟩
theorem ni_non {H : Hp} : NI K H .non := ⟨rfl, fun _ _ => rfl, fun Q k => ⟨_, _, _, _, false, rfl, .ty "int", .base .non, kit_ty (by decide +kernel), k⟩⟩
theorem ni_str {H : Hp} {z : Str} : NI K H (.str z) := ⟨rfl, fun _ _ => rfl, fun Q k => ⟨_, _, _, _, false, rfl, .ty "int", .base (.str z), kit_ty (by decide +kernel), k⟩⟩
/-- what a tuple that may be a lot holds -/
def Sc (x : V) : Prop := (∃ a, x = .int a) ∨ (∃ b, x = .bl b) ∨ x = .non ∨ ∃ z, x = .str z
theorem Sc.nc {x : V} {H : Hp} (h : Sc x) : Nc K H x := by
  rcases h with h | h | rfl | ⟨z, rfl⟩
  · exact .inl (.inl h)
  · exact .inl (.inr h)
  · exact .inr ni_non
  · exact .inr ni_str
def allW (xs : List V) (b c : Int) : Bool := xs.all fun x => inW x b c
theorem allW_ok {b c : Int} : ∀ {xs : List V}, allW xs b c = true → ∃ ms : List Int, xs = ms.map V.int ∧ ∀ x ∈ ms, b ≤ x ∧ x ≤ c
  | [], _ => ⟨[], rfl, fun _ h => (nomatch h)⟩
  | x :: xs, h => by
    have h2 : (inW x b c && allW xs b c) = true := h
    rw [Bool.and_eq_true] at h2
    obtain ⟨ms, rfl, hm⟩ := allW_ok h2.2
    cases x with
    | int a =>
      refine ⟨a :: ms, rfl, fun y hy => ?_⟩
      rcases List.mem_cons.mp hy with rfl | hy
      · exact of_decide_eq_true h2.1
      · exact hm y hy
    | _ => exact absurd h2.1 Bool.false_ne_true
theorem bls {H : Hp} {vs : List V} {bs : List Bool} (h : DpAll K H vs (bs.map PyData.bool)) : vs = bs.map V.bl := by
  rw [dps_scal h fun d hd => by
    obtain ⟨s, _, rfl⟩ := List.mem_map.mp hd
    rfl, List.map_map]
  rfl
def upB (ns : List Int) : Bool := (ns.zip (ns.drop 1)).all fun p => decide (p.1 < p.2)
def zipD (ns : List Int) : List PyData := (ns.zip (ns.drop 1)).map fun p => .bool (decide (p.1 < p.2))
theorem zip_at {ns : List Int} {i : Nat} {x y : Int} (hx : ns[i]? = some x) (hy : (ns.drop 1)[i]? = some y) : (ns.zip (ns.drop 1))[i]? = some (x, y) := by
  rw [List.getElem?_zip_eq_some]
  exact ⟨hx, hy⟩
theorem zip_len {ns : List Int} : (ns.zip (ns.drop 1)).length = min ns.length (ns.drop 1).length := List.length_zip ..
theorem up_le : ∀ {ns : List Int} {x : Int}, upB (x :: ns) = true → ∀ y ∈ ns, x < y
  | [], _, _ => fun y hy => nomatch hy
  | z :: ns, x, h => by
    have h2 : (decide (x < z) && upB (z :: ns)) = true := h
    rw [Bool.and_eq_true] at h2
    have h3 := of_decide_eq_true h2.1
    intro y hy
    rcases List.mem_cons.mp hy with rfl | hy
    · exact h3
    · have := up_le h2.2 y hy
      omega
theorem up_iff : ∀ {ns : List Int}, upB ns = true ↔ ns.Pairwise (· < ·)
  | [] => ⟨fun _ => .nil, fun _ => rfl⟩
  | [x] => ⟨fun _ => by simp, fun _ => rfl⟩
  | x :: z :: ns => by
    have e : upB (x :: z :: ns) = (decide (x < z) && upB (z :: ns)) := rfl
    rw [e, Bool.and_eq_true, up_iff (ns := z :: ns), List.pairwise_cons (l := z :: ns)]
    constructor
    · rintro ⟨h1, h2⟩
      exact ⟨up_le (by rw [e, Bool.and_eq_true]; exact ⟨h1, up_iff.mpr h2⟩), h2⟩
    · rintro ⟨h1, h2⟩
      exact ⟨decide_eq_true (h1 z (List.mem_cons_self ..)), h2⟩
def sp_is_lot_of (K : Frag) : Sp := fun vs H Q E => vs.length = 2 ∧ ∃ (p : Addr) (v : V) (rs : NS), vs = [.ref p, v] ∧ SqT K H p (NR rs) ∧ ((NTu K H v ∧ Q (.bl false) H) ∨
  ∃ (F : List (Addr × HO)) (G : List Ft) (q : Addr) (xs : List V), v = .ref q ∧ Sy K F G H ∧ SqT K H q xs ∧ (∀ x ∈ xs, Sc x) ∧ xs.length ≤ 1000 ∧
  (∀ ms : List Int, xs = ms.map V.int → (∀ x ∈ ms, 0 ≤ x ∧ x ≤ (rs.length : Int) - 1) → ∀ H', Sy K F G H' → Q (.bl (upB ms)) H') ∧ (allW xs 0 ((rs.length : Int) - 1) = false → ∀ H', Sy K F G H' → Q (.bl false) H'))
abbrev names_is_lot_of : List Str := ["notes", "value", "number", "one", "other"]
theorem sc_is_lot_of : FnScope names_is_lot_of ["notes", "value"] (defScope (top 28)) := ⟨rfl, rfl, rfl, by decide +kernel, rfl, by decide +kernel, by decide +kernel⟩
set_option maxHeartbeats 4000000 in
theorem ok_is_lot_of (T : Tx K mg) : FG P w K mg base CX0 3 T.a_is_lot_of T.d_is_lot_of ["notes", "value"] (sp_is_lot_of K) := by
  refine OB.Fun.fg T.F_is_lot_of sc_is_lot_of (fun vs H Q E h => h.1) (fun cdv A out s H vs Q E g h => ?_)
  obtain ⟨_, p, v, rs, rfl, hp, h⟩ := h
  refine ⟨_, (pss_cons (ps_if (PW.pt (pw_or (pt_not (pt_val (pe_callB (toK (r := rIsi) (K := K) rfl call_isi) (by rfl) T.n_isinstance (by decide +kernel) (pa_cons (pv 1) (pa_cons (pe_bltn (v := .ty "tuple") (by rfl) T.n_tuple (by decide +kernel) rfl) pa_nil))))) (pw_or1 (pt_not (pt_val (pe_callB (toK (r := rAll) (K := K) rfl (cr_all rfl)) (by rfl) T.n_all (by decide +kernel) (pa_cons (pe_lc (own := [("number", 2)]) (tt := tYes) rfl sc_is_lot_of.nd (pi_seq (pv 1)) (blkOk_by (N := names_is_lot_of) (sc := defScope (top 28)) (own := [("number", 2)]) (by decide +kernel)) (fun _ _ _ _ _ => (pg_name (i := 2) sc_is_lot_of.nd rfl (by first | exact Or.inl rfl | exact Or.inr rfl))) (fun _ _ _ _ _ => pts_nil) (fun _ _ _ _ _ => (pe_cg (ok_is_within T) (g.mono (by decide : 2 ≤ 2)) (by rfl) T.m_is_within T.F_is_within.kp (OB.Fun.bd T.F_is_within (ps := ["value", "least", "most"]) (n := 3) (ks := []) (ix := [0, 1, 2]) (fun _ _ _ _ _ _ us ws h1 h2 => match us, ws, h1, h2 with | [_, _, _], [], _, _ => rfl)) pass0 (pa_cons (pv 2) (pa_cons pe_int (pa_cons (pe_op op_sub (pe_callB (toK (r := OB.rLen) (K := K) rfl c_len) (by rfl) T.n_len PySem.boot_len (pa_cons (pv 0) pa_nil)) pe_int) pa_nil))) pk_nil))) pa_nil))))))) (pss_one (ps_ret pe_bl)) pss_nil)
      (pss_one (ps_ret (pe_callB (toK (r := rAll) (K := K) rfl (cr_all rfl)) (by rfl) T.n_all (by decide +kernel) (pa_cons (pe_lc (own := [("one", 3), ("other", 4)]) (tt := tYes) rfl sc_is_lot_of.nd (pi_zipK (by rfl) T.n_zip (pa_cons (pv 1) (pa_cons (pe_slice (sl_UK (K := K) rfl) (pv 1) (po_some pe_int) po_none) pa_nil))) (blkOk_by (N := names_is_lot_of) (sc := defScope (top 28)) (own := [("one", 3), ("other", 4)]) (by decide +kernel)) (fun _ _ _ _ _ => (pg_tupK (K := K) rfl (n := 2) rfl (pgs_cons (pg_name (i := 3) sc_is_lot_of.nd rfl (by first | exact Or.inl rfl | exact Or.inr rfl)) (pgs_cons (pg_name (i := 4) sc_is_lot_of.nd rfl (by first | exact Or.inl rfl | exact Or.inr rfl)) pgs_nil)))) (fun _ _ _ _ _ => pts_nil) (fun _ _ _ _ _ => (pe_cmpR op_lt (pv 3) (pv 4) (nomark _)))) pa_nil))))), ?_⟩
  refine g_start (σ := [some _, some _, none, none, none]) rfl ?_
  have hn : (NR rs).length = rs.length := List.length_map ..
  rcases h with ⟨hnt, k⟩ | ⟨F, G, q, xs, rfl, S, hs, hsc, hl, kI, kN⟩
  · repeat walk_at "ob"
    refine hnt _ ?_
    repeat walk_at "ob"
    exact k
  · have S0 := (S.add (.tq q xs) hs).add (.tq p (NR rs)) hp
    clear S
    repeat walk_at "ob"
    refine g_lcS (a := q) (xs := xs) false (fun i F' ds => F' = F ∧ ds = (xs.take i).map fun x => .bool (inW x 0 ((rs.length : Int) - 1))) S0 (fun Q' q => by walk_at "ob"; exact q) ⟨rfl, rfl⟩ (fun i F' ds H' _ S3 => S3.tqs 1 rfl) (fun i F' ds hi => by
      rw [hi.2, List.length_map, List.length_take]; omega) ?_ ?_
    · intro i x hx Da H2 F2 vs ds QE QR hi S3 kE kR
      obtain ⟨rfl, rfl⟩ := hi
      repeat walk_at "ob"
      refine ⟨rfl, ?_⟩
      repeat walk_at "ob"
      rw [hn]
      refine ⟨rfl, x, 0, (rs.length : Int) - 1, rfl, (hsc x (List.mem_of_getElem? hx)).nc, ?_⟩
      refine kE _ (.bool (inW x 0 ((rs.length : Int) - 1))) _ _ ⟨rfl, ?_⟩ (S3.fact (dps_one (L2.Dp.bl _)) rfl)
      rw [List.take_add_one, hx]
      simp
    intro Da H2 F2 vs ds hD hi S3
    obtain ⟨rfl, rfl⟩ := hi
    rw [List.take_length] at S3
    have hv : vs = (xs.map fun x => inW x 0 ((rs.length : Int) - 1)).map V.bl := by
      have := S3.dps 0 rfl
      rw [show (xs.map fun x => PyData.bool (inW x 0 ((rs.length : Int) - 1))) = (xs.map fun x => inW x 0 ((rs.length : Int) - 1)).map PyData.bool by rw [List.map_map]; rfl] at this
      exact bls this
    subst hv
    repeat walk_at "ob"
    refine g_all (by walk_at "obl") ?_
    rw [List.all_map, show (xs.all (id ∘ fun x => inW x 0 ((rs.length : Int) - 1))) = allW xs 0 ((rs.length : Int) - 1) from rfl]
    have S4 := S3.less.drop
    clear S3 S0
    cases hw : allW xs 0 ((rs.length : Int) - 1) with
    | false =>
      repeat walk_at "ob"
      exact kN hw _ S4.drop.drop
    | true =>
      obtain ⟨ms, rfl, hm⟩ := allW_ok hw
      have hml : (ms.map V.int).length = ms.length := List.length_map ..
      repeat walk_at "ob"
      refine g_slA S4 (S4.tqs 1 rfl) fun p2 H5 S9 => ?_
      clear S4
      repeat walk_at "ob"
      refine ziplc_of (k := false) (l := false) (xs := ms.map V.int) (ys := (ms.map V.int).drop 1) (fun i F' ds => F' = F2 ∧ ds = (zipD ms).take i) S9 ⟨rfl, rfl⟩
        (fun i F' ds H' hi S3 => ⟨S3.tqs 2 rfl, S3.tqs 0 rfl⟩) (fun i F' ds hi => by
          rw [hi.2, List.length_take]
          have : (zipD ms).length ≤ ms.length := by
            unfold zipD
            rw [List.length_map, zip_len]
            omega
          omega) ?_ ?_
      · intro i x y hx hy Da T H2 F2 vs ds QE QR hi hT S3 kE kR
        obtain ⟨rfl, rfl⟩ := hi
        rw [List.getElem?_map] at hx
        obtain ⟨r, hr, rfl⟩ := Option.map_eq_some_iff.mp hx
        rw [List.getElem?_drop, List.getElem?_map] at hy
        obtain ⟨r2, hr2, rfl⟩ := Option.map_eq_some_iff.mp hy
        refine g_pair S3 hT fun H3 S4 => ?_
        repeat walk_at "ob"
        refine ⟨rfl, ?_⟩
        repeat walk_at "ob"
        refine kE _ (.bool (decide (r < r2))) _ _ ⟨rfl, ?_⟩ (S4.drop.fact (dps_one (L2.Dp.bl _)) rfl)
        rw [List.take_add_one]
        unfold zipD
        rw [List.getElem?_map, zip_at hr (by rw [List.getElem?_drop]; exact hr2)]
        rfl
      intro Dd H6 F6 vs ds hD6 hi S10
      obtain ⟨rfl, rfl⟩ := hi
      have hv : vs = ((ms.zip (ms.drop 1)).map fun p => decide (p.1 < p.2)).map V.bl := by
        have := S10.dps 0 rfl
        rw [List.take_of_length_le (by unfold zipD; rw [List.length_map, zip_len, List.length_drop, List.length_drop, List.length_map]; exact Nat.le_refl _)] at this
        unfold zipD at this
        rw [show ((ms.zip (ms.drop 1)).map fun p => PyData.bool (decide (p.1 < p.2))) = ((ms.zip (ms.drop 1)).map fun p => decide (p.1 < p.2)).map PyData.bool by rw [List.map_map]; rfl] at this
        exact bls this
      subst hv
      repeat walk_at "ob"
      refine g_all (by walk_at "obl") ?_
      rw [List.all_map, show ((ms.zip (ms.drop 1)).all (id ∘ fun p => decide (p.1 < p.2))) = upB ms from rfl]
      repeat walk_at "ob"
      exact kI ms rfl hm _ S10.less.drop.drop.drop.drop
end
end LAW

set_option Elab.async false
set_option linter.all false
set_option maxRecDepth 100000
namespace LAW
open PySem PySem.Spec PyProof.Rows L2 PySem.W OB
local macro_rules | `(tactic| walk_at "obc") => `(tactic| first
  | exact Or.inl ⟨by omega, by omega⟩
  | exact Or.inr ⟨by omega, by omega⟩
  | exact cdiv_ok (by omega) (by omega)
  | (show (0 : Int) < _; omega)
  | exact ⟨by omega, by decide⟩
  | exact ⟨by decide, by decide⟩)
local macro_rules | `(tactic| walk_at "obat") => `(tactic| first
  | exact Sy.at (by assumption) 0 rfl | exact Sy.at (by assumption) 1 rfl | exact Sy.at (by assumption) 2 rfl | exact Sy.at (by assumption) 3 rfl
  | exact Sy.at (by assumption) 4 rfl | exact Sy.at (by assumption) 5 rfl | exact Sy.at (by assumption) 6 rfl | exact Sy.at (by assumption) _ (by assumption) | exact Sy.at (by assumption) (_ + 1) (by assumption) | exact Sy.at (by assumption) (_ + 2) (by assumption))
local macro_rules | `(tactic| walk_at "obt") => `(tactic| first
  | exact Sy.tqs (by assumption) 0 rfl | exact Sy.tqs (by assumption) 1 rfl | exact Sy.tqs (by assumption) 2 rfl | exact Sy.tqs (by assumption) 3 rfl | exact Sy.tqs (by assumption) 4 rfl | exact Sy.tqs (by assumption) 5 rfl
  | exact Sy.tqs (by assumption) 6 rfl | exact Sy.tqs (by assumption) 7 rfl | assumption)
local macro_rules | `(tactic| walk_at "obl") => `(tactic| first
  | exact SqL.of (by walk_at "obat")
  | exact Sy.sq (by assumption) 0 rfl | exact Sy.sq (by assumption) 1 rfl | exact Sy.sq (by assumption) 2 rfl | exact Sy.sq (by assumption) 3 rfl | exact Sy.sq (by assumption) _ (by assumption))
local macro_rules | `(tactic| walk_at "obd") => `(tactic| first
  | exact Dp.int _ | exact Dp.bl _ | exact Dp.str _ | exact Dp.non
  | exact Sy.dp (by assumption) 0 rfl | exact Sy.dp (by assumption) 1 rfl | exact Sy.dp (by assumption) 2 rfl | exact Sy.dp (by assumption) 3 rfl
  | exact Sy.dp (by assumption) 4 rfl | exact Sy.dp (by assumption) 5 rfl | exact Sy.dp (by assumption) 6 rfl | exact Sy.dp (by assumption) 7 rfl
  | exact Sy.dp (by assumption) 8 rfl | exact Sy.dp (by assumption) 9 rfl | exact Sy.dp (by assumption) _ (by assumption) | assumption)
local macro_rules | `(tactic| walk_at "obds") => `(tactic| first
  | exact DpAll.nil
  | (refine' DpAll.cons ?ob1 ?ob2; (case ob1 => walk_at "obd"); (case ob2 => walk_at "obds"))
  | exact Sy.dps (by assumption) 0 rfl | exact Sy.dps (by assumption) 1 rfl | exact Sy.dps (by assumption) 2 rfl | exact Sy.dps (by assumption) 3 rfl | assumption)
local macro_rules | `(tactic| walk_at "obsc") => `(tactic| first
  | exact ScL.nil
  | ((first | refine' ScL.int ?obz | refine' ScL.str ?obz | refine' ScL.bl ?obz | refine' ScL.non ?obz); (case obz => walk_at "obsc")))
local macro_rules | `(tactic| walk_at "ob1") => `(tactic| first
  | ((with_reducible refine' g_var ?obh ?_); (case obh => rfl))
  | with_reducible refine g_c ?_
  | with_reducible refine g_nx ?_
  | with_reducible refine g_rt ?_
  | with_reducible refine g_bk ?_
  | with_reducible refine g_ct ?_
  | with_reducible refine g_op ?_
  | with_reducible refine g_I0 ?_
  | with_reducible refine g_test ?_
  | with_reducible refine g_bl ?_
  | with_reducible refine g_blx ?_
  | with_reducible refine g_B ?_
  | with_reducible refine g_seq ?_
  | with_reducible refine g_asg ?_
  | with_reducible refine g_name ?_
  | with_reducible refine g_ifS ?_
  | with_reducible refine g_ret ?_
  | with_reducible refine g_cb ?_
  | with_reducible refine g_cons ?_
  | with_reducible refine g_nil ?_
  | with_reducible refine g_int ?_
  | with_reducible refine g_intB ?_
  | with_reducible refine g_abs ?_
  | with_reducible refine g_max ?_
  | with_reducible refine g_min ?_
  | with_reducible refine g_un ?_
  | with_reducible refine g_U ?_
  | with_reducible refine g_eqI ?_
  | with_reducible refine g_neI ?_
  | with_reducible refine g_eqS ?_
  | with_reducible refine g_neS ?_
  | with_reducible refine g_tt ?_
  | with_reducible refine g_ff ?_
  | with_reducible refine g_next ?_
  | with_reducible refine g_drop ?_
  | with_reducible refine g_if ?_
  | with_reducible refine g_andV ?_
  | with_reducible refine g_orV ?_
  | with_reducible refine g_notV ?_
  | with_reducible refine g_and ?_
  | with_reducible refine g_or ?_
  | with_reducible refine g_not ?_
  | with_reducible refine g_yes ?_
  | with_reducible refine g_chain ?_
  | with_reducible refine g_cg ?_
  | with_reducible refine g_mg ?_
  | with_reducible refine g_kg ?_
  | with_reducible refine g_pg ?_
  | ((with_reducible refine' g_call ?obh ?obj ?_); (case obh => rfl); (case obj => rfl))
  | with_reducible refine g_par ?_
  | with_reducible refine g_par2 ?_
  | with_reducible refine g_par3 ?_
  | with_reducible refine g_par33 ?_
  | with_reducible refine g_gnil ?_
  | with_reducible refine g_gcons ?_
  | with_reducible refine g_gsub ?_
  | with_reducible refine g_ipI ?_
  | with_reducible refine g_rAdd ?_
  | with_reducible refine g_rSub ?_
  | ((with_reducible refine' g_aug ?obh ?_); (case obh => rfl))
  | with_reducible refine g_tup ?_
  | with_reducible refine g_lst ?_
  | with_reducible refine g_bm ?_
  | with_reducible refine g_bm0 ?_
  | with_reducible refine g_sl ?_
  | with_reducible refine g_nopart ?_
  | with_reducible refine g_part ?_
  | with_reducible refine g_pint ?_
  | with_reducible refine isi_int ?_
  | with_reducible refine isi_intB ?_
  | ((with_reducible refine' g_I ?obh ?_); (case obh => walk_at "obc"))
  | ((with_reducible refine' g_tyl ?obh ?_); (case obh => walk_at "obl"))
  | ((with_reducible refine' g_lenL ?obh ?_); (case obh => walk_at "obl"))
  | with_reducible refine g_ne ?_
  | ((with_reducible refine' g_neN' ?obh ?_); (case obh => rfl))
  | with_reducible refine g_ntt ?_
  | with_reducible refine g_nff ?_
  | with_reducible refine g_star ?_
  | with_reducible refine g_att ?_
  | with_reducible refine g_sfld ?_
  | with_reducible refine g_faug ?_
  | with_reducible refine g_fld ?_
  | ((with_reducible refine' g_nF ?obh ?_); (case obh => omega))
  | ((with_reducible refine' g_nT ?obh ?_); (case obh => omega))
  | ((with_reducible refine' g_TD ?obh ?_); (case obh => omega))
  | ((with_reducible refine' g_FD ?obh ?_); (case obh => omega))
  | ((with_reducible refine' g_ixUL ?obh ?obi ?_); (case obh => walk_at "obl"); (case obi => exact atI_nn (by omega) (by rfl)))
  | ((with_reducible refine' g_setLS ?obs ?obh ?obi ?_); (case obs => assumption); (case obh => assumption); (case obi => rfl); intro _ _ _)
  | ((with_reducible refine' g_newT ?obs ?obh ?obi ?obj ?_); (case obs => assumption); (case obh => walk_at "obds"); (case obi => rfl); (case obj => exact Nat.le_of_ble_eq_true rfl); intro _ _ _ _)
  | ((with_reducible refine' g_newL ?obs ?obj ?_); (case obs => assumption); (case obj => exact Nat.le_of_ble_eq_true rfl); intro _ _ _ _)
  | ((with_reducible refine' isi_tup ?obh ?_); (case obh => walk_at "obt"))
  | ((with_reducible refine' g_lenT ?obh ?_); (case obh => walk_at "obt"))
  | ((with_reducible refine' g_unpT ?obh ?obi ?_); (case obh => walk_at "obt"); (case obi => rfl))
  | ((with_reducible refine' g_divmod ?obs ?obh ?_); (case obs => assumption); (case obh => exact cdivp_ok (by omega) (by omega) (by omega)); intro _ _ _ _)
  | ((with_reducible refine' g_unpD ?obh ?obi ?obj ?_); (case obh => walk_at "obd"); (case obi => walk_at "obsc"); (case obj => rfl))
  | with_reducible refine g_att ?_)
local macro_rules | `(tactic| walk_at "ob") => `(tactic| first
  | walk_at "ob1"
  | refine use_is_integer ?_
  | refine use_is_within ?_
  | with_reducible refine g_lstRg ?_
  | with_reducible refine g_rg1 ?_
  | with_reducible refine g_rg2 ?_
  | with_reducible refine g_tTru ?_
  | ((with_reducible refine' g_truL ?obh ?_); (case obh => walk_at "obl"))
  | ((with_reducible refine' g_ixUT ?obh ?obi ?_); (case obh => walk_at "obt"); (case obi => rfl))
  | with_reducible refine g_forZ ?_
  | with_reducible refine g_forR2 ?_
  | with_reducible refine g_forE ?_
  | with_reducible refine g_lcZ ?_)
section
variable {w : World} {K : Frag} {mg : Str → Option Value} {base : Heap}
/-- a value that is shown as a lot -/
inductive Vd where
  | non
  | nt (d : PyData)
  | tp (xs : List V) (ds : List PyData)
def VdV (K : Frag) (H : Hp) (v : V) : Vd → Prop
  | .non => v = .non
  | .nt d => NTu K H v ∧ L2.Dp K H v d ∧ v ≠ .non ∧ SeqAt.shaped d = true ∧ PyData.eqv d (.tuple []) = false
  | .tp xs ds => ∃ q, v = .ref q ∧ SqT K H q xs ∧ L2.Dp K H v (.tuple ds) ∧ ds.length = xs.length ∧ (∀ x ∈ xs, Sc x) ∧ xs.length ≤ 1000 ∧ SeqAt.shaped (.tuple ds) = true
def ShowsR (notes : List N) (x : Int) (b : Bool) : Vd → Prop
  | .non => b = true ↔ ∀ l ∈ withS (lotG notes 0 notes.length) x, l = []
  | .nt _ => b = false
  | .tp xs _ => b = true ↔ ∃ l ∈ withS (lotG notes 0 notes.length) x, l ≠ [] ∧ xs = nI l
theorem withS_mem {rows : List Lt} {x : Int} {l : List Nat} : l ∈ withS rows x ↔ (x, l) ∈ rows := by
  unfold withS
  constructor
  · intro h
    obtain ⟨⟨t, z⟩, hr, rfl⟩ := List.mem_map.mp h
    have h2 := List.mem_filter.mp hr
    have e : t = x := of_decide_eq_true h2.2
    rw [← e]
    exact h2.1
  · intro h
    exact List.mem_map.mpr ⟨(x, l), List.mem_filter.mpr ⟨h, decide_eq_true rfl⟩, rfl⟩
theorem nI_inj : ∀ {a b : List Nat}, nI a = nI b → a = b
  | [], [], _ => rfl
  | [], _ :: _, h => nomatch h
  | _ :: _, [], h => nomatch h
  | x :: a, y :: b, h => by
    have h2 := List.cons.inj (show V.int (x : Int) :: nI a = V.int (y : Int) :: nI b from h)
    have h3 := V.int.inj h2.1
    rw [nI_inj h2.2, show x = y by omega]
theorem to_nats : ∀ {ms : List Int}, (∀ x ∈ ms, 0 ≤ x) → ∃ l : List Nat, ms = l.map fun i : Nat => (i : Int)
  | [], _ => ⟨[], rfl⟩
  | x :: ms, h => by
    obtain ⟨l, rfl⟩ := to_nats (ms := ms) fun y hy => h y (List.mem_cons_of_mem _ hy)
    have := h x (List.mem_cons_self ..)
    exact ⟨x.toNat :: l, by rw [List.map_cons]; congr 1; omega⟩
theorem up_asc (l : List Nat) : upB (l.map fun i : Nat => (i : Int)) = true ↔ asc l := by
  rw [up_iff]
  unfold asc
  rw [List.pairwise_map]
  constructor <;> intro h <;> refine h.imp ?_ <;> intro a b hab <;> omega
theorem eqv_nil (ds : List PyData) : PyData.eqv (.tuple ds) (.tuple []) = decide (ds.length = 0) := by
  cases ds with
  | nil => rfl
  | cons d ds => simp [PyData.eqv, PyData.eqvAll]
theorem g_isNb {x : V} {H : Hp} {f : V → Hp → Prop} {b : Bool} (e : decide (x = .non) = b) (k : f (.bl b) H) : V.non = V.non ∧ f (.bl (decide (x = .non))) H := ⟨rfl, by rw [e]; exact k⟩
def sp_shows_lot (K : Frag) : Sp := fun vs H Q E => vs.length = 3 ∧ ∃ (F : List (Addr × HO)) (G : List Ft) (p : Addr) (rs : NS) (x : Int) (v : V) (m : Vd), vs = [.ref p, .int x, v] ∧ Sy K F G H ∧ SqT K H p (NR rs) ∧ (∀ q ∈ NT rs, H q.1 = some (.tup q.2)) ∧ NG rs ∧ rs.length ≤ 24 ∧
  (∀ H', Sy K F G H' → VdV K H' v m) ∧ ∀ b H', ShowsR (rs.map (·.2)) x b m → Sy K F G H' → Q (.bl b) H'
abbrev names_shows_lot : List Str := ["notes", "amount", "value", "told", "number"]
theorem sc_shows_lot : FnScope names_shows_lot ["notes", "amount", "value"] (defScope (top 29)) := ⟨rfl, rfl, rfl, by decide +kernel, rfl, by decide +kernel, by decide +kernel⟩
set_option maxHeartbeats 4000000 in
theorem ok_shows_lot (T : Tx K mg) : FG P w K mg base CX0 8 T.a_shows_lot T.d_shows_lot ["notes", "amount", "value"] (sp_shows_lot K) := by
  refine OB.Fun.fg T.F_shows_lot sc_shows_lot (fun vs H Q E h => h.1) (fun cdv A out s H vs Q E g h => ?_)
  obtain ⟨_, F, G0, p, rs, x, v, m, rfl, S0, h1, h2, ng, hl, hv, k⟩ := h
  refine ⟨_, (pss_cons (ps_set (i := 3) sc_shows_lot.nd rfl (by first | exact Or.inl rfl | exact Or.inr rfl) (pe_cg (ok_a_lot T) (g.mono (by decide : 7 ≤ 7)) (by rfl) T.m_a_lot T.F_a_lot.kp (OB.Fun.bd T.F_a_lot (ps := ["notes", "amount"]) (n := 2) (ks := []) (ix := [0, 1]) (fun _ _ _ _ _ _ us ws h1 h2 => match us, ws, h1, h2 with | [_, _], [], _, _ => rfl)) pass0 (pa_cons (pv 0) (pa_cons (pv 1) pa_nil)) pk_nil))
      (pss_cons (ps_if (PW.pt (pw_or (pt_cmpR op_isN (pv 3) pe_non (nomark _)) (pw_or1 (pt_cmpR op_isN (pv 2) pe_non (nomark _))))) (pss_one (ps_ret (pe_and (pe_cmpR op_isN (pv 3) pe_non (nomark _)) (pe_one (pe_cmpR op_isN (pv 2) pe_non (nomark _)))))) pss_nil)
      (pss_cons (ps_if (PW.pt (pw_or (pt_cmpR (op_eqDK (K := K) rfl g.hu64) (pv 2) (pe_tup pa_nil) (nomark _)) (pw_or1 (pt_not (pt_val (pe_cg (ok_is_lot_of T) (g.mono (by decide : 3 ≤ 7)) (by rfl) T.m_is_lot_of T.F_is_lot_of.kp (OB.Fun.bd T.F_is_lot_of (ps := ["notes", "value"]) (n := 2) (ks := []) (ix := [0, 1]) (fun _ _ _ _ _ _ us ws h1 h2 => match us, ws, h1, h2 with | [_, _], [], _, _ => rfl)) pass0 (pa_cons (pv 0) (pa_cons (pv 2) pa_nil)) pk_nil)))))) (pss_one (ps_ret pe_bl)) pss_nil)
      (pss_one (ps_ret (pe_cmpR op_eq (pe_callB (toK (r := rSum) (K := K) rfl (cr_sum rfl)) (by rfl) T.n_sum (by decide +kernel) (pa_cons (pe_lc (own := [("number", 4)]) (tt := tYes) rfl sc_shows_lot.nd (pi_seq (pv 2)) (blkOk_by (N := names_shows_lot) (sc := defScope (top 29)) (own := [("number", 4)]) (by decide +kernel)) (fun _ _ _ _ _ => (pg_name (i := 4) sc_shows_lot.nd rfl (by first | exact Or.inl rfl | exact Or.inr rfl))) (fun _ _ _ _ _ => pts_nil) (fun _ _ _ _ _ => (pe_ix (ix_UK (K := K) rfl) (pe_ix (ix_UK (K := K) rfl) (pv 0) (pv 4) (fun _ _ => rfl)) pe_int (fun _ _ => rfl)))) pa_nil)) (pv 1) (nomark _))))))), ?_⟩
  refine g_start (σ := [some _, some _, some _, none, none]) rfl ?_
  have S := (S0.add (.tt (NT rs)) h2).add (.tq p (NR rs)) h1
  clear S0 h1 h2
  have hrl : (rs.map (·.2)).length = rs.length := List.length_map ..
  unfold ShowsR at k
  rw [hrl] at k
  repeat walk_at "ob"
  refine ⟨rfl, F, _, p, rs, x, rfl, S, S.tqs 0 rfl, S.tts 1 rfl, ng, hl, fun hN H1 S1 => ?_, fun l hl1 hl2 t H1 S1 => ?_⟩
  · cases m with
    | non =>
      obtain rfl : v = .non := hv H1 S1.drop.drop
      repeat walk_at "ob"
      refine ⟨rfl, ?_⟩; rw [decide_eq_true (show V.non = V.non from rfl)]
      repeat walk_at "ob"
      refine ⟨rfl, ?_⟩; rw [decide_eq_true (show V.non = V.non from rfl)]
      repeat walk_at "ob"
      refine ⟨rfl, ?_⟩; rw [decide_eq_true (show V.non = V.non from rfl)]
      repeat walk_at "ob"
      exact k true H1 ⟨fun _ => hN, fun _ => rfl⟩ S1.drop.drop
    | nt d =>
      obtain ⟨h3, h4, h5, h6, h7⟩ := hv H1 S1.drop.drop
      repeat walk_at "ob"
      refine ⟨rfl, ?_⟩; rw [decide_eq_true (show V.non = V.non from rfl)]
      repeat walk_at "ob"
      refine ⟨rfl, ?_⟩; rw [decide_eq_true (show V.non = V.non from rfl)]
      repeat walk_at "ob"
      refine ⟨rfl, ?_⟩; rw [decide_eq_false h5]
      repeat walk_at "ob"
      exact k false H1 rfl S1.drop.drop
    | tp xs ds =>
      obtain ⟨q, rfl, h4, h5, h6, h7⟩ := hv H1 S1.drop.drop
      repeat walk_at "ob"
      refine ⟨rfl, ?_⟩; rw [decide_eq_true (show V.non = V.non from rfl)]
      repeat walk_at "ob"
      refine ⟨rfl, ?_⟩; rw [decide_eq_true (show V.non = V.non from rfl)]
      repeat walk_at "ob"
      refine ⟨rfl, ?_⟩; rw [decide_eq_false (show ¬ V.ref q = V.non from fun h => nomatch h)]
      repeat walk_at "ob"
      exact k false H1 ⟨fun h => Bool.noConfusion h, fun ⟨l, hm, hne, _⟩ => absurd (hN l hm) hne⟩ S1.drop.drop
  · repeat walk_at "ob"
    refine ⟨rfl, ?_⟩; rw [decide_eq_false (show ¬ V.ref t = V.non from fun h => nomatch h)]
    have S2 := S1.drop
    clear S1 S
    repeat walk_at "ob"
    cases m with
    | non =>
      obtain rfl : v = .non := hv H1 S2.drop.drop
      refine ⟨rfl, ?_⟩; rw [decide_eq_true (show V.non = V.non from rfl)]
      repeat walk_at "ob"
      refine ⟨rfl, ?_⟩; rw [decide_eq_false (show ¬ V.ref t = V.non from fun h => nomatch h)]
      repeat walk_at "ob"
      exact k false H1 ⟨fun h => Bool.noConfusion h, fun h => absurd (h l hl1) hl2⟩ S2.drop.drop
    | nt d =>
      obtain ⟨_, _, h5, _, _⟩ := hv H1 S2.drop.drop
      refine ⟨rfl, ?_⟩; rw [decide_eq_false h5]
      repeat walk_at "ob"
      rename_i S3
      obtain ⟨h3, h4, _, h6, h7⟩ := hv _ S3.drop.drop.drop
      refine g_eqD h4 (S3.dp 0 rfl) h6 rfl ?_
      rw [h7]
      repeat walk_at "ob"
      refine ⟨rfl, p, v, rs, rfl, S3.tqs 1 rfl, .inl ⟨h3, ?_⟩⟩
      repeat walk_at "ob"
      exact k false _ rfl S3.drop.drop.drop
    | tp xs ds =>
      obtain ⟨q, rfl, _⟩ := hv H1 S2.drop.drop
      refine ⟨rfl, ?_⟩; rw [decide_eq_false (show ¬ V.ref q = V.non from fun h => nomatch h)]
      repeat walk_at "ob"
      rename_i S3
      obtain ⟨q', e, h4, h5, h6, h7, h8, h9⟩ := hv _ S3.drop.drop.drop
      cases e
      refine g_eqD h5 (S3.dp 0 rfl) h9 rfl ?_
      rw [eqv_nil]
      repeat walk_at "ob"
      refine g_iteD (fun h0 => ?_) (fun h0 => ?_)
      · repeat walk_at "ob"
        refine k false _ ⟨fun h => Bool.noConfusion h, fun ⟨z, _, hne, e⟩ => ?_⟩ S3.drop.drop.drop
        rw [h6, e] at h0
        unfold nI at h0
        rw [List.length_map] at h0
        exact absurd (List.eq_nil_of_length_eq_zero h0) hne
      · repeat walk_at "ob"
        refine ⟨rfl, p, _, rs, rfl, S3.tqs 1 rfl, .inr ⟨F, _, q, xs, rfl, S3, h4, h7, h8, fun ms hx hm H3 S4 => ?_, fun hw H3 S4 => ?_⟩⟩
        · have S5 := S4.add (.tq q xs) (by
            obtain ⟨q', e, h4, _⟩ := hv _ S4.drop.drop.drop
            cases e
            exact h4)
          clear S4 S3 S2
          obtain ⟨l2, rfl⟩ := to_nats fun x hx => (hm x hx).1
          have hxn : xs = nI l2 := by
            rw [hx]
            unfold nI
            rw [List.map_map]
            rfl
          subst hxn
          have hlt : ∀ i ∈ l2, i < rs.length := fun i hi => by
            have := (hm (i : Int) (List.mem_map.mpr ⟨i, hi, rfl⟩)).2
            omega
          have hl2n : l2 ≠ [] := fun e => by
            rw [h6, e] at h0
            exact h0 rfl
          cases hup : upB (l2.map fun i : Nat => (i : Int)) with
          | false =>
            repeat walk_at "ob"
            refine k false _ ⟨fun h => Bool.noConfusion h, fun ⟨z, hz, hne, e⟩ => ?_⟩ S5.drop.drop.drop.drop
            rw [← nI_inj e] at hz
            have := (up_asc l2).mpr (lotG_mem.mp (withS_mem.mp hz)).1
            rw [hup] at this
            cases this
          | true =>
            repeat walk_at "ob"
            refine g_lcS (a := q) (xs := nI l2) false (fun i F' ds => F' = F ∧ ds = (l2.take i).map fun j => PyData.int (amtN (rs.map (·.2)) j)) S5 (fun Q' q => by walk_at "ob"; exact q) ⟨rfl, rfl⟩ (fun i F' ds H' hi S3 => S3.tqs 0 rfl) (fun i F' ds hi => by
              have hll : (nI l2).length = l2.length := List.length_map ..
              rw [hi.2, List.length_map, List.length_take]; omega) ?_ ?_
            · intro i y hy Dp H4 F2 vs2 ds2 QE QR hi S6 kE kR
              obtain ⟨rfl, rfl⟩ := hi
              unfold nI at hy
              rw [List.getElem?_map] at hy
              obtain ⟨j, hj, rfl⟩ := Option.map_eq_some_iff.mp hy
              have hbi := hlt j (List.mem_of_getElem? hj)
              have hnr : (NR rs)[j]? = some (.ref rs[j].1) := nr_at (List.getElem?_eq_getElem hbi)
              have hnt := nt_at S6 (i := 4) rfl (List.getElem_mem hbi)
              have ham : amtN (rs.map (·.2)) j = rs[j].2.2 := by
                unfold amtN
                rw [List.getElem?_map, List.getElem?_eq_getElem hbi]
                rfl
              repeat walk_at "ob"
              refine ⟨rfl, ?_⟩
              repeat walk_at "ob"
              refine g_ixUT (S6.tqs 3 rfl) (atI_nn (Int.natCast_nonneg _) hnr) ?_
              repeat walk_at "ob"
              refine g_ixUT (sqt_note hnt) (v := .int rs[j].2.2) rfl ?_
              repeat walk_at "ob"
              refine kE _ (.int rs[j].2.2) _ _ ⟨rfl, ?_⟩ (S6.fact (dps_one (L2.Dp.int _)) rfl)
              rw [List.take_add_one, hj, List.map_append, ← ham]
              rfl
            · intro Dp H4 F2 vs2 ds2 hD hi S6
              obtain ⟨rfl, rfl⟩ := hi
              have hv2 : vs2 = (l2.map (amtN (rs.map (·.2)))).map V.int := by
                rw [dps_scal (S6.dps 0 rfl) (fun d hd => by
                  obtain ⟨s, _, rfl⟩ := List.mem_map.mp hd
                  rfl), show (nI l2).length = l2.length from List.length_map .., List.take_length, List.map_map, List.map_map]
                rfl
              subst hv2
              repeat walk_at "ob"
              refine g_sum (SqL.of (S6.at 0 rfl)) ?_
              repeat walk_at "ob"
              refine k _ _ ?_ S6.less.drop.drop.drop.drop.drop
              show decide _ = true ↔ _
              rw [decide_eq_true_iff]
              constructor
              · intro h
                exact ⟨l2, withS_mem.mpr (lotG_mem.mpr ⟨(up_asc l2).mp hup, hlt, h.symm⟩), hl2n, rfl⟩
              · rintro ⟨z, hz, _, e⟩
                rw [← nI_inj e] at hz
                exact (lotG_mem.mp (withS_mem.mp hz)).2.2.symm
        · repeat walk_at "ob"
          refine k false _ ⟨fun h => Bool.noConfusion h, fun ⟨z, hz, hne, e⟩ => ?_⟩ S4.drop.drop.drop
          have hz2 := (lotG_mem.mp (withS_mem.mp hz)).2.1
          have : allW xs 0 ((rs.length : Int) - 1) = true := by
            rw [e]
            unfold allW nI
            rw [List.all_map]
            refine List.all_eq_true.mpr fun i hi => decide_eq_true ?_
            have := hz2 i hi
            omega
          rw [hw] at this
          cases this
end
end LAW

set_option Elab.async false
set_option linter.all false
set_option maxRecDepth 100000
namespace LAW
open PySem PySem.Spec PyProof.Rows L2 PySem.W OB
local macro_rules | `(tactic| walk_at "obc") => `(tactic| first
  | exact Or.inl ⟨by omega, by omega⟩
  | exact Or.inr ⟨by omega, by omega⟩
  | exact cdiv_ok (by omega) (by omega)
  | (show (0 : Int) < _; omega)
  | exact ⟨by omega, by decide⟩
  | exact ⟨by decide, by decide⟩)
local macro_rules | `(tactic| walk_at "obat") => `(tactic| first
  | exact Sy.at (by assumption) 0 rfl | exact Sy.at (by assumption) 1 rfl | exact Sy.at (by assumption) 2 rfl | exact Sy.at (by assumption) 3 rfl
  | exact Sy.at (by assumption) 4 rfl | exact Sy.at (by assumption) 5 rfl | exact Sy.at (by assumption) 6 rfl | exact Sy.at (by assumption) _ (by assumption) | exact Sy.at (by assumption) (_ + 1) (by assumption) | exact Sy.at (by assumption) (_ + 2) (by assumption))
local macro_rules | `(tactic| walk_at "obt") => `(tactic| first
  | exact Sy.tqs (by assumption) 0 rfl | exact Sy.tqs (by assumption) 1 rfl | exact Sy.tqs (by assumption) 2 rfl | exact Sy.tqs (by assumption) 3 rfl | exact Sy.tqs (by assumption) 4 rfl | exact Sy.tqs (by assumption) 5 rfl
  | exact Sy.tqs (by assumption) 6 rfl | exact Sy.tqs (by assumption) 7 rfl | assumption)
local macro_rules | `(tactic| walk_at "obl") => `(tactic| first
  | exact SqL.of (by walk_at "obat")
  | exact Sy.sq (by assumption) 0 rfl | exact Sy.sq (by assumption) 1 rfl | exact Sy.sq (by assumption) 2 rfl | exact Sy.sq (by assumption) 3 rfl | exact Sy.sq (by assumption) _ (by assumption))
local macro_rules | `(tactic| walk_at "obd") => `(tactic| first
  | exact Dp.int _ | exact Dp.bl _ | exact Dp.str _ | exact Dp.non
  | exact Sy.dp (by assumption) 0 rfl | exact Sy.dp (by assumption) 1 rfl | exact Sy.dp (by assumption) 2 rfl | exact Sy.dp (by assumption) 3 rfl
  | exact Sy.dp (by assumption) 4 rfl | exact Sy.dp (by assumption) 5 rfl | exact Sy.dp (by assumption) 6 rfl | exact Sy.dp (by assumption) 7 rfl
  | exact Sy.dp (by assumption) 8 rfl | exact Sy.dp (by assumption) 9 rfl | exact Sy.dp (by assumption) _ (by assumption) | assumption)
local macro_rules | `(tactic| walk_at "obds") => `(tactic| first
  | exact DpAll.nil
  | (refine' DpAll.cons ?ob1 ?ob2; (case ob1 => walk_at "obd"); (case ob2 => walk_at "obds"))
  | exact Sy.dps (by assumption) 0 rfl | exact Sy.dps (by assumption) 1 rfl | exact Sy.dps (by assumption) 2 rfl | exact Sy.dps (by assumption) 3 rfl | assumption)
local macro_rules | `(tactic| walk_at "obsc") => `(tactic| first
  | exact ScL.nil
  | ((first | refine' ScL.int ?obz | refine' ScL.str ?obz | refine' ScL.bl ?obz | refine' ScL.non ?obz); (case obz => walk_at "obsc")))
local macro_rules | `(tactic| walk_at "ob1") => `(tactic| first
  | ((with_reducible refine' g_var ?obh ?_); (case obh => rfl))
  | with_reducible refine g_c ?_
  | with_reducible refine g_nx ?_
  | with_reducible refine g_rt ?_
  | with_reducible refine g_bk ?_
  | with_reducible refine g_ct ?_
  | with_reducible refine g_op ?_
  | with_reducible refine g_I0 ?_
  | with_reducible refine g_test ?_
  | with_reducible refine g_bl ?_
  | with_reducible refine g_blx ?_
  | with_reducible refine g_B ?_
  | with_reducible refine g_seq ?_
  | with_reducible refine g_asg ?_
  | with_reducible refine g_name ?_
  | with_reducible refine g_ifS ?_
  | with_reducible refine g_ret ?_
  | with_reducible refine g_cb ?_
  | with_reducible refine g_cons ?_
  | with_reducible refine g_nil ?_
  | with_reducible refine g_int ?_
  | with_reducible refine g_intB ?_
  | with_reducible refine g_abs ?_
  | with_reducible refine g_max ?_
  | with_reducible refine g_min ?_
  | with_reducible refine g_un ?_
  | with_reducible refine g_U ?_
  | with_reducible refine g_eqI ?_
  | with_reducible refine g_neI ?_
  | with_reducible refine g_eqS ?_
  | with_reducible refine g_neS ?_
  | with_reducible refine g_tt ?_
  | with_reducible refine g_ff ?_
  | with_reducible refine g_next ?_
  | with_reducible refine g_drop ?_
  | with_reducible refine g_if ?_
  | with_reducible refine g_andV ?_
  | with_reducible refine g_orV ?_
  | with_reducible refine g_notV ?_
  | with_reducible refine g_and ?_
  | with_reducible refine g_or ?_
  | with_reducible refine g_not ?_
  | with_reducible refine g_yes ?_
  | with_reducible refine g_chain ?_
  | with_reducible refine g_cg ?_
  | with_reducible refine g_mg ?_
  | with_reducible refine g_kg ?_
  | with_reducible refine g_pg ?_
  | ((with_reducible refine' g_call ?obh ?obj ?_); (case obh => rfl); (case obj => rfl))
  | with_reducible refine g_par ?_
  | with_reducible refine g_par2 ?_
  | with_reducible refine g_par3 ?_
  | with_reducible refine g_par33 ?_
  | with_reducible refine g_gnil ?_
  | with_reducible refine g_gcons ?_
  | with_reducible refine g_gsub ?_
  | with_reducible refine g_ipI ?_
  | with_reducible refine g_rAdd ?_
  | with_reducible refine g_rSub ?_
  | ((with_reducible refine' g_aug ?obh ?_); (case obh => rfl))
  | with_reducible refine g_tup ?_
  | with_reducible refine g_lst ?_
  | with_reducible refine g_bm ?_
  | with_reducible refine g_bm0 ?_
  | with_reducible refine g_sl ?_
  | with_reducible refine g_nopart ?_
  | with_reducible refine g_part ?_
  | with_reducible refine g_pint ?_
  | with_reducible refine isi_int ?_
  | with_reducible refine isi_intB ?_
  | ((with_reducible refine' g_I ?obh ?_); (case obh => walk_at "obc"))
  | ((with_reducible refine' g_tyl ?obh ?_); (case obh => walk_at "obl"))
  | ((with_reducible refine' g_lenL ?obh ?_); (case obh => walk_at "obl"))
  | with_reducible refine g_ne ?_
  | ((with_reducible refine' g_neN' ?obh ?_); (case obh => rfl))
  | with_reducible refine g_ntt ?_
  | with_reducible refine g_nff ?_
  | with_reducible refine g_star ?_
  | with_reducible refine g_att ?_
  | with_reducible refine g_sfld ?_
  | with_reducible refine g_faug ?_
  | with_reducible refine g_fld ?_
  | ((with_reducible refine' g_nF ?obh ?_); (case obh => omega))
  | ((with_reducible refine' g_nT ?obh ?_); (case obh => omega))
  | ((with_reducible refine' g_TD ?obh ?_); (case obh => omega))
  | ((with_reducible refine' g_FD ?obh ?_); (case obh => omega))
  | ((with_reducible refine' g_ixUL ?obh ?obi ?_); (case obh => walk_at "obl"); (case obi => exact atI_nn (by omega) (by rfl)))
  | ((with_reducible refine' g_setLS ?obs ?obh ?obi ?_); (case obs => assumption); (case obh => assumption); (case obi => rfl); intro _ _ _)
  | ((with_reducible refine' g_newT ?obs ?obh ?obi ?obj ?_); (case obs => assumption); (case obh => walk_at "obds"); (case obi => rfl); (case obj => exact Nat.le_of_ble_eq_true rfl); intro _ _ _ _)
  | ((with_reducible refine' g_newL ?obs ?obj ?_); (case obs => assumption); (case obj => exact Nat.le_of_ble_eq_true rfl); intro _ _ _ _)
  | ((with_reducible refine' isi_tup ?obh ?_); (case obh => walk_at "obt"))
  | ((with_reducible refine' g_lenT ?obh ?_); (case obh => walk_at "obt"))
  | ((with_reducible refine' g_unpT ?obh ?obi ?_); (case obh => walk_at "obt"); (case obi => rfl))
  | ((with_reducible refine' g_divmod ?obs ?obh ?_); (case obs => assumption); (case obh => exact cdivp_ok (by omega) (by omega) (by omega)); intro _ _ _ _)
  | ((with_reducible refine' g_unpD ?obh ?obi ?obj ?_); (case obh => walk_at "obd"); (case obi => walk_at "obsc"); (case obj => rfl))
  | with_reducible refine g_att ?_)
local macro_rules | `(tactic| walk_at "ob") => `(tactic| first
  | walk_at "ob1"
  | refine use_is_integer ?_
  | refine use_is_within ?_
  | with_reducible refine g_lstRg ?_
  | with_reducible refine g_rg1 ?_
  | with_reducible refine g_rg2 ?_
  | with_reducible refine g_tTru ?_
  | ((with_reducible refine' g_truL ?obh ?_); (case obh => walk_at "obl"))
  | ((with_reducible refine' g_ixUT ?obh ?obi ?_); (case obh => walk_at "obt"); (case obi => rfl))
  | with_reducible refine g_forZ ?_
  | with_reducible refine g_forR2 ?_
  | with_reducible refine g_forE ?_
  | with_reducible refine g_lcZ ?_)
section
variable {w : World} {K : Frag} {mg : Str → Option Value} {base : Heap}
/-! the greatest sum at most x, the least sum at least x -/
def sumsG (notes : List N) : List Int := (lotG notes 0 notes.length).map (·.1)
def IsMx (s : List Int) (x : Int) : Option Int → Prop
  | none => ∀ t ∈ s, ¬ t ≤ x
  | some m => m ∈ s ∧ m ≤ x ∧ ∀ t ∈ s, t ≤ x → t ≤ m
def IsMn (s : List Int) (x : Int) : Option Int → Prop
  | none => ∀ t ∈ s, ¬ x ≤ t
  | some m => m ∈ s ∧ x ≤ m ∧ ∀ t ∈ s, x ≤ t → m ≤ t
def oD : Option Int → PyData
  | none => .none
  | some m => .int m
def srt (l : List Lt) : List Int := (l.map (·.1)).mergeSort fun a b => decide (a ≤ b)
theorem srt_mem {l : List Lt} {t : Int} : t ∈ srt l ↔ ∃ r ∈ l, r.1 = t := by
  unfold srt
  rw [(List.mergeSort_perm _ _).mem_iff, List.mem_map]
theorem srt_up (l : List Lt) : (srt l).Pairwise (· ≤ ·) := by
  have := List.pairwise_mergeSort (le := fun a b : Int => decide (a ≤ b)) (fun a b c h1 h2 => by simp only [decide_eq_true_eq] at *; omega) (fun a b => by simp only [Bool.or_eq_true, decide_eq_true_eq]; omega) (l.map (·.1))
  exact this.imp fun h => of_decide_eq_true h
theorem srt_len (l : List Lt) : (srt l).length = l.length := by
  unfold srt
  rw [List.length_mergeSort, List.length_map]
theorem sums_split (notes : List N) (m : Nat) (hm : m ≤ notes.length) (t : Int) : t ∈ sumsG notes ↔ ∃ a ∈ srt (lotG notes 0 m), ∃ b ∈ srt (lotG notes m (notes.length - m)), t = a + b := by
  have hp := lotG_split notes m (notes.length - m)
  rw [show m + (notes.length - m) = notes.length by omega] at hp
  unfold sumsG
  rw [← (hp.map (·.1)).mem_iff]
  constructor
  · intro h
    obtain ⟨r, hr, rfl⟩ := List.mem_map.mp h
    obtain ⟨a, ha, hr⟩ := List.mem_flatMap.mp hr
    obtain ⟨b, hb, rfl⟩ := List.mem_map.mp hr
    exact ⟨a.1, srt_mem.mpr ⟨a, ha, rfl⟩, b.1, srt_mem.mpr ⟨b, hb, rfl⟩, rfl⟩
  · rintro ⟨a, ha, b, hb, rfl⟩
    obtain ⟨ra, hra, rfl⟩ := srt_mem.mp ha
    obtain ⟨rb, hrb, rfl⟩ := srt_mem.mp hb
    exact List.mem_map.mpr ⟨joinL ra rb, List.mem_flatMap.mpr ⟨ra, hra, List.mem_map.mpr ⟨rb, hrb, rfl⟩⟩, rfl⟩
/-- behind some rows of ahead -/
structure Two (A B : List Int) (x : Int) (i : Nat) (be ab : List Int) (c : Nat) : Prop where
  cl : c ≤ B.length
  up : ∀ a, A[i]? = some a → ∀ j, c ≤ j → ∀ b, B[j]? = some b → x ≤ a + b
  b1 : ∀ t ∈ be, t < x ∧ ∃ a ∈ A, ∃ b ∈ B, t = a + b
  a1 : ∀ t ∈ ab, x ≤ t ∧ ∃ a ∈ A, ∃ b ∈ B, t = a + b
  b2 : ∀ a ∈ A.take i, ∀ b ∈ B, a + b < x → ∃ t ∈ be, a + b ≤ t
  a2 : ∀ a ∈ A.take i, ∀ b ∈ B, x ≤ a + b → ∃ t ∈ ab, t ≤ a + b
  bl : be.length ≤ i
  al : ab.length ≤ i
theorem Two.start (A B : List Int) (x : Int) : Two A B x 0 [] [] B.length :=
  ⟨Nat.le_refl _, fun _ _ j hj b hb => by have := (List.getElem?_eq_some_iff.mp hb).1; omega, fun _ h => (nomatch h), fun _ h => (nomatch h), fun _ h => (nomatch h), fun _ h => (nomatch h), Nat.le_refl _, Nat.le_refl _⟩
theorem sorted_at {B : List Int} (hB : B.Pairwise (· ≤ ·)) {i j : Nat} {a b : Int} (ha : B[i]? = some a) (hb : B[j]? = some b) (h : i ≤ j) : a ≤ b := by
  obtain ⟨h1, rfl⟩ := List.getElem?_eq_some_iff.mp ha
  obtain ⟨h2, rfl⟩ := List.getElem?_eq_some_iff.mp hb
  rcases Nat.lt_or_eq_of_le h with h | h
  · exact List.pairwise_iff_getElem.mp hB i j h1 h2 h
  · cases h
    exact Int.le_refl _
/-- one more row -/
theorem Two.step {A B : List Int} {x : Int} {i : Nat} {be ab be2 ab2 : List Int} {c c2 : Nat} {a : Int} (t : Two A B x i be ab c) (hA : A.Pairwise (· ≤ ·)) (hB : B.Pairwise (· ≤ ·)) (ha : A[i]? = some a) (hc : c2 ≤ B.length) (hup : ∀ j, c2 ≤ j → ∀ b, B[j]? = some b → x ≤ a + b)
    (hbe : (c2 = 0 ∧ be2 = be) ∨ ∃ b, 0 < c2 ∧ B[c2 - 1]? = some b ∧ a + b < x ∧ be2 = be ++ [a + b]) (hab : (c2 = B.length ∧ ab2 = ab) ∨ ∃ b, B[c2]? = some b ∧ ab2 = ab ++ [a + b]) :
    Two A B x (i + 1) be2 ab2 c2 := by
  have hmA := List.mem_of_getElem? ha
  have htk : A.take (i + 1) = A.take i ++ [a] := by rw [List.take_add_one, ha]; rfl
  refine ⟨hc, fun a' ha' j hj b hb => ?_, fun u hu => ?_, fun u hu => ?_, fun a' ha' b hb hlt => ?_, fun a' ha' b hb hle => ?_, ?_, ?_⟩
  · have := sorted_at hA ha ha' (Nat.le_succ i)
    have := hup j hj b hb
    omega
  · rcases hbe with ⟨_, rfl⟩ | ⟨b, _, h1, h2, rfl⟩
    · exact t.b1 u hu
    · rcases List.mem_append.mp hu with hu | hu
      · exact t.b1 u hu
      · rw [List.mem_singleton.mp hu]
        exact ⟨h2, a, hmA, b, List.mem_of_getElem? h1, rfl⟩
  · rcases hab with ⟨_, rfl⟩ | ⟨b, h1, rfl⟩
    · exact t.a1 u hu
    · rcases List.mem_append.mp hu with hu | hu
      · exact t.a1 u hu
      · rw [List.mem_singleton.mp hu]
        exact ⟨hup c2 (Nat.le_refl _) b h1, a, hmA, b, List.mem_of_getElem? h1, rfl⟩
  · have sub : ∀ u ∈ be, u ∈ be2 := fun u hu => by
      rcases hbe with ⟨_, rfl⟩ | ⟨b, _, _, _, rfl⟩
      · exact hu
      · exact List.mem_append_left _ hu
    rw [htk] at ha'
    rcases List.mem_append.mp ha' with ha' | ha'
    · obtain ⟨u, h1, h2⟩ := t.b2 a' ha' b hb hlt
      exact ⟨u, sub u h1, h2⟩
    · rw [List.mem_singleton.mp ha'] at hlt ⊢
      obtain ⟨j, hj⟩ := List.mem_iff_getElem?.mp hb
      have hjc : j < c2 := by
        rcases Nat.lt_or_ge j c2 with h | h
        · exact h
        · have := hup j h b hj
          omega
      rcases hbe with ⟨h0, _⟩ | ⟨b', h0, h1, h2, rfl⟩
      · omega
      · refine ⟨a + b', List.mem_append_right _ (List.mem_singleton.mpr rfl), ?_⟩
        have := sorted_at hB hj h1 (by omega)
        omega
  · have sub : ∀ u ∈ ab, u ∈ ab2 := fun u hu => by
      rcases hab with ⟨_, rfl⟩ | ⟨b, _, rfl⟩
      · exact hu
      · exact List.mem_append_left _ hu
    rw [htk] at ha'
    rcases List.mem_append.mp ha' with ha' | ha'
    · obtain ⟨u, h1, h2⟩ := t.a2 a' ha' b hb hle
      exact ⟨u, sub u h1, h2⟩
    · rw [List.mem_singleton.mp ha'] at hle ⊢
      obtain ⟨j, hj⟩ := List.mem_iff_getElem?.mp hb
      have hjB := (List.getElem?_eq_some_iff.mp hj).1
      have hjc : c2 ≤ j := by
        rcases Nat.lt_or_ge j c2 with h | h
        · rcases hbe with ⟨h0, _⟩ | ⟨b', h0, h1, h2, _⟩
          · omega
          · have := sorted_at hB hj h1 (by omega)
            omega
        · exact h
      rcases hab with ⟨h0, _⟩ | ⟨b', h1, rfl⟩
      · omega
      · refine ⟨a + b', List.mem_append_right _ (List.mem_singleton.mpr rfl), ?_⟩
        have := sorted_at hB h1 hj hjc
        omega
  · rcases hbe with ⟨_, rfl⟩ | ⟨b, _, _, _, rfl⟩
    · exact Nat.le_succ_of_le t.bl
    · rw [List.length_append]
      exact Nat.succ_le_succ t.bl
  · rcases hab with ⟨_, rfl⟩ | ⟨b, _, rfl⟩
    · exact Nat.le_succ_of_le t.al
    · rw [List.length_append]
      exact Nat.succ_le_succ t.al
/-- what stands at the end -/
theorem Two.mx {A B s : List Int} {x : Int} {be ab : List Int} {c : Nat} (t : Two A B x A.length be ab c) (hs : ∀ u, u ∈ s ↔ ∃ a ∈ A, ∃ b ∈ B, u = a + b) :
    (be ++ ab.filter (fun u => decide (u = x)) = [] → IsMx s x none) ∧ ∀ m ∈ be ++ ab.filter (fun u => decide (u = x)), (∀ y ∈ be ++ ab.filter (fun u => decide (u = x)), y ≤ m) → IsMx s x (some m) := by
  have key : ∀ u ∈ s, u ≤ x → ∃ v ∈ be ++ ab.filter (fun u => decide (u = x)), u ≤ v := fun u hu hx => by
    obtain ⟨a, ha, b, hb, rfl⟩ := (hs u).mp hu
    have ha' : a ∈ A.take A.length := by rw [List.take_length]; exact ha
    rcases (by omega : a + b < x ∨ x ≤ a + b) with h | h
    · obtain ⟨v, h1, h2⟩ := t.b2 a ha' b hb h
      exact ⟨v, List.mem_append_left _ h1, h2⟩
    · obtain ⟨v, h1, h2⟩ := t.a2 a ha' b hb h
      have h3 := (t.a1 v h1).1
      exact ⟨v, List.mem_append_right _ (List.mem_filter.mpr ⟨h1, decide_eq_true (by omega)⟩), by omega⟩
  refine ⟨fun e u hu hx => ?_, fun m hm hmax => ⟨?_, ?_, fun u hu hx => ?_⟩⟩
  · obtain ⟨v, hv, _⟩ := key u hu hx
    rw [e] at hv
    cases hv
  · rcases List.mem_append.mp hm with hm | hm
    · exact (hs m).mpr (t.b1 m hm).2
    · exact (hs m).mpr (t.a1 m (List.mem_filter.mp hm).1).2
  · rcases List.mem_append.mp hm with hm | hm
    · have := (t.b1 m hm).1
      omega
    · have := of_decide_eq_true (List.mem_filter.mp hm).2
      omega
  · obtain ⟨v, hv, h⟩ := key u hu hx
    have := hmax v hv
    omega
theorem Two.mn {A B s : List Int} {x : Int} {be ab : List Int} {c : Nat} (t : Two A B x A.length be ab c) (hs : ∀ u, u ∈ s ↔ ∃ a ∈ A, ∃ b ∈ B, u = a + b) :
    (ab = [] → IsMn s x none) ∧ ∀ m ∈ ab, (∀ y ∈ ab, m ≤ y) → IsMn s x (some m) := by
  have key : ∀ u ∈ s, x ≤ u → ∃ v ∈ ab, v ≤ u := fun u hu hx => by
    obtain ⟨a, ha, b, hb, rfl⟩ := (hs u).mp hu
    exact t.a2 a (by rw [List.take_length]; exact ha) b hb hx
  refine ⟨fun e u hu hx => ?_, fun m hm hmin => ⟨(hs m).mpr (t.a1 m hm).2, (t.a1 m hm).1, fun u hu hx => ?_⟩⟩
  · obtain ⟨v, hv, _⟩ := key u hu hx
    rw [e] at hv
    cases hv
  · obtain ⟨v, hv, h⟩ := key u hu hx
    have := hmin v hv
    omega
theorem IsMx.uniq {s : List Int} {x : Int} : ∀ {a b : Option Int}, IsMx s x a → IsMx s x b → a = b
  | none, none, _, _ => rfl
  | none, some m, h1, ⟨h2, h3, _⟩ => absurd h3 (h1 m h2)
  | some m, none, ⟨h2, h3, _⟩, h1 => absurd h3 (h1 m h2)
  | some m, some k, ⟨h1, h2, h3⟩, ⟨h4, h5, h6⟩ => by
    have := h3 k h4 h5
    have := h6 m h1 h2
    rw [show m = k by omega]
theorem IsMn.uniq {s : List Int} {x : Int} : ∀ {a b : Option Int}, IsMn s x a → IsMn s x b → a = b
  | none, none, _, _ => rfl
  | none, some m, h1, ⟨h2, h3, _⟩ => absurd h3 (h1 m h2)
  | some m, none, ⟨h2, h3, _⟩, h1 => absurd h3 (h1 m h2)
  | some m, some k, ⟨h1, h2, h3⟩, ⟨h4, h5, h6⟩ => by
    have := h3 k h4 h5
    have := h6 m h1 h2
    rw [show m = k by omega]
end
end LAW

set_option Elab.async false
set_option linter.all false
set_option maxRecDepth 100000
namespace LAW
open PySem PySem.Spec PyProof.Rows L2 PySem.W OB
local macro_rules | `(tactic| walk_at "obc") => `(tactic| first
  | exact Or.inl ⟨by omega, by omega⟩
  | exact Or.inr ⟨by omega, by omega⟩
  | exact cdiv_ok (by omega) (by omega)
  | (show (0 : Int) < _; omega)
  | exact ⟨by omega, by decide⟩
  | exact ⟨by decide, by decide⟩)
local macro_rules | `(tactic| walk_at "obat") => `(tactic| first
  | exact Sy.at (by assumption) 0 rfl | exact Sy.at (by assumption) 1 rfl | exact Sy.at (by assumption) 2 rfl | exact Sy.at (by assumption) 3 rfl
  | exact Sy.at (by assumption) 4 rfl | exact Sy.at (by assumption) 5 rfl | exact Sy.at (by assumption) 6 rfl | exact Sy.at (by assumption) _ (by assumption) | exact Sy.at (by assumption) (_ + 1) (by assumption) | exact Sy.at (by assumption) (_ + 2) (by assumption))
local macro_rules | `(tactic| walk_at "obt") => `(tactic| first
  | exact Sy.tqs (by assumption) 0 rfl | exact Sy.tqs (by assumption) 1 rfl | exact Sy.tqs (by assumption) 2 rfl | exact Sy.tqs (by assumption) 3 rfl | exact Sy.tqs (by assumption) 4 rfl | exact Sy.tqs (by assumption) 5 rfl
  | exact Sy.tqs (by assumption) 6 rfl | exact Sy.tqs (by assumption) 7 rfl | assumption)
local macro_rules | `(tactic| walk_at "obl") => `(tactic| first
  | exact SqL.of (by walk_at "obat")
  | exact Sy.sq (by assumption) 0 rfl | exact Sy.sq (by assumption) 1 rfl | exact Sy.sq (by assumption) 2 rfl | exact Sy.sq (by assumption) 3 rfl | exact Sy.sq (by assumption) _ (by assumption))
local macro_rules | `(tactic| walk_at "obd") => `(tactic| first
  | exact Dp.int _ | exact Dp.bl _ | exact Dp.str _ | exact Dp.non
  | exact Sy.dp (by assumption) 0 rfl | exact Sy.dp (by assumption) 1 rfl | exact Sy.dp (by assumption) 2 rfl | exact Sy.dp (by assumption) 3 rfl
  | exact Sy.dp (by assumption) 4 rfl | exact Sy.dp (by assumption) 5 rfl | exact Sy.dp (by assumption) 6 rfl | exact Sy.dp (by assumption) 7 rfl
  | exact Sy.dp (by assumption) 8 rfl | exact Sy.dp (by assumption) 9 rfl | exact Sy.dp (by assumption) _ (by assumption) | assumption)
local macro_rules | `(tactic| walk_at "obds") => `(tactic| first
  | exact DpAll.nil
  | (refine' DpAll.cons ?ob1 ?ob2; (case ob1 => walk_at "obd"); (case ob2 => walk_at "obds"))
  | exact Sy.dps (by assumption) 0 rfl | exact Sy.dps (by assumption) 1 rfl | exact Sy.dps (by assumption) 2 rfl | exact Sy.dps (by assumption) 3 rfl | assumption)
local macro_rules | `(tactic| walk_at "obsc") => `(tactic| first
  | exact ScL.nil
  | ((first | refine' ScL.int ?obz | refine' ScL.str ?obz | refine' ScL.bl ?obz | refine' ScL.non ?obz); (case obz => walk_at "obsc")))
local macro_rules | `(tactic| walk_at "ob1") => `(tactic| first
  | ((with_reducible refine' g_var ?obh ?_); (case obh => rfl))
  | with_reducible refine g_c ?_
  | with_reducible refine g_nx ?_
  | with_reducible refine g_rt ?_
  | with_reducible refine g_bk ?_
  | with_reducible refine g_ct ?_
  | with_reducible refine g_op ?_
  | with_reducible refine g_I0 ?_
  | with_reducible refine g_test ?_
  | with_reducible refine g_bl ?_
  | with_reducible refine g_blx ?_
  | with_reducible refine g_B ?_
  | with_reducible refine g_seq ?_
  | with_reducible refine g_asg ?_
  | with_reducible refine g_name ?_
  | with_reducible refine g_ifS ?_
  | with_reducible refine g_ret ?_
  | with_reducible refine g_cb ?_
  | with_reducible refine g_cons ?_
  | with_reducible refine g_nil ?_
  | with_reducible refine g_int ?_
  | with_reducible refine g_intB ?_
  | with_reducible refine g_abs ?_
  | with_reducible refine g_max ?_
  | with_reducible refine g_min ?_
  | with_reducible refine g_un ?_
  | with_reducible refine g_U ?_
  | with_reducible refine g_eqI ?_
  | with_reducible refine g_neI ?_
  | with_reducible refine g_eqS ?_
  | with_reducible refine g_neS ?_
  | with_reducible refine g_tt ?_
  | with_reducible refine g_ff ?_
  | with_reducible refine g_next ?_
  | with_reducible refine g_drop ?_
  | with_reducible refine g_if ?_
  | with_reducible refine g_andV ?_
  | with_reducible refine g_orV ?_
  | with_reducible refine g_notV ?_
  | with_reducible refine g_and ?_
  | with_reducible refine g_or ?_
  | with_reducible refine g_not ?_
  | with_reducible refine g_yes ?_
  | with_reducible refine g_chain ?_
  | with_reducible refine g_cg ?_
  | with_reducible refine g_mg ?_
  | with_reducible refine g_kg ?_
  | with_reducible refine g_pg ?_
  | ((with_reducible refine' g_call ?obh ?obj ?_); (case obh => rfl); (case obj => rfl))
  | with_reducible refine g_par ?_
  | with_reducible refine g_par2 ?_
  | with_reducible refine g_par3 ?_
  | with_reducible refine g_par33 ?_
  | with_reducible refine g_gnil ?_
  | with_reducible refine g_gcons ?_
  | with_reducible refine g_gsub ?_
  | with_reducible refine g_ipI ?_
  | with_reducible refine g_rAdd ?_
  | with_reducible refine g_rSub ?_
  | ((with_reducible refine' g_aug ?obh ?_); (case obh => rfl))
  | with_reducible refine g_tup ?_
  | with_reducible refine g_lst ?_
  | with_reducible refine g_bm ?_
  | with_reducible refine g_bm0 ?_
  | with_reducible refine g_sl ?_
  | with_reducible refine g_nopart ?_
  | with_reducible refine g_part ?_
  | with_reducible refine g_pint ?_
  | with_reducible refine isi_int ?_
  | with_reducible refine isi_intB ?_
  | ((with_reducible refine' g_I ?obh ?_); (case obh => walk_at "obc"))
  | ((with_reducible refine' g_tyl ?obh ?_); (case obh => walk_at "obl"))
  | ((with_reducible refine' g_lenL ?obh ?_); (case obh => walk_at "obl"))
  | with_reducible refine g_ne ?_
  | ((with_reducible refine' g_neN' ?obh ?_); (case obh => rfl))
  | with_reducible refine g_ntt ?_
  | with_reducible refine g_nff ?_
  | with_reducible refine g_star ?_
  | with_reducible refine g_att ?_
  | with_reducible refine g_sfld ?_
  | with_reducible refine g_faug ?_
  | with_reducible refine g_fld ?_
  | ((with_reducible refine' g_nF ?obh ?_); (case obh => omega))
  | ((with_reducible refine' g_nT ?obh ?_); (case obh => omega))
  | ((with_reducible refine' g_TD ?obh ?_); (case obh => omega))
  | ((with_reducible refine' g_FD ?obh ?_); (case obh => omega))
  | ((with_reducible refine' g_ixUL ?obh ?obi ?_); (case obh => walk_at "obl"); (case obi => exact atI_nn (by omega) (by rfl)))
  | ((with_reducible refine' g_setLS ?obs ?obh ?obi ?_); (case obs => assumption); (case obh => assumption); (case obi => rfl); intro _ _ _)
  | ((with_reducible refine' g_newT ?obs ?obh ?obi ?obj ?_); (case obs => assumption); (case obh => walk_at "obds"); (case obi => rfl); (case obj => exact Nat.le_of_ble_eq_true rfl); intro _ _ _ _)
  | ((with_reducible refine' g_newL ?obs ?obj ?_); (case obs => assumption); (case obj => exact Nat.le_of_ble_eq_true rfl); intro _ _ _ _)
  | ((with_reducible refine' isi_tup ?obh ?_); (case obh => walk_at "obt"))
  | ((with_reducible refine' g_lenT ?obh ?_); (case obh => walk_at "obt"))
  | ((with_reducible refine' g_unpT ?obh ?obi ?_); (case obh => walk_at "obt"); (case obi => rfl))
  | ((with_reducible refine' g_divmod ?obs ?obh ?_); (case obs => assumption); (case obh => exact cdivp_ok (by omega) (by omega) (by omega)); intro _ _ _ _)
  | ((with_reducible refine' g_unpD ?obh ?obi ?obj ?_); (case obh => walk_at "obd"); (case obi => walk_at "obsc"); (case obj => rfl))
  | with_reducible refine g_att ?_)
local macro_rules | `(tactic| walk_at "ob") => `(tactic| first
  | walk_at "ob1"
  | refine use_is_integer ?_
  | refine use_is_within ?_
  | with_reducible refine g_lstRg ?_
  | with_reducible refine g_rg1 ?_
  | with_reducible refine g_rg2 ?_
  | with_reducible refine g_tTru ?_
  | ((with_reducible refine' g_truL ?obh ?_); (case obh => walk_at "obl"))
  | ((with_reducible refine' g_ixUT ?obh ?obi ?_); (case obh => walk_at "obt"); (case obi => rfl))
  | with_reducible refine g_forZ ?_
  | with_reducible refine g_forR2 ?_
  | with_reducible refine g_forE ?_
  | with_reducible refine g_lcZ ?_)
section
variable {w : World} {K : Frag} {mg : Str → Option Value} {base : Heap}
def oV : Option Int → V
  | none => .non
  | some m => .int m
theorem dp_oV {H : Hp} : ∀ o : Option Int, L2.Dp K H (oV o) (oD o)
  | none => .non
  | some m => .int m
def sp_near_sums (K : Frag) : Sp := fun vs H Q E => vs.length = 2 ∧ ∃ (F : List (Addr × HO)) (G : List Ft) (p : Addr) (rs : NS) (x : Int), vs = [.ref p, .int x] ∧ Sy K F G H ∧ SqT K H p (NR rs) ∧ (∀ q ∈ NT rs, H q.1 = some (.tup q.2)) ∧ NG rs ∧ rs.length ≤ 13 ∧
  ∀ a b t H', IsMx (sumsG (rs.map (·.2))) x a → IsMn (sumsG (rs.map (·.2))) x b → Sy K F (.dat [.ref t] [.tuple [oD a, oD b]] :: G) H' → Q (.ref t) H'
abbrev names_near_sums : List Str := ["notes", "amount", "ahead", "behind", "rows", "total", "lot", "below", "above", "at"]
theorem sc_near_sums : FnScope names_near_sums ["notes", "amount"] (defScope (top 30)) := ⟨rfl, rfl, rfl, by decide +kernel, rfl, by decide +kernel, by decide +kernel⟩
set_option maxHeartbeats 4000000 in
theorem ok_near_sums (T : Tx K mg) : FG P w K mg base CX0 7 T.a_near_sums T.d_near_sums ["notes", "amount"] (sp_near_sums K) := by
  refine OB.Fun.fg T.F_near_sums sc_near_sums (fun vs H Q E h => h.1) (fun cdv A out s H vs Q E g h => ?_)
  obtain ⟨_, F, G0, p, rs, x, rfl, S0, h1, h2, ng, hl, k⟩ := h
  refine ⟨_, (pss_cons (ps_expr (pe_cg (ok_check_lots T) (g.mono (by decide : 6 ≤ 6)) (by rfl) T.m_check_lots T.F_check_lots.kp (OB.Fun.bd T.F_check_lots (ps := ["notes", "amount", "most"]) (n := 3) (ks := []) (ix := [0, 1, 2]) (fun _ _ _ _ _ _ us ws h1 h2 => match us, ws, h1, h2 with | [_, _, _], [], _, _ => rfl)) pass0 (pa_cons (pv 0) (pa_cons (pv 1) (pa_cons (pe_glob (v := .int 24) (by rfl) T.g_MOST_ONE_LOT ⟨_, rfl⟩) pa_nil))) pk_nil))
      (pss_cons (ps_asg (pe_lc (own := [("rows", 4)]) (tt := tYes) rfl sc_near_sums.nd (pi_seq (pe_cg (ok_halves T) (g.mono (by decide : 2 ≤ 6)) (by rfl) T.m_halves T.F_halves.kp (OB.Fun.bd T.F_halves (ps := ["notes"]) (n := 1) (ks := []) (ix := [0]) (fun _ _ _ _ _ _ us ws h1 h2 => match us, ws, h1, h2 with | [_], [], _, _ => rfl)) pass0 (pa_cons (pv 0) pa_nil) pk_nil)) (blkOk_by (N := names_near_sums) (sc := defScope (top 30)) (own := [("rows", 4)]) (by decide +kernel)) (fun _ _ _ _ _ => (pg_name (i := 4) sc_near_sums.nd rfl (by first | exact Or.inl rfl | exact Or.inr rfl))) (fun _ _ _ _ _ => pts_nil) (fun _ _ _ _ _ => (pe_callB (toK (r := rSortD) (K := K) rfl (c_sortD g.hu64)) (by rfl) T.n_sorted (by decide +kernel) (pa_cons (pe_lc (own := [("total", 5), ("lot", 6)]) (tt := tYes) rfl sc_near_sums.nd (pi_seqK (K := K) rfl (pv 4)) (blkOk_by (N := names_near_sums) (own := [("total", 5), ("lot", 6)]) (by show blkC _ (relS _ (defScope (top 30))) _ _ = true; decide +kernel)) (fun _ _ _ _ _ => (pg_tupK (K := K) rfl (n := 2) rfl (pgs_cons (pg_name (i := 5) sc_near_sums.nd rfl (by first | exact Or.inl rfl | exact Or.inr rfl)) (pgs_cons (pg_name (i := 6) sc_near_sums.nd rfl (by first | exact Or.inl rfl | exact Or.inr rfl)) pgs_nil)))) (fun _ _ _ _ _ => pts_nil) (fun _ _ _ _ _ => (pv 5))) pa_nil)))) (pg_lstK (K := K) rfl (n := 2) rfl (pgs_cons (pg_name (i := 2) sc_near_sums.nd rfl (by first | exact Or.inl rfl | exact Or.inr rfl)) (pgs_cons (pg_name (i := 3) sc_near_sums.nd rfl (by first | exact Or.inl rfl | exact Or.inr rfl)) pgs_nil))))
      (pss_cons (ps_par3 (i := 7) (j := 8) (l := 9) rfl sc_near_sums.nd rfl rfl rfl (by decide) (by decide) (by decide) rfl rfl rfl (pa_cons (pe_lst pa_nil) (pa_cons (pe_lst pa_nil) (pa_cons (pe_callB (toK (r := OB.rLen) (K := K) rfl c_len) (by rfl) T.n_len PySem.boot_len (pa_cons (pv 3) pa_nil)) pa_nil))) (by rfl))
      (pss_cons (ps_for PassesOwn.never rfl (pi_seq (pv 2)) (pg_name (i := 5) sc_near_sums.nd rfl (by first | exact Or.inl rfl | exact Or.inr rfl))
      (pss_cons (ps_while PassesOwn.never (PW.pt (pw_and (pt_cmpR op_gt (pv 9) pe_int (nomark _)) (pw_and1 (pt_cmpR op_ge (pe_op op_add (pv 5) (pe_ix (ix_UK (K := K) rfl) (pv 3) (pe_op op_sub (pv 9) pe_int) (fun _ _ => rfl))) (pv 1) (nomark _)))))
      (pss_one (ps_aug (i := 9) sc_near_sums.nd rfl (by first | exact Or.inl rfl | exact Or.inr rfl) pe_int ip_sub)))
      (pss_cons (ps_if (pt_cmpR op_lt (pv 9) (pe_callB (toK (r := OB.rLen) (K := K) rfl c_len) (by rfl) T.n_len PySem.boot_len (pa_cons (pv 3) pa_nil)) (nomark _)) (pss_one (ps_expr (pe_bm PySem.F.plainAttrs_list PySem.F.slot_list_append PySem.F.type_list_append mt_append (pv 8) (pa_cons (pe_op op_add (pv 5) (pe_ix (ix_UK (K := K) rfl) (pv 3) (pv 9) (fun _ _ => rfl))) pa_nil)))) pss_nil)
      (pss_one (ps_if (pt_cmpR op_gt (pv 9) pe_int (nomark _)) (pss_one (ps_expr (pe_bm PySem.F.plainAttrs_list PySem.F.slot_list_append PySem.F.type_list_append mt_append (pv 7) (pa_cons (pe_op op_add (pv 5) (pe_ix (ix_UK (K := K) rfl) (pv 3) (pe_op op_sub (pv 9) pe_int) (fun _ _ => rfl))) pa_nil)))) pss_nil)))))
      (pss_cons (ps_expr (pe_bm PySem.F.plainAttrs_list PySem.F.slot_list_extend PySem.F.type_list_extend mt_extend (pv 7) (pa_cons (pe_lc (own := [("total", 5)]) rfl sc_near_sums.nd (pi_seq (pv 8)) (blkOk_by (N := names_near_sums) (sc := defScope (top 30)) (own := [("total", 5)]) (by decide +kernel)) (fun _ _ _ _ _ => (pg_name (i := 5) sc_near_sums.nd rfl (by first | exact Or.inl rfl | exact Or.inr rfl))) (fun _ _ _ _ _ => pts_one (pt_cmpR op_eq (pv 5) (pv 1) (nomark _))) (fun _ _ _ _ _ => (pv 5))) pa_nil)))
      (pss_one (ps_ret (pe_tup (pa_cons (pe_ifExp (pt_tru (K := K) rfl (pv 7) (fun _ => rfl)) (pe_callB (toK (r := OB.rMaxU) (K := K) rfl (c_maxU rfl)) (by rfl) T.n_max (by decide +kernel) (pa_cons (pv 7) pa_nil)) pe_non) (pa_cons (pe_ifExp (pt_tru (K := K) rfl (pv 8) (fun _ => rfl)) (pe_callB (toK (r := L2.rMin) (K := K) rfl (cr_min rfl)) (by rfl) T.n_min (by decide +kernel) (pa_cons (pv 8) pa_nil)) pe_non) pa_nil)))))))))), ?_⟩
  refine g_start (σ := [some _, some _, none, none, none, none, none, none, none, none]) rfl ?_
  have S := (S0.add (.tt (NT rs)) h2).add (.tq p (NR rs)) h1
  clear S0 h1 h2
  repeat walk_at "ob"
  refine use_check_lots S (S.tqs 0 rfl) (S.tts 1 rfl) ng (by omega) (by omega) fun H1 S1 => ?_
  clear S
  repeat walk_at "ob"
  refine g_lcE2 ?_
  repeat walk_at "ob"
  refine use_halves S1 (S1.tqs 0 rfl) (S1.tts 1 rfl) (by omega) fun t q1 q2 v1 v2 H2 S2 => ?_
  clear S1
  have hsum := sums_split (rs.map (·.2)) (rs.length / 2) (by rw [List.length_map]; omega)
  rw [show (rs.map (·.2)).length = rs.length from List.length_map ..] at hsum
  have h1l : (lotG (rs.map (·.2)) 0 (rs.length / 2)).length ≤ 64 := by rw [lotG_len]; exact Nat.le_trans (Nat.pow_le_pow_right (by decide) (show _ ≤ 6 by omega)) (by decide)
  have h2l : (lotG (rs.map (·.2)) (rs.length / 2) (rs.length - rs.length / 2)).length ≤ 4096 := by rw [lotG_len]; exact Nat.le_trans (Nat.pow_le_pow_right (by decide) (show _ ≤ 12 by omega)) (by decide)
  generalize lotG (rs.map (·.2)) 0 (rs.length / 2) = LA at *
  generalize lotG (rs.map (·.2)) (rs.length / 2) (rs.length - rs.length / 2) = LB at *
  refine g_lcVT (a := t) (xs := [.ref q1, .ref q2]) (fun i F' vs => match i with
    | 0 => F' = (q2, HO.lst v2) :: (q1, HO.lst v1) :: F ∧ vs = []
    | 1 => ∃ r1, F' = (r1, HO.lst ((srt LA).map V.int)) :: (q2, HO.lst v2) :: (q1, HO.lst v1) :: F ∧ vs = [.ref r1]
    | _ => ∃ r1 r2, F' = (r2, HO.lst ((srt LB).map V.int)) :: (r1, HO.lst ((srt LA).map V.int)) :: (q2, HO.lst v2) :: (q1, HO.lst v1) :: F ∧ vs = [.ref r1, .ref r2]) S2 (fun Q' q => by walk_at "ob"; exact q) ⟨rfl, rfl⟩ (fun i F' vs H' _ S => S.tqs 0 rfl) (fun i F' vs h => ?_) ?_ ?_
  · match i, h with
    | 0, ⟨_, e⟩ => rw [e]; decide
    | 1, ⟨_, _, e⟩ => rw [e]; simp
    | (i + 2), ⟨_, _, _, e⟩ => rw [e]; simp
  · intro i y hy Dp H3 F3 vs QE QR hi S3 kE kR
    match i, hy, hi, kE, kR with
    | 0, hy, hi, kE, kR =>
      obtain ⟨rfl, rfl⟩ := hi
      cases hy
      repeat walk_at "ob"
      refine ⟨rfl, ?_⟩
      repeat walk_at "ob"
      refine g_lcS (a := q1) (xs := v1) true (fun j F' ds => F' = (Dp, .lst []) :: (q2, .lst v2) :: (q1, .lst v1) :: F ∧ ds = (LA.take j).map fun r => PyData.int r.1) S3 (fun Q' q => by walk_at "ob"; exact q) ⟨rfl, rfl⟩ (fun j F' ds H' hi S => SqL.of ((hi.1 ▸ S).st (q1, .lst v1) (by simp))) (fun j F' ds hi => by
        rw [hi.2, List.length_map, List.length_take]; omega) ?_ ?_
      · intro j y hy Dp2 H4 F' ws ds QE' QR' hj S4 kE' kR'
        obtain ⟨rfl, rfl⟩ := hj
        obtain ⟨r, hr, hdr⟩ := dps_map (S4.ft (.dat v1 (rowsD LA)) (by simp)).1 hy
        obtain ⟨t2, q, rfl, ht, hq⟩ := row_open hdr
        repeat walk_at "ob"
        refine ⟨rfl, ?_⟩
        repeat walk_at "ob"
        refine kE' _ (.int r.1) _ _ ⟨rfl, ?_⟩ (S4.fact (dps_one (L2.Dp.int _)) rfl)
        rw [List.take_add_one, hr, List.map_append]
        rfl
      · intro Dp2 H4 F' ws ds hD2 hj S4
        obtain ⟨rfl, rfl⟩ := hj
        have hv1 : v1.length = LA.length := by
          rw [dps_length (S4.ft (.dat v1 (rowsD LA)) (by simp)).1]
          exact List.length_map ..
        rw [hv1, List.take_length, show (LA.map fun r => PyData.int r.1) = (LA.map (·.1)).map PyData.int by rw [List.map_map]; rfl] at S4
        repeat walk_at "ob"
        refine g_sortD S4 (SqL.of (S4.at 0 rfl)) (S4.dps 0 rfl) (S4.dpi 0 rfl) (AllAlike.of fun a b => rfl) (Sortable.others (enc := PyData.int) fun b => ⟨fun z => PyData.noConfusion z, fun xs z => PyData.noConfusion z⟩) (fun d hd => by
          obtain ⟨z, _, rfl⟩ := List.mem_map.mp hd
          exact Nat.zero_le _) (by rw [List.length_map, List.length_map]; omega) fun r1 H5 ys S5 => ?_
        rw [sort_ints] at S5
        have := dps_intsV (S5.dps 0 rfl)
        subst this
        exact kE _ _ H5 ⟨r1, rfl, rfl⟩ S5.drop.drop.swap.less.swap
    | 1, hy, hi, kE, kR =>
      obtain ⟨ra, rfl, rfl⟩ := hi
      cases hy
      repeat walk_at "ob"
      refine ⟨rfl, ?_⟩
      repeat walk_at "ob"
      refine g_lcS (a := q2) (xs := v2) true (fun j F' ds => F' = (Dp, .lst [.ref ra]) :: (ra, .lst ((srt LA).map V.int)) :: (q2, .lst v2) :: (q1, .lst v1) :: F ∧ ds = (LB.take j).map fun r => PyData.int r.1) S3 (fun Q' q => by walk_at "ob"; exact q) ⟨rfl, rfl⟩ (fun j F' ds H' hi S => SqL.of ((hi.1 ▸ S).st (q2, .lst v2) (by simp))) (fun j F' ds hi => by
        rw [hi.2, List.length_map, List.length_take]; omega) ?_ ?_
      · intro j y hy Dp2 H4 F' ws ds QE' QR' hj S4 kE' kR'
        obtain ⟨rfl, rfl⟩ := hj
        obtain ⟨r, hr, hdr⟩ := dps_map (S4.ft (.dat v2 (rowsD LB)) (by simp)).1 hy
        obtain ⟨t2, q, rfl, ht, hq⟩ := row_open hdr
        repeat walk_at "ob"
        refine ⟨rfl, ?_⟩
        repeat walk_at "ob"
        refine kE' _ (.int r.1) _ _ ⟨rfl, ?_⟩ (S4.fact (dps_one (L2.Dp.int _)) rfl)
        rw [List.take_add_one, hr, List.map_append]
        rfl
      · intro Dp2 H4 F' ws ds hD2 hj S4
        obtain ⟨rfl, rfl⟩ := hj
        have hv1 : v2.length = LB.length := by
          rw [dps_length (S4.ft (.dat v2 (rowsD LB)) (by simp)).1]
          exact List.length_map ..
        rw [hv1, List.take_length, show (LB.map fun r => PyData.int r.1) = (LB.map (·.1)).map PyData.int by rw [List.map_map]; rfl] at S4
        repeat walk_at "ob"
        refine g_sortD S4 (SqL.of (S4.at 0 rfl)) (S4.dps 0 rfl) (S4.dpi 0 rfl) (AllAlike.of fun a b => rfl) (Sortable.others (enc := PyData.int) fun b => ⟨fun z => PyData.noConfusion z, fun xs z => PyData.noConfusion z⟩) (fun d hd => by
          obtain ⟨z, _, rfl⟩ := List.mem_map.mp hd
          exact Nat.zero_le _) (by rw [List.length_map, List.length_map]; omega) fun r1 H5 ys S5 => ?_
        rw [sort_ints] at S5
        have := dps_intsV (S5.dps 0 rfl)
        subst this
        exact kE _ _ H5 ⟨ra, r1, rfl, rfl⟩ S5.drop.drop.swap.less.swap
  · intro Dp H3 F3 vs hD hi S3
    obtain ⟨r1, r2, rfl, rfl⟩ := hi
    have S4 := S3.drop.drop.drop.drop.drop.swap
    clear S3 S2
    have S5 := S4.swap.less.swap
    repeat walk_at "ob"
    refine g_unpL (SqL.of (S4.at 1 rfl)) rfl ?_
    clear S4
    repeat walk_at "ob"
    rename_i bl _ _ _ al H6 _ S6
    have hlA : ((srt LA).map V.int).length = (srt LA).length := List.length_map ..
    have hlB : ((srt LB).map V.int).length = (srt LB).length := List.length_map ..
    have hA := srt_up LA
    have hB := srt_up LB
    have hlA2 := srt_len LA
    have hlB2 := srt_len LB
    clear S5
    generalize srt LA = A at *
    generalize srt LB = B at *
    refine g_forS true (fun i σ' H' => ∃ be ab c v5, σ' = [some (.ref p), some (.int x), some (.ref r1), some (.ref r2), none, v5, none, some (.ref bl), some (.ref al), some (.int ((c : Nat) : Int))] ∧ Two A B x i be ab c ∧ Sy K ((al, .lst (ab.map V.int)) :: (bl, .lst (be.map V.int)) :: (r1, .lst (A.map V.int)) :: (r2, .lst (B.map V.int)) :: (q2, .lst v2) :: (q1, .lst v1) :: F) G0 H') (fun Q' q => by walk_at "ob"; exact q) ⟨[], [], B.length, none, by rw [← hlB]; rfl, Two.start A B x, S6⟩ (fun i σ' H' ⟨be, ab, c, v5, e, tw, S7⟩ => SqL.of (S7.at 2 rfl)) ?_ ?_
    · clear S6
      rintro i y σ' H7 hy ⟨be, ab, c, v5, rfl, tw, S7⟩
      rw [List.getElem?_map] at hy
      obtain ⟨a, ha, rfl⟩ := Option.map_eq_some_iff.mp hy
      have hiA := (List.getElem?_eq_some_iff.mp ha).1
      have hcl := tw.cl
      have hbl := tw.bl
      have hal := tw.al
      repeat walk_at "ob"
      refine viaS (fun σ' H' => ∃ c2 : Nat, σ' = [some (.ref p), some (.int x), some (.ref r1), some (.ref r2), none, some (.int a), none, some (.ref bl), some (.ref al), some (.int ((c2 : Nat) : Int))] ∧ c2 ≤ c ∧ (∀ j, c2 ≤ j → ∀ b, B[j]? = some b → x ≤ a + b) ∧ (c2 = 0 ∨ ∃ b, 0 < c2 ∧ B[c2 - 1]? = some b ∧ a + b < x) ∧ Sy K ((al, .lst (ab.map V.int)) :: (bl, .lst (be.map V.int)) :: (r1, .lst (A.map V.int)) :: (r2, .lst (B.map V.int)) :: (q2, .lst v2) :: (q1, .lst v1) :: F) G0 H') (fun N A' B' C' hN => ?_) ?_
      · refine ⟨fun m σ' H' => ∃ c2 : Nat, m = c2 ∧ σ' = [some (.ref p), some (.int x), some (.ref r1), some (.ref r2), none, some (.int a), none, some (.ref bl), some (.ref al), some (.int ((c2 : Nat) : Int))] ∧ c2 ≤ c ∧ (∀ j, c2 ≤ j → ∀ b, B[j]? = some b → x ≤ a + b) ∧ Sy K ((al, .lst (ab.map V.int)) :: (bl, .lst (be.map V.int)) :: (r1, .lst (A.map V.int)) :: (r2, .lst (B.map V.int)) :: (q2, .lst v2) :: (q1, .lst v1) :: F) G0 H', ⟨c, c, rfl, rfl, Nat.le_refl _, tw.up a ha, S7⟩, ?_⟩
        clear S7
        rintro m σ' H8 ⟨c2, rfl, rfl, hc, hup, S8⟩
        repeat walk_at "ob"
        refine g_iteD (fun h1 => ?_) (fun h1 => ?_)
        · repeat walk_at "ob"
          have hj : m - 1 < B.length := by omega
          have hb : B[m - 1]? = some B[m - 1] := List.getElem?_eq_getElem hj
          refine g_ixUL (SqL.of (S8.at 3 rfl)) (v := .int B[m - 1]) (atI_nn (by omega) (by rw [show ((m : Int) - 1).toNat = m - 1 by omega, List.getElem?_map, hb]; rfl)) ?_
          repeat walk_at "ob"
          refine g_iteD (fun h2 => ?_) (fun h2 => ?_)
          · repeat walk_at "ob"
            refine ⟨_, fun _ _ h => h, ?_⟩
            repeat walk_at "ob"
            refine ⟨m - 1, by omega, m - 1, rfl, ?_, by omega, fun j hj b hb2 => ?_, S8⟩
            · rw [show (((m - 1 : Nat)) : Int) = (m : Int) - 1 by omega]
              rfl
            · rcases Nat.lt_or_eq_of_le hj with h | h
              · exact hup j (by omega) b hb2
              · cases h
                rw [hb] at hb2
                cases hb2
                exact h2
          · repeat walk_at "ob"
            exact hN _ _ ⟨m, rfl, hc, hup, .inr ⟨B[m - 1], by omega, hb, by omega⟩, S8⟩
        · repeat walk_at "ob"
          exact hN _ _ ⟨m, rfl, hc, hup, .inl (by omega), S8⟩
      · clear S7
        rintro σ' H8 ⟨c2, rfl, hc, hup, hlo, S8⟩
        repeat ((fail_if_success (with_reducible refine atIfS ?_)); walk_at "ob")
        refine viaS (fun σ' H' => ∃ ab2 : List Int, σ' = [some (.ref p), some (.int x), some (.ref r1), some (.ref r2), none, some (.int a), none, some (.ref bl), some (.ref al), some (.int ((c2 : Nat) : Int))] ∧ ((c2 = B.length ∧ ab2 = ab) ∨ ∃ b, B[c2]? = some b ∧ ab2 = ab ++ [a + b]) ∧ Sy K ((al, .lst (ab2.map V.int)) :: (bl, .lst (be.map V.int)) :: (r1, .lst (A.map V.int)) :: (r2, .lst (B.map V.int)) :: (q2, .lst v2) :: (q1, .lst v1) :: F) G0 H') (fun N A' B' C' hN => ?_) ?_
        · repeat walk_at "ob"
          rw [hlB]
          refine g_iteD (fun h1 => ?_) (fun h1 => ?_)
          · repeat walk_at "ob"
            have hj : c2 < B.length := by omega
            have hb : B[c2]? = some B[c2] := List.getElem?_eq_getElem hj
            refine g_ixUL (SqL.of (S8.at 3 rfl)) (v := .int B[c2]) (atI_nn (by omega) (by rw [Int.toNat_natCast, List.getElem?_map, hb]; rfl)) ?_
            repeat walk_at "ob"
            refine g_appS S8 (f := 0) rfl (by rw [List.length_map]; omega) fun H9 S9 => ?_
            repeat walk_at "ob"
            refine hN _ _ ⟨ab ++ [a + B[c2]], rfl, .inr ⟨_, hb, rfl⟩, ?_⟩
            rw [List.map_append]
            exact S9
          · repeat walk_at "ob"
            exact hN _ _ ⟨ab, rfl, .inl ⟨by omega, rfl⟩, S8⟩
        · clear S8
          rintro σ' H9 ⟨ab2, rfl, hab, S9⟩
          repeat walk_at "ob"
          refine g_iteD (fun h1 => ?_) (fun h1 => ?_)
          · repeat walk_at "ob"
            have hj : c2 - 1 < B.length := by omega
            have hb : B[c2 - 1]? = some B[c2 - 1] := List.getElem?_eq_getElem hj
            refine g_ixUL (SqL.of (S9.at 3 rfl)) (v := .int B[c2 - 1]) (atI_nn (by omega) (by rw [show ((c2 : Int) - 1).toNat = c2 - 1 by omega, List.getElem?_map, hb]; rfl)) ?_
            repeat walk_at "ob"
            refine g_appS S9 (f := 1) rfl (by rw [List.length_map]; omega) fun H10 S10 => ?_
            repeat walk_at "ob"
            refine ⟨be ++ [a + B[c2 - 1]], ab2, c2, _, rfl, tw.step hA hB ha (by omega) hup (.inr ?_) hab, ?_⟩
            · rcases hlo with h | ⟨b, h2, h3, h4⟩
              · omega
              · rw [hb] at h3
                cases h3
                exact ⟨_, h2, hb, h4, rfl⟩
            · rw [List.map_append]
              exact S10
          · repeat walk_at "ob"
            exact ⟨be, ab2, c2, _, rfl, tw.step hA hB ha (by omega) hup (.inl ⟨by omega, rfl⟩) hab, S9⟩
    · clear S6
      rintro σ' H7 ⟨be, ab, c, v5, rfl, tw, S7⟩
      rw [hlA] at tw
      have hmx := tw.mx hsum
      have hmn := tw.mn hsum
      have hbl := tw.bl
      have hal := tw.al
      repeat walk_at "ob"
      refine g_filtI (fun u => decide (u = x)) S7 (j := 0) rfl (by omega) (fun Q' q => by repeat walk_at "ob"; exact q) (fun v H QE QR h1 h2 => ?_) fun p2 H8 S8 => ?_
      · repeat walk_at "ob"
        refine ⟨rfl, ?_⟩
        repeat walk_at "ob"
        refine g_iteD (fun h3 => ?_) (fun h3 => ?_)
        · repeat walk_at "ob"
          exact h1 (decide_eq_true h3)
        · repeat walk_at "ob"
          exact h2 (decide_eq_false h3)
      clear S7
      repeat walk_at "ob"
      refine g_extS S8 (f := 2) rfl (S8.at 0 rfl) (by
        have := List.length_filter_le (fun u => decide (u = x)) ab
        rw [List.length_map, List.length_map]; omega) fun H9 S9 => ?_
      rw [← List.map_append] at S9
      clear S8
      generalize be ++ ab.filter (fun u => decide (u = x)) = be2 at *
      repeat ((fail_if_success (with_reducible refine atIf ?_)); walk_at "ob")
      refine via (fun v H' => H' = H9 ∧ ∃ o, v = oV o ∧ IsMx (sumsG (rs.map (·.2))) x o) (fun Q' qq => ?_) ?_
      · cases hb2 : be2 with
        | nil =>
          rw [hb2] at S9 hmx
          repeat walk_at "ob"
          exact qq _ _ ⟨rfl, none, rfl, hmx.1 rfl⟩
        | cons b0 bs =>
          rw [hb2] at S9 hmx
          repeat walk_at "ob"
          refine g_T rfl ?_
          repeat walk_at "ob"
          refine g_maxUL (ns := b0 :: bs) (SqL.of (S9.at 2 rfl)) (Nat.succ_pos _) fun m hm hmax => ?_
          exact qq _ _ ⟨rfl, some m, rfl, hmx.2 m hm hmax⟩
      rintro v H10 ⟨rfl, oa, rfl, hoa⟩
      repeat ((fail_if_success (with_reducible refine atIf ?_)); walk_at "ob")
      refine via (fun v H' => H' = H10 ∧ ∃ o, v = oV o ∧ IsMn (sumsG (rs.map (·.2))) x o) (fun Q' qq => ?_) ?_
      · cases hb2 : ab with
        | nil =>
          rw [hb2] at S9 hmn
          repeat walk_at "ob"
          exact qq _ _ ⟨rfl, none, rfl, hmn.1 rfl⟩
        | cons b0 bs =>
          rw [hb2] at S9 hmn
          repeat walk_at "ob"
          refine g_T rfl ?_
          repeat walk_at "ob"
          refine ⟨_, b0 :: bs, rfl, SqL.of (S9.at 1 rfl), Nat.succ_pos _, fun m hm hmin => ?_⟩
          exact qq _ _ ⟨rfl, some m, rfl, hmn.2 m hm hmin⟩
      rintro v H11 ⟨rfl, ob, rfl, hob⟩
      repeat ((fail_if_success (with_reducible refine atNewT ?_)); walk_at "ob")
      refine g_newT (ds := [oD oa, oD ob]) S9 (.cons (dp_oV _) (.cons (dp_oV _) .nil)) (by cases oa <;> cases ob <;> rfl) (Nat.le_of_ble_eq_true rfl) fun t2 H12 _ S10 => ?_
      refine k oa ob t2 H12 hoa hob (S10.to ?_ fun g hg => hg)
      exact ((((((List.Sublist.refl _).cons _).cons _).cons _).cons _).cons _).cons _ |>.cons _
end
end LAW

set_option Elab.async false
set_option linter.all false
set_option maxRecDepth 100000
namespace LAW
open PySem PySem.Spec PyProof.Rows L2 PySem.W OB
local macro_rules | `(tactic| walk_at "obc") => `(tactic| first
  | exact Or.inl ⟨by omega, by omega⟩
  | exact Or.inr ⟨by omega, by omega⟩
  | exact cdiv_ok (by omega) (by omega)
  | (show (0 : Int) < _; omega)
  | exact ⟨by omega, by decide⟩
  | exact ⟨by decide, by decide⟩)
local macro_rules | `(tactic| walk_at "obat") => `(tactic| first
  | exact Sy.at (by assumption) 0 rfl | exact Sy.at (by assumption) 1 rfl | exact Sy.at (by assumption) 2 rfl | exact Sy.at (by assumption) 3 rfl
  | exact Sy.at (by assumption) 4 rfl | exact Sy.at (by assumption) 5 rfl | exact Sy.at (by assumption) 6 rfl | exact Sy.at (by assumption) _ (by assumption) | exact Sy.at (by assumption) (_ + 1) (by assumption) | exact Sy.at (by assumption) (_ + 2) (by assumption))
local macro_rules | `(tactic| walk_at "obt") => `(tactic| first
  | exact Sy.tqs (by assumption) 0 rfl | exact Sy.tqs (by assumption) 1 rfl | exact Sy.tqs (by assumption) 2 rfl | exact Sy.tqs (by assumption) 3 rfl | exact Sy.tqs (by assumption) 4 rfl | exact Sy.tqs (by assumption) 5 rfl
  | exact Sy.tqs (by assumption) 6 rfl | exact Sy.tqs (by assumption) 7 rfl | assumption)
local macro_rules | `(tactic| walk_at "obl") => `(tactic| first
  | exact SqL.of (by walk_at "obat")
  | exact Sy.sq (by assumption) 0 rfl | exact Sy.sq (by assumption) 1 rfl | exact Sy.sq (by assumption) 2 rfl | exact Sy.sq (by assumption) 3 rfl | exact Sy.sq (by assumption) _ (by assumption))
local macro_rules | `(tactic| walk_at "obd") => `(tactic| first
  | exact Dp.int _ | exact Dp.bl _ | exact Dp.str _ | exact Dp.non
  | exact Sy.dp (by assumption) 0 rfl | exact Sy.dp (by assumption) 1 rfl | exact Sy.dp (by assumption) 2 rfl | exact Sy.dp (by assumption) 3 rfl
  | exact Sy.dp (by assumption) 4 rfl | exact Sy.dp (by assumption) 5 rfl | exact Sy.dp (by assumption) 6 rfl | exact Sy.dp (by assumption) 7 rfl
  | exact Sy.dp (by assumption) 8 rfl | exact Sy.dp (by assumption) 9 rfl | exact Sy.dp (by assumption) _ (by assumption) | assumption)
local macro_rules | `(tactic| walk_at "obds") => `(tactic| first
  | exact DpAll.nil
  | (refine' DpAll.cons ?ob1 ?ob2; (case ob1 => walk_at "obd"); (case ob2 => walk_at "obds"))
  | exact Sy.dps (by assumption) 0 rfl | exact Sy.dps (by assumption) 1 rfl | exact Sy.dps (by assumption) 2 rfl | exact Sy.dps (by assumption) 3 rfl | assumption)
local macro_rules | `(tactic| walk_at "obsc") => `(tactic| first
  | exact ScL.nil
  | ((first | refine' ScL.int ?obz | refine' ScL.str ?obz | refine' ScL.bl ?obz | refine' ScL.non ?obz); (case obz => walk_at "obsc")))
local macro_rules | `(tactic| walk_at "ob1") => `(tactic| first
  | ((with_reducible refine' g_var ?obh ?_); (case obh => rfl))
  | with_reducible refine g_c ?_
  | with_reducible refine g_nx ?_
  | with_reducible refine g_rt ?_
  | with_reducible refine g_bk ?_
  | with_reducible refine g_ct ?_
  | with_reducible refine g_op ?_
  | with_reducible refine g_I0 ?_
  | with_reducible refine g_test ?_
  | with_reducible refine g_bl ?_
  | with_reducible refine g_blx ?_
  | with_reducible refine g_B ?_
  | with_reducible refine g_seq ?_
  | with_reducible refine g_asg ?_
  | with_reducible refine g_name ?_
  | with_reducible refine g_ifS ?_
  | with_reducible refine g_ret ?_
  | with_reducible refine g_cb ?_
  | with_reducible refine g_cons ?_
  | with_reducible refine g_nil ?_
  | with_reducible refine g_int ?_
  | with_reducible refine g_intB ?_
  | with_reducible refine g_abs ?_
  | with_reducible refine g_max ?_
  | with_reducible refine g_min ?_
  | with_reducible refine g_un ?_
  | with_reducible refine g_U ?_
  | with_reducible refine g_eqI ?_
  | with_reducible refine g_neI ?_
  | with_reducible refine g_eqS ?_
  | with_reducible refine g_neS ?_
  | with_reducible refine g_tt ?_
  | with_reducible refine g_ff ?_
  | with_reducible refine g_next ?_
  | with_reducible refine g_drop ?_
  | with_reducible refine g_if ?_
  | with_reducible refine g_andV ?_
  | with_reducible refine g_orV ?_
  | with_reducible refine g_notV ?_
  | with_reducible refine g_and ?_
  | with_reducible refine g_or ?_
  | with_reducible refine g_not ?_
  | with_reducible refine g_yes ?_
  | with_reducible refine g_chain ?_
  | with_reducible refine g_cg ?_
  | with_reducible refine g_mg ?_
  | with_reducible refine g_kg ?_
  | with_reducible refine g_pg ?_
  | ((with_reducible refine' g_call ?obh ?obj ?_); (case obh => rfl); (case obj => rfl))
  | with_reducible refine g_par ?_
  | with_reducible refine g_par2 ?_
  | with_reducible refine g_par3 ?_
  | with_reducible refine g_par33 ?_
  | with_reducible refine g_gnil ?_
  | with_reducible refine g_gcons ?_
  | with_reducible refine g_gsub ?_
  | with_reducible refine g_ipI ?_
  | with_reducible refine g_rAdd ?_
  | with_reducible refine g_rSub ?_
  | ((with_reducible refine' g_aug ?obh ?_); (case obh => rfl))
  | with_reducible refine g_tup ?_
  | with_reducible refine g_lst ?_
  | with_reducible refine g_bm ?_
  | with_reducible refine g_bm0 ?_
  | with_reducible refine g_sl ?_
  | with_reducible refine g_nopart ?_
  | with_reducible refine g_part ?_
  | with_reducible refine g_pint ?_
  | with_reducible refine isi_int ?_
  | with_reducible refine isi_intB ?_
  | ((with_reducible refine' g_I ?obh ?_); (case obh => walk_at "obc"))
  | ((with_reducible refine' g_tyl ?obh ?_); (case obh => walk_at "obl"))
  | ((with_reducible refine' g_lenL ?obh ?_); (case obh => walk_at "obl"))
  | with_reducible refine g_ne ?_
  | ((with_reducible refine' g_neN' ?obh ?_); (case obh => rfl))
  | with_reducible refine g_ntt ?_
  | with_reducible refine g_nff ?_
  | with_reducible refine g_star ?_
  | with_reducible refine g_att ?_
  | with_reducible refine g_sfld ?_
  | with_reducible refine g_faug ?_
  | with_reducible refine g_fld ?_
  | ((with_reducible refine' g_nF ?obh ?_); (case obh => omega))
  | ((with_reducible refine' g_nT ?obh ?_); (case obh => omega))
  | ((with_reducible refine' g_TD ?obh ?_); (case obh => omega))
  | ((with_reducible refine' g_FD ?obh ?_); (case obh => omega))
  | ((with_reducible refine' g_ixUL ?obh ?obi ?_); (case obh => walk_at "obl"); (case obi => exact atI_nn (by omega) (by rfl)))
  | ((with_reducible refine' g_setLS ?obs ?obh ?obi ?_); (case obs => assumption); (case obh => assumption); (case obi => rfl); intro _ _ _)
  | ((with_reducible refine' g_newT ?obs ?obh ?obi ?obj ?_); (case obs => assumption); (case obh => walk_at "obds"); (case obi => rfl); (case obj => exact Nat.le_of_ble_eq_true rfl); intro _ _ _ _)
  | ((with_reducible refine' g_newL ?obs ?obj ?_); (case obs => assumption); (case obj => exact Nat.le_of_ble_eq_true rfl); intro _ _ _ _)
  | ((with_reducible refine' isi_tup ?obh ?_); (case obh => walk_at "obt"))
  | ((with_reducible refine' g_lenT ?obh ?_); (case obh => walk_at "obt"))
  | ((with_reducible refine' g_unpT ?obh ?obi ?_); (case obh => walk_at "obt"); (case obi => rfl))
  | ((with_reducible refine' g_divmod ?obs ?obh ?_); (case obs => assumption); (case obh => exact cdivp_ok (by omega) (by omega) (by omega)); intro _ _ _ _)
  | ((with_reducible refine' g_unpD ?obh ?obi ?obj ?_); (case obh => walk_at "obd"); (case obi => walk_at "obsc"); (case obj => rfl))
  | with_reducible refine g_att ?_)
local macro_rules | `(tactic| walk_at "ob") => `(tactic| first
  | walk_at "ob1"
  | refine use_is_integer ?_
  | refine use_is_within ?_
  | with_reducible refine g_lstRg ?_
  | with_reducible refine g_rg1 ?_
  | with_reducible refine g_rg2 ?_
  | with_reducible refine g_tTru ?_
  | ((with_reducible refine' g_truL ?obh ?_); (case obh => walk_at "obl"))
  | ((with_reducible refine' g_ixUT ?obh ?obi ?_); (case obh => walk_at "obt"); (case obi => rfl))
  | with_reducible refine g_forZ ?_
  | with_reducible refine g_forR2 ?_
  | with_reducible refine g_forE ?_
  | with_reducible refine g_lcZ ?_)
section
variable {w : World} {K : Frag} {mg : Str → Option Value} {base : Heap}
def rowE (r : Lt) : PyData := .tuple [lotD r.2, .int r.1]
def rowsE (l : List Lt) : List PyData := l.map rowE
theorem row_openE {H : Hp} {x : V} {r : Lt} (h : L2.Dp K H x (rowE r)) : ∃ t q, x = .ref t ∧ SqT K H t [.ref q, .int r.1] ∧ SqT K H q (nI r.2) ∧ L2.Dp K H (.ref q) (lotD r.2) := by
  obtain ⟨t, zs, rfl, ht, hz⟩ := dp_tuple h
  cases hz with
  | cons d2 hz =>
  cases hz with
  | cons d1 hz =>
  cases hz
  obtain rfl := dp_int d1
  obtain ⟨q, ys, rfl, hq, hy⟩ := dp_tuple d2
  have := dps_lotV hy
  subst this
  exact ⟨t, q, rfl, ht, hq, d2⟩
theorem rowE_imm (r : Lt) : imm (rowE r) = true := by
  show (imm (lotD r.2) && (true && true)) = true
  rw [lotD_imm]
  rfl
def sp_law_all_sums (K : Frag) : Sp := fun vs H Q E => vs.length = 1 ∧ ∃ (F : List (Addr × HO)) (G : List Ft) (p : Addr) (rs : NS), vs = [.ref p] ∧ Sy K F G H ∧ SqT K H p (NR rs) ∧ (∀ q ∈ NT rs, H q.1 = some (.tup q.2)) ∧ rs.length ≤ 13 ∧
  ∀ q fv H', Sy K ((q, .lst fv) :: F) (.dat fv (rowsE (lotG (rs.map (·.2)) 0 rs.length)) :: G) H' → Q (.ref q) H'
abbrev names_law_all_sums : List Str := ["notes", "found", "number", "word", "amount", "lot", "total"]
theorem sc_law_all_sums : FnScope names_law_all_sums ["notes"] (defScope (top 38)) := ⟨rfl, rfl, rfl, by decide +kernel, rfl, by decide +kernel, by decide +kernel⟩
set_option maxHeartbeats 4000000 in
theorem ok_law_all_sums (T : Tx K mg) : FG P w K mg base CX0 1 T.a_law_all_sums T.d_law_all_sums ["notes"] (sp_law_all_sums K) := by
  refine OB.Fun.fg T.F_law_all_sums sc_law_all_sums (fun vs H Q E h => h.1) (fun cdv A out s H vs Q E g h => ?_)
  obtain ⟨_, F, G0, p, rs, rfl, S0, h1, h2, hl, k⟩ := h
  refine ⟨_, (pss_cons (ps_set (i := 1) sc_law_all_sums.nd rfl (by first | exact Or.inl rfl | exact Or.inr rfl) (pe_lst (pa_cons (pe_tup (pa_cons (pe_tup pa_nil) (pa_cons pe_int pa_nil))) pa_nil)))
      (pss_cons (ps_for PassesOwn.never rfl (pi_enumK (by rfl) T.n_enumerate (pa_cons (pv 0) pa_nil)) (pg_tupK (K := K) rfl (n := 2) rfl (pgs_cons (pg_name (i := 2) sc_law_all_sums.nd rfl (by first | exact Or.inl rfl | exact Or.inr rfl)) (pgs_cons (pg_tupK (K := K) rfl (n := 2) rfl (pgs_cons (pg_name (i := 3) sc_law_all_sums.nd rfl (by first | exact Or.inl rfl | exact Or.inr rfl)) (pgs_cons (pg_name (i := 4) sc_law_all_sums.nd rfl (by first | exact Or.inl rfl | exact Or.inr rfl)) pgs_nil))) pgs_nil)))
      (pss_one (ps_set (i := 1) sc_law_all_sums.nd rfl (by first | exact Or.inl rfl | exact Or.inr rfl) (pe_op op_cat (pv 1) (pe_lc (own := [("lot", 5), ("total", 6)]) (tt := tYes) rfl sc_law_all_sums.nd (pi_seq (pv 1)) (blkOk_by (N := names_law_all_sums) (sc := defScope (top 38)) (own := [("lot", 5), ("total", 6)]) (by decide +kernel)) (fun _ _ _ _ _ => (pg_tupK (K := K) rfl (n := 2) rfl (pgs_cons (pg_name (i := 5) sc_law_all_sums.nd rfl (by first | exact Or.inl rfl | exact Or.inr rfl)) (pgs_cons (pg_name (i := 6) sc_law_all_sums.nd rfl (by first | exact Or.inl rfl | exact Or.inr rfl)) pgs_nil)))) (fun _ _ _ _ _ => pts_nil) (fun _ _ _ _ _ => (pe_tup (pa_cons (pe_op (op_catAK (K := K) rfl) (pv 5) (pe_tup (pa_cons (pe_callTy c_int (by rfl) T.n_int (by decide +kernel) (pa_cons (pv 2) pa_nil)) pa_nil))) (pa_cons (pe_op op_add (pv 6) (pv 4)) pa_nil)))))))))
      (pss_one (ps_ret (pv 1))))), ?_⟩
  refine g_start (σ := [some _, none, none, none, none, none, none]) rfl ?_
  have S := (S0.add (.tt (NT rs)) h2).add (.tq p (NR rs)) h1
  clear S0 h1 h2
  have hn : (NR rs).length = rs.length := List.length_map ..
  repeat walk_at "ob"
  rename_i fo H1 _ S1
  have S2 : Sy K ((fo, .lst [.ref _]) :: F) (.dat [.ref _] (rowsE (lotG (rs.map (·.2)) 0 0)) :: .tq p (NR rs) :: .tt (NT rs) :: G0) H1 := S1.drop2
  refine ⟨false, p, _, rfl, S2.tqs 1 rfl, ?_⟩
  refine for_enumK (xs := NR rs) (fun i σ' H' => ∃ fo fv v2 v3 v4, σ' = [some (.ref p), some (.ref fo), v2, v3, v4, none, none] ∧ i ≤ rs.length ∧ Sy K ((fo, .lst fv) :: F) (.dat fv (rowsE (lotG (rs.map (·.2)) 0 i)) :: .tq p (NR rs) :: .tt (NT rs) :: G0) H') ⟨fo, _, none, none, none, rfl, Nat.zero_le _, S2⟩ (fun i σ' H' ⟨_, _, _, _, _, _, _, S4⟩ => S4.tqs 1 rfl) ?_ ?_
  · rintro i x Tn σ' H' hx ⟨fo, fv, v2, v3, v4, rfl, hi, S3⟩ hT
    refine g_pair S3 hT fun H2 S4 => ?_
    clear S S1 S2 S3
    have hir : i < rs.length := by
      have := (List.getElem?_eq_some_iff.mp hx).1
      omega
    unfold NR at hx
    rw [List.getElem?_map] at hx
    obtain ⟨r0, hr0, rfl⟩ := Option.map_eq_some_iff.mp hx
    have hrm := List.mem_of_getElem? hr0
    have ham : amtN (rs.map (·.2)) (0 + i) = r0.2.2 := by
      unfold amtN
      rw [Nat.zero_add, List.getElem?_map, hr0]
      rfl
    have h12 : 2 ^ i ≤ 8192 := Nat.pow_le_pow_right (by decide) (show i ≤ 13 by omega)
    have hlen : fv.length = 2 ^ i := by
      rw [dps_length (S4.dps 1 rfl)]
      unfold rowsE
      rw [List.length_map, lotG_len]
    have hnt := nt_at S4 (i := 3) rfl hrm
    have S5 := S4.drop
    repeat walk_at "ob"
    refine g_unpT (vs := [.str r0.2.1, .int r0.2.2]) (sqt_note hnt) rfl ?_
    clear S4
    repeat walk_at "ob"
    refine g_lcS (a := fo) (xs := fv) true (fun j F' ds => F' = (fo, .lst fv) :: F ∧ ds = ((lotG (rs.map (·.2)) 0 i).take j).map fun r => rowE (r.1 + r0.2.2, r.2 ++ [i])) S5 (fun Q' q => by walk_at "ob"; exact q) ⟨rfl, rfl⟩ (fun j F' ds H' hi S3 => SqL.of ((hi.1 ▸ S3).at 0 rfl)) (fun j F' ds hi => by
      rw [hi.2, List.length_map, List.length_take, lotG_len]; omega) ?_ ?_
    · intro j y hy Dp H3 F3 ws ds QE QR hj S6 kE kR
      obtain ⟨rfl, rfl⟩ := hj
      obtain ⟨r, hr, hdr⟩ := dps_map (S6.dps 1 rfl) hy
      obtain ⟨t, q, rfl, ht, hq, hqd⟩ := row_openE hdr
      have hrl := lotG_rl (List.mem_of_getElem? hr)
      have S7 := S6.fact (dps_one hqd) (by show (imm (lotD r.2) && true) = true; rw [lotD_imm]; rfl)
      clear S6
      repeat walk_at "ob"
      refine ⟨rfl, ?_⟩
      repeat walk_at "ob"
      rename_i S8
      refine g_catU S8 (S8.dp 1 rfl) (S8.dp 0 rfl) (lotD_imm _) rfl (by rw [List.length_map]; show _ + 1 ≤ _; omega) fun q2 H4 S9 => ?_
      repeat walk_at "ob"
      have e2 : (r.2.map fun i : Nat => PyData.int (i : Int)) ++ [.int (i : Int)] = (r.2 ++ [i]).map fun i : Nat => PyData.int (i : Int) := by
        rw [List.map_append]
        rfl
      rw [e2] at S9
      refine g_newT (ds := [lotD (r.2 ++ [i]), .int (r.1 + r0.2.2)]) S9 (.cons (S9.dp 0 rfl) (.cons (.int _) .nil)) (rowE_imm (r.1 + r0.2.2, r.2 ++ [i])) (Nat.le_of_ble_eq_true rfl) fun q3 H5 _ S10 => ?_
      refine kE _ (rowE (r.1 + r0.2.2, r.2 ++ [i])) _ H5 ⟨rfl, ?_⟩ S10.drop2.drop2.drop2
      rw [List.take_add_one, hr, List.map_append]
      rfl
    · intro Dp H3 F3 ws ds hD hj S6
      obtain ⟨rfl, rfl⟩ := hj
      have hw := dps_length (S6.dps 0 rfl)
      rw [List.length_map, List.length_take, lotG_len] at hw
      repeat walk_at "ob"
      refine g_cat S6 (i := 1) (j := 0) rfl rfl (by rw [hlen, hw]; omega) fun q4 H4 S7 => ?_
      have S8 := S7.fact (dps_append (S7.dps 1 rfl) (S7.dps 0 rfl)) (by rw [immAll_append, S7.dpi 1 rfl, S7.dpi 0 rfl]; rfl)
      repeat walk_at "ob"
      refine ⟨q4, fv ++ ws, _, _, _, rfl, hir, ?_⟩
      have e : rowsE (lotG (rs.map (·.2)) 0 (i + 1)) = rowsE (lotG (rs.map (·.2)) 0 i) ++ ((lotG (rs.map (·.2)) 0 i).take fv.length).map fun r => rowE (r.1 + r0.2.2, r.2 ++ [i]) := by
        rw [List.take_of_length_le (by rw [lotG_len, hlen]; exact Nat.le_refl _)]
        conv => lhs; unfold lotG
        unfold rowsE
        rw [List.map_append, List.map_map, ham, Nat.zero_add]
        rfl
      rw [e]
      exact S8.drop2.drop2.swap.less.swap.less
  · rintro σ' H2 ⟨fo, fv, v2, v3, v4, rfl, hi, S3⟩
    rw [hn] at S3
    repeat walk_at "ob"
    exact k fo fv H2 S3.drop2.drop2
end
end LAW

set_option Elab.async false
set_option linter.all false
set_option maxRecDepth 100000
namespace LAW
open PySem PySem.Spec PyProof.Rows L2 PySem.W OB
local macro_rules | `(tactic| walk_at "obc") => `(tactic| first
  | exact Or.inl ⟨by omega, by omega⟩
  | exact Or.inr ⟨by omega, by omega⟩
  | exact cdiv_ok (by omega) (by omega)
  | (show (0 : Int) < _; omega)
  | exact ⟨by omega, by decide⟩
  | exact ⟨by decide, by decide⟩)
local macro_rules | `(tactic| walk_at "obat") => `(tactic| first
  | exact Sy.at (by assumption) 0 rfl | exact Sy.at (by assumption) 1 rfl | exact Sy.at (by assumption) 2 rfl | exact Sy.at (by assumption) 3 rfl
  | exact Sy.at (by assumption) 4 rfl | exact Sy.at (by assumption) 5 rfl | exact Sy.at (by assumption) 6 rfl | exact Sy.at (by assumption) _ (by assumption) | exact Sy.at (by assumption) (_ + 1) (by assumption) | exact Sy.at (by assumption) (_ + 2) (by assumption))
local macro_rules | `(tactic| walk_at "obt") => `(tactic| first
  | exact Sy.tqs (by assumption) 0 rfl | exact Sy.tqs (by assumption) 1 rfl | exact Sy.tqs (by assumption) 2 rfl | exact Sy.tqs (by assumption) 3 rfl | exact Sy.tqs (by assumption) 4 rfl | exact Sy.tqs (by assumption) 5 rfl
  | exact Sy.tqs (by assumption) 6 rfl | exact Sy.tqs (by assumption) 7 rfl | assumption)
local macro_rules | `(tactic| walk_at "obl") => `(tactic| first
  | exact SqL.of (by walk_at "obat")
  | exact Sy.sq (by assumption) 0 rfl | exact Sy.sq (by assumption) 1 rfl | exact Sy.sq (by assumption) 2 rfl | exact Sy.sq (by assumption) 3 rfl | exact Sy.sq (by assumption) _ (by assumption))
local macro_rules | `(tactic| walk_at "obd") => `(tactic| first
  | exact Dp.int _ | exact Dp.bl _ | exact Dp.str _ | exact Dp.non
  | exact Sy.dp (by assumption) 0 rfl | exact Sy.dp (by assumption) 1 rfl | exact Sy.dp (by assumption) 2 rfl | exact Sy.dp (by assumption) 3 rfl
  | exact Sy.dp (by assumption) 4 rfl | exact Sy.dp (by assumption) 5 rfl | exact Sy.dp (by assumption) 6 rfl | exact Sy.dp (by assumption) 7 rfl
  | exact Sy.dp (by assumption) 8 rfl | exact Sy.dp (by assumption) 9 rfl | exact Sy.dp (by assumption) _ (by assumption) | assumption)
local macro_rules | `(tactic| walk_at "obds") => `(tactic| first
  | exact DpAll.nil
  | (refine' DpAll.cons ?ob1 ?ob2; (case ob1 => walk_at "obd"); (case ob2 => walk_at "obds"))
  | exact Sy.dps (by assumption) 0 rfl | exact Sy.dps (by assumption) 1 rfl | exact Sy.dps (by assumption) 2 rfl | exact Sy.dps (by assumption) 3 rfl | assumption)
local macro_rules | `(tactic| walk_at "obsc") => `(tactic| first
  | exact ScL.nil
  | ((first | refine' ScL.int ?obz | refine' ScL.str ?obz | refine' ScL.bl ?obz | refine' ScL.non ?obz); (case obz => walk_at "obsc")))
local macro_rules | `(tactic| walk_at "ob1") => `(tactic| first
  | ((with_reducible refine' g_var ?obh ?_); (case obh => rfl))
  | with_reducible refine g_c ?_
  | with_reducible refine g_nx ?_
  | with_reducible refine g_rt ?_
  | with_reducible refine g_bk ?_
  | with_reducible refine g_ct ?_
  | with_reducible refine g_op ?_
  | with_reducible refine g_I0 ?_
  | with_reducible refine g_test ?_
  | with_reducible refine g_bl ?_
  | with_reducible refine g_blx ?_
  | with_reducible refine g_B ?_
  | with_reducible refine g_seq ?_
  | with_reducible refine g_asg ?_
  | with_reducible refine g_name ?_
  | with_reducible refine g_ifS ?_
  | with_reducible refine g_ret ?_
  | with_reducible refine g_cb ?_
  | with_reducible refine g_cons ?_
  | with_reducible refine g_nil ?_
  | with_reducible refine g_int ?_
  | with_reducible refine g_intB ?_
  | with_reducible refine g_abs ?_
  | with_reducible refine g_max ?_
  | with_reducible refine g_min ?_
  | with_reducible refine g_un ?_
  | with_reducible refine g_U ?_
  | with_reducible refine g_eqI ?_
  | with_reducible refine g_neI ?_
  | with_reducible refine g_eqS ?_
  | with_reducible refine g_neS ?_
  | with_reducible refine g_tt ?_
  | with_reducible refine g_ff ?_
  | with_reducible refine g_next ?_
  | with_reducible refine g_drop ?_
  | with_reducible refine g_if ?_
  | with_reducible refine g_andV ?_
  | with_reducible refine g_orV ?_
  | with_reducible refine g_notV ?_
  | with_reducible refine g_and ?_
  | with_reducible refine g_or ?_
  | with_reducible refine g_not ?_
  | with_reducible refine g_yes ?_
  | with_reducible refine g_chain ?_
  | with_reducible refine g_cg ?_
  | with_reducible refine g_mg ?_
  | with_reducible refine g_kg ?_
  | with_reducible refine g_pg ?_
  | ((with_reducible refine' g_call ?obh ?obj ?_); (case obh => rfl); (case obj => rfl))
  | with_reducible refine g_par ?_
  | with_reducible refine g_par2 ?_
  | with_reducible refine g_par3 ?_
  | with_reducible refine g_par33 ?_
  | with_reducible refine g_gnil ?_
  | with_reducible refine g_gcons ?_
  | with_reducible refine g_gsub ?_
  | with_reducible refine g_ipI ?_
  | with_reducible refine g_rAdd ?_
  | with_reducible refine g_rSub ?_
  | ((with_reducible refine' g_aug ?obh ?_); (case obh => rfl))
  | with_reducible refine g_tup ?_
  | with_reducible refine g_lst ?_
  | with_reducible refine g_bm ?_
  | with_reducible refine g_bm0 ?_
  | with_reducible refine g_sl ?_
  | with_reducible refine g_nopart ?_
  | with_reducible refine g_part ?_
  | with_reducible refine g_pint ?_
  | with_reducible refine isi_int ?_
  | with_reducible refine isi_intB ?_
  | ((with_reducible refine' g_I ?obh ?_); (case obh => walk_at "obc"))
  | ((with_reducible refine' g_tyl ?obh ?_); (case obh => walk_at "obl"))
  | ((with_reducible refine' g_lenL ?obh ?_); (case obh => walk_at "obl"))
  | with_reducible refine g_ne ?_
  | ((with_reducible refine' g_neN' ?obh ?_); (case obh => rfl))
  | with_reducible refine g_ntt ?_
  | with_reducible refine g_nff ?_
  | with_reducible refine g_star ?_
  | with_reducible refine g_att ?_
  | with_reducible refine g_sfld ?_
  | with_reducible refine g_faug ?_
  | with_reducible refine g_fld ?_
  | ((with_reducible refine' g_nF ?obh ?_); (case obh => omega))
  | ((with_reducible refine' g_nT ?obh ?_); (case obh => omega))
  | ((with_reducible refine' g_TD ?obh ?_); (case obh => omega))
  | ((with_reducible refine' g_FD ?obh ?_); (case obh => omega))
  | ((with_reducible refine' g_ixUL ?obh ?obi ?_); (case obh => walk_at "obl"); (case obi => exact atI_nn (by omega) (by rfl)))
  | ((with_reducible refine' g_setLS ?obs ?obh ?obi ?_); (case obs => assumption); (case obh => assumption); (case obi => rfl); intro _ _ _)
  | ((with_reducible refine' g_newT ?obs ?obh ?obi ?obj ?_); (case obs => assumption); (case obh => walk_at "obds"); (case obi => rfl); (case obj => exact Nat.le_of_ble_eq_true rfl); intro _ _ _ _)
  | ((with_reducible refine' g_newL ?obs ?obj ?_); (case obs => assumption); (case obj => exact Nat.le_of_ble_eq_true rfl); intro _ _ _ _)
  | ((with_reducible refine' isi_tup ?obh ?_); (case obh => walk_at "obt"))
  | ((with_reducible refine' g_lenT ?obh ?_); (case obh => walk_at "obt"))
  | ((with_reducible refine' g_unpT ?obh ?obi ?_); (case obh => walk_at "obt"); (case obi => rfl))
  | ((with_reducible refine' g_divmod ?obs ?obh ?_); (case obs => assumption); (case obh => exact cdivp_ok (by omega) (by omega) (by omega)); intro _ _ _ _)
  | ((with_reducible refine' g_unpD ?obh ?obi ?obj ?_); (case obh => walk_at "obd"); (case obi => walk_at "obsc"); (case obj => rfl))
  | with_reducible refine g_att ?_)
local macro_rules | `(tactic| walk_at "ob") => `(tactic| first
  | walk_at "ob1"
  | refine use_is_integer ?_
  | refine use_is_within ?_
  | with_reducible refine g_lstRg ?_
  | with_reducible refine g_rg1 ?_
  | with_reducible refine g_rg2 ?_
  | with_reducible refine g_tTru ?_
  | ((with_reducible refine' g_truL ?obh ?_); (case obh => walk_at "obl"))
  | ((with_reducible refine' g_ixUT ?obh ?obi ?_); (case obh => walk_at "obt"); (case obi => rfl))
  | with_reducible refine g_forZ ?_
  | with_reducible refine g_forR2 ?_
  | with_reducible refine g_forE ?_
  | with_reducible refine g_lcZ ?_)
section
variable {w : World} {K : Frag} {mg : Str → Option Value} {base : Heap}
theorem g_xg {a : Addr} {cls : Value} {d : Option Addr} {f : Str} {te : TE} {σ : L2.St} {H : Hp} {Q : VK} (k : te σ H fun x H1 => x = .ref a ∧ ∃ (C dd : Addr) (fs : List (Str × V)) (v : V), cls = .ref C ∧ XfC K C ∧ findIn K (.ref C) f = some none ∧ d = some dd ∧ H1 dd = some (.xd fs) ∧ fs.lookup f = some v ∧ Q v H1) : tXg K a cls d f te σ H Q := k
theorem small_lot {l : List Nat} (h1 : l.length ≤ 13) (h2 : ∀ i ∈ l, i < 13) : Small 900 1 (lotD l) := by
  have := Small.tup (SmallL.len (n := 61) (k := 0) (m := 13) (xs := l.map fun i : Nat => PyData.int (i : Int)) (fun d hd => by
    obtain ⟨i, hi, rfl⟩ := List.mem_map.mp hd
    exact Small.int (by have := h2 i hi; show i < _; omega)) (by rw [List.length_map]; exact h1))
  exact this.mono (by decide) (by decide)
theorem lot_small {notes : List N} {n : Nat} {x : Int} {l : List Nat} (hn : n ≤ 13) (h : l ∈ withS (lotG notes 0 n) x) : l.length ≤ 13 ∧ ∀ i ∈ l, i < 13 := by
  have h1 := lotG_rl (withS_mem.mp h)
  have h2 := (lotG_mem.mp (withS_mem.mp h)).2.1
  exact ⟨Nat.le_trans h1 hn, fun i hi => Nat.lt_of_lt_of_le (h2 i hi) hn⟩
def sp_law_are_lots_right (K : Frag) : Sp := fun vs H Q E => vs.length = 3 ∧ ∃ (F : List (Addr × HO)) (G : List Ft) (p r : Addr) (rs : NS) (fv : List V) (x : Int), vs = [.ref p, .ref r, .int x] ∧ Sy K ((r, .lst fv) :: F) (.dat fv (rowsE (lotG (rs.map (·.2)) 0 rs.length)) :: G) H ∧ SqT K H p (NR rs) ∧ (∀ q ∈ NT rs, H q.1 = some (.tup q.2)) ∧ NG rs ∧ rs.length ≤ 13 ∧
  ∀ H', Sy K ((r, .lst fv) :: F) (.dat fv (rowsE (lotG (rs.map (·.2)) 0 rs.length)) :: G) H' → Q (.bl true) H'
abbrev names_law_are_lots_right : List Str := ["notes", "rows", "amount", "due", "lot", "total", "error", "told"]
theorem sc_law_are_lots_right : FnScope names_law_are_lots_right ["notes", "rows", "amount"] (defScope (top 40)) := ⟨rfl, rfl, rfl, by decide +kernel, rfl, by decide +kernel, by decide +kernel⟩
set_option maxHeartbeats 4000000 in
theorem ok_law_are_lots_right (T : Tx K mg) : FG P w K mg base CX0 8 T.a_law_are_lots_right T.d_law_are_lots_right ["notes", "rows", "amount"] (sp_law_are_lots_right K) := by
  refine OB.Fun.fg T.F_law_are_lots_right sc_law_are_lots_right (fun vs H Q E h => h.1) (fun cdv A out s H vs Q E g h => ?_)
  obtain ⟨_, F, G0, p, r, rs, fv, x, rfl, S0, h1, h2, ng, hl, k⟩ := h
  refine ⟨_, (pss_cons (ps_set (i := 3) sc_law_are_lots_right.nd rfl (by first | exact Or.inl rfl | exact Or.inr rfl) (pe_callTy (toK (r := rTuple) (K := K) rfl c_tuple) (by rfl) T.n_tuple (by decide +kernel) (pa_cons (pe_callB (toK (r := rSortE) (K := K) rfl (c_sortE g.hu64)) (by rfl) T.n_sorted (by decide +kernel) (pa_cons (pe_lc (own := [("lot", 4), ("total", 5)]) rfl sc_law_are_lots_right.nd (pi_seq (pv 1)) (blkOk_by (N := names_law_are_lots_right) (sc := defScope (top 40)) (own := [("lot", 4), ("total", 5)]) (by decide +kernel)) (fun _ _ _ _ _ => (pg_tupK (K := K) rfl (n := 2) rfl (pgs_cons (pg_name (i := 4) sc_law_are_lots_right.nd rfl (by first | exact Or.inl rfl | exact Or.inr rfl)) (pgs_cons (pg_name (i := 5) sc_law_are_lots_right.nd rfl (by first | exact Or.inl rfl | exact Or.inr rfl)) pgs_nil)))) (fun _ _ _ _ _ => pts_one (pt_cmpR op_eq (pv 5) (pv 2) (nomark _))) (fun _ _ _ _ _ => (pv 4))) pa_nil)) pa_nil)))
      (pss_cons (ps_try_as (i := 6) rfl rfl sc_law_are_lots_right.nd rfl rfl ⟨rfl, by decide, Or.inl T.m_BookError⟩ OB.takes0
      (fun W pn xe tk _ => (pss_one (ps_set (i := 7) sc_law_are_lots_right.nd rfl (by first | exact Or.inl rfl | exact Or.inr rfl) (pe_cgS0 (ok_lots_with T) (g.mono (by decide : 7 ≤ 7)) (by rfl) T.m_lots_with T.F_lots_with.kp (OB.Fun.bd T.F_lots_with (ps := ["notes", "amount"]) (n := 0) (ks := ["amount", "notes"]) (ix := [1, 0]) (fun _ _ _ _ _ _ us ws h1 h2 => match us, ws, h1, h2 with | [], [_, _], _, _ => rfl)) (fun σ => passAt tk σ) (pk_cons (pv 2) (pk_cons (pv 0) pk_nil))))))
      (fun a oe cls d pn hz hf => (pss_one (ps_ret (pe_and (pe_cmpR op_gt (pe_callB (toK (r := OB.rLen) (K := K) rfl c_len) (by rfl) T.n_len PySem.boot_len (pa_cons (pv 3) pa_nil)) pe_int (nomark _)) (pe_and (pe_callB (call_isG hz hf) (by rfl) T.n_isinstance (by decide +kernel) (pa_cons (pv 6) (pa_cons (pe_glob (v := .ref T.a_TooMany) (by rfl) T.m_TooMany rfl) pa_nil))) (pe_one (pe_cmpR op_eq (pe_callB (toK (r := rRepr) (K := K) rfl (call_reprH (g.rh.suite _))) (by rfl) T.n_repr (by decide +kernel) (pa_cons (pe_xg hz hf (pv 6)) pa_nil)) (pe_callB (toK (r := rRepr) (K := K) rfl (call_reprH (g.rh.suite _))) (by rfl) T.n_repr (by decide +kernel) (pa_cons pe_int pa_nil)) (nomark _)))))))))
      (pss_one (ps_ret (pe_and (pe_cmpR op_eq (pe_callB (toK (r := rRepr) (K := K) rfl (call_repr g)) (by rfl) T.n_repr (by decide +kernel) (pa_cons (pv 7) pa_nil)) (pe_callB (toK (r := rRepr) (K := K) rfl (call_repr g)) (by rfl) T.n_repr (by decide +kernel) (pa_cons (pv 3) pa_nil)) (nomark _)) (pe_one (pe_cmpR op_le (pe_callB (toK (r := OB.rLen) (K := K) rfl c_len) (by rfl) T.n_len PySem.boot_len (pa_cons (pv 3) pa_nil)) pe_int (nomark _)))))))), ?_⟩
  refine g_start (σ := [some _, some _, some _, none, none, none, none, none]) rfl ?_
  have S := (S0.add (.tt (NT rs)) h2).add (.tq p (NR rs)) h1
  clear S0 h1 h2
  have hrl : (rs.map (·.2)).length = rs.length := List.length_map ..
  have hGl : (lotG (rs.map (·.2)) 0 rs.length).length ≤ 8192 := by rw [lotG_len]; exact Nat.le_trans (Nat.pow_le_pow_right (by decide) hl) (by decide)
  repeat walk_at "ob"
  refine g_lcS (a := r) (xs := fv) true (fun j F' ds => F' = (r, .lst fv) :: F ∧ ds = (withS ((lotG (rs.map (·.2)) 0 rs.length).take j) x).map lotD) S (fun Q' q => by walk_at "ob"; exact q) ⟨rfl, rfl⟩ (fun j F' ds H' hi S3 => SqL.of ((hi.1 ▸ S3).at 0 rfl)) (fun j F' ds hi => by
    have := withS_len ((lotG (rs.map (·.2)) 0 rs.length).take j) x
    rw [List.length_take] at this
    rw [hi.2, List.length_map]; omega) ?_ ?_
  · intro j y hy Dp H3 F3 ws ds QE QR hj S6 kE kR
    obtain ⟨rfl, rfl⟩ := hj
    obtain ⟨r0, hr, hdr⟩ := dps_map (S6.dps 3 rfl) hy
    obtain ⟨t, q, rfl, ht, hq, hqd⟩ := row_openE hdr
    have etk : (lotG (rs.map (·.2)) 0 rs.length).take (j + 1) = (lotG (rs.map (·.2)) 0 rs.length).take j ++ [r0] := by
      rw [List.take_add_one, hr]
      rfl
    repeat walk_at "ob"
    refine ⟨rfl, ?_⟩
    repeat walk_at "ob"
    refine g_iteD (fun h3 => ?_) (fun h3 => ?_)
    · repeat walk_at "ob"
      refine kE _ (lotD r0.2) _ _ ⟨rfl, ?_⟩ (S6.fact (dps_one hqd) (by show (imm (lotD r0.2) && true) = true; rw [lotD_imm]; rfl))
      rw [etk, withS_snoc, if_pos h3, List.map_append]
      rfl
    · repeat walk_at "ob"
      refine kR _ _ ⟨rfl, ?_⟩ S6
      rw [etk, withS_snoc, if_neg h3, List.append_nil]
  intro Dp H3 F3 ws ds hD hj S6
  obtain ⟨rfl, rfl⟩ := hj
  have hfl : fv.length = (lotG (rs.map (·.2)) 0 rs.length).length := by
    rw [dps_length (S6.dps 3 rfl)]
    exact List.length_map ..
  rw [hfl, List.take_length] at S6
  have hWl : (withS (lotG (rs.map (·.2)) 0 rs.length) x).length ≤ 8192 := Nat.le_trans (withS_len _ _) hGl
  repeat walk_at "ob"
  refine g_sortE S6 (SqL.of (S6.at 0 rfl)) (S6.dps 0 rfl) (S6.dpi 0 rfl) (lots_alike _) (lots_sortable (withS_first _ _ _ _)) (fun d hd => by
    obtain ⟨z, _, rfl⟩ := List.mem_map.mp hd
    exact lotD_depth z) (by rw [List.length_map]; omega) fun t2 H4 ys S7 => ?_
  have hWe : (withS (lotG (rs.map (·.2)) 0 rs.length) x).mergeSort leL = lotsW (rs.map (·.2)) x := by
    unfold lotsW
    rw [hrl]
  rw [lots_sorted, hWe] at S7
  repeat walk_at "ob"
  refine g_tup0 S7 (SqL.of (S7.at 0 rfl)) (S7.dps 0 rfl) (S7.dpi 0 rfl) fun t3 H5 _ S8 => ?_
  have S9 := S8.less.less.drop2.drop2
  clear S S6 S7 S8
  have hsm : ∀ l ∈ lotsW (rs.map (·.2)) x, Small 900 1 (lotD l) := fun l hl2 => by
    rw [← hWe] at hl2
    have hm := (List.mergeSort_perm _ _).mem_iff.mp hl2
    obtain ⟨h1, h2⟩ := lot_small hl hm
    exact small_lot h1 h2
  repeat walk_at "ob"
  refine g_cgS ?_
  repeat walk_at "ob"
  refine ⟨rfl, (r, .lst fv) :: F, _, p, rs, x, rfl, S9, S9.tqs 1 rfl, S9.tts 2 rfl, ng, by omega, fun hbig d H6 S10 hd => ?_, fun hfew t4 H6 S10 => ?_⟩
  · refine ⟨true, ErrC.exm T.e_BookError T.e_TooMany, fun _ a ha => ?_, fun h => Bool.noConfusion h⟩
    obtain ⟨t3', xs, e, hxs, hdx⟩ := dp_tuple (S10.dp 0 rfl)
    cases e
    have hxl := dps_length hdx
    rw [List.length_map] at hxl
    repeat walk_at "ob"
    refine ⟨T.a_TooMany, d, _, .ref T.a_TooMany, .ref T.a_TooMany, true, rfl, rfl, T.e_TooMany.ex, .own _, rfl, hd, rfl, by unfold kitOne; rw [if_pos (beq_self_eq_true _)], ?_⟩
    repeat walk_at "ob"
    refine g_xg ?_
    repeat walk_at "ob"
    refine ⟨rfl, T.a_TooMany, d, _, .int 1000, rfl, T.e_TooMany.xf, T.e_TooMany.er.fld, rfl, hd, rfl, ?_⟩
    repeat walk_at "ob"
    refine g_reprS (.int _) (Small.int (by decide)) (by decide) (by decide) ?_
    repeat walk_at "ob"
    refine g_reprS (.int _) (Small.int (by decide)) (by decide) (by decide) ?_
    repeat walk_at "ob"
    rw [decide_eq_true rfl]
    exact k _ S10.drop.drop.drop
  · have hss : Small ((900 + 2) * 1000 + 3) 2 (.tuple ((lotsW (rs.map (·.2)) x).map lotD)) := Small.tup (SmallL.len (fun d hd => by
      obtain ⟨l, hl2, rfl⟩ := List.mem_map.mp hd
      exact hsm l hl2) (by rw [List.length_map]; exact hfew))
    obtain ⟨t3', xs, e, hxs, hdx⟩ := dp_tuple (S10.dp 1 rfl)
    cases e
    have hxl := dps_length hdx
    rw [List.length_map] at hxl
    repeat walk_at "ob"
    refine g_reprS (S10.dp 0 rfl) hss (by decide) (by decide) ?_
    repeat walk_at "ob"
    refine g_reprS (S10.dp 1 rfl) hss (by decide) (by decide) ?_
    repeat walk_at "ob"
    refine g_TD rfl ?_
    repeat walk_at "ob"
    rw [decide_eq_true (by omega)]
    exact k _ S10.drop.drop.drop.drop
end
end LAW

set_option Elab.async false
set_option linter.all false
set_option maxRecDepth 100000
namespace LAW
open PySem PySem.Spec PyProof.Rows L2 PySem.W OB
local macro_rules | `(tactic| walk_at "obc") => `(tactic| first
  | exact Or.inl ⟨by omega, by omega⟩
  | exact Or.inr ⟨by omega, by omega⟩
  | exact cdiv_ok (by omega) (by omega)
  | (show (0 : Int) < _; omega)
  | exact ⟨by omega, by decide⟩
  | exact ⟨by decide, by decide⟩)
local macro_rules | `(tactic| walk_at "obat") => `(tactic| first
  | exact Sy.at (by assumption) 0 rfl | exact Sy.at (by assumption) 1 rfl | exact Sy.at (by assumption) 2 rfl | exact Sy.at (by assumption) 3 rfl
  | exact Sy.at (by assumption) 4 rfl | exact Sy.at (by assumption) 5 rfl | exact Sy.at (by assumption) 6 rfl | exact Sy.at (by assumption) _ (by assumption) | exact Sy.at (by assumption) (_ + 1) (by assumption) | exact Sy.at (by assumption) (_ + 2) (by assumption))
local macro_rules | `(tactic| walk_at "obt") => `(tactic| first
  | exact Sy.tqs (by assumption) 0 rfl | exact Sy.tqs (by assumption) 1 rfl | exact Sy.tqs (by assumption) 2 rfl | exact Sy.tqs (by assumption) 3 rfl | exact Sy.tqs (by assumption) 4 rfl | exact Sy.tqs (by assumption) 5 rfl
  | exact Sy.tqs (by assumption) 6 rfl | exact Sy.tqs (by assumption) 7 rfl | assumption)
local macro_rules | `(tactic| walk_at "obl") => `(tactic| first
  | exact SqL.of (by walk_at "obat")
  | exact Sy.sq (by assumption) 0 rfl | exact Sy.sq (by assumption) 1 rfl | exact Sy.sq (by assumption) 2 rfl | exact Sy.sq (by assumption) 3 rfl | exact Sy.sq (by assumption) _ (by assumption))
local macro_rules | `(tactic| walk_at "obd") => `(tactic| first
  | exact Dp.int _ | exact Dp.bl _ | exact Dp.str _ | exact Dp.non
  | exact Sy.dp (by assumption) 0 rfl | exact Sy.dp (by assumption) 1 rfl | exact Sy.dp (by assumption) 2 rfl | exact Sy.dp (by assumption) 3 rfl
  | exact Sy.dp (by assumption) 4 rfl | exact Sy.dp (by assumption) 5 rfl | exact Sy.dp (by assumption) 6 rfl | exact Sy.dp (by assumption) 7 rfl
  | exact Sy.dp (by assumption) 8 rfl | exact Sy.dp (by assumption) 9 rfl | exact Sy.dp (by assumption) _ (by assumption) | assumption)
local macro_rules | `(tactic| walk_at "obds") => `(tactic| first
  | exact DpAll.nil
  | (refine' DpAll.cons ?ob1 ?ob2; (case ob1 => walk_at "obd"); (case ob2 => walk_at "obds"))
  | exact Sy.dps (by assumption) 0 rfl | exact Sy.dps (by assumption) 1 rfl | exact Sy.dps (by assumption) 2 rfl | exact Sy.dps (by assumption) 3 rfl | assumption)
local macro_rules | `(tactic| walk_at "obsc") => `(tactic| first
  | exact ScL.nil
  | ((first | refine' ScL.int ?obz | refine' ScL.str ?obz | refine' ScL.bl ?obz | refine' ScL.non ?obz); (case obz => walk_at "obsc")))
local macro_rules | `(tactic| walk_at "ob1") => `(tactic| first
  | ((with_reducible refine' g_var ?obh ?_); (case obh => rfl))
  | with_reducible refine g_c ?_
  | with_reducible refine g_nx ?_
  | with_reducible refine g_rt ?_
  | with_reducible refine g_bk ?_
  | with_reducible refine g_ct ?_
  | with_reducible refine g_op ?_
  | with_reducible refine g_I0 ?_
  | with_reducible refine g_test ?_
  | with_reducible refine g_bl ?_
  | with_reducible refine g_blx ?_
  | with_reducible refine g_B ?_
  | with_reducible refine g_seq ?_
  | with_reducible refine g_asg ?_
  | with_reducible refine g_name ?_
  | with_reducible refine g_ifS ?_
  | with_reducible refine g_ret ?_
  | with_reducible refine g_cb ?_
  | with_reducible refine g_cons ?_
  | with_reducible refine g_nil ?_
  | with_reducible refine g_int ?_
  | with_reducible refine g_intB ?_
  | with_reducible refine g_abs ?_
  | with_reducible refine g_max ?_
  | with_reducible refine g_min ?_
  | with_reducible refine g_un ?_
  | with_reducible refine g_U ?_
  | with_reducible refine g_eqI ?_
  | with_reducible refine g_neI ?_
  | with_reducible refine g_eqS ?_
  | with_reducible refine g_neS ?_
  | with_reducible refine g_tt ?_
  | with_reducible refine g_ff ?_
  | with_reducible refine g_next ?_
  | with_reducible refine g_drop ?_
  | with_reducible refine g_if ?_
  | with_reducible refine g_andV ?_
  | with_reducible refine g_orV ?_
  | with_reducible refine g_notV ?_
  | with_reducible refine g_and ?_
  | with_reducible refine g_or ?_
  | with_reducible refine g_not ?_
  | with_reducible refine g_yes ?_
  | with_reducible refine g_chain ?_
  | with_reducible refine g_cg ?_
  | with_reducible refine g_mg ?_
  | with_reducible refine g_kg ?_
  | with_reducible refine g_pg ?_
  | ((with_reducible refine' g_call ?obh ?obj ?_); (case obh => rfl); (case obj => rfl))
  | with_reducible refine g_par ?_
  | with_reducible refine g_par2 ?_
  | with_reducible refine g_par3 ?_
  | with_reducible refine g_par33 ?_
  | with_reducible refine g_gnil ?_
  | with_reducible refine g_gcons ?_
  | with_reducible refine g_gsub ?_
  | with_reducible refine g_ipI ?_
  | with_reducible refine g_rAdd ?_
  | with_reducible refine g_rSub ?_
  | ((with_reducible refine' g_aug ?obh ?_); (case obh => rfl))
  | with_reducible refine g_tup ?_
  | with_reducible refine g_lst ?_
  | with_reducible refine g_bm ?_
  | with_reducible refine g_bm0 ?_
  | with_reducible refine g_sl ?_
  | with_reducible refine g_nopart ?_
  | with_reducible refine g_part ?_
  | with_reducible refine g_pint ?_
  | with_reducible refine isi_int ?_
  | with_reducible refine isi_intB ?_
  | ((with_reducible refine' g_I ?obh ?_); (case obh => walk_at "obc"))
  | ((with_reducible refine' g_tyl ?obh ?_); (case obh => walk_at "obl"))
  | ((with_reducible refine' g_lenL ?obh ?_); (case obh => walk_at "obl"))
  | with_reducible refine g_ne ?_
  | ((with_reducible refine' g_neN' ?obh ?_); (case obh => rfl))
  | with_reducible refine g_ntt ?_
  | with_reducible refine g_nff ?_
  | with_reducible refine g_star ?_
  | with_reducible refine g_att ?_
  | with_reducible refine g_sfld ?_
  | with_reducible refine g_faug ?_
  | with_reducible refine g_fld ?_
  | ((with_reducible refine' g_nF ?obh ?_); (case obh => omega))
  | ((with_reducible refine' g_nT ?obh ?_); (case obh => omega))
  | ((with_reducible refine' g_TD ?obh ?_); (case obh => omega))
  | ((with_reducible refine' g_FD ?obh ?_); (case obh => omega))
  | ((with_reducible refine' g_ixUL ?obh ?obi ?_); (case obh => walk_at "obl"); (case obi => exact atI_nn (by omega) (by rfl)))
  | ((with_reducible refine' g_setLS ?obs ?obh ?obi ?_); (case obs => assumption); (case obh => assumption); (case obi => rfl); intro _ _ _)
  | ((with_reducible refine' g_newT ?obs ?obh ?obi ?obj ?_); (case obs => assumption); (case obh => walk_at "obds"); (case obi => rfl); (case obj => exact Nat.le_of_ble_eq_true rfl); intro _ _ _ _)
  | ((with_reducible refine' g_newL ?obs ?obj ?_); (case obs => assumption); (case obj => exact Nat.le_of_ble_eq_true rfl); intro _ _ _ _)
  | ((with_reducible refine' isi_tup ?obh ?_); (case obh => walk_at "obt"))
  | ((with_reducible refine' g_lenT ?obh ?_); (case obh => walk_at "obt"))
  | ((with_reducible refine' g_unpT ?obh ?obi ?_); (case obh => walk_at "obt"); (case obi => rfl))
  | ((with_reducible refine' g_divmod ?obs ?obh ?_); (case obs => assumption); (case obh => exact cdivp_ok (by omega) (by omega) (by omega)); intro _ _ _ _)
  | ((with_reducible refine' g_unpD ?obh ?obi ?obj ?_); (case obh => walk_at "obd"); (case obi => walk_at "obsc"); (case obj => rfl))
  | with_reducible refine g_att ?_)
local macro_rules | `(tactic| walk_at "ob") => `(tactic| first
  | walk_at "ob1"
  | refine use_is_integer ?_
  | refine use_is_within ?_
  | with_reducible refine g_lstRg ?_
  | with_reducible refine g_rg1 ?_
  | with_reducible refine g_rg2 ?_
  | with_reducible refine g_tTru ?_
  | ((with_reducible refine' g_truL ?obh ?_); (case obh => walk_at "obl"))
  | ((with_reducible refine' g_ixUT ?obh ?obi ?_); (case obh => walk_at "obt"); (case obi => rfl))
  | with_reducible refine g_forZ ?_
  | with_reducible refine g_forR2 ?_
  | with_reducible refine g_forE ?_
  | with_reducible refine g_lcZ ?_)
section
variable {w : World} {K : Frag} {mg : Str → Option Value} {base : Heap}
def sp_law_asked_sum (K : Frag) : Sp := fun vs H Q E => vs.length = 2 ∧ ∃ (F : List (Addr × HO)) (G : List Ft) (p r : Addr) (n : Nat) (fv : List V) (L : List Lt), vs = [.ref p, .ref r] ∧ Pot K ((r, .lst fv) :: F) (.dat fv (rowsE L) :: G) p n H ∧ n < 900000 ∧ 0 < L.length ∧ L.length ≤ 8192 ∧
  ∀ x H', Pot K ((r, .lst fv) :: F) (.dat fv (rowsE L) :: G) p (n + 3) H' → Q (.int x) H'
abbrev names_law_asked_sum : List Str := ["pot", "rows", "total", "some"]
theorem sc_law_asked_sum : FnScope names_law_asked_sum ["pot", "rows"] (defScope (top 39)) := ⟨rfl, rfl, rfl, by decide +kernel, rfl, by decide +kernel, by decide +kernel⟩
set_option maxHeartbeats 4000000 in
theorem ok_law_asked_sum (T : Tx K mg) : FG P w K mg base CX0 3 T.a_law_asked_sum T.d_law_asked_sum ["pot", "rows"] (sp_law_asked_sum K) := by
  refine OB.Fun.fg T.F_law_asked_sum sc_law_asked_sum (fun vs H Q E h => h.1) (fun cdv A out s H vs Q E g h => ?_)
  obtain ⟨_, F, G, p, r, n, fv, L, rfl, P0, hn, hl0, hl1, k⟩ := h
  refine ⟨_, (pss_cons (ps_set (i := 2) sc_law_asked_sum.nd rfl (by first | exact Or.inl rfl | exact Or.inr rfl) (pe_ix (ix_UK (K := K) rfl) (pe_cg (ok_law_of T) (g.mono (by decide : 2 ≤ 2)) (by rfl) T.m_law_of T.F_law_of.kp (OB.Fun.bd T.F_law_of (ps := ["pot", "some"]) (n := 2) (ks := []) (ix := [0, 1]) (fun _ _ _ _ _ _ us ws h1 h2 => match us, ws, h1, h2 with | [_, _], [], _, _ => rfl)) pass0 (pa_cons (pv 0) (pa_cons (pv 1) pa_nil)) pk_nil) pe_int (fun _ _ => rfl)))
      (pss_cons (ps_set (i := 3) sc_law_asked_sum.nd rfl (by first | exact Or.inl rfl | exact Or.inr rfl) (pe_lst (pa_cons (pv 2) (pa_cons (pv 2) (pa_cons (pe_op op_add (pv 2) pe_int) (pa_cons (pe_op op_sub (pv 2) pe_int) (pa_cons (pe_cg (ok_law_take T) (g.mono (by decide : 1 ≤ 2)) (by rfl) T.m_law_take T.F_law_take.kp (OB.Fun.bd T.F_law_take (ps := ["pot", "upto"]) (n := 2) (ks := []) (ix := [0, 1]) (fun _ _ _ _ _ _ us ws h1 h2 => match us, ws, h1, h2 with | [_, _], [], _, _ => rfl)) pass0 (pa_cons (pv 0) (pa_cons pe_int pa_nil)) pk_nil) (pa_cons pe_int (pa_cons (pe_un un_neg (pv 2)) (pa_cons (pe_op op_powX pe_int pe_int) (pa_cons (pe_un un_neg (pe_op op_powX pe_int pe_int)) pa_nil)))))))))))
      (pss_one (ps_ret (pe_callTy c_int (by rfl) T.n_int (by decide +kernel) (pa_cons (pe_cg (ok_law_of T) (g.mono (by decide : 2 ≤ 2)) (by rfl) T.m_law_of T.F_law_of.kp (OB.Fun.bd T.F_law_of (ps := ["pot", "some"]) (n := 2) (ks := []) (ix := [0, 1]) (fun _ _ _ _ _ _ us ws h1 h2 => match us, ws, h1, h2 with | [_, _], [], _, _ => rfl)) pass0 (pa_cons (pv 0) (pa_cons (pv 3) pa_nil)) pk_nil) pa_nil)))))), ?_⟩
  refine g_start (σ := [some _, some _, none, none]) rfl ?_
  have hfl : fv.length = L.length := by
    obtain ⟨a, b, c, o, S⟩ := P0
    rw [dps_length (S.dps 0 rfl)]
    exact List.length_map ..
  repeat walk_at "ob"
  refine use_ofP P0 (by omega) (by omega) (by omega) fun v hv H1 P1 => ?_
  obtain ⟨i, hi⟩ := List.mem_iff_getElem?.mp hv
  obtain ⟨a, b, c, o, S⟩ := P1
  obtain ⟨r0, hr, hdr⟩ := dps_map (S.dps 0 rfl) hi
  obtain ⟨t, q, rfl, ht, hq, hqd⟩ := row_openE hdr
  repeat walk_at "ob"
  refine use_takeP ⟨a, b, c, o, S⟩ (by omega) (by decide) (by decide) fun u H2 u0 u1 P2 => ?_
  clear S
  obtain ⟨a2, b2, c2, o2, S2⟩ := P2
  repeat walk_at "ob"
  rename_i so H3 _ S3
  refine use_ofP (xs := [r0.1, r0.1, r0.1 + 1, r0.1 - 1, u, 0, -r0.1, 10 ^ Int.toNat 13, -10 ^ Int.toNat 13].map V.int) ⟨a2, b2, c2, o2, S3.swap⟩ (by omega) (by show 0 < 9; decide) (by show 9 < _; decide) fun v hv H4 P4 => ?_
  obtain ⟨x, _, rfl⟩ := List.mem_map.mp hv
  repeat walk_at "ob"
  exact k x _ P4.less
end
end LAW

set_option Elab.async false
set_option linter.all false
set_option maxRecDepth 100000
namespace LAW
open PySem PySem.Spec PyProof.Rows L2 PySem.W OB
/-! ### what is shown as a lot: plainly -/
/-- the lots with a sum, without () -/
def fineL (rows : List Lt) (x : Int) : List (List Nat) := (withS rows x).filter fun l => decide (l ≠ [])
theorem fineL_snoc (rows : List Lt) (r : Lt) (x : Int) : fineL (rows ++ [r]) x = fineL rows x ++ if r.1 = x ∧ r.2 ≠ [] then [r.2] else [] := by
  unfold fineL
  rw [withS_snoc, List.filter_append]
  congr 1
  by_cases c : r.1 = x
  · rw [if_pos c]
    by_cases d : r.2 = []
    · simp [c, d]
    · simp [c, d]
  · simp [c]
theorem fineL_mem {rows : List Lt} {x : Int} {l : List Nat} : l ∈ fineL rows x ↔ l ∈ withS rows x ∧ l ≠ [] := by
  unfold fineL
  rw [List.mem_filter, decide_eq_true_eq]
theorem ints_no_r (l : List Int) : 114 ∉ (PyData.tuple (l.map PyData.int)).shown.cps.toList := by
  rw [PyData.shown_tuple]
  intro h
  rw [mem_cps_append, mem_cps_append, mem_join] at h
  have hi : ∀ t ∈ PyData.shownAll (l.map PyData.int), 114 ∉ t.cps.toList := by
    intro t ht h2
    rw [shownAll_eq_map, List.map_map] at ht
    obtain ⟨i, _, rfl⟩ := List.mem_map.mp ht
    have := int_sign h2
    omega
  rcases h with (h | ⟨t, ht, h⟩ | ⟨_, h⟩) | h
  · exact absurd h (by decide +kernel)
  · exact hi t ht h
  · exact absurd h (by decide +kernel)
  · split at h <;> exact absurd h (by decide +kernel)
theorem ints_ne_T (l : List Int) : (PyData.tuple (l.map PyData.int)).shown ≠ (PyData.tuple [.bool true]).shown := fun h => by
  have := ints_no_r l
  rw [h] at this
  exact this (by decide +kernel)
theorem lotD_ints (l : List Nat) : lotD l = .tuple ((l.map fun i : Nat => (i : Int)).map PyData.int) := by
  unfold lotD
  rw [List.map_map]
  rfl
theorem eqv_ints : ∀ (l : List Nat) (ms : List Int), PyData.eqvAll (l.map fun i : Nat => PyData.int (i : Int)) (ms.map PyData.int) = decide (ms.map V.int = nI l)
  | [], [] => rfl
  | [], _ :: _ => rfl
  | _ :: _, [] => rfl
  | i :: l, m :: ms => by
    have ih := eqv_ints l ms
    have e : PyData.eqvAll ((i :: l).map fun i : Nat => PyData.int (i : Int)) ((m :: ms).map PyData.int) = (decide ((i : Int) = m) && PyData.eqvAll (l.map fun i : Nat => PyData.int (i : Int)) (ms.map PyData.int)) := by
      simp only [List.map_cons, PyData.eqvAll, PyData.eqv]
      congr 1
    rw [e, ih, ← Bool.decide_and]
    refine decide_eq_decide.mpr ⟨fun ⟨h1, h2⟩ => ?_, fun h => ?_⟩
    · show V.int m :: ms.map V.int = V.int (i : Int) :: nI l
      rw [h1, h2]
    · have h2 := List.cons.inj (show V.int m :: ms.map V.int = V.int (i : Int) :: nI l from h)
      exact ⟨(V.int.inj h2.1).symm, h2.2⟩
theorem eqv_lot (l : List Nat) (ms : List Int) : PyData.eqv (lotD l) (.tuple (ms.map PyData.int)) = decide (ms.map V.int = nI l) := eqv_ints l ms
theorem eqv_lotN (l : List Nat) : PyData.eqv (lotD l) (.tuple [.none]) = decide ([V.non] = nI l) := by
  cases l with
  | nil => rfl
  | cons i l =>
    have : ¬ [V.non] = nI (i :: l) := fun h => by
      have := (List.cons.inj (show V.non :: [] = V.int (i : Int) :: nI l from h)).1
      cases this
    rw [decide_eq_false this]
    rfl
/-- what stands among the values that are judged -/
def OdK (m : Vd) : Prop := match m with
  | .tp xs ds => Small 900 1 (.tuple ds) ∧ ((xs = [.bl true] ∧ ds = [.bool true]) ∨ ((∀ l, PyData.eqv (lotD l) (.tuple ds) = decide (xs = nI l)) ∧ (PyData.tuple ds).shown ≠ (PyData.tuple [.bool true]).shown))
  | _ => True
/-- what the law itself finds -/
def isR (fs : List (List Nat)) : Vd → Bool
  | .non => fs.isEmpty
  | .nt _ => false
  | .tp xs _ => fs.any fun l => decide (xs = nI l)
theorem shows_is {notes : List N} {n : Nat} {x : Int} {m : Vd} {b : Bool} (hn : notes.length = n) (h : ShowsR notes x b m) : b = isR (fineL (lotG notes 0 n) x) m := by
  subst hn
  cases m with
  | non =>
    have h : b = true ↔ ∀ l ∈ withS (lotG notes 0 notes.length) x, l = [] := h
    have e : isR (fineL (lotG notes 0 notes.length) x) .non = true ↔ ∀ l ∈ withS (lotG notes 0 notes.length) x, l = [] := by
      show (fineL (lotG notes 0 notes.length) x).isEmpty = true ↔ _
      rw [List.isEmpty_iff]
      constructor
      · intro h2 l hl
        by_cases c : l = []
        · exact c
        · have := fineL_mem.mpr ⟨hl, c⟩
          rw [h2] at this
          cases this
      · intro h2
        rw [List.eq_nil_iff_forall_not_mem]
        intro l hl
        exact (fineL_mem.mp hl).2 (h2 l (fineL_mem.mp hl).1)
    exact Bool.eq_iff_iff.mpr (h.trans e.symm)
  | nt d => exact h
  | tp xs ds =>
    have h : b = true ↔ ∃ l ∈ withS (lotG notes 0 notes.length) x, l ≠ [] ∧ xs = nI l := h
    have e : isR (fineL (lotG notes 0 notes.length) x) (.tp xs ds) = true ↔ ∃ l ∈ withS (lotG notes 0 notes.length) x, l ≠ [] ∧ xs = nI l := by
      show ((fineL (lotG notes 0 notes.length) x).any fun l => decide (xs = nI l)) = true ↔ _
      rw [List.any_eq_true]
      constructor
      · rintro ⟨l, hl, e⟩
        exact ⟨l, (fineL_mem.mp hl).1, (fineL_mem.mp hl).2, of_decide_eq_true e⟩
      · rintro ⟨l, h1, h2, h3⟩
        exact ⟨l, fineL_mem.mpr ⟨h1, h2⟩, decide_eq_true h3⟩
    exact Bool.eq_iff_iff.mpr (h.trans e.symm)
theorem rev_not_asc {l : List Nat} (h : asc l) (h2 : 1 < l.length) : ¬ asc l.reverse := fun h3 => by
  match l, h, h2, h3 with
  | a :: b :: r, h, _, h3 =>
    have h4 := (List.pairwise_cons.mp h).1 b (List.mem_cons_self ..)
    unfold asc at h3
    rw [List.pairwise_reverse] at h3
    have h5 := (List.pairwise_cons.mp h3).1 b (List.mem_cons_self ..)
    omega
theorem twice_not_asc {l : List Nat} {a : Nat} : ¬ asc (l ++ [a] ++ [a]) := fun h => by
  have h2 := (List.pairwise_append.mp h).2.2 a (List.mem_append_right _ (List.mem_singleton.mpr rfl)) a (List.mem_singleton.mpr rfl)
  omega
/-- what the law finds at first -/
def isR1 (fs : List (List Nat)) : Vd → Bool
  | .tp xs _ => fs.any fun l => decide (xs = nI l)
  | _ => false
section
variable {K : Frag}
theorem dps_intsV2 {H : Hp} : ∀ {ms : List Int} {vs : List V}, DpAll K H vs (ms.map PyData.int) → vs = ms.map V.int
  | [], _, h => by cases h; rfl
  | m :: ms, _, h => by
    cases h with
    | cons h1 h2 => rw [dps_intsV2 h2, dp_int h1]; rfl
theorem shaped_ints (ms : List Int) : SeqAt.shaped (.tuple (ms.map PyData.int)) = true := by
  have h1 : PyData.canLayAll0 (ms.map PyData.int) = true ∧ PyData.depthAll (ms.map PyData.int) ≤ 50 := by
    induction ms with
    | nil => exact ⟨rfl, by decide⟩
    | cons l ls ih =>
      refine ⟨?_, ?_⟩
      · show ((PyData.int l).canLay0 && PyData.canLayAll0 (ls.map PyData.int)) = true
        rw [ih.1]
        rfl
      · show max (PyData.int l).depth (PyData.depthAll (ls.map PyData.int)) ≤ 50
        have : (PyData.int l).depth = 0 := rfl
        omega
  show (PyData.canLayAll0 (ms.map PyData.int) && decide ((PyData.tuple (ms.map PyData.int)).depth ≤ 64)) = true
  rw [h1.1, Bool.true_and]
  refine decide_eq_true ?_
  show PyData.depthAll (ms.map PyData.int) + 1 ≤ 64
  omega
theorem vd_ints {H : Hp} {v : V} {ms : List Int} (h : L2.Dp K H v (.tuple (ms.map PyData.int))) (hl : ms.length ≤ 1000) : VdV K H v (.tp (ms.map V.int) (ms.map PyData.int)) := by
  obtain ⟨a, xs, rfl, ha, hx⟩ := dp_tuple h
  have := dps_intsV2 hx
  subst this
  refine ⟨a, rfl, ha, h, by rw [List.length_map, List.length_map], fun x hx => ?_, by rw [List.length_map]; exact hl, shaped_ints ms⟩
  obtain ⟨i, _, rfl⟩ := List.mem_map.mp hx
  exact .inl ⟨i, rfl⟩
theorem odk_ints {ms : List Int} (h : ∀ x ∈ ms, x.natAbs < 10 ^ 60) (hl : ms.length ≤ 14) : OdK (.tp (ms.map V.int) (ms.map PyData.int)) :=
  ⟨(small_ints h hl).mono (by decide) (Nat.le_refl _), .inr ⟨fun l => eqv_lot l ms, ints_ne_T ms⟩⟩
theorem vd_none {H : Hp} {v : V} (h : L2.Dp K H v (.tuple [.none])) : VdV K H v (.tp [.non] [.none]) := by
  obtain ⟨a, xs, rfl, ha, hx⟩ := dp_tuple h
  cases hx with
  | cons h1 h2 =>
  cases h2
  cases h1
  refine ⟨a, rfl, ha, h, rfl, fun x hx => ?_, by decide, by decide⟩
  rw [List.mem_singleton.mp hx]
  exact .inr (.inr (.inl rfl))
theorem vd_true {H : Hp} {v : V} (h : L2.Dp K H v (.tuple [.bool true])) : VdV K H v (.tp [.bl true] [.bool true]) := by
  obtain ⟨a, xs, rfl, ha, hx⟩ := dp_tuple h
  cases hx with
  | cons h1 h2 =>
  cases h2
  cases h1
  refine ⟨a, rfl, ha, h, rfl, fun x hx => ?_, by decide, by decide⟩
  rw [List.mem_singleton.mp hx]
  exact .inr (.inl ⟨_, rfl⟩)
theorem odk_none : OdK (.tp [.non] [.none]) := ⟨(Small.tup (SmallL.cons Small.non SmallL.nil)).mono (by decide) (by decide), .inr ⟨eqv_lotN, by decide +kernel⟩⟩
theorem odk_true : OdK (.tp [.bl true] [.bool true]) := ⟨(Small.tup (SmallL.cons Small.bl SmallL.nil)).mono (by decide) (by decide), .inl ⟨rfl, rfl⟩⟩
theorem isR_true (fs : List (List Nat)) (ds : List PyData) : (fs.any fun l => decide ([V.bl true] = nI l)) = false := by
  rw [List.any_eq_false]
  intro l _ h
  have := of_decide_eq_true h
  cases l with
  | nil => cases this
  | cons i l =>
    have := (List.cons.inj (show V.bl true :: [] = V.int (i : Int) :: nI l from this)).1
    cases this
theorem any_lots (fs : List (List Nat)) {xs : List V} {ds : List PyData} (h : ∀ l, PyData.eqv (lotD l) (.tuple ds) = decide (xs = nI l)) : ((fs.map lotD).any fun z => PyData.eqv z (.tuple ds)) = fs.any fun l => decide (xs = nI l) := by
  rw [List.any_map]
  congr 1
  funext l
  exact h l
theorem eqv_empty (fs : List (List Nat)) : PyData.eqv (.list (fs.map lotD)) (.list []) = fs.isEmpty := by
  cases fs <;> rfl
theorem str_int_ok (i : Int) : PyData.canLay0 (.str (Str.ofString (toString i))) = true := by
  show (Str.ofString (toString i)).cps.all (· < 0x110000) = true
  rw [Array.all_eq_true']
  intro c hc
  have : c ∈ (PyData.int i).shown.cps.toList := by
    rw [PyData.shown_int]
    simpa using hc
  have := int_sign this
  simp
  omega
theorem shaped_strs (ms : List Int) : SeqAt.shaped (.tuple (ms.map fun i => PyData.str (Str.ofString (toString i)))) = true := by
  have h1 : PyData.canLayAll0 (ms.map fun i => PyData.str (Str.ofString (toString i))) = true ∧ PyData.depthAll (ms.map fun i => PyData.str (Str.ofString (toString i))) ≤ 50 := by
    induction ms with
    | nil => exact ⟨rfl, by decide⟩
    | cons l ls ih =>
      refine ⟨?_, ?_⟩
      · show ((PyData.str (Str.ofString (toString l))).canLay0 && PyData.canLayAll0 (ls.map fun i => PyData.str (Str.ofString (toString i)))) = true
        rw [ih.1, str_int_ok]
        rfl
      · show max (PyData.str (Str.ofString (toString l))).depth (PyData.depthAll (ls.map fun i => PyData.str (Str.ofString (toString i)))) ≤ 50
        have : (PyData.str (Str.ofString (toString l))).depth = 0 := rfl
        omega
  show (PyData.canLayAll0 _ && decide ((PyData.tuple _).depth ≤ 64)) = true
  rw [h1.1, Bool.true_and]
  refine decide_eq_true ?_
  show PyData.depthAll (ms.map fun i => PyData.str (Str.ofString (toString i))) + 1 ≤ 64
  omega
theorem vd_strs {H : Hp} {v : V} {ms : List Int} (h : L2.Dp K H v (.tuple (ms.map fun i => PyData.str (Str.ofString (toString i))))) (hl : ms.length ≤ 1000) : VdV K H v (.tp (ms.map fun i => V.str (Str.ofString (toString i))) (ms.map fun i => PyData.str (Str.ofString (toString i)))) := by
  obtain ⟨a, xs, rfl, ha, hx⟩ := dp_tuple h
  have := dps_scal hx (fun d hd => by
    obtain ⟨i, _, rfl⟩ := List.mem_map.mp hd
    rfl)
  rw [List.map_map] at this
  subst this
  refine ⟨a, rfl, ha, h, by rw [List.length_map, List.length_map], fun x hx => ?_, by rw [List.length_map]; exact hl, shaped_strs ms⟩
  obtain ⟨i, _, rfl⟩ := List.mem_map.mp hx
  exact .inr (.inr (.inr ⟨_, rfl⟩))
theorem nI_ints (l : List Nat) : nI l = (l.map fun i : Nat => (i : Int)).map V.int := by
  unfold nI
  rw [List.map_map]
  rfl
theorem isR_rev {fs : List (List Nat)} (ha : ∀ l ∈ fs, asc l) {l : List Nat} (h : asc l) (h2 : 1 < l.length) : (fs.any fun z => decide (((l.map fun i : Nat => (i : Int)).reverse).map V.int = nI z)) = false := by
  rw [List.any_eq_false]
  intro z hz e
  have e := of_decide_eq_true e
  rw [show ((l.map fun i : Nat => (i : Int)).reverse).map V.int = nI l.reverse by simp only [nI_ints, List.map_reverse]] at e
  have := ha z hz
  rw [← nI_inj e] at this
  exact rev_not_asc h h2 this
theorem isR_twice {fs : List (List Nat)} (ha : ∀ l ∈ fs, asc l) {l : List Nat} {b : Nat} : (fs.any fun z => decide ((((l ++ [b]).map fun i : Nat => (i : Int)) ++ [(b : Int)]).map V.int = nI z)) = false := by
  rw [List.any_eq_false]
  intro z hz e
  have e := of_decide_eq_true e
  rw [show (((l ++ [b]).map fun i : Nat => (i : Int)) ++ [(b : Int)]).map V.int = nI (l ++ [b] ++ [b]) by rw [nI_ints, List.map_append (l₁ := l ++ [b])]; rfl] at e
  have := ha z hz
  rw [← nI_inj e] at this
  exact twice_not_asc this
theorem isR_strs {fs : List (List Nat)} {l : List Nat} (h2 : 1 < l.length) : (fs.any fun z => decide (((l.map fun i : Nat => (i : Int)).map fun i => V.str (Str.ofString (toString i))) = nI z)) = false := by
  rw [List.any_eq_false]
  intro z hz e
  have e := of_decide_eq_true e
  cases l with
  | nil => exact absurd h2 (Nat.not_lt_zero _)
  | cons b l =>
    cases z with
    | nil => cases e
    | cons i z => cases (List.cons.inj (show V.str _ :: _ = V.int (i : Int) :: nI z from e)).1
theorem cut_last (xs : List V) (x : V) : cutV (xs ++ [x]) (some (-1)) none = [x] := by
  have e : HT.sIx (xs ++ [x]).length 0 (some (-1)) = xs.length := by
    unfold HT.sIx
    show (if (-1 : Int) < 0 then ((-1 : Int) + ((xs ++ [x]).length : Int)).toNat else _) = _
    rw [if_pos (by decide), List.length_append]
    simp
    omega
  unfold cutV
  rw [e, HT.sIx_none, List.drop_left]
  rw [List.length_append]
  simp
theorem last_ix (xs : List V) (x : V) (h : 0 < xs.length) : Nat.beq (HT.sIx (xs ++ [x]).length 0 (some (-1))) 0 = false := by
  have e : HT.sIx (xs ++ [x]).length 0 (some (-1)) = xs.length := by
    unfold HT.sIx
    show (if (-1 : Int) < 0 then ((-1 : Int) + ((xs ++ [x]).length : Int)).toNat else _) = _
    rw [if_pos (by decide), List.length_append]
    simp
    omega
  rw [e]
  cases xs with
  | nil => exact absurd h (Nat.lt_irrefl _)
  | cons _ _ => rfl
end
end LAW

set_option Elab.async false
set_option linter.all false
set_option maxRecDepth 100000
namespace LAW
open PySem PySem.Spec PyProof.Rows L2 PySem.W OB
local macro_rules | `(tactic| walk_at "obc") => `(tactic| first
  | exact Or.inl ⟨by omega, by omega⟩
  | exact Or.inr ⟨by omega, by omega⟩
  | exact cdiv_ok (by omega) (by omega)
  | (show (0 : Int) < _; omega)
  | exact ⟨by omega, by decide⟩
  | exact ⟨by decide, by decide⟩)
local macro_rules | `(tactic| walk_at "obat") => `(tactic| first
  | exact Sy.at (by assumption) 0 rfl | exact Sy.at (by assumption) 1 rfl | exact Sy.at (by assumption) 2 rfl | exact Sy.at (by assumption) 3 rfl
  | exact Sy.at (by assumption) 4 rfl | exact Sy.at (by assumption) 5 rfl | exact Sy.at (by assumption) 6 rfl | exact Sy.at (by assumption) _ (by assumption) | exact Sy.at (by assumption) (_ + 1) (by assumption) | exact Sy.at (by assumption) (_ + 2) (by assumption))
local macro_rules | `(tactic| walk_at "obt") => `(tactic| first
  | exact Sy.tqs (by assumption) 0 rfl | exact Sy.tqs (by assumption) 1 rfl | exact Sy.tqs (by assumption) 2 rfl | exact Sy.tqs (by assumption) 3 rfl | exact Sy.tqs (by assumption) 4 rfl | exact Sy.tqs (by assumption) 5 rfl
  | exact Sy.tqs (by assumption) 6 rfl | exact Sy.tqs (by assumption) 7 rfl | assumption)
local macro_rules | `(tactic| walk_at "obl") => `(tactic| first
  | exact SqL.of (by walk_at "obat")
  | exact Sy.sq (by assumption) 0 rfl | exact Sy.sq (by assumption) 1 rfl | exact Sy.sq (by assumption) 2 rfl | exact Sy.sq (by assumption) 3 rfl | exact Sy.sq (by assumption) _ (by assumption))
local macro_rules | `(tactic| walk_at "obd") => `(tactic| first
  | exact Dp.int _ | exact Dp.bl _ | exact Dp.str _ | exact Dp.non
  | exact Sy.dp (by assumption) 0 rfl | exact Sy.dp (by assumption) 1 rfl | exact Sy.dp (by assumption) 2 rfl | exact Sy.dp (by assumption) 3 rfl
  | exact Sy.dp (by assumption) 4 rfl | exact Sy.dp (by assumption) 5 rfl | exact Sy.dp (by assumption) 6 rfl | exact Sy.dp (by assumption) 7 rfl
  | exact Sy.dp (by assumption) 8 rfl | exact Sy.dp (by assumption) 9 rfl | exact Sy.dp (by assumption) _ (by assumption) | assumption)
local macro_rules | `(tactic| walk_at "obds") => `(tactic| first
  | exact DpAll.nil
  | (refine' DpAll.cons ?ob1 ?ob2; (case ob1 => walk_at "obd"); (case ob2 => walk_at "obds"))
  | exact Sy.dps (by assumption) 0 rfl | exact Sy.dps (by assumption) 1 rfl | exact Sy.dps (by assumption) 2 rfl | exact Sy.dps (by assumption) 3 rfl | assumption)
local macro_rules | `(tactic| walk_at "obsc") => `(tactic| first
  | exact ScL.nil
  | ((first | refine' ScL.int ?obz | refine' ScL.str ?obz | refine' ScL.bl ?obz | refine' ScL.non ?obz); (case obz => walk_at "obsc")))
local macro_rules | `(tactic| walk_at "ob1") => `(tactic| first
  | ((with_reducible refine' g_var ?obh ?_); (case obh => rfl))
  | with_reducible refine g_c ?_
  | with_reducible refine g_nx ?_
  | with_reducible refine g_rt ?_
  | with_reducible refine g_bk ?_
  | with_reducible refine g_ct ?_
  | with_reducible refine g_op ?_
  | with_reducible refine g_I0 ?_
  | with_reducible refine g_test ?_
  | with_reducible refine g_bl ?_
  | with_reducible refine g_blx ?_
  | with_reducible refine g_B ?_
  | with_reducible refine g_seq ?_
  | with_reducible refine g_asg ?_
  | with_reducible refine g_name ?_
  | with_reducible refine g_ifS ?_
  | with_reducible refine g_ret ?_
  | with_reducible refine g_cb ?_
  | with_reducible refine g_cons ?_
  | with_reducible refine g_nil ?_
  | with_reducible refine g_int ?_
  | with_reducible refine g_intB ?_
  | with_reducible refine g_abs ?_
  | with_reducible refine g_max ?_
  | with_reducible refine g_min ?_
  | with_reducible refine g_un ?_
  | with_reducible refine g_U ?_
  | with_reducible refine g_eqI ?_
  | with_reducible refine g_neI ?_
  | with_reducible refine g_eqS ?_
  | with_reducible refine g_neS ?_
  | with_reducible refine g_tt ?_
  | with_reducible refine g_ff ?_
  | with_reducible refine g_next ?_
  | with_reducible refine g_drop ?_
  | with_reducible refine g_if ?_
  | with_reducible refine g_andV ?_
  | with_reducible refine g_orV ?_
  | with_reducible refine g_notV ?_
  | with_reducible refine g_and ?_
  | with_reducible refine g_or ?_
  | with_reducible refine g_not ?_
  | with_reducible refine g_yes ?_
  | with_reducible refine g_chain ?_
  | with_reducible refine g_cg ?_
  | with_reducible refine g_mg ?_
  | with_reducible refine g_kg ?_
  | with_reducible refine g_pg ?_
  | ((with_reducible refine' g_call ?obh ?obj ?_); (case obh => rfl); (case obj => rfl))
  | with_reducible refine g_par ?_
  | with_reducible refine g_par2 ?_
  | with_reducible refine g_par3 ?_
  | with_reducible refine g_par33 ?_
  | with_reducible refine g_gnil ?_
  | with_reducible refine g_gcons ?_
  | with_reducible refine g_gsub ?_
  | with_reducible refine g_ipI ?_
  | with_reducible refine g_rAdd ?_
  | with_reducible refine g_rSub ?_
  | ((with_reducible refine' g_aug ?obh ?_); (case obh => rfl))
  | with_reducible refine g_tup ?_
  | with_reducible refine g_lst ?_
  | with_reducible refine g_bm ?_
  | with_reducible refine g_bm0 ?_
  | with_reducible refine g_sl ?_
  | with_reducible refine g_nopart ?_
  | with_reducible refine g_part ?_
  | with_reducible refine g_pint ?_
  | with_reducible refine isi_int ?_
  | with_reducible refine isi_intB ?_
  | ((with_reducible refine' g_I ?obh ?_); (case obh => walk_at "obc"))
  | ((with_reducible refine' g_tyl ?obh ?_); (case obh => walk_at "obl"))
  | ((with_reducible refine' g_lenL ?obh ?_); (case obh => walk_at "obl"))
  | with_reducible refine g_ne ?_
  | ((with_reducible refine' g_neN' ?obh ?_); (case obh => rfl))
  | with_reducible refine g_ntt ?_
  | with_reducible refine g_nff ?_
  | with_reducible refine g_star ?_
  | with_reducible refine g_att ?_
  | with_reducible refine g_sfld ?_
  | with_reducible refine g_faug ?_
  | with_reducible refine g_fld ?_
  | ((with_reducible refine' g_nF ?obh ?_); (case obh => omega))
  | ((with_reducible refine' g_nT ?obh ?_); (case obh => omega))
  | ((with_reducible refine' g_TD ?obh ?_); (case obh => omega))
  | ((with_reducible refine' g_FD ?obh ?_); (case obh => omega))
  | ((with_reducible refine' g_ixUL ?obh ?obi ?_); (case obh => walk_at "obl"); (case obi => exact atI_nn (by omega) (by rfl)))
  | ((with_reducible refine' g_setLS ?obs ?obh ?obi ?_); (case obs => assumption); (case obh => assumption); (case obi => rfl); intro _ _ _)
  | ((with_reducible refine' g_newT ?obs ?obh ?obi ?obj ?_); (case obs => assumption); (case obh => walk_at "obds"); (case obi => rfl); (case obj => exact Nat.le_of_ble_eq_true rfl); intro _ _ _ _)
  | ((with_reducible refine' g_newL ?obs ?obj ?_); (case obs => assumption); (case obj => exact Nat.le_of_ble_eq_true rfl); intro _ _ _ _)
  | ((with_reducible refine' isi_tup ?obh ?_); (case obh => walk_at "obt"))
  | ((with_reducible refine' g_lenT ?obh ?_); (case obh => walk_at "obt"))
  | ((with_reducible refine' g_unpT ?obh ?obi ?_); (case obh => walk_at "obt"); (case obi => rfl))
  | ((with_reducible refine' g_divmod ?obs ?obh ?_); (case obs => assumption); (case obh => exact cdivp_ok (by omega) (by omega) (by omega)); intro _ _ _ _)
  | ((with_reducible refine' g_unpD ?obh ?obi ?obj ?_); (case obh => walk_at "obd"); (case obi => walk_at "obsc"); (case obj => rfl))
  | with_reducible refine g_att ?_)
local macro_rules | `(tactic| walk_at "ob") => `(tactic| first
  | walk_at "ob1"
  | refine use_is_integer ?_
  | refine use_is_within ?_
  | with_reducible refine g_lstRg ?_
  | with_reducible refine g_rg1 ?_
  | with_reducible refine g_rg2 ?_
  | with_reducible refine g_tTru ?_
  | ((with_reducible refine' g_truL ?obh ?_); (case obh => walk_at "obl"))
  | ((with_reducible refine' g_ixUT ?obh ?obi ?_); (case obh => walk_at "obt"); (case obi => rfl))
  | with_reducible refine g_forZ ?_
  | with_reducible refine g_forR2 ?_
  | with_reducible refine g_forE ?_
  | with_reducible refine g_lcZ ?_)
section
variable {w : World} {K : Frag} {mg : Str → Option Value} {base : Heap}
theorem hu65 {k : Nat} {A : Around} (g : RG k A) : A.units + 65 < cLine := by
  have := g.rm.un
  omega
theorem use_a_lot {F : List (Addr × HO)} {G : List Ft} {H : Hp} {Q : VK} {E : XK} {p : Addr} {rs : NS} {x : Int} (S : Sy K F G H) (h1 : SqT K H p (NR rs)) (h2 : ∀ q ∈ NT rs, H q.1 = some (.tup q.2)) (ng : NG rs) (hl : rs.length ≤ 24)
    (kN : (∀ l ∈ withS (lotG (rs.map (·.2)) 0 rs.length) x, l = []) → ∀ H', Sy K F G H' → Q .non H') (kQ : ∀ l, l ∈ withS (lotG (rs.map (·.2)) 0 rs.length) x → l ≠ [] → ∀ t H', Sy K F (.dat [.ref t] [lotD l] :: G) H' → Q (.ref t) H') : sp_a_lot K [.ref p, .int x] H Q E := ⟨rfl, F, G, p, rs, x, rfl, S, h1, h2, ng, hl, kN, kQ⟩
/-- what a_lot tells -/
def ToldOk (fs : List (List Nat)) (d : PyData) : Prop := (d = .none ∧ fs = []) ∨ ∃ l ∈ fs, d = lotD l
theorem told_via {F : List (Addr × HO)} {G : List Ft} {H : Hp} {Q : VK} {E : XK} {p : Addr} {rs : NS} {x : Int} (S : Sy K F G H) (h1 : SqT K H p (NR rs)) (h2 : ∀ q ∈ NT rs, H q.1 = some (.tup q.2)) (ng : NG rs) (hl : rs.length ≤ 24)
    (k : ∀ v d H', ToldOk (fineL (lotG (rs.map (·.2)) 0 rs.length) x) d → Sy K F (.dat [v] [d] :: G) H' → Q v H') : sp_a_lot K [.ref p, .int x] H Q E :=
  use_a_lot S h1 h2 ng hl (fun hN H' S' => k .non .none H' (.inl ⟨rfl, by
    unfold fineL
    rw [List.filter_eq_nil_iff]
    intro l hl2
    simp [hN l hl2]⟩) (S'.fact (dps_one .non) rfl)) fun l h3 h4 t H' S' => k (.ref t) (lotD l) H' (.inr ⟨l, fineL_mem.mpr ⟨h3, h4⟩, rfl⟩) S'
theorem told_small {notes : List N} {n : Nat} {x : Int} {d : PyData} (hn : n ≤ 13) (h : ToldOk (fineL (lotG notes 0 n) x) d) : Small 900 1 d := by
  rcases h with ⟨rfl, _⟩ | ⟨l, hl, rfl⟩
  · exact Small.non.mono (by decide) (by decide)
  · obtain ⟨h1, h2⟩ := lot_small hn (fineL_mem.mp hl).1
    exact small_lot h1 h2
theorem lots_shaped (ls : List (List Nat)) : SeqAt.shaped (.list (ls.map lotD)) = true := by
  have h1 : PyData.canLayAll0 (ls.map lotD) = true ∧ PyData.depthAll (ls.map lotD) ≤ 50 := by
    induction ls with
    | nil => exact ⟨rfl, by decide⟩
    | cons l ls ih =>
      refine ⟨?_, ?_⟩
      · show ((lotD l).canLay0 && PyData.canLayAll0 (ls.map lotD)) = true
        rw [ih.1, show (lotD l).canLay0 = true from SeqAt.canLay_of_shaped lotD_shaped]
        rfl
      · show max (lotD l).depth (PyData.depthAll (ls.map lotD)) ≤ 50
        have := lotD_depth l
        omega
  show (PyData.canLayAll0 (ls.map lotD) && decide ((PyData.list (ls.map lotD)).depth ≤ 64)) = true
  rw [h1.1, Bool.true_and]
  refine decide_eq_true ?_
  show PyData.depthAll (ls.map lotD) + 1 ≤ 64
  omega
theorem cutV_take (xs : List V) (n : Nat) : cutV xs none (some (n : Int)) = xs.take n := by
  unfold cutV
  rw [HT.sIx_none, HT.sIx_nat, List.drop_zero, Nat.sub_zero]
  rcases Nat.le_total n xs.length with h | h
  · rw [Nat.min_eq_left h]
  · rw [Nat.min_eq_right h, List.take_length, List.take_of_length_le h]
theorem perm_pot5 {α : Type} {a b c d e : α} {F : List α} : (d :: e :: a :: b :: c :: F).Perm (a :: b :: c :: d :: e :: F) := by
  have : ([d, e] ++ [a, b, c] ++ F).Perm ([a, b, c] ++ [d, e] ++ F) := (List.perm_append_comm).append_right F
  exact this
theorem perm_pot5' {α : Type} {a b c d e : α} {F : List α} : (a :: b :: c :: d :: e :: F).Perm (d :: e :: a :: b :: c :: F) := perm_pot5.symm
theorem perm_roll3 {α : Type} {a b c : α} {F : List α} : (b :: c :: a :: F).Perm (a :: b :: c :: F) := by
  have : ([b, c] ++ [a] ++ F).Perm ([a] ++ [b, c] ++ F) := (List.perm_append_comm).append_right F
  exact this
theorem perm_in3 {α : Type} {a b c : α} {F : List α} : (a :: c :: b :: F).Perm (a :: b :: c :: F) := List.Perm.cons _ (List.Perm.swap ..)
theorem atAsg {te : TE} {g : TG} {D : Ends} {σ : L2.St} {H : Hp} (h : tAsg te g D σ H) : tAsg te g D σ H := h
def sp_law_is_one_right (K : Frag) : Sp := fun vs H Q E => vs.length = 4 ∧ ∃ (F : List (Addr × HO)) (G : List Ft) (pt p r : Addr) (n : Nat) (rs : NS) (fv : List V) (x : Int), vs = [.ref pt, .ref p, .ref r, .int x] ∧ Pot K ((r, .lst fv) :: F) (.dat fv (rowsE (lotG (rs.map (·.2)) 0 rs.length)) :: G) pt n H ∧ n < 800000 ∧ SqT K H p (NR rs) ∧ (∀ q ∈ NT rs, H q.1 = some (.tup q.2)) ∧ NG rs ∧ rs.length ≤ 13 ∧
  ∀ H', Pot K ((r, .lst fv) :: F) (.dat fv (rowsE (lotG (rs.map (·.2)) 0 rs.length)) :: G) pt (n + 20) H' → Q (.bl true) H'
abbrev names_law_is_one_right : List Str := ["pot", "notes", "rows", "amount", "fine", "lot", "total", "told", "few", "some", "lap", "odd", "is_right", "wide", "near", "value", "number"]
theorem sc_law_is_one_right : FnScope names_law_is_one_right ["pot", "notes", "rows", "amount"] (defScope (top 41)) := ⟨rfl, rfl, rfl, by decide +kernel, rfl, by decide +kernel, by decide +kernel⟩
set_option maxHeartbeats 4000000 in
theorem ok_law_is_one_right (T : Tx K mg) : FG P w K mg base CX0 9 T.a_law_is_one_right T.d_law_is_one_right ["pot", "notes", "rows", "amount"] (sp_law_is_one_right K) := by
  refine OB.Fun.fg T.F_law_is_one_right sc_law_is_one_right (fun vs H Q E h => h.1) (fun cdv A out s H vs Q E g h => ?_)
  obtain ⟨_, F, G0, pt, p, r, n, rs, fv, x, rfl, P0, hnn, h1, h2, ng, hl, k⟩ := h
  refine ⟨_, (pss_cons (ps_setLc (i := 4) (own := [("lot", 5), ("total", 6)]) rfl sc_law_is_one_right.nd rfl rfl (sw_true rfl rfl rfl (by decide +kernel)) (pi_seq (pv 2)) (blkOk_by (N := names_law_is_one_right) (sc := defScope (top 41)) (own := [("lot", 5), ("total", 6)]) (by decide +kernel)) (fun _ _ _ _ _ => (pg_tupK (K := K) rfl (n := 2) rfl (pgs_cons (pg_name (i := 5) sc_law_is_one_right.nd rfl (by first | exact Or.inl rfl | exact Or.inr rfl)) (pgs_cons (pg_name (i := 6) sc_law_is_one_right.nd rfl (by first | exact Or.inl rfl | exact Or.inr rfl)) pgs_nil)))) (fun _ _ _ _ _ => pts_one (PW.pt (pw_and (pt_cmpR op_eq (pv 6) (pv 3) (nomark _)) (pw_and1 (pt_cmpR (op_neDK (K := K) rfl g.hu64) (pv 5) (pe_tup pa_nil) (nomark _)))))) (fun _ _ _ _ _ => (pv 5)))
      (pss_cons (ps_set (i := 7) sc_law_is_one_right.nd rfl (by first | exact Or.inl rfl | exact Or.inr rfl) (pe_cg0 (ok_a_lot T) (g.mono (by decide : 7 ≤ 8)) (by rfl) T.m_a_lot T.F_a_lot.kp (OB.Fun.bd T.F_a_lot (ps := ["notes", "amount"]) (n := 0) (ks := ["amount", "notes"]) (ix := [1, 0]) (fun _ _ _ _ _ _ us ws h1 h2 => match us, ws, h1, h2 with | [], [_, _], _, _ => rfl)) pass0 (pk_cons (pv 3) (pk_cons (pv 1) pk_nil))))
      (pss_cons (ps_if (pt_cmpR op_notIn_seq (pe_callB (toK (r := rRepr) (K := K) rfl (call_repr g)) (by rfl) T.n_repr (by decide +kernel) (pa_cons (pv 7) pa_nil)) (pe_ifExp (pt_cmpR (op_neD g.hu64) (pv 4) (pe_lst pa_nil) (nomark _)) (pe_lc (own := [("lot", 5)]) (tt := tYes) rfl sc_law_is_one_right.nd (pi_seq (pv 4)) (blkOk_by (N := names_law_is_one_right) (sc := defScope (top 41)) (own := [("lot", 5)]) (by decide +kernel)) (fun _ _ _ _ _ => (pg_name (i := 5) sc_law_is_one_right.nd rfl (by first | exact Or.inl rfl | exact Or.inr rfl))) (fun _ _ _ _ _ => pts_nil) (fun _ _ _ _ _ => (pe_callB (toK (r := rRepr) (K := K) rfl (call_repr g)) (by rfl) T.n_repr (by decide +kernel) (pa_cons (pv 5) pa_nil)))) (pe_lst (pa_cons (pe_callB (toK (r := rRepr) (K := K) rfl (call_repr g)) (by rfl) T.n_repr (by decide +kernel) (pa_cons pe_non pa_nil)) pa_nil))) (by rfl)) (pss_one (ps_ret pe_bl)) pss_nil)
      (pss_cons (ps_set (i := 8) sc_law_is_one_right.nd rfl (by first | exact Or.inl rfl | exact Or.inr rfl) (pe_ifExp (pt_cmpR op_gt (pe_callB (toK (r := OB.rLen) (K := K) rfl c_len) (by rfl) T.n_len PySem.boot_len (pa_cons (pv 1) pa_nil)) pe_int (nomark _)) pe_int pe_int))
      (pss_cons (ps_set (i := 9) sc_law_is_one_right.nd rfl (by first | exact Or.inl rfl | exact Or.inr rfl) (pe_op op_cat (pe_slice (sl_UK (K := K) rfl) (pe_lc (own := [("lot", 5), ("total", 6)]) (tt := tYes) rfl sc_law_is_one_right.nd (pi_seq (pv 2)) (blkOk_by (N := names_law_is_one_right) (sc := defScope (top 41)) (own := [("lot", 5), ("total", 6)]) (by decide +kernel)) (fun _ _ _ _ _ => (pg_tupK (K := K) rfl (n := 2) rfl (pgs_cons (pg_name (i := 5) sc_law_is_one_right.nd rfl (by first | exact Or.inl rfl | exact Or.inr rfl)) (pgs_cons (pg_name (i := 6) sc_law_is_one_right.nd rfl (by first | exact Or.inl rfl | exact Or.inr rfl)) pgs_nil)))) (fun _ _ _ _ _ => pts_nil) (fun _ _ _ _ _ => (pv 5))) po_none (po_some (pv 8))) (pe_lc (own := [("lap", 10)]) (tt := tYes) rfl sc_law_is_one_right.nd (pi_range1 rfl T.n_range (pa_cons (pe_op op_fdivW (pv 8) pe_int) pa_nil)) (blkOk_by (N := names_law_is_one_right) (sc := defScope (top 41)) (own := [("lap", 10)]) (by decide +kernel)) (fun _ _ _ _ _ => (pg_name (i := 10) sc_law_is_one_right.nd rfl (by first | exact Or.inl rfl | exact Or.inr rfl))) (fun _ _ _ _ _ => pts_nil) (fun _ _ _ _ _ => (pe_ix (ix_UK (K := K) rfl) (pe_cg (ok_law_of T) (g.mono (by decide : 2 ≤ 8)) (by rfl) T.m_law_of T.F_law_of.kp (OB.Fun.bd T.F_law_of (ps := ["pot", "some"]) (n := 2) (ks := []) (ix := [0, 1]) (fun _ _ _ _ _ _ us ws h1 h2 => match us, ws, h1, h2 with | [_, _], [], _, _ => rfl)) pass0 (pa_cons (pv 0) (pa_cons (pv 2) pa_nil)) pk_nil) pe_int (fun _ _ => rfl))))))
      (pss_cons (ps_set (i := 11) sc_law_is_one_right.nd rfl (by first | exact Or.inl rfl | exact Or.inr rfl) (pe_lst (pa_cons pe_non (pa_cons (pe_lst pa_nil) (pa_cons pe_str (pa_cons pe_int (pa_cons (pe_tup (pa_cons pe_non pa_nil)) (pa_cons (pe_tup (pa_cons pe_bl pa_nil)) (pa_cons (pe_tup (pa_cons (pe_callB (toK (r := OB.rLen) (K := K) rfl c_len) (by rfl) T.n_len PySem.boot_len (pa_cons (pv 1) pa_nil)) pa_nil)) (pa_cons (pe_tup (pa_cons (pe_un un_neg pe_int) pa_nil)) pa_nil))))))))))
      (pss_cons (ps_for PassesOwn.never rfl (pi_seq (pe_op op_cat (pv 9) (pv 11))) (pg_name (i := 5) sc_law_is_one_right.nd rfl (by first | exact Or.inl rfl | exact Or.inr rfl))
      (pss_cons (ps_set (i := 12) sc_law_is_one_right.nd rfl (by first | exact Or.inl rfl | exact Or.inr rfl) (pe_ifExp (PW.pt (pw_and (pt_val (pe_callB (toK (r := rIsi) (K := K) rfl call_isi) (by rfl) T.n_isinstance (by decide +kernel) (pa_cons (pv 5) (pa_cons (pe_bltn (v := .ty "tuple") (by rfl) T.n_tuple (by decide +kernel) rfl) pa_nil)))) (pw_and1 (pt_cmpR op_ne (pe_callB (toK (r := rRepr) (K := K) rfl (call_repr g)) (by rfl) T.n_repr (by decide +kernel) (pa_cons (pv 5) pa_nil)) (pe_callB (toK (r := rRepr) (K := K) rfl (call_repr g)) (by rfl) T.n_repr (by decide +kernel) (pa_cons (pe_tup (pa_cons pe_bl pa_nil)) pa_nil)) (nomark _))))) (pe_cmpR (op_inD (hu65 g)) (pv 5) (pv 4) (by rfl)) pe_bl))
      (pss_cons (ps_set (i := 12) sc_law_is_one_right.nd rfl (by first | exact Or.inl rfl | exact Or.inr rfl) (pe_or (pv 12) (pe_one (pe_and (pe_cmpR (op_eqD g.hu64) (pv 4) (pe_lst pa_nil) (nomark _)) (pe_one (pe_cmpR op_isN (pv 5) pe_non (nomark _)))))))
      (pss_one (ps_if (pt_cmpR op_ne (pe_callB (toK (r := rRepr) (K := K) rfl (call_repr g)) (by rfl) T.n_repr (by decide +kernel) (pa_cons (pe_cg0 (ok_shows_lot T) (g.mono (by decide : 8 ≤ 8)) (by rfl) T.m_shows_lot T.F_shows_lot.kp (OB.Fun.bd T.F_shows_lot (ps := ["notes", "amount", "value"]) (n := 0) (ks := ["value", "amount", "notes"]) (ix := [2, 1, 0]) (fun _ _ _ _ _ _ us ws h1 h2 => match us, ws, h1, h2 with | [], [_, _, _], _, _ => rfl)) pass0 (pk_cons (pv 5) (pk_cons (pv 3) (pk_cons (pv 1) pk_nil)))) pa_nil)) (pe_callB (toK (r := rRepr) (K := K) rfl (call_repr g)) (by rfl) T.n_repr (by decide +kernel) (pa_cons (pv 12) pa_nil)) (nomark _)) (pss_one (ps_ret pe_bl)) pss_nil)))))
      (pss_cons (ps_setLc (i := 13) (own := [("lot", 5)]) rfl sc_law_is_one_right.nd rfl rfl (sw_true rfl rfl rfl (by decide +kernel)) (pi_seq (pv 4)) (blkOk_by (N := names_law_is_one_right) (sc := defScope (top 41)) (own := [("lot", 5)]) (by decide +kernel)) (fun _ _ _ _ _ => (pg_name (i := 5) sc_law_is_one_right.nd rfl (by first | exact Or.inl rfl | exact Or.inr rfl))) (fun _ _ _ _ _ => pts_one (pt_cmpR op_gt (pe_callB (toK (r := OB.rLen) (K := K) rfl c_len) (by rfl) T.n_len PySem.boot_len (pa_cons (pv 5) pa_nil)) pe_int (nomark _))) (fun _ _ _ _ _ => (pv 5)))
      (pss_cons (ps_if (pt_cmpR (op_neD g.hu64) (pv 13) (pe_lst pa_nil) (nomark _)) (pss_cons (ps_set (i := 5) sc_law_is_one_right.nd rfl (by first | exact Or.inl rfl | exact Or.inr rfl) (pe_cg (ok_law_of T) (g.mono (by decide : 2 ≤ 8)) (by rfl) T.m_law_of T.F_law_of.kp (OB.Fun.bd T.F_law_of (ps := ["pot", "some"]) (n := 2) (ks := []) (ix := [0, 1]) (fun _ _ _ _ _ _ us ws h1 h2 => match us, ws, h1, h2 with | [_, _], [], _, _ => rfl)) pass0 (pa_cons (pv 0) (pa_cons (pv 13) pa_nil)) pk_nil))
      (pss_cons (ps_set (i := 14) sc_law_is_one_right.nd rfl (by first | exact Or.inl rfl | exact Or.inr rfl) (pe_lst (pa_cons (pe_revT (K := K) rfl (pv 5)) (pa_cons (pe_op (op_catAK (K := K) rfl) (pv 5) (pe_slice (sl_UK (K := K) rfl) (pv 5) (po_some (pe_un un_neg pe_int)) po_none)) (pa_cons (pe_callTy (toK (r := rList) (K := K) rfl c_list) (by rfl) T.n_list (by decide +kernel) (pa_cons (pv 5) pa_nil)) (pa_cons (pe_callTy (toK (r := rTuple) (K := K) rfl c_tuple) (by rfl) T.n_tuple (by decide +kernel) (pa_cons (pe_lc (own := [("number", 16)]) (tt := tYes) rfl sc_law_is_one_right.nd (pi_seq (pv 5)) (blkOk_by (N := names_law_is_one_right) (sc := defScope (top 41)) (own := [("number", 16)]) (by decide +kernel)) (fun _ _ _ _ _ => (pg_name (i := 16) sc_law_is_one_right.nd rfl (by first | exact Or.inl rfl | exact Or.inr rfl))) (fun _ _ _ _ _ => pts_nil) (fun _ _ _ _ _ => (pe_callTy call_str_int (by rfl) T.n_str (by decide +kernel) (pa_cons (pv 16) pa_nil)))) pa_nil)) pa_nil))))))
      (pss_one (ps_ret (pe_callB (toK (r := rAll) (K := K) rfl (cr_all rfl)) (by rfl) T.n_all (by decide +kernel) (pa_cons (pe_lc (own := [("value", 15)]) (tt := tYes) rfl sc_law_is_one_right.nd (pi_seq (pv 14)) (blkOk_by (N := names_law_is_one_right) (sc := defScope (top 41)) (own := [("value", 15)]) (by decide +kernel)) (fun _ _ _ _ _ => (pg_name (i := 15) sc_law_is_one_right.nd rfl (by first | exact Or.inl rfl | exact Or.inr rfl))) (fun _ _ _ _ _ => pts_nil) (fun _ _ _ _ _ => (pe_cmpR op_eq (pe_callB (toK (r := rRepr) (K := K) rfl (call_repr g)) (by rfl) T.n_repr (by decide +kernel) (pa_cons (pe_cg (ok_shows_lot T) (g.mono (by decide : 8 ≤ 8)) (by rfl) T.m_shows_lot T.F_shows_lot.kp (OB.Fun.bd T.F_shows_lot (ps := ["notes", "amount", "value"]) (n := 3) (ks := []) (ix := [0, 1, 2]) (fun _ _ _ _ _ _ us ws h1 h2 => match us, ws, h1, h2 with | [_, _, _], [], _, _ => rfl)) pass0 (pa_cons (pv 1) (pa_cons (pv 3) (pa_cons (pv 15) pa_nil))) pk_nil) pa_nil)) (pe_callB (toK (r := rRepr) (K := K) rfl (call_repr g)) (by rfl) T.n_repr (by decide +kernel) (pa_cons pe_bl pa_nil)) (nomark _)))) pa_nil)))))) pss_nil)
      (pss_one (ps_ret pe_bl))))))))))), ?_⟩
  refine g_start (σ := [some _, some _, some _, some _, none, none, none, none, none, none, none, none, none, none, none, none, none]) rfl ?_
  obtain ⟨a0, b0, c0, o0, S0⟩ := P0
  have S := (S0.add (.tt (NT rs)) h2).add (.tq p (NR rs)) h1
  clear S0 h1 h2
  have hGl : (lotG (rs.map (·.2)) 0 rs.length).length ≤ 8192 := by rw [lotG_len]; exact Nat.le_trans (Nat.pow_le_pow_right (by decide) hl) (by decide)
  repeat walk_at "ob"
  refine g_lcS (a := r) (xs := fv) true (fun j F' ds => F' = (pt, potO a0 b0 c0) :: (r, .lst fv) :: F ∧ ds = (fineL ((lotG (rs.map (·.2)) 0 rs.length).take j) x).map lotD) S (fun Q' q => by walk_at "ob"; exact q) ⟨rfl, rfl⟩ (fun j F' ds H' hi S3 => SqL.of ((hi.1 ▸ S3).at 1 rfl)) (fun j F' ds hi => by
    have h3 := withS_len ((lotG (rs.map (·.2)) 0 rs.length).take j) x
    have h4 := List.length_filter_le (fun l : List Nat => decide (l ≠ [])) (withS ((lotG (rs.map (·.2)) 0 rs.length).take j) x)
    rw [List.length_take] at h3
    rw [hi.2, List.length_map]
    unfold fineL
    omega) ?_ ?_
  · intro j y hy Dp H3 F3 ws ds QE QR hj S6 kE kR
    obtain ⟨rfl, rfl⟩ := hj
    obtain ⟨r0, hr, hdr⟩ := dps_map (S6.dps 3 rfl) hy
    obtain ⟨t, q, rfl, ht, hq, hqd⟩ := row_openE hdr
    have etk : (lotG (rs.map (·.2)) 0 rs.length).take (j + 1) = (lotG (rs.map (·.2)) 0 rs.length).take j ++ [r0] := by
      rw [List.take_add_one, hr]
      rfl
    have S7 := S6.fact (dps_one hqd) (by show (imm (lotD r0.2) && true) = true; rw [lotD_imm]; rfl)
    repeat walk_at "ob"
    refine ⟨rfl, ?_⟩
    repeat walk_at "ob"
    refine g_iteD (fun h3 => ?_) (fun h3 => ?_)
    · clear S6
      repeat walk_at "ob"
      rename_i S8
      refine g_neD (S8.dp 1 rfl) (S8.dp 0 rfl) lotD_shaped rfl ?_
      rw [lotD_eqv0]
      repeat walk_at "ob"
      refine g_iteD (fun h4 => ?_) (fun h4 => ?_)
      · repeat walk_at "ob"
        refine kE _ (lotD r0.2) _ _ ⟨rfl, ?_⟩ S8.drop
        rw [etk, fineL_snoc, if_pos ⟨h3, h4⟩, List.map_append]
        rfl
      · repeat walk_at "ob"
        refine kR _ _ ⟨rfl, ?_⟩ S8.drop.drop
        rw [etk, fineL_snoc, if_neg (fun h => h4 h.2), List.append_nil]
    · repeat walk_at "ob"
      refine kR _ _ ⟨rfl, ?_⟩ S6
      rw [etk, fineL_snoc, if_neg (fun h => h3 h.1), List.append_nil]
  intro Dp H3 F3 ws ds hD hj S6
  obtain ⟨rfl, rfl⟩ := hj
  have hfl : fv.length = (lotG (rs.map (·.2)) 0 rs.length).length := by
    rw [dps_length (S6.dps 3 rfl)]
    exact List.length_map ..
  rw [hfl, List.take_length] at S6
  clear S
  repeat walk_at "ob"
  refine told_via S6 (S6.tqs 1 rfl) (S6.tts 2 rfl) ng (by omega) fun v0 dT H4 hT S7 => ?_
  clear S6
  repeat walk_at "ob"
  refine g_reprS (S7.dp 0 rfl) (told_small hl hT) (by decide) (by decide) ?_
  repeat ((fail_if_success (with_reducible refine atIf ?_)); walk_at "ob")
  refine via (fun v H' => ∃ lr vs, v = .ref lr ∧ vs.all flatV = true ∧ inV (.str dT.shown) vs = true ∧ Sy K ((lr, .lst vs) :: (Dp, .lst ws) :: (pt, potO a0 b0 c0) :: (r, .lst fv) :: F) (.dat [v0] [dT] :: .dat ws ((fineL (lotG (rs.map (·.2)) 0 rs.length) x).map lotD) :: .tq p (NR rs) :: .tt (NT rs) :: .dat fv (rowsE (lotG (rs.map (·.2)) 0 rs.length)) :: G0) H') (fun Q' qq => ?_) ?_
  · repeat walk_at "ob"
    rename_i nl H5 _ S8
    have hfsm : ∀ l ∈ fineL (lotG (rs.map (·.2)) 0 rs.length) x, Small 900 1 (lotD l) := fun l h3 => told_small hl (.inr ⟨l, h3, rfl⟩)
    refine g_neD (.lst (SqL.of (S8.at 1 rfl)) (S8.dps 1 rfl)) (.lst (SqL.of (S8.at 0 rfl)) .nil) (lots_shaped _) rfl ?_
    have S9 := S8.less
    clear S7 S8
    have hfsl : (fineL (lotG (rs.map (·.2)) 0 rs.length) x).length ≤ 8192 := Nat.le_trans (List.length_filter_le ..) (Nat.le_trans (withS_len _ _) hGl)
    generalize fineL (lotG (rs.map (·.2)) 0 rs.length) x = fs at *
    cases fs with
    | nil =>
      repeat walk_at "ob"
      refine g_F rfl ?_
      repeat walk_at "ob"
      refine g_reprS .non (Small.non.mono (Nat.le_refl _) (Nat.le_refl _)) (by decide) (by decide) ?_
      repeat walk_at "ob"
      rename_i lr H6 _ S10
      refine qq _ _ ⟨lr, _, rfl, rfl, ?_, S10⟩
      rcases hT with ⟨rfl, _⟩ | ⟨l, h3, _⟩
      · simp [inV, eqV]
      · cases h3
    | cons l0 ls =>
      repeat walk_at "ob"
      refine g_T rfl ?_
      have hwl : ws.length = (l0 :: ls).length := by
        rw [dps_length (S9.dps 1 rfl)]
        exact List.length_map ..
      have hne : l0 :: ls ≠ [] := fun h => nomatch h
      generalize l0 :: ls = fs at *
      refine g_lcS (a := Dp) (xs := ws) true (fun j F' ds => F' = (Dp, HO.lst ws) :: (pt, potO a0 b0 c0) :: (r, .lst fv) :: F ∧ ds = (fs.take j).map fun l => PyData.str (lotD l).shown) S9 (fun Q' q => by walk_at "ob"; exact q) ⟨rfl, rfl⟩ (fun j F' ds H' hi S3 => SqL.of ((hi.1 ▸ S3).at 0 rfl)) (fun j F' ds hi => by
        rw [hi.2, List.length_map, List.length_take]; omega) ?_ ?_
      · intro j y hy Dp2 H6 F3 ws2 ds QE QR hj S10 kE kR
        obtain ⟨rfl, rfl⟩ := hj
        obtain ⟨l, hl2, hdl⟩ := dps_map (S10.dps 2 rfl) hy
        repeat walk_at "ob"
        refine ⟨rfl, ?_⟩
        repeat walk_at "ob"
        refine g_reprS hdl (hfsm l (List.mem_of_getElem? hl2)) (by decide) (by decide) ?_
        repeat walk_at "ob"
        refine kE _ (.str (lotD l).shown) _ _ ⟨rfl, ?_⟩ (S10.fact (dps_one (L2.Dp.str _)) rfl)
        rw [List.take_add_one, hl2, List.map_append]
        rfl
      · intro Dp2 H6 F3 ws2 ds hD2 hj S10
        obtain ⟨rfl, rfl⟩ := hj
        rw [hwl, List.take_length] at S10
        have hv2 : ws2 = fs.map fun l => V.str (lotD l).shown := by
          rw [dps_scal (S10.dps 0 rfl) (fun d hd => by
            obtain ⟨s, _, rfl⟩ := List.mem_map.mp hd
            rfl), List.map_map]
          rfl
        subst hv2
        refine qq _ _ ⟨Dp2, _, rfl, ?_, ?_, S10.drop⟩
        · rw [List.all_map]
          exact List.all_eq_true.mpr fun _ _ => rfl
        · rcases hT with ⟨_, e⟩ | ⟨l, h3, rfl⟩
          · rw [e] at hwl hne
            exact absurd rfl hne
          · unfold inV
            rw [List.any_map]
            exact List.any_eq_true.mpr ⟨l, h3, by simp [eqV]⟩
  rintro y H5 ⟨lr, vs, rfl, hfl2, hin, S8⟩
  clear S7
  repeat walk_at "ob"
  refine ⟨lr, vs, rfl, .inl (SqL.of (S8.at 0 rfl)), rfl, hfl2, ?_⟩
  rw [hin]
  have S9 := S8.less
  clear S8
  refine ⟨_, rfl, ?_⟩
  refine g_F rfl ?_
  repeat ((fail_if_success (with_reducible refine atIf ?_)); walk_at "ob")
  refine via (fun v H' => H' = H5 ∧ (v = .int 12 ∨ v = .int 40)) (fun Q' qq => ?_) ?_
  · repeat walk_at "ob"
    refine g_iteD (fun h1 => ?_) (fun h1 => ?_)
    · repeat walk_at "ob"
      exact qq _ _ ⟨rfl, .inl rfl⟩
    · repeat walk_at "ob"
      exact qq _ _ ⟨rfl, .inr rfl⟩
  rintro v H6 ⟨rfl, hv⟩
  obtain ⟨fw, hfw, rfl⟩ : ∃ fw : Nat, (fw = 12 ∨ fw = 40) ∧ v = .int (fw : Int) := by
    rcases hv with rfl | rfl
    · exact ⟨12, .inl rfl, rfl⟩
    · exact ⟨40, .inr rfl, rfl⟩
  clear hv
  repeat walk_at "ob"
  refine g_lcS (a := r) (xs := fv) true (fun j F' ds => F' = (Dp, HO.lst ws) :: (pt, potO a0 b0 c0) :: (r, .lst fv) :: F ∧ ds = ((lotG (rs.map (·.2)) 0 rs.length).take j).map fun r => lotD r.2) S9 (fun Q' q => by walk_at "ob"; exact q) ⟨rfl, rfl⟩ (fun j F' ds H' hi S3 => SqL.of ((hi.1 ▸ S3).at 2 rfl)) (fun j F' ds hi => by
    rw [hi.2, List.length_map, List.length_take]; omega) ?_ ?_
  · intro j y hy Dp2 H7 F3 ws2 ds QE QR hj S10 kE kR
    obtain ⟨rfl, rfl⟩ := hj
    obtain ⟨r0, hr, hdr⟩ := dps_map (S10.dps 5 rfl) hy
    obtain ⟨t, q, rfl, ht, hq, hqd⟩ := row_openE hdr
    repeat walk_at "ob"
    refine ⟨rfl, ?_⟩
    repeat walk_at "ob"
    refine kE _ (lotD r0.2) _ _ ⟨rfl, ?_⟩ (S10.fact (dps_one hqd) (by show (imm (lotD r0.2) && true) = true; rw [lotD_imm]; rfl))
    rw [List.take_add_one, hr, List.map_append]
    rfl
  intro Dp2 H7 F3 ws2 ds hD2 hj S10
  obtain ⟨rfl, rfl⟩ := hj
  rw [hfl, List.take_length, show ((lotG (rs.map (·.2)) 0 rs.length).map fun r => lotD r.2) = ((lotG (rs.map (·.2)) 0 rs.length).map (·.2)).map lotD by rw [List.map_map]; rfl] at S10
  clear S9
  repeat walk_at "ob"
  refine g_slL2 (S10.fact (dps_take (n := fw) (S10.dps 0 rfl)) (by rw [← List.map_take]; exact lots_imm _)) (SqL.of (S10.at 0 rfl)) fun sl H8 S11 => ?_
  rw [cutV_take, ← List.map_take] at S11
  have S12 := (S11.swap.less).drop2
  clear S10 S11
  repeat walk_at "ob"
  refine g_lcR (K := K) ?_
  repeat walk_at "ob"
  have hfw8 : 0 ≤ (fw : Int) / 5 ∧ (fw : Int) / 5 ≤ 8 := by rcases hfw with rfl | rfl <;> decide
  refine g_rgJ (by omega) (by omega) ?_
  have hLn : 0 < (lotG (rs.map (·.2)) 0 rs.length).length := by rw [lotG_len]; exact Nat.two_pow_pos _
  refine rglc_of (fun j F' ds => ∃ a b c, ∃ Ls : List (List Nat), F' = (sl, HO.lst (ws2.take fw)) :: (Dp, .lst ws) :: (pt, potO a b c) :: (r, .lst fv) :: F ∧ PotOk (n + j) a b c ∧ ds = Ls.map lotD ∧ Ls.length = j ∧ j ≤ 8 ∧ ∀ l ∈ Ls, ∃ t, (t, l) ∈ lotG (rs.map (·.2)) 0 rs.length) S12 ⟨a0, b0, c0, [], rfl, o0, rfl, rfl, by omega, fun _ h => (nomatch h)⟩ (fun j F' ds ⟨_, _, _, Ls, _, _, e, h1, h2, _⟩ => by
    rw [e, List.length_map]
    omega) ?_ ?_
  · rintro j hj Dp3 H9 F3 ws3 ds QE QR ⟨a, b, c, Ls, rfl, o, rfl, hj1, hj2, hm⟩ S13 kE kR
    repeat walk_at "ob"
    refine ⟨rfl, ?_⟩
    repeat walk_at "ob"
    refine use_ofP (n := n + j) ⟨a, b, c, o, S13.perm perm_pot5⟩ (by omega) (by omega) (by omega) fun v hv H10 P1 => ?_
    obtain ⟨i, hi⟩ := List.mem_iff_getElem?.mp hv
    obtain ⟨a, b, c, o, S14⟩ := P1
    obtain ⟨r0, hr, hdr⟩ := dps_map (S14.dps 6 rfl) hi
    obtain ⟨t, q, rfl, ht, hq, hqd⟩ := row_openE hdr
    repeat walk_at "ob"
    refine kE _ (lotD r0.2) _ _ ⟨a, b, c, Ls ++ [r0.2], rfl, o, by rw [List.map_append]; rfl, by rw [List.length_append, hj1]; rfl, by omega, fun l hl => ?_⟩ ((S14.perm perm_pot5').fact (dps_one hqd) (by show (imm (lotD r0.2) && true) = true; rw [lotD_imm]; rfl))
    rcases List.mem_append.mp hl with hl | hl
    · exact hm l hl
    · rw [List.mem_singleton.mp hl]
      exact ⟨r0.1, List.mem_of_getElem? hr⟩
  rintro Dp3 H9 F3 ws3 ds hD3 ⟨a, b, c, Ls, rfl, o, rfl, hL1, hL2, hLm⟩ S13
  have hws3 := dps_length (S13.dps 0 rfl)
  have hsl : (ws2.take fw).length ≤ fw := List.length_take_le ..
  rw [List.length_map] at hws3
  have hfw40 : fw ≤ 40 := by rcases hfw with rfl | rfl <;> decide
  clear S12
  repeat walk_at "ob"
  refine g_cat S13 (i := 1) (j := 0) rfl rfl (by omega) fun q4 H10 S14 => ?_
  have hx0 : (ws2.take fw ++ ws3).length ≤ 100 := by rw [List.length_append]; omega
  have S15 := ((S14.fact (dps_append (S14.dps 1 rfl) (S14.dps 0 rfl)) (by rw [immAll_append, S14.dpi 1 rfl, S14.dpi 0 rfl]; rfl)).swap.less.swap.less).drop2.drop2.drop2
  have hZ : ∀ l ∈ ((lotG (rs.map (·.2)) 0 rs.length).map (·.2)).take fw ++ Ls, ∃ t, (t, l) ∈ lotG (rs.map (·.2)) 0 rs.length := fun l hl2 => by
    rcases List.mem_append.mp hl2 with hl2 | hl2
    · obtain ⟨r0, hr0, rfl⟩ := List.mem_map.mp (List.mem_of_mem_take hl2)
      exact ⟨r0.1, hr0⟩
    · exact hLm l hl2
  rw [← List.map_append] at S15
  clear S13 S14
  have o2 := o.mono (m := n + 8) (by omega)
  generalize ((lotG (rs.map (·.2)) 0 rs.length).map (·.2)).take fw ++ Ls = Zl at S15 hZ
  generalize ws2.take fw ++ ws3 = xs0 at S15 hx0
  clear hLm hL1 hL2 hws3 hsl hfw8 hfw40 o hD3 hD2 hin hfl2
  have hnr : (NR rs).length = rs.length := List.length_map ..
  repeat walk_at "ob"
  rename_i e _ _ Se t1 _ _ St1 t2 _ _ St2 t3 _ _ St3 t4 _ _ St4 ol H11 _ S16
  clear S15 Se St1 St2 St3 St4
  refine g_forE3 ?_
  repeat walk_at "ob"
  refine g_cat S16 (i := 2) (j := 0) rfl rfl (by show _ + 8 ≤ _; omega) fun lp H12 S17 => ?_
  have S18 := S17.swap.less
  clear S16 S17
  rw [hnr] at S18
  obtain ⟨fs, hfs⟩ : ∃ fs, fs = fineL (lotG (rs.map (·.2)) 0 rs.length) x := ⟨_, rfl⟩
  rw [← hfs] at S18
  have hfl : fs.length ≤ 8192 := by rw [hfs]; exact Nat.le_trans (List.length_filter_le ..) (Nat.le_trans (withS_len _ _) hGl)
  generalize hFz : (lp, HO.lst (xs0 ++ [V.non, V.ref e, V.str (Str.ofString ""), V.int 0, V.ref t1, V.ref t2, V.ref t3, V.ref t4])) :: (e, HO.lst []) :: (q4, HO.lst xs0) :: (Dp, HO.lst ws) :: (pt, potO a b c) :: (r, HO.lst fv) :: F = Fz at S18
  generalize hGz : Ft.dat [V.ref t4] [PyData.tuple [PyData.int (-1)]] :: Ft.dat [V.ref t3] [PyData.tuple [PyData.int (rs.length : Int)]] :: Ft.dat [V.ref t2] [PyData.tuple [PyData.bool true]] :: Ft.dat [V.ref t1] [PyData.tuple [PyData.none]] :: Ft.dat xs0 (Zl.map lotD) :: Ft.dat ws (fs.map lotD) :: Ft.tq p (NR rs) :: Ft.tt (NT rs) :: Ft.dat fv (rowsE (lotG (rs.map (·.2)) 0 rs.length)) :: G0 = Gz at S18
  have hod : ∀ v ∈ xs0 ++ [V.non, V.ref e, V.str (Str.ofString ""), V.int 0, V.ref t1, V.ref t2, V.ref t3, V.ref t4], ∃ m, OdK m ∧ ∀ H', Sy K Fz Gz H' → VdV K H' v m := by
    subst hFz hGz
    intro v hv
    rcases List.mem_append.mp hv with hv | hv
    · obtain ⟨i, hi⟩ := List.mem_iff_getElem?.mp hv
      obtain ⟨l, hl2, _⟩ := dps_map (S18.dps 4 rfl) hi
      obtain ⟨t, ht⟩ := hZ l (List.mem_of_getElem? hl2)
      have h1 := lotG_rl ht
      have h2 := (lotG_mem.mp ht).2.1
      have h3 : (l.map fun i : Nat => (i : Int)).length ≤ 13 := by rw [List.length_map]; exact Nat.le_trans h1 hl
      refine ⟨_, odk_ints (ms := l.map fun i : Nat => (i : Int)) (fun x hx => ?_) (by omega), fun H' S' => ?_⟩
      · obtain ⟨i, hi, rfl⟩ := List.mem_map.mp hx
        have := h2 i hi
        show i < _
        omega
      · obtain ⟨l2, hl3, hd⟩ := dps_map (S'.dps 4 rfl) hi
        rw [hl2] at hl3
        cases hl3
        rw [lotD_ints] at hd
        exact vd_ints hd (by omega)
    · simp only [List.mem_cons, List.not_mem_nil, or_false] at hv
      rcases hv with rfl | rfl | rfl | rfl | rfl | rfl | rfl | rfl
      · exact ⟨.non, trivial, fun _ _ => rfl⟩
      · exact ⟨.nt (.list []), trivial, fun H' S' => ⟨ntu_lst (S'.at 1 rfl), .lst (SqL.of (S'.at 1 rfl)) .nil, (fun h => nomatch h), rfl, rfl⟩⟩
      · exact ⟨.nt (.str (Str.ofString "")), trivial, fun H' S' => ⟨ntu_str, .str _, (fun h => nomatch h), by decide +kernel, rfl⟩⟩
      · exact ⟨.nt (.int 0), trivial, fun H' S' => ⟨ntu_int, .int _, (fun h => nomatch h), rfl, rfl⟩⟩
      · exact ⟨_, odk_none, fun H' S' => vd_none (S'.dp 3 rfl)⟩
      · exact ⟨_, odk_true, fun H' S' => vd_true (S'.dp 2 rfl)⟩
      · exact ⟨_, odk_ints (ms := [(rs.length : Int)]) (fun x hx => by rw [List.mem_singleton.mp hx]; show rs.length < _; omega) (by show 1 ≤ 14; decide), fun H' S' => vd_ints (ms := [(rs.length : Int)]) (S'.dp 1 rfl) (by show 1 ≤ 1000; decide)⟩
      · exact ⟨_, odk_ints (ms := [(-1 : Int)]) (fun x hx => by rw [List.mem_singleton.mp hx]; decide) (by decide), fun H' S' => vd_ints (ms := [(-1 : Int)]) (S'.dp 0 rfl) (by decide)⟩
  have hDl : ∀ H', Sy K Fz Gz H' → SqL K H' Dp ws ∧ DpAll K H' ws (fs.map lotD) ∧ SqT K H' p (NR rs) ∧ ∀ q ∈ NT rs, H' q.1 = some (.tup q.2) := fun H' S' => by
    subst hFz hGz
    exact ⟨SqL.of (S'.at 3 rfl), S'.dps 5 rfl, S'.tqs 6 rfl, S'.tts 7 rfl⟩
  have hLp : ∀ H', Sy K Fz Gz H' → SqL K H' lp (xs0 ++ [V.non, V.ref e, V.str (Str.ofString ""), V.int 0, V.ref t1, V.ref t2, V.ref t3, V.ref t4]) := fun H' S' => by
    subst hFz hGz
    exact SqL.of (S'.at 0 rfl)
  generalize xs0 ++ [V.non, V.ref e, V.str (Str.ofString ""), V.int 0, V.ref t1, V.ref t2, V.ref t3, V.ref t4] = its at hod hLp
  refine g_forS (a := lp) (xs := its) true (fun i σ' H' => ∃ v5 v12, σ' = [some (.ref pt), some (.ref p), some (.ref r), some (.int x), some (.ref Dp), v5, none, some v0, some (.int (fw : Int)), some (.ref q4), none, some (.ref ol), v12, none, none, none, none] ∧ Sy K Fz Gz H') (fun Q' q => by walk_at "ob"; exact q) ⟨none, none, rfl, S18⟩ (fun i σ' H' ⟨_, _, _, S4⟩ => hLp H' S4) ?_ ?_
  · rintro i v σ' H' hv ⟨v5, v12, rfl, S3⟩
    obtain ⟨m, hok, hvd⟩ := hod v (List.mem_of_getElem? hv)
    clear S18
    repeat ((fail_if_success (with_reducible refine atAsg ?_)); walk_at "ob")
    refine viaS (fun σ' H' => σ' = [some (.ref pt), some (.ref p), some (.ref r), some (.int x), some (.ref Dp), some v, none, some v0, some (.int (fw : Int)), some (.ref q4), none, some (.ref ol), some (.bl (isR1 fs m)), none, none, none, none] ∧ Sy K Fz Gz H') (fun NX A B C qq => ?_) ?_
    · cases m with
      | non =>
        obtain rfl : v = .non := hvd _ S3
        repeat walk_at "ob"
        refine ntu_non _ ?_
        repeat walk_at "ob"
        exact qq _ _ ⟨rfl, S3⟩
      | nt d =>
        repeat walk_at "ob"
        refine (hvd _ S3).1 _ ?_
        repeat walk_at "ob"
        exact qq _ _ ⟨rfl, S3⟩
      | tp xs ds =>
        obtain ⟨q, rfl, h4, h5, h6, h7, h8, h9⟩ := hvd _ S3
        repeat walk_at "ob"
        refine g_reprS h5 hok.1 (by decide) (by decide) ?_
        repeat walk_at "ob"
        rename_i T H5 _ S4
        refine g_reprS (S4.dp 0 rfl) (Small.tup (SmallL.cons Small.bl SmallL.nil)) (by decide) (by decide) ?_
        repeat walk_at "ob"
        obtain ⟨q', e', h4', h5', _⟩ := hvd _ S4.drop
        cases e'
        rcases hok.2 with ⟨rfl, rfl⟩ | ⟨he, hne⟩
        · refine g_ne ?_
          repeat walk_at "ob"
          exact qq _ _ ⟨by rw [show isR1 fs (.tp [.bl true] [.bool true]) = false from isR_true fs []]; rfl, S4.drop⟩
        · refine g_TD hne ?_
          repeat walk_at "ob"
          refine g_inD h5' (hDl _ S4.drop).1 (hDl _ S4.drop).2.1 h9 (lots_shaped _) ?_
          rw [any_lots fs he]
          repeat walk_at "ob"
          exact qq _ _ ⟨rfl, S4.drop⟩
    rintro σ' H6 ⟨rfl, S4⟩
    refine g_nx ?_
    repeat ((fail_if_success (with_reducible refine atAsg ?_)); walk_at "ob")
    refine viaS (fun σ' H' => σ' = [some (.ref pt), some (.ref p), some (.ref r), some (.int x), some (.ref Dp), some v, none, some v0, some (.int (fw : Int)), some (.ref q4), none, some (.ref ol), some (.bl (isR fs m)), none, none, none, none] ∧ Sy K Fz Gz H') (fun NX A B C qq => ?_) ?_
    · have fin : ∀ c, isR1 fs m = c → (c = false → isR fs m = (fs.isEmpty && decide (v = .non))) → (c = true → isR fs m = true) → tAsg (tOrV (tVar 12) (tAndV (tOp (rEqD K) (tVar 4) (tLst tNil)) (tOp (fun x y H Q => y = V.non ∧ Q (V.bl (decide (x = V.non))) H) (tVar 5) (tC V.non)))) (gName 12) { nx := NX, rt := A, bk := B, ct := C } [some (.ref pt), some (.ref p), some (.ref r), some (.int x), some (.ref Dp), some v, none, some v0, some (.int (fw : Int)), some (.ref q4), none, some (.ref ol), some (.bl (isR1 fs m)), none, none, none, none] H6 := by
        intro c hc hf ht
        repeat walk_at "ob"
        rw [hc]
        cases c with
        | true =>
          repeat walk_at "ob"
          exact qq _ _ ⟨by rw [ht rfl]; rfl, S4⟩
        | false =>
          repeat walk_at "ob"
          rename_i nl H5 _ S5
          refine g_eqD (.lst (hDl _ S5.less).1 (hDl _ S5.less).2.1) (.lst (SqL.of (S5.at 0 rfl)) .nil) (lots_shaped _) rfl ?_
          rw [eqv_empty]
          have hf := hf rfl
          cases hfe : fs.isEmpty with
          | true =>
            rw [hfe] at hf
            repeat walk_at "ob"
            refine ⟨rfl, ?_⟩
            repeat walk_at "ob"
            exact qq _ _ ⟨by rw [hf]; rfl, S5.less⟩
          | false =>
            rw [hfe] at hf
            repeat walk_at "ob"
            exact qq _ _ ⟨by rw [hf]; rfl, S5.less⟩
      cases m with
      | non =>
        obtain rfl : v = .non := hvd _ S4
        exact fin false rfl (fun _ => by rw [decide_eq_true rfl, Bool.and_true]; rfl) fun h => nomatch h
      | nt d => exact fin false rfl (fun _ => by rw [decide_eq_false (hvd _ S4).2.2.1, Bool.and_false]; rfl) fun h => nomatch h
      | tp xs ds =>
        obtain ⟨q, rfl, _⟩ := hvd _ S4
        exact fin _ rfl (fun h => by rw [decide_eq_false (fun h => nomatch h), Bool.and_false]; exact h) fun h => h
    rintro σ' H7 ⟨rfl, S5⟩
    refine g_nx ?_
    obtain ⟨_, _, hS1, hS2⟩ := hDl _ S5
    repeat walk_at "ob"
    refine ⟨rfl, Fz, Gz, p, rs, x, _, m, rfl, S5, hS1, hS2, ng, by omega, hvd, fun b9 H8 hb S6 => ?_⟩
    obtain rfl := shows_is (List.length_map ..) hb
    rw [← hfs]
    repeat walk_at "ob"
    refine g_reprS (.bl _) (Small.bl) (by decide) (by decide) ?_
    repeat walk_at "ob"
    refine g_reprS (.bl _) (Small.bl) (by decide) (by decide) ?_
    repeat walk_at "ob"
    exact ⟨_, _, rfl, S6⟩
  · rintro σ' H' ⟨v5, v12, rfl, S3⟩
    clear hod hLp hDl S18
    subst hFz hGz
    have S4 := S3.less.less.less.drop.drop.drop.drop.drop
    clear S3
    repeat walk_at "ob"
    refine g_lcS (a := Dp) (xs := ws) true (fun j F' ds => F' = (Dp, HO.lst ws) :: (pt, potO a b c) :: (r, .lst fv) :: F ∧ ds = ((fs.take j).filter fun l => decide (1 < l.length)).map lotD) S4 (fun Q' q => by walk_at "ob"; exact q) ⟨rfl, rfl⟩ (fun j F' ds H' hi S3 => SqL.of ((hi.1 ▸ S3).at 0 rfl)) (fun j F' ds hi => by
      rw [hi.2, List.length_map]
      refine Nat.lt_of_le_of_lt (List.length_filter_le ..) ?_
      rw [List.length_take]
      omega) ?_ ?_
    · intro j y hy Dq H3 F3 us ds QE QR hj S6 kE kR
      obtain ⟨rfl, rfl⟩ := hj
      obtain ⟨l, hl2, hdl⟩ := dps_map (S6.dps 1 rfl) hy
      obtain ⟨q, ys, rfl, hq, hys⟩ := dp_tuple hdl
      have := dps_lotV hys
      subst this
      have hnl : (nI l).length = l.length := List.length_map ..
      have est : (fs.take (j + 1)).filter (fun l => decide (1 < l.length)) = (fs.take j).filter (fun l => decide (1 < l.length)) ++ if 1 < l.length then [l] else [] := by
        rw [List.take_add_one, hl2, List.filter_append]
        by_cases h : 1 < l.length <;> simp [h]
      repeat walk_at "ob"
      refine ⟨rfl, ?_⟩
      repeat walk_at "ob"
      refine g_iteD (fun h3 => ?_) (fun h3 => ?_)
      · repeat walk_at "ob"
        refine kE _ (lotD l) _ _ ⟨rfl, ?_⟩ (S6.fact (dps_one hdl) (by show (imm (lotD l) && true) = true; rw [lotD_imm]; rfl))
        rw [est, if_pos (by omega), List.map_append]
        rfl
      · refine kR _ _ ⟨rfl, ?_⟩ S6
        rw [est, if_neg (by omega), List.append_nil]
    rintro Dq H5 F3 us ds hDq ⟨rfl, rfl⟩ S6
    have hwl : ws.length = fs.length := by
      rw [dps_length (S6.dps 1 rfl)]
      exact List.length_map ..
    rw [hwl, List.take_length] at S6
    have hwide : ∀ l ∈ fs.filter (fun l => decide (1 < l.length)), l ∈ fs ∧ 1 < l.length := fun l h => ⟨(List.mem_filter.mp h).1, of_decide_eq_true (List.mem_filter.mp h).2⟩
    have hul := dps_length (S6.dps 0 rfl)
    rw [List.length_map] at hul
    have hfl3 := List.length_filter_le (fun l : List Nat => decide (1 < l.length)) fs
    generalize fs.filter (fun l => decide (1 < l.length)) = wl at S6 hwide hul hfl3
    have S7 : Sy K ((pt, potO a b c) :: (r, .lst fv) :: (Dq, .lst us) :: F) (.dat us (wl.map lotD) :: .tq p (NR rs) :: .tt (NT rs) :: .dat fv (rowsE (lotG (rs.map (·.2)) 0 rs.length)) :: G0) H5 := (S6.swap.less.drop2).perm perm_roll3
    clear S6 S4
    repeat walk_at "ob"
    rename_i nl H6 _ S8
    refine g_neD (.lst (SqL.of (S8.at 3 rfl)) (S8.dps 0 rfl)) (.lst (SqL.of (S8.at 0 rfl)) .nil) (lots_shaped _) rfl ?_
    rw [eqv_empty]
    have S9 := S8.less
    clear S7 S8
    cases hwe : wl.isEmpty with
    | true =>
      repeat walk_at "ob"
      exact k H6 ⟨a, b, c, o2.mono (by omega), (S9.to (.cons₂ _ (.cons₂ _ (.cons _ (.refl _)))) fun g hg => by
        rcases List.mem_cons.mp hg with rfl | hg
        · exact List.mem_cons_of_mem _ (List.mem_cons_of_mem _ (List.mem_cons_of_mem _ (List.mem_cons_self ..)))
        · exact List.mem_cons_of_mem _ (List.mem_cons_of_mem _ (List.mem_cons_of_mem _ (List.mem_cons_of_mem _ hg))))⟩
    | false =>
      have hne : 0 < wl.length := by
        cases wl with
        | nil => cases hwe
        | cons _ _ => exact Nat.succ_pos _
      repeat walk_at "ob"
      refine use_ofP (n := n + 8) (q := Dq) ⟨a, b, c, o2, S9.perm perm_in3⟩ (by omega) (by omega) (by omega) fun v hv H7 P1 => ?_
      obtain ⟨i, hi⟩ := List.mem_iff_getElem?.mp hv
      obtain ⟨a2, b2, c2, o3, S10⟩ := P1
      obtain ⟨l, hl2, hdl⟩ := dps_map (S10.dps 0 rfl) hi
      obtain ⟨hlf, hl1⟩ := hwide l (List.mem_of_getElem? hl2)
      obtain ⟨q, ys, rfl, hq, hys⟩ := dp_tuple hdl
      have := dps_lotV hys
      subst this
      have hasc : ∀ l ∈ fs, asc l ∧ ∀ i ∈ l, i < rs.length := fun l h => by
        rw [hfs] at h
        have h2 := lotG_mem.mp (withS_mem.mp (fineL_mem.mp h).1)
        exact ⟨h2.1, h2.2.1⟩
      have hasl := hasc l hlf
      have hll : l.length ≤ 13 := by
        rw [hfs] at hlf
        exact Nat.le_trans (lotG_rl (withS_mem.mp (fineL_mem.mp hlf).1)) hl
      rw [lotD_ints] at hdl
      rw [nI_ints] at hq
      have S11 := ((S10.fact (dps_one hdl) (by rw [← lotD_ints]; show (imm (lotD l) && true) = true; rw [lotD_imm]; rfl)).add (.tq q ((l.map fun i : Nat => (i : Int)).map V.int)) hq)
      obtain ⟨ms, hms⟩ : ∃ ms : List Int, ms = l.map fun i : Nat => (i : Int) := ⟨_, rfl⟩
      rw [← hms] at S11
      have hml : ms.length = l.length := by rw [hms]; exact List.length_map ..
      have hmr : (fs.any fun z => decide (ms.reverse.map V.int = nI z)) = false := by rw [hms]; exact isR_rev (fun l h => (hasc l h).1) hasl.1 hl1
      have hmS : (fs.any fun z => decide ((ms.map fun i => V.str (Str.ofString (toString i))) = nI z)) = false := by rw [hms]; exact isR_strs hl1
      obtain ⟨m0, z0, hmz, hmt⟩ : ∃ (m0 : List Int) (z0 : Int), ms = m0 ++ [z0] ∧ (fs.any fun z => decide ((ms ++ [z0]).map V.int = nI z)) = false := by
        have hln : l ≠ [] := fun h => by rw [h] at hl1; exact absurd hl1 (Nat.not_lt_zero _)
        have el := List.dropLast_concat_getLast hln
        refine ⟨(l.dropLast).map fun i : Nat => (i : Int), (l.getLast hln : Int), ?_, ?_⟩
        · rw [hms]
          conv => lhs; rw [← el]
          rw [List.map_append]
          rfl
        · rw [hms]
          have := isR_twice (fun l h => (hasc l h).1) (l := l.dropLast) (b := l.getLast hln)
          rw [el] at this
          exact this
      have hmb : ∀ x ∈ ms, 0 ≤ x ∧ x < 13 := fun x hx => by
        rw [hms] at hx
        obtain ⟨i, hi, rfl⟩ := List.mem_map.mp hx
        have := hasl.2 i hi
        exact ⟨by omega, by omega⟩
      have hm0 : 0 < m0.length := by
        rw [hmz, List.length_append] at hml
        have : [z0].length = 1 := rfl
        omega
      clear S9 S10 hdl hys hq hms hwide
      repeat walk_at "ob"
      refine g_revT ?_
      repeat walk_at "ob"
      obtain ⟨a', xs', e', hs', hq'⟩ := g_rev1 (Q := fun v H' => Sy K _ (.dat [v] [.tuple (ms.map PyData.int).reverse] :: _) H') S11 (S11.tqs 0 rfl) (dps_ints ms) (ints_imm ms) fun p H' S' => S'
      refine ⟨a', xs', e', hs', fun u1 hu1 => ?_⟩
      have S12 := hq' u1 hu1
      generalize upd H7 u1 (.tup xs'.reverse) = H8 at S12 ⊢
      rw [← List.map_reverse] at S12
      repeat walk_at "ob"
      refine g_slT S12 (S12.tqs 1 rfl) (lo := some (-1)) (hi := none) (ys := [V.int z0]) (by rw [hmz, List.map_append]; exact last_ix _ _ (by rw [List.length_map]; exact hm0)) (by rw [hmz, List.map_append]; exact cut_last _ _) fun u9 H9 S13 => ?_
      repeat walk_at "ob"
      refine g_catU (d1 := ms.map .int) (d2 := [.int z0]) S13 (S13.dp 3 rfl) (.tup (S13.tqs 0 rfl) (.cons (.int _) .nil)) (ints_imm ms) rfl (by rw [List.length_map, hml]; show _ + 1 ≤ _; omega) fun u2 H10 S14 => ?_
      rw [show (ms.map PyData.int) ++ [PyData.int z0] = (ms ++ [z0]).map PyData.int by rw [List.map_append]; rfl] at S14
      repeat walk_at "ob"
      refine ⟨q, _, rfl, .inr (S14.tqs 3 rfl), fun u3 hu3 => ?_⟩
      have S15 := S14.push (o := .lst (ms.map V.int)) hu3
      clear S11 S12 S13 S14
      repeat walk_at "ob"
      refine g_lcS (a := q) (xs := ms.map V.int) false (fun j F' ds => F' = (u3, .lst (ms.map V.int)) :: (pt, potO a2 b2 c2) :: (Dq, .lst us) :: (r, .lst fv) :: F ∧ ds = (ms.take j).map fun i => PyData.str (Str.ofString (toString i))) S15 (fun Q' q => by walk_at "ob"; exact q) ⟨rfl, rfl⟩ (fun j F' ds H' hi S3 => S3.tqs 3 rfl) (fun j F' ds hi => by
        rw [hi.2, List.length_map, List.length_take]
        omega) ?_ ?_
      · intro j y hy Dp4 H11 F4 us4 ds QE QR hj S16 kE kR
        obtain ⟨rfl, rfl⟩ := hj
        rw [List.getElem?_map] at hy
        obtain ⟨i0, hi0, rfl⟩ := Option.map_eq_some_iff.mp hy
        have hb0 := hmb i0 (List.mem_of_getElem? hi0)
        repeat walk_at "ob"
        refine ⟨rfl, ?_⟩
        repeat walk_at "ob"
        refine ⟨i0, rfl, OB.log2_small (by omega), ?_⟩
        refine kE _ (.str (Str.ofString (toString i0))) _ _ ⟨rfl, ?_⟩ (S16.fact (dps_one (.str _)) rfl)
        rw [List.take_add_one, hi0, List.map_append]
        rfl
      rintro Dp4 H11 F4 us4 ds hD4 ⟨rfl, rfl⟩ S16
      rw [show (ms.map V.int).length = ms.length from List.length_map .., List.take_length] at S16
      repeat walk_at "ob"
      refine g_tup0 S16 (SqL.of (S16.at 0 rfl)) (S16.dps 0 rfl) (S16.dpi 0 rfl) fun u4 H12 _ S17 => ?_
      repeat walk_at "ob"
      rename_i nl2 H13 _ S18
      have S19 : Sy K ((nl2, .lst [.ref u1, .ref u2, .ref u3, .ref u4]) :: (u3, .lst (ms.map V.int)) :: (pt, potO a2 b2 c2) :: (r, .lst fv) :: F) (.dat [.ref u4] [.tuple (ms.map fun i => PyData.str (Str.ofString (toString i)))] :: .dat [.ref u2] [.tuple ((ms ++ [z0]).map PyData.int)] :: .dat [.ref u1] [.tuple (ms.reverse.map PyData.int)] :: .tq p (NR rs) :: .tt (NT rs) :: .dat fv (rowsE (lotG (rs.map (·.2)) 0 rs.length)) :: G0) H13 := S18.to (.cons₂ _ (.cons _ (.cons₂ _ (.cons₂ _ (.cons _ (.cons₂ _ (.refl _))))))) fun g hg => (List.Sublist.cons₂ _ (.cons _ (.cons₂ _ (.cons _ (.cons₂ _ (.cons _ (.cons _ (.cons _ (.refl _))))))))).subset hg
      clear S15 S16 S17 S18
      generalize hFy : (nl2, HO.lst [V.ref u1, V.ref u2, V.ref u3, V.ref u4]) :: (u3, .lst (ms.map V.int)) :: (pt, potO a2 b2 c2) :: (r, .lst fv) :: F = Fy at S19
      generalize hGy : Ft.dat [.ref u4] [.tuple (ms.map fun i => PyData.str (Str.ofString (toString i)))] :: .dat [.ref u2] [.tuple ((ms ++ [z0]).map PyData.int)] :: .dat [.ref u1] [.tuple (ms.reverse.map PyData.int)] :: .tq p (NR rs) :: .tt (NT rs) :: .dat fv (rowsE (lotG (rs.map (·.2)) 0 rs.length)) :: G0 = Gy at S19
      have hnear : ∀ v ∈ [V.ref u1, V.ref u2, V.ref u3, V.ref u4], ∃ m, isR fs m = false ∧ ∀ H', Sy K Fy Gy H' → VdV K H' v m := by
        subst hFy hGy
        intro v hv
        simp only [List.mem_cons, List.not_mem_nil, or_false] at hv
        rcases hv with rfl | rfl | rfl | rfl
        · exact ⟨.tp _ _, hmr, fun H' S' => vd_ints (S'.dp 2 rfl) (by rw [List.length_reverse, hml]; omega)⟩
        · exact ⟨.tp _ _, hmt, fun H' S' => vd_ints (S'.dp 1 rfl) (by rw [List.length_append, hml]; show _ + 1 ≤ _; omega)⟩
        · exact ⟨.nt (.list (ms.map PyData.int)), rfl, fun H' S' => ⟨ntu_lst (S'.at 1 rfl), .lst (SqL.of (S'.at 1 rfl)) (dps_ints ms), (fun h => nomatch h), shaped_ints ms, rfl⟩⟩
        · exact ⟨.tp _ _, hmS, fun H' S' => vd_strs (S'.dp 0 rfl) (by omega)⟩
      have hSy : ∀ H', Sy K Fy Gy H' → SqL K H' nl2 [V.ref u1, V.ref u2, V.ref u3, V.ref u4] ∧ SqT K H' p (NR rs) ∧ (∀ q ∈ NT rs, H' q.1 = some (.tup q.2)) ∧ Sy K ((pt, potO a2 b2 c2) :: (r, .lst fv) :: F) (.dat fv (rowsE (lotG (rs.map (·.2)) 0 rs.length)) :: G0) H' := fun H' S' => by
        subst hFy hGy
        exact ⟨SqL.of (S'.at 0 rfl), S'.tqs 3 rfl, S'.tts 4 rfl, S'.less.less.drop.drop.drop.drop.drop⟩
      have hnr4 : [V.ref u1, V.ref u2, V.ref u3, V.ref u4].length ≤ 4 := Nat.le_refl 4
      generalize [V.ref u1, V.ref u2, V.ref u3, V.ref u4] = nr at hnear hSy hnr4
      refine g_lcS (a := nl2) (xs := nr) true (fun j F' ds => F' = Fy ∧ ds = (List.replicate j true).map PyData.bool ∧ j ≤ nr.length) S19 (fun Q' q => by walk_at "ob"; exact q) ⟨rfl, rfl, Nat.zero_le _⟩ (fun j F' ds H' hi S3 => (hSy H' (hi.1 ▸ S3)).1) (fun j F' ds hi => by
        rw [hi.2.1, List.length_map, List.length_replicate]
        omega) ?_ ?_
      · intro j y hy Dp5 H14 F5 us5 ds QE QR hj S20 kE kR
        obtain ⟨rfl, rfl, _⟩ := hj
        obtain ⟨m, hm, hvd⟩ := hnear y (List.mem_of_getElem? hy)
        obtain ⟨_, hp1, hp2, _⟩ := hSy _ S20.less.drop
        have hj2 := (List.getElem?_eq_some_iff.mp hy).1
        repeat walk_at "ob"
        refine ⟨rfl, ?_⟩
        repeat walk_at "ob"
        refine ⟨rfl, _, _, p, rs, x, _, m, rfl, S20, hp1, hp2, ng, by omega, fun H' S' => hvd H' S'.less.drop, fun b9 H8 hb S6 => ?_⟩
        obtain rfl := shows_is (List.length_map ..) hb
        rw [← hfs, hm]
        repeat walk_at "ob"
        refine g_reprS (.bl _) (Small.bl) (by decide) (by decide) ?_
        repeat walk_at "ob"
        refine g_reprS (.bl _) (Small.bl) (by decide) (by decide) ?_
        repeat walk_at "ob"
        rw [decide_eq_true rfl]
        refine kE _ (.bool true) _ _ ⟨rfl, by rw [List.replicate_succ', List.map_append]; rfl, hj2⟩ (S6.fact (dps_one (L2.Dp.bl true)) rfl)
      rintro Dp5 H14 F5 us5 ds hD5 ⟨rfl, rfl, _⟩ S20
      have hv := bls (S20.dps 0 rfl)
      subst hv
      repeat walk_at "ob"
      refine g_all (SqL.of (S20.at 0 rfl)) ?_
      rw [show (List.replicate nr.length true).all id = true from all_true]
      repeat walk_at "ob"
      exact k _ ⟨a2, b2, c2, o3.mono (by omega), (hSy _ S20.less.drop).2.2.2⟩
end
end LAW

set_option Elab.async false
set_option linter.all false
set_option maxRecDepth 100000
namespace LAW
open PySem PySem.Spec PyProof.Rows L2 PySem.W OB
local macro_rules | `(tactic| walk_at "obc") => `(tactic| first
  | exact Or.inl ⟨by omega, by omega⟩
  | exact Or.inr ⟨by omega, by omega⟩
  | exact cdiv_ok (by omega) (by omega)
  | (show (0 : Int) < _; omega)
  | exact ⟨by omega, by decide⟩
  | exact ⟨by decide, by decide⟩)
local macro_rules | `(tactic| walk_at "obat") => `(tactic| first
  | exact Sy.at (by assumption) 0 rfl | exact Sy.at (by assumption) 1 rfl | exact Sy.at (by assumption) 2 rfl | exact Sy.at (by assumption) 3 rfl
  | exact Sy.at (by assumption) 4 rfl | exact Sy.at (by assumption) 5 rfl | exact Sy.at (by assumption) 6 rfl | exact Sy.at (by assumption) _ (by assumption) | exact Sy.at (by assumption) (_ + 1) (by assumption) | exact Sy.at (by assumption) (_ + 2) (by assumption))
local macro_rules | `(tactic| walk_at "obt") => `(tactic| first
  | exact Sy.tqs (by assumption) 0 rfl | exact Sy.tqs (by assumption) 1 rfl | exact Sy.tqs (by assumption) 2 rfl | exact Sy.tqs (by assumption) 3 rfl | exact Sy.tqs (by assumption) 4 rfl | exact Sy.tqs (by assumption) 5 rfl
  | exact Sy.tqs (by assumption) 6 rfl | exact Sy.tqs (by assumption) 7 rfl | assumption)
local macro_rules | `(tactic| walk_at "obl") => `(tactic| first
  | exact SqL.of (by walk_at "obat")
  | exact Sy.sq (by assumption) 0 rfl | exact Sy.sq (by assumption) 1 rfl | exact Sy.sq (by assumption) 2 rfl | exact Sy.sq (by assumption) 3 rfl | exact Sy.sq (by assumption) _ (by assumption))
local macro_rules | `(tactic| walk_at "obd") => `(tactic| first
  | exact Dp.int _ | exact Dp.bl _ | exact Dp.str _ | exact Dp.non
  | exact Sy.dp (by assumption) 0 rfl | exact Sy.dp (by assumption) 1 rfl | exact Sy.dp (by assumption) 2 rfl | exact Sy.dp (by assumption) 3 rfl
  | exact Sy.dp (by assumption) 4 rfl | exact Sy.dp (by assumption) 5 rfl | exact Sy.dp (by assumption) 6 rfl | exact Sy.dp (by assumption) 7 rfl
  | exact Sy.dp (by assumption) 8 rfl | exact Sy.dp (by assumption) 9 rfl | exact Sy.dp (by assumption) _ (by assumption) | assumption)
local macro_rules | `(tactic| walk_at "obds") => `(tactic| first
  | exact DpAll.nil
  | (refine' DpAll.cons ?ob1 ?ob2; (case ob1 => walk_at "obd"); (case ob2 => walk_at "obds"))
  | exact Sy.dps (by assumption) 0 rfl | exact Sy.dps (by assumption) 1 rfl | exact Sy.dps (by assumption) 2 rfl | exact Sy.dps (by assumption) 3 rfl | assumption)
local macro_rules | `(tactic| walk_at "obsc") => `(tactic| first
  | exact ScL.nil
  | ((first | refine' ScL.int ?obz | refine' ScL.str ?obz | refine' ScL.bl ?obz | refine' ScL.non ?obz); (case obz => walk_at "obsc")))
local macro_rules | `(tactic| walk_at "ob1") => `(tactic| first
  | ((with_reducible refine' g_var ?obh ?_); (case obh => rfl))
  | with_reducible refine g_c ?_
  | with_reducible refine g_nx ?_
  | with_reducible refine g_rt ?_
  | with_reducible refine g_bk ?_
  | with_reducible refine g_ct ?_
  | with_reducible refine g_op ?_
  | with_reducible refine g_I0 ?_
  | with_reducible refine g_test ?_
  | with_reducible refine g_bl ?_
  | with_reducible refine g_blx ?_
  | with_reducible refine g_B ?_
  | with_reducible refine g_seq ?_
  | with_reducible refine g_asg ?_
  | with_reducible refine g_name ?_
  | with_reducible refine g_ifS ?_
  | with_reducible refine g_ret ?_
  | with_reducible refine g_cb ?_
  | with_reducible refine g_cons ?_
  | with_reducible refine g_nil ?_
  | with_reducible refine g_int ?_
  | with_reducible refine g_intB ?_
  | with_reducible refine g_abs ?_
  | with_reducible refine g_max ?_
  | with_reducible refine g_min ?_
  | with_reducible refine g_un ?_
  | with_reducible refine g_U ?_
  | with_reducible refine g_eqI ?_
  | with_reducible refine g_neI ?_
  | with_reducible refine g_eqS ?_
  | with_reducible refine g_neS ?_
  | with_reducible refine g_tt ?_
  | with_reducible refine g_ff ?_
  | with_reducible refine g_next ?_
  | with_reducible refine g_drop ?_
  | with_reducible refine g_if ?_
  | with_reducible refine g_andV ?_
  | with_reducible refine g_orV ?_
  | with_reducible refine g_notV ?_
  | with_reducible refine g_and ?_
  | with_reducible refine g_or ?_
  | with_reducible refine g_not ?_
  | with_reducible refine g_yes ?_
  | with_reducible refine g_chain ?_
  | with_reducible refine g_cg ?_
  | with_reducible refine g_mg ?_
  | with_reducible refine g_kg ?_
  | with_reducible refine g_pg ?_
  | ((with_reducible refine' g_call ?obh ?obj ?_); (case obh => rfl); (case obj => rfl))
  | with_reducible refine g_par ?_
  | with_reducible refine g_par2 ?_
  | with_reducible refine g_par3 ?_
  | with_reducible refine g_par33 ?_
  | with_reducible refine g_gnil ?_
  | with_reducible refine g_gcons ?_
  | with_reducible refine g_gsub ?_
  | with_reducible refine g_ipI ?_
  | with_reducible refine g_rAdd ?_
  | with_reducible refine g_rSub ?_
  | ((with_reducible refine' g_aug ?obh ?_); (case obh => rfl))
  | with_reducible refine g_tup ?_
  | with_reducible refine g_lst ?_
  | with_reducible refine g_bm ?_
  | with_reducible refine g_bm0 ?_
  | with_reducible refine g_sl ?_
  | with_reducible refine g_nopart ?_
  | with_reducible refine g_part ?_
  | with_reducible refine g_pint ?_
  | with_reducible refine isi_int ?_
  | with_reducible refine isi_intB ?_
  | ((with_reducible refine' g_I ?obh ?_); (case obh => walk_at "obc"))
  | ((with_reducible refine' g_tyl ?obh ?_); (case obh => walk_at "obl"))
  | ((with_reducible refine' g_lenL ?obh ?_); (case obh => walk_at "obl"))
  | with_reducible refine g_ne ?_
  | ((with_reducible refine' g_neN' ?obh ?_); (case obh => rfl))
  | with_reducible refine g_ntt ?_
  | with_reducible refine g_nff ?_
  | with_reducible refine g_star ?_
  | with_reducible refine g_att ?_
  | with_reducible refine g_sfld ?_
  | with_reducible refine g_faug ?_
  | with_reducible refine g_fld ?_
  | ((with_reducible refine' g_nF ?obh ?_); (case obh => omega))
  | ((with_reducible refine' g_nT ?obh ?_); (case obh => omega))
  | ((with_reducible refine' g_TD ?obh ?_); (case obh => omega))
  | ((with_reducible refine' g_FD ?obh ?_); (case obh => omega))
  | ((with_reducible refine' g_ixUL ?obh ?obi ?_); (case obh => walk_at "obl"); (case obi => exact atI_nn (by omega) (by rfl)))
  | ((with_reducible refine' g_setLS ?obs ?obh ?obi ?_); (case obs => assumption); (case obh => assumption); (case obi => rfl); intro _ _ _)
  | ((with_reducible refine' g_newT ?obs ?obh ?obi ?obj ?_); (case obs => assumption); (case obh => walk_at "obds"); (case obi => rfl); (case obj => exact Nat.le_of_ble_eq_true rfl); intro _ _ _ _)
  | ((with_reducible refine' g_newL ?obs ?obj ?_); (case obs => assumption); (case obj => exact Nat.le_of_ble_eq_true rfl); intro _ _ _ _)
  | ((with_reducible refine' isi_tup ?obh ?_); (case obh => walk_at "obt"))
  | ((with_reducible refine' g_lenT ?obh ?_); (case obh => walk_at "obt"))
  | ((with_reducible refine' g_unpT ?obh ?obi ?_); (case obh => walk_at "obt"); (case obi => rfl))
  | ((with_reducible refine' g_divmod ?obs ?obh ?_); (case obs => assumption); (case obh => exact cdivp_ok (by omega) (by omega) (by omega)); intro _ _ _ _)
  | ((with_reducible refine' g_unpD ?obh ?obi ?obj ?_); (case obh => walk_at "obd"); (case obi => walk_at "obsc"); (case obj => rfl))
  | with_reducible refine g_att ?_)
local macro_rules | `(tactic| walk_at "ob") => `(tactic| first
  | walk_at "ob1"
  | refine use_is_integer ?_
  | refine use_is_within ?_
  | with_reducible refine g_lstRg ?_
  | with_reducible refine g_rg1 ?_
  | with_reducible refine g_rg2 ?_
  | with_reducible refine g_tTru ?_
  | ((with_reducible refine' g_truL ?obh ?_); (case obh => walk_at "obl"))
  | ((with_reducible refine' g_ixUT ?obh ?obi ?_); (case obh => walk_at "obt"); (case obi => rfl))
  | with_reducible refine g_forZ ?_
  | with_reducible refine g_forR2 ?_
  | with_reducible refine g_forE ?_
  | with_reducible refine g_lcZ ?_)
section
variable {w : World} {K : Frag} {mg : Str → Option Value} {base : Heap}
theorem NR_rep (k : Nat) (t : Addr) (nn : N) : NR (List.replicate k ((t, nn) : Addr × N)) = (List.replicate k [V.ref t]).flatten := by
  unfold NR
  rw [List.map_replicate, List.flatten_replicate_singleton]
def oV2 : Option Int → V
  | none => .non
  | some m => .int m
theorem dp_oV2 {H : Hp} (o : Option Int) : L2.Dp K H (oV2 o) (oD o) := by
  cases o with
  | none => exact .non
  | some m => exact .int m
theorem isMx_of {s : List Int} {x : Int} {l : List Int} (h : l = s.filter fun t => decide (t ≤ x)) : (l = [] → IsMx s x none) ∧ ∀ m, m ∈ l → (∀ y, y ∈ l → y ≤ m) → IsMx s x (some m) := by
  subst h
  refine ⟨fun h t ht hx => ?_, fun m hm hy => ⟨(List.mem_filter.mp hm).1, of_decide_eq_true (List.mem_filter.mp hm).2, fun t ht hx => hy t (List.mem_filter.mpr ⟨ht, decide_eq_true hx⟩)⟩⟩
  have : t ∈ s.filter fun t => decide (t ≤ x) := List.mem_filter.mpr ⟨ht, decide_eq_true hx⟩
  rw [h] at this
  cases this
theorem isMn_of {s : List Int} {x : Int} {l : List Int} (h : l = s.filter fun t => decide (x ≤ t)) : (l = [] → IsMn s x none) ∧ ∀ m, m ∈ l → (∀ y, y ∈ l → m ≤ y) → IsMn s x (some m) := by
  subst h
  refine ⟨fun h t ht hx => ?_, fun m hm hy => ⟨(List.mem_filter.mp hm).1, of_decide_eq_true (List.mem_filter.mp hm).2, fun t ht hx => hy t (List.mem_filter.mpr ⟨ht, decide_eq_true hx⟩)⟩⟩
  have : t ∈ s.filter fun t => decide (x ≤ t) := List.mem_filter.mpr ⟨ht, decide_eq_true hx⟩
  rw [h] at this
  cases this
theorem amtN_abs {notes : List N} (h : ∀ n ∈ notes, NOk n) (i : Nat) : (amtN notes i).natAbs ≤ 1000000000000 := by
  unfold amtN
  cases e : notes[i]? with
  | none => exact Nat.zero_le _
  | some n =>
    have := (h n (List.mem_of_getElem? e)).2.2
    show n.2.natAbs ≤ _
    omega
theorem lotG_abs {notes : List N} (h : ∀ n ∈ notes, NOk n) (b : Nat) : ∀ {n : Nat} {r : Lt}, r ∈ lotG notes b n → r.1.natAbs ≤ n * 1000000000000
  | 0, r, hr => by
    cases List.mem_singleton.mp hr
    exact Nat.zero_le _
  | n + 1, r, hr => by
    have hr : r ∈ lotG notes b n ++ (lotG notes b n).map fun r => (r.1 + amtN notes (b + n), r.2 ++ [b + n]) := hr
    rcases List.mem_append.mp hr with hr | hr
    · exact Nat.le_trans (lotG_abs h b hr) (Nat.mul_le_mul_right _ (Nat.le_succ n))
    · obtain ⟨q, hq, rfl⟩ := List.mem_map.mp hr
      have h1 := lotG_abs h b hq
      have h2 := amtN_abs h (b + n)
      show (q.1 + amtN notes (b + n)).natAbs ≤ _
      rw [Nat.succ_mul]
      exact Nat.le_trans (Int.natAbs_add_le _ _) (Nat.add_le_add h1 h2)
theorem small_oD {notes : List N} (h : ∀ n ∈ notes, NOk n) (hl : notes.length ≤ 13) {o : Option Int} (ho : ∀ m, o = some m → m ∈ sumsG notes) : Small 61 0 (oD o) := by
  cases o with
  | none => exact Small.non.mono (by decide) (Nat.le_refl _)
  | some m =>
    obtain ⟨r, hr, rfl⟩ := List.mem_map.mp (ho m rfl)
    have h1 := lotG_abs h 0 hr
    have h2 : r.1.natAbs < 10 ^ 60 := Nat.lt_of_le_of_lt h1 (Nat.lt_of_le_of_lt (Nat.mul_le_mul_right _ hl) (by decide))
    show Small 61 0 (.int r.1)
    exact Small.int h2
theorem small_due {notes : List N} (h : ∀ n ∈ notes, NOk n) (hl : notes.length ≤ 13) {x : Int} {a b : Option Int} (ha : IsMx (sumsG notes) x a) (hb : IsMn (sumsG notes) x b) : Small 200 1 (.tuple [oD a, oD b]) :=
  (Small.tup (SmallL.cons (small_oD h hl fun m e => by subst e; exact ha.1) (SmallL.cons (small_oD h hl fun m e => by subst e; exact hb.1) SmallL.nil))).mono (by decide) (by decide)
theorem eqv_emptyI (l : List Int) : PyData.eqv (.list (l.map PyData.int)) (.list []) = l.isEmpty := by
  cases l <;> rfl
def sp_law_right (K : Frag) : Sp := fun vs H Q E => vs.length = 1 ∧ ∃ (F : List (Addr × HO)) (G : List Ft) (p : Addr) (x y z : Int), vs = [.ref p] ∧ Sy K ((p, potO x y z) :: F) G H ∧ PotOk 0 x y z ∧ ∀ H', Sy K F G H' → Q (.bl true) H'
abbrev names_law_right : List Str := ["pot", "notes", "note", "rows", "lap", "amount", "below", "above", "due", "lot", "total"]
theorem sc_law_right : FnScope names_law_right ["pot"] (defScope (top 42)) := ⟨rfl, rfl, rfl, by decide +kernel, rfl, by decide +kernel, by decide +kernel⟩
set_option maxHeartbeats 4000000 in
theorem ok_law_right (T : Tx K mg) : FG P w K mg base CX0 10 T.a_law_right T.d_law_right ["pot"] (sp_law_right K) := by
  refine OB.Fun.fg T.F_law_right sc_law_right (fun vs H Q E h => h.1) (fun cdv A out s H vs Q E g h => ?_)
  obtain ⟨_, F, G0, p, a, b, c, rfl, S0, o0, k⟩ := h
  refine ⟨_, (pss_cons (ps_set (i := 1) sc_law_right.nd rfl (by first | exact Or.inl rfl | exact Or.inr rfl) (pe_cg (ok_law_book T) (g.mono (by decide : 4 ≤ 9)) (by rfl) T.m_law_book T.F_law_book.kp (OB.Fun.bd T.F_law_book (ps := ["pot", "most"]) (n := 2) (ks := []) (ix := [0, 1]) (fun _ _ _ _ _ _ us ws h1 h2 => match us, ws, h1, h2 with | [_, _], [], _, _ => rfl)) pass0 (pa_cons (pv 0) (pa_cons (pe_cg (ok_law_of T) (g.mono (by decide : 2 ≤ 9)) (by rfl) T.m_law_of T.F_law_of.kp (OB.Fun.bd T.F_law_of (ps := ["pot", "some"]) (n := 2) (ks := []) (ix := [0, 1]) (fun _ _ _ _ _ _ us ws h1 h2 => match us, ws, h1, h2 with | [_, _], [], _, _ => rfl)) pass0 (pa_cons (pv 0) (pa_cons (pe_lst (pa_cons pe_int (pa_cons pe_int (pa_cons pe_int pa_nil)))) pa_nil)) pk_nil) pa_nil)) pk_nil))
      (pss_cons (ps_if (pt_cmpR op_eq (pe_cg (ok_law_take T) (g.mono (by decide : 1 ≤ 9)) (by rfl) T.m_law_take T.F_law_take.kp (OB.Fun.bd T.F_law_take (ps := ["pot", "upto"]) (n := 2) (ks := []) (ix := [0, 1]) (fun _ _ _ _ _ _ us ws h1 h2 => match us, ws, h1, h2 with | [_, _], [], _, _ => rfl)) pass0 (pa_cons (pv 0) (pa_cons pe_int pa_nil)) pk_nil) pe_int (nomark _)) (pss_cons (ps_set (i := 2) sc_law_right.nd rfl (by first | exact Or.inl rfl | exact Or.inr rfl) (pe_cg (ok_law_note T) (g.mono (by decide : 3 ≤ 9)) (by rfl) T.m_law_note T.F_law_note.kp (OB.Fun.bd T.F_law_note (ps := ["pot"]) (n := 1) (ks := []) (ix := [0]) (fun _ _ _ _ _ _ us ws h1 h2 => match us, ws, h1, h2 with | [_], [], _, _ => rfl)) pass0 (pa_cons (pv 0) pa_nil) pk_nil))
      (pss_one (ps_set (i := 1) sc_law_right.nd rfl (by first | exact Or.inl rfl | exact Or.inr rfl) (pe_op op_repT (pe_tup (pa_cons (pv 2) pa_nil)) (pe_callTy c_int (by rfl) T.n_int (by decide +kernel) (pa_cons (pe_cg (ok_law_of T) (g.mono (by decide : 2 ≤ 9)) (by rfl) T.m_law_of T.F_law_of.kp (OB.Fun.bd T.F_law_of (ps := ["pot", "some"]) (n := 2) (ks := []) (ix := [0, 1]) (fun _ _ _ _ _ _ us ws h1 h2 => match us, ws, h1, h2 with | [_, _], [], _, _ => rfl)) pass0 (pa_cons (pv 0) (pa_cons (pe_lst (pa_cons pe_int (pa_cons pe_int (pa_cons pe_int pa_nil)))) pa_nil)) pk_nil) pa_nil)))))) pss_nil)
      (pss_cons (ps_set (i := 3) sc_law_right.nd rfl (by first | exact Or.inl rfl | exact Or.inr rfl) (pe_cg (ok_law_all_sums T) (g.mono (by decide : 1 ≤ 9)) (by rfl) T.m_law_all_sums T.F_law_all_sums.kp (OB.Fun.bd T.F_law_all_sums (ps := ["notes"]) (n := 1) (ks := []) (ix := [0]) (fun _ _ _ _ _ _ us ws h1 h2 => match us, ws, h1, h2 with | [_], [], _, _ => rfl)) pass0 (pa_cons (pv 1) pa_nil) pk_nil))
      (pss_cons (ps_for PassesOwn.never rfl (pi_range1 rfl T.n_range (pa_cons (pe_ifExp (pt_cmpR op_gt (pe_callB (toK (r := OB.rLen) (K := K) rfl c_len) (by rfl) T.n_len PySem.boot_len (pa_cons (pv 1) pa_nil)) pe_int (nomark _)) pe_int pe_int) pa_nil)) (pg_name (i := 4) sc_law_right.nd rfl (by first | exact Or.inl rfl | exact Or.inr rfl))
      (pss_cons (ps_set (i := 5) sc_law_right.nd rfl (by first | exact Or.inl rfl | exact Or.inr rfl) (pe_cg (ok_law_asked_sum T) (g.mono (by decide : 3 ≤ 9)) (by rfl) T.m_law_asked_sum T.F_law_asked_sum.kp (OB.Fun.bd T.F_law_asked_sum (ps := ["pot", "rows"]) (n := 2) (ks := []) (ix := [0, 1]) (fun _ _ _ _ _ _ us ws h1 h2 => match us, ws, h1, h2 with | [_, _], [], _, _ => rfl)) pass0 (pa_cons (pv 0) (pa_cons (pv 3) pa_nil)) pk_nil))
      (pss_cons (ps_if (pt_cmpR op_gt (pe_callB (toK (r := OB.rLen) (K := K) rfl c_len) (by rfl) T.n_len PySem.boot_len (pa_cons (pv 1) pa_nil)) pe_int (nomark _)) (pss_one (ps_set (i := 5) sc_law_right.nd rfl (by first | exact Or.inl rfl | exact Or.inr rfl) (pe_op op_mul (pe_ix (ix_UK (K := K) rfl) (pe_ix (ix_UK (K := K) rfl) (pv 1) pe_int (fun _ _ => rfl)) pe_int (fun _ _ => rfl)) (pe_callTy c_int (by rfl) T.n_int (by decide +kernel) (pa_cons (pe_cg (ok_law_of T) (g.mono (by decide : 2 ≤ 9)) (by rfl) T.m_law_of T.F_law_of.kp (OB.Fun.bd T.F_law_of (ps := ["pot", "some"]) (n := 2) (ks := []) (ix := [0, 1]) (fun _ _ _ _ _ _ us ws h1 h2 => match us, ws, h1, h2 with | [_, _], [], _, _ => rfl)) pass0 (pa_cons (pv 0) (pa_cons (pe_lst (pa_cons pe_int (pa_cons pe_int (pa_cons pe_int (pa_cons pe_int (pa_cons pe_int pa_nil)))))) pa_nil)) pk_nil) pa_nil))))) pss_nil)
      (pss_cons (ps_if (PW.pt (pw_or (pt_not (pt_val (pe_cg (ok_law_are_lots_right T) (g.mono (by decide : 8 ≤ 9)) (by rfl) T.m_law_are_lots_right T.F_law_are_lots_right.kp (OB.Fun.bd T.F_law_are_lots_right (ps := ["notes", "rows", "amount"]) (n := 3) (ks := []) (ix := [0, 1, 2]) (fun _ _ _ _ _ _ us ws h1 h2 => match us, ws, h1, h2 with | [_, _, _], [], _, _ => rfl)) pass0 (pa_cons (pv 1) (pa_cons (pv 3) (pa_cons (pv 5) pa_nil))) pk_nil))) (pw_or1 (pt_not (pt_val (pe_cg (ok_law_is_one_right T) (g.mono (by decide : 9 ≤ 9)) (by rfl) T.m_law_is_one_right T.F_law_is_one_right.kp (OB.Fun.bd T.F_law_is_one_right (ps := ["pot", "notes", "rows", "amount"]) (n := 4) (ks := []) (ix := [0, 1, 2, 3]) (fun _ _ _ _ _ _ us ws h1 h2 => match us, ws, h1, h2 with | [_, _, _, _], [], _, _ => rfl)) pass0 (pa_cons (pv 0) (pa_cons (pv 1) (pa_cons (pv 3) (pa_cons (pv 5) pa_nil)))) pk_nil)))))) (pss_one (ps_ret pe_bl)) pss_nil)
      (pss_cons (ps_setLc (i := 6) (own := [("lot", 9), ("total", 10)]) rfl sc_law_right.nd rfl rfl (sw_true rfl rfl rfl (by decide +kernel)) (pi_seq (pv 3)) (blkOk_by (N := names_law_right) (sc := defScope (top 42)) (own := [("lot", 9), ("total", 10)]) (by decide +kernel)) (fun _ _ _ _ _ => (pg_tupK (K := K) rfl (n := 2) rfl (pgs_cons (pg_name (i := 9) sc_law_right.nd rfl (by first | exact Or.inl rfl | exact Or.inr rfl)) (pgs_cons (pg_name (i := 10) sc_law_right.nd rfl (by first | exact Or.inl rfl | exact Or.inr rfl)) pgs_nil)))) (fun _ _ _ _ _ => pts_one (pt_cmpR op_le (pv 10) (pv 5) (nomark _))) (fun _ _ _ _ _ => (pv 10)))
      (pss_cons (ps_setLc (i := 7) (own := [("lot", 9), ("total", 10)]) rfl sc_law_right.nd rfl rfl (sw_true rfl rfl rfl (by decide +kernel)) (pi_seq (pv 3)) (blkOk_by (N := names_law_right) (sc := defScope (top 42)) (own := [("lot", 9), ("total", 10)]) (by decide +kernel)) (fun _ _ _ _ _ => (pg_tupK (K := K) rfl (n := 2) rfl (pgs_cons (pg_name (i := 9) sc_law_right.nd rfl (by first | exact Or.inl rfl | exact Or.inr rfl)) (pgs_cons (pg_name (i := 10) sc_law_right.nd rfl (by first | exact Or.inl rfl | exact Or.inr rfl)) pgs_nil)))) (fun _ _ _ _ _ => pts_one (pt_cmpR op_ge (pv 10) (pv 5) (nomark _))) (fun _ _ _ _ _ => (pv 10)))
      (pss_cons (ps_set (i := 8) sc_law_right.nd rfl (by first | exact Or.inl rfl | exact Or.inr rfl) (pe_tup (pa_cons (pe_ifExp (pt_cmpR (op_neD g.hu64) (pv 6) (pe_lst pa_nil) (nomark _)) (pe_callTy c_int (by rfl) T.n_int (by decide +kernel) (pa_cons (pe_callB (toK (r := OB.rMaxU) (K := K) rfl (c_maxU rfl)) (by rfl) T.n_max (by decide +kernel) (pa_cons (pv 6) pa_nil)) pa_nil)) pe_non) (pa_cons (pe_ifExp (pt_cmpR (op_neD g.hu64) (pv 7) (pe_lst pa_nil) (nomark _)) (pe_callTy c_int (by rfl) T.n_int (by decide +kernel) (pa_cons (pe_callB (toK (r := L2.rMin) (K := K) rfl (cr_min rfl)) (by rfl) T.n_min (by decide +kernel) (pa_cons (pv 7) pa_nil)) pa_nil)) pe_non) pa_nil))))
      (pss_one (ps_if (pt_cmpR op_ne (pe_callB (toK (r := rRepr) (K := K) rfl (call_repr g)) (by rfl) T.n_repr (by decide +kernel) (pa_cons (pe_cg0 (ok_near_sums T) (g.mono (by decide : 7 ≤ 9)) (by rfl) T.m_near_sums T.F_near_sums.kp (OB.Fun.bd T.F_near_sums (ps := ["notes", "amount"]) (n := 0) (ks := ["amount", "notes"]) (ix := [1, 0]) (fun _ _ _ _ _ _ us ws h1 h2 => match us, ws, h1, h2 with | [], [_, _], _, _ => rfl)) pass0 (pk_cons (pv 5) (pk_cons (pv 1) pk_nil))) pa_nil)) (pe_callB (toK (r := rRepr) (K := K) rfl (call_repr g)) (by rfl) T.n_repr (by decide +kernel) (pa_cons (pv 8) pa_nil)) (nomark _)) (pss_one (ps_ret pe_bl)) pss_nil)))))))))
      (pss_one (ps_ret pe_bl)))))), ?_⟩
  refine g_start (σ := [some _, none, none, none, none, none, none, none, none, none, none]) rfl ?_
  repeat walk_at "ob"
  rename_i q1 H1 _ S1
  have P1 : Pot K ((q1, .lst (([3, 7, 9] : List Int).map V.int)) :: F) G0 p 0 H1 := ⟨a, b, c, o0, S1.swap⟩
  clear S0 S1
  refine use_ofP P1 (by omega) (by decide) (by decide) fun v hv H2 P2 => ?_
  obtain ⟨m, hm, rfl⟩ := List.mem_map.mp hv
  have hm : 0 ≤ m ∧ m ≤ 9 := (show ∀ m ∈ ([3, 7, 9] : List Int), 0 ≤ m ∧ m ≤ 9 by decide) m hm
  have P3 := P2.less
  clear P1 P2
  repeat walk_at "ob"
  refine ⟨rfl, F, G0, p, _, m, rfl, P3, by omega, hm.1, by omega, fun one rs H4 ng hl P4 => ?_⟩
  clear P3
  repeat ((fail_if_success (with_reducible refine atIfS ?_)); walk_at "ob")
  refine viaS (fun σ' H' => ∃ nt v2 ts, σ' = [some (.ref p), some (.ref nt), v2, none, none, none, none, none, none, none, none] ∧ NG ts ∧ ts.length ≤ 13 ∧ Pot K F (.tq nt (NR ts) :: .tt (NT ts) :: G0) p 1000 H') (fun NX A B C qq => ?_) ?_
  · repeat walk_at "ob"
    refine use_takeP P4 (by omega) (by decide) (by decide) fun r H5 r0 r1 P5 => ?_
    repeat walk_at "ob"
    refine g_iteD (fun h1 => ?_) (fun h1 => ?_)
    · repeat walk_at "ob"
      refine use_noteP P5 (by omega) fun t nn H6 hnn P6 => ?_
      obtain ⟨a6, b6, c6, o6, S6⟩ := P6
      repeat ((fail_if_success (with_reducible refine atNewT ?_)); walk_at "ob")
      refine g_newTq S6 (Nat.le_of_ble_eq_true rfl) fun u H7 _ S7 => ?_
      repeat walk_at "ob"
      rename_i q2 H8 _ S8
      refine use_ofP (xs := ([11, 12, 13] : List Int).map V.int) ⟨a6, b6, c6, o6, S8.swap⟩ (by omega) (by decide) (by decide) fun v hv H9 P9 => ?_
      obtain ⟨m2, hm2, rfl⟩ := List.mem_map.mp hv
      have hm2 : 11 ≤ m2 ∧ m2 ≤ 13 := (show ∀ m ∈ ([11, 12, 13] : List Int), 11 ≤ m ∧ m ≤ 13 by decide) m2 hm2
      obtain ⟨a9, b9, c9, o9, S9⟩ := P9
      repeat walk_at "ob"
      refine ⟨u, m2, [.ref t], rfl, rfl, S9.tqs 0 rfl, (fun h => nomatch h), by omega, by omega, Nat.le_of_ble_eq_true rfl, fun w hw => ?_⟩
      have S10 : Sy K ((p, potO a9 b9 c9) :: F) (.tq w (NR (List.replicate m2.toNat ((t, nn) : Addr × N))) :: .tt (NT (List.replicate m2.toNat ((t, nn) : Addr × N))) :: G0) (upd H9 w (.tup (List.replicate m2.toNat [V.ref t]).flatten)) := by
        have S11 := ((S9.swap.less).drop.over (o := .tup (List.replicate m2.toNat [V.ref t]).flatten) hw)
        have S12 := (S11.add (.tt (NT (List.replicate m2.toNat ((t, nn) : Addr × N)))) (fun q hq => by
          obtain ⟨r, hr, rfl⟩ := List.mem_map.mp hq
          obtain ⟨_, rfl⟩ := List.mem_replicate.mp hr
          exact S11.tts 0 rfl _ (List.mem_singleton.mpr rfl))).add (.tq w (NR (List.replicate m2.toNat ((t, nn) : Addr × N)))) (by rw [NR_rep]; exact .inl (.inl upd_same))
        refine S12.facts fun g hg => ?_
        rcases List.mem_cons.mp hg with rfl | hg
        · exact List.mem_cons_self ..
        rcases List.mem_cons.mp hg with rfl | hg
        · exact List.mem_cons_of_mem _ (List.mem_cons_self ..)
        · exact List.mem_cons_of_mem _ (List.mem_cons_of_mem _ (List.mem_cons_of_mem _ (List.mem_cons_of_mem _ (List.mem_cons_of_mem _ hg))))
      repeat walk_at "ob"
      exact qq _ _ ⟨w, _, List.replicate m2.toNat ((t, nn) : Addr × N), rfl, fun r hr => by rw [(List.mem_replicate.mp hr).2]; exact hnn, by rw [List.length_replicate]; omega, a9, b9, c9, o9.mono (by omega), S10⟩
    · repeat walk_at "ob"
      exact qq _ _ ⟨one, none, rs, rfl, ng, by omega, P5.mono (by omega)⟩
  clear P4 ng hl hm
  rintro σ' H5 ⟨nt, v2, ts, rfl, nts, lts, a5, b5, c5, o5, S5⟩
  have hnr : (NR ts).length = ts.length := List.length_map ..
  have hGl : (lotG (ts.map (·.2)) 0 ts.length).length ≤ 8192 := by rw [lotG_len]; exact Nat.le_trans (Nat.pow_le_pow_right (by decide) lts) (by decide)
  have hG0 : 0 < (lotG (ts.map (·.2)) 0 ts.length).length := by rw [lotG_len]; exact Nat.two_pow_pos _
  refine g_nx ?_
  repeat walk_at "ob"
  refine ⟨rfl, _, _, nt, ts, rfl, S5, S5.tqs 0 rfl, S5.tts 1 rfl, lts, fun rq fv H6 S6 => ?_⟩
  have P6 : Pot K ((rq, .lst fv) :: F) (.dat fv (rowsE (lotG (ts.map (·.2)) 0 ts.length)) :: .tq nt (NR ts) :: .tt (NT ts) :: G0) p 1000 H6 := ⟨a5, b5, c5, o5, S6.swap⟩
  clear S5 S6
  repeat ((fail_if_success (with_reducible refine atForR ?_)); walk_at "ob")
  refine g_forR ?_
  repeat ((fail_if_success (with_reducible refine atIf ?_)); walk_at "ob")
  refine via (fun v H' => H' = H6 ∧ (v = .int 1 ∨ v = .int 3)) (fun Q' qq => ?_) ?_
  · have S6 := P6.choose_spec.choose_spec.choose_spec.2
    repeat walk_at "ob"
    refine g_iteD (fun h1 => ?_) (fun h1 => ?_)
    · repeat walk_at "ob"
      exact qq _ _ ⟨rfl, .inl rfl⟩
    · repeat walk_at "ob"
      exact qq _ _ ⟨rfl, .inr rfl⟩
  rintro v H7 ⟨rfl, hv⟩
  obtain ⟨lm, hlm, rfl⟩ : ∃ lm : Int, (0 ≤ lm ∧ lm ≤ 3) ∧ v = .int lm := by
    rcases hv with rfl | rfl
    · exact ⟨1, by decide, rfl⟩
    · exact ⟨3, by decide, rfl⟩
  clear hv
  repeat walk_at "ob"
  refine g_rgJ (by omega) (by omega) ?_
  refine rgfor_of (fun i σ' H' => ∃ v4 v5 v6 v7 v8, σ' = [some (.ref p), some (.ref nt), v2, some (.ref rq), v4, v5, v6, v7, v8, none, none] ∧ Pot K ((rq, .lst fv) :: F) (.dat fv (rowsE (lotG (ts.map (·.2)) 0 ts.length)) :: .tq nt (NR ts) :: .tt (NT ts) :: G0) p (1000 + i * 30) H') ⟨none, none, none, none, none, rfl, P6⟩ ?_ ?_
  · rintro i σ' H' hi ⟨v4, v5, v6, v7, v8, rfl, P7⟩
    clear P6
    repeat walk_at "ob"
    refine ⟨rfl, F, _, p, rq, _, fv, _, rfl, P7, by omega, hG0, hGl, fun x H8 P8 => ?_⟩
    clear P7
    repeat ((fail_if_success (with_reducible refine atIfS ?_)); walk_at "ob")
    refine viaS (fun σ' H' => ∃ y : Int, σ' = [some (.ref p), some (.ref nt), v2, some (.ref rq), some (.int (0 + (i : Int))), some (.int y), v6, v7, v8, none, none] ∧ Pot K ((rq, .lst fv) :: F) (.dat fv (rowsE (lotG (ts.map (·.2)) 0 ts.length)) :: .tq nt (NR ts) :: .tt (NT ts) :: G0) p (1000 + i * 30 + 5) H') (fun NX A B C qq => ?_) ?_
    · obtain ⟨a8, b8, c8, o8, S8⟩ := P8
      repeat walk_at "ob"
      refine g_iteD (fun h1 => ?_) (fun h1 => ?_)
      · have hpos : 0 < ts.length := by omega
        obtain ⟨r1, hr1⟩ : ∃ r1, ts[0]? = some r1 := ⟨ts[0], List.getElem?_eq_getElem hpos⟩
        have hrb := (nts r1 (List.mem_of_getElem? hr1)).2.2
        obtain ⟨hb1, hb2⟩ := hrb
        repeat walk_at "ob"
        refine g_ixUT (S8.tqs 1 rfl) (atI_nn (by decide) (nr_at hr1)) ?_
        repeat walk_at "ob"
        refine g_ixUT (sqt_note (nt_at S8 (i := 2) rfl (List.mem_of_getElem? hr1))) (v := .int r1.2.2) (atI_nn (by decide) rfl) ?_
        repeat walk_at "ob"
        rename_i q2 H9 _ S9
        refine use_ofP (xs := ([5, 6, 4, 7, 20] : List Int).map V.int) ⟨a8, b8, c8, o8, S9.swap⟩ (by omega) (by decide) (by decide) fun v hv H10 P10 => ?_
        obtain ⟨m2, hm2, rfl⟩ := List.mem_map.mp hv
        repeat walk_at "ob"
        exact qq _ _ ⟨_, rfl, P10.less.mono (by omega)⟩
      · repeat walk_at "ob"
        exact qq _ _ ⟨x, rfl, a8, b8, c8, o8.mono (by omega), S8⟩
    clear P8
    rintro σ' H9 ⟨y, rfl, a9, b9, c9, o9, S9⟩
    refine g_nx ?_
    repeat walk_at "ob"
    refine ⟨rfl, (p, potO a9 b9 c9) :: F, _, nt, rq, ts, fv, y, rfl, S9.swap, S9.tqs 1 rfl, S9.tts 2 rfl, nts, lts, fun H10 S10 => ?_⟩
    repeat walk_at "ob"
    refine ⟨rfl, F, _, p, nt, rq, 1000 + i * 30 + 5, ts, fv, y, rfl, ⟨a9, b9, c9, o9, S10.swap⟩, by omega, S10.tqs 1 rfl, S10.tts 2 rfl, nts, lts, fun H11 P11 => ?_⟩
    obtain ⟨a11, b11, c11, o11, S11⟩ := P11
    clear S9 S10
    have hfv : fv.length = (lotG (ts.map (·.2)) 0 ts.length).length := by
      rw [dps_length (S11.dps 0 rfl)]
      exact List.length_map ..
    repeat walk_at "ob"
    refine g_lcS (a := rq) (xs := fv) true (fun j F' ds => F' = (p, potO a11 b11 c11) :: (rq, HO.lst fv) :: F ∧ ds = ((((lotG (ts.map (·.2)) 0 ts.length).take j).map (·.1)).filter fun t => decide (t ≤ y)).map PyData.int) S11 (fun Q' q => by walk_at "ob"; exact q) ⟨rfl, rfl⟩ (fun j F' ds H' hi S3 => SqL.of ((hi.1 ▸ S3).at 1 rfl)) (fun j F' ds hi => by
      rw [hi.2, List.length_map]
      refine Nat.lt_of_le_of_lt (List.length_filter_le ..) ?_
      rw [List.length_map, List.length_take]
      omega) ?_ ?_
    · intro j yy hy Dp H12 F4 us ds QE QR hj S12 kE kR
      obtain ⟨rfl, rfl⟩ := hj
      obtain ⟨r0, hr, hdr⟩ := dps_map (S12.dps 1 rfl) hy
      obtain ⟨t, q, rfl, ht, hq, hqd⟩ := row_openE hdr
      have est : (((lotG (ts.map (·.2)) 0 ts.length).take (j + 1)).map (·.1)).filter (fun t => decide (t ≤ y)) = (((lotG (ts.map (·.2)) 0 ts.length).take j).map (·.1)).filter (fun t => decide (t ≤ y)) ++ if r0.1 ≤ y then [r0.1] else [] := by
        rw [List.take_add_one, hr, List.map_append, List.filter_append]
        by_cases h : r0.1 ≤ y <;> simp [h]
      repeat walk_at "ob"
      refine ⟨rfl, ?_⟩
      repeat walk_at "ob"
      refine g_iteD (fun h3 => ?_) (fun h3 => ?_)
      · repeat walk_at "ob"
        refine kE _ (.int r0.1) _ _ ⟨rfl, ?_⟩ (S12.fact (dps_one (.int _)) rfl)
        rw [est, if_pos h3, List.map_append]
        rfl
      · refine kR _ _ ⟨rfl, ?_⟩ S12
        rw [est, if_neg h3, List.append_nil]
    rintro Db H13 F4 us ds hD ⟨rfl, rfl⟩ S13
    rw [hfv, List.take_length] at S13
    obtain ⟨be, hbe⟩ : ∃ l, l = ((lotG (ts.map (·.2)) 0 ts.length).map (·.1)).filter fun t => decide (t ≤ y) := ⟨_, rfl⟩
    rw [← hbe] at S13
    have := dps_intsV (S13.dps 0 rfl)
    subst this
    clear S11
    repeat walk_at "ob"
    refine g_lcS (a := rq) (xs := fv) true (fun j F' ds => F' = (Db, HO.lst (be.map V.int)) :: (p, potO a11 b11 c11) :: (rq, HO.lst fv) :: F ∧ ds = ((((lotG (ts.map (·.2)) 0 ts.length).take j).map (·.1)).filter fun t => decide (y ≤ t)).map PyData.int) S13 (fun Q' q => by walk_at "ob"; exact q) ⟨rfl, rfl⟩ (fun j F' ds H' hi S3 => SqL.of ((hi.1 ▸ S3).at 2 rfl)) (fun j F' ds hi => by
      rw [hi.2, List.length_map]
      refine Nat.lt_of_le_of_lt (List.length_filter_le ..) ?_
      rw [List.length_map, List.length_take]
      omega) ?_ ?_
    · intro j yy hy Dp H12 F4 us ds QE QR hj S12 kE kR
      obtain ⟨rfl, rfl⟩ := hj
      obtain ⟨r0, hr, hdr⟩ := dps_map (S12.dps 2 rfl) hy
      obtain ⟨t, q, rfl, ht, hq, hqd⟩ := row_openE hdr
      have est : (((lotG (ts.map (·.2)) 0 ts.length).take (j + 1)).map (·.1)).filter (fun t => decide (y ≤ t)) = (((lotG (ts.map (·.2)) 0 ts.length).take j).map (·.1)).filter (fun t => decide (y ≤ t)) ++ if y ≤ r0.1 then [r0.1] else [] := by
        rw [List.take_add_one, hr, List.map_append, List.filter_append]
        by_cases h : y ≤ r0.1 <;> simp [h]
      repeat walk_at "ob"
      refine ⟨rfl, ?_⟩
      repeat walk_at "ob"
      refine g_iteD (fun h3 => ?_) (fun h3 => ?_)
      · repeat walk_at "ob"
        refine kE _ (.int r0.1) _ _ ⟨rfl, ?_⟩ (S12.fact (dps_one (.int _)) rfl)
        rw [est, if_pos h3, List.map_append]
        rfl
      · refine kR _ _ ⟨rfl, ?_⟩ S12
        rw [est, if_neg h3, List.append_nil]
    rintro Da H14 F4 us ds hD ⟨rfl, rfl⟩ S14
    rw [hfv, List.take_length] at S14
    obtain ⟨ab, hab⟩ : ∃ l, l = ((lotG (ts.map (·.2)) 0 ts.length).map (·.1)).filter fun t => decide (y ≤ t) := ⟨_, rfl⟩
    rw [← hab] at S14
    have := dps_intsV (S14.dps 0 rfl)
    subst this
    clear S13
    have hmx := isMx_of hbe
    have hmn := isMn_of hab
    rw [show (lotG (ts.map (·.2)) 0 ts.length).map (·.1) = sumsG (ts.map (·.2)) by unfold sumsG; rw [List.length_map]] at hmx hmn
    repeat ((fail_if_success (with_reducible refine atIf ?_)); walk_at "ob")
    refine via (fun v H' => ∃ o, v = oV2 o ∧ IsMx (sumsG (ts.map (·.2))) y o ∧ Sy K ((Da, .lst (ab.map V.int)) :: (Db, .lst (be.map V.int)) :: (p, potO a11 b11 c11) :: (rq, .lst fv) :: F) (.dat (ab.map V.int) (ab.map PyData.int) :: .dat (be.map V.int) (be.map PyData.int) :: .dat fv (rowsE (lotG (ts.map (·.2)) 0 ts.length)) :: .tq nt (NR ts) :: .tt (NT ts) :: G0) H') (fun Q' qq => ?_) ?_
    · clear hmn hab hbe
      repeat walk_at "ob"
      rename_i nl H15 _ S15
      refine g_neD (.lst (SqL.of (S15.at 2 rfl)) (S15.dps 1 rfl)) (.lst (SqL.of (S15.at 0 rfl)) .nil) (shaped_ints be) rfl ?_
      rw [eqv_emptyI]
      have S16 := S15.less
      clear S15 S14
      cases be with
      | nil =>
        repeat walk_at "ob"
        refine g_F rfl ?_
        repeat walk_at "ob"
        exact qq .non _ ⟨none, rfl, hmx.1 rfl, S16⟩
      | cons b0 bs =>
        repeat walk_at "ob"
        refine g_T rfl ?_
        repeat walk_at "ob"
        refine g_maxUL (ns := b0 :: bs) (SqL.of (S16.at 1 rfl)) (Nat.succ_pos _) fun m hm hmax => ?_
        repeat walk_at "ob"
        exact qq _ _ ⟨some m, rfl, hmx.2 m hm hmax, S16⟩
    clear S14
    rintro v H15 ⟨oa, rfl, hoa, S14⟩
    repeat ((fail_if_success (with_reducible refine atIf ?_)); walk_at "ob")
    refine via (fun v H' => ∃ o, v = oV2 o ∧ IsMn (sumsG (ts.map (·.2))) y o ∧ Sy K ((Da, .lst (ab.map V.int)) :: (Db, .lst (be.map V.int)) :: (p, potO a11 b11 c11) :: (rq, .lst fv) :: F) (.dat (ab.map V.int) (ab.map PyData.int) :: .dat (be.map V.int) (be.map PyData.int) :: .dat fv (rowsE (lotG (ts.map (·.2)) 0 ts.length)) :: .tq nt (NR ts) :: .tt (NT ts) :: G0) H') (fun Q' qq => ?_) ?_
    · clear hmx hab hbe
      repeat walk_at "ob"
      rename_i nl H15 _ S15
      refine g_neD (.lst (SqL.of (S15.at 1 rfl)) (S15.dps 0 rfl)) (.lst (SqL.of (S15.at 0 rfl)) .nil) (shaped_ints ab) rfl ?_
      rw [eqv_emptyI]
      have S16 := S15.less
      clear S15 S14
      cases ab with
      | nil =>
        repeat walk_at "ob"
        refine g_F rfl ?_
        repeat walk_at "ob"
        exact qq .non _ ⟨none, rfl, hmn.1 rfl, S16⟩
      | cons b0 bs =>
        repeat walk_at "ob"
        refine g_T rfl ?_
        repeat walk_at "ob"
        refine ⟨_, b0 :: bs, rfl, SqL.of (S16.at 0 rfl), Nat.succ_pos _, fun m hm hmin => ?_⟩
        repeat walk_at "ob"
        exact qq _ _ ⟨some m, rfl, hmn.2 m hm hmin, S16⟩
    clear S14
    rintro v H16 ⟨ob, rfl, hob, S14⟩
    repeat ((fail_if_success (with_reducible refine atNewT ?_)); walk_at "ob")
    refine g_newT (ds := [oD oa, oD ob]) S14 (.cons (dp_oV2 _) (.cons (dp_oV2 _) .nil)) (by cases oa <;> cases ob <;> rfl) (Nat.le_of_ble_eq_true rfl) fun t2 H17 _ S17 => ?_
    clear S14
    have okn : ∀ n ∈ ts.map (fun r : Addr × N => r.2), NOk n := fun n hn => by
      obtain ⟨r, hr, rfl⟩ := List.mem_map.mp hn
      exact nts r hr
    have hln : (ts.map (fun r : Addr × N => r.2)).length ≤ 13 := by rw [List.length_map]; exact lts
    repeat walk_at "ob"
    refine ⟨rfl, _, _, nt, ts, y, rfl, S17, S17.tqs 4 rfl, S17.tts 5 rfl, nts, lts, fun oa2 ob2 t3 H18 hoa2 hob2 S18 => ?_⟩
    obtain rfl := hoa2.uniq hoa
    obtain rfl := hob2.uniq hob
    repeat walk_at "ob"
    refine g_reprS (S18.dp 0 rfl) (small_due okn hln hoa hob) (by decide) (by decide) ?_
    repeat walk_at "ob"
    refine g_reprS (S18.dp 1 rfl) (small_due okn hln hoa hob) (by decide) (by decide) ?_
    repeat walk_at "ob"
    exact ⟨_, _, _, _, _, rfl, a11, b11, c11, o11.mono (by omega), (S18.less.less.drop.drop.drop.drop)⟩
  · rintro σ' H' ⟨v4, v5, v6, v7, v8, rfl, a7, b7, c7, o7, S7⟩
    repeat walk_at "ob"
    exact k _ S7.less.less.drop.drop.drop
end
end LAW

set_option Elab.async false
set_option linter.all false
set_option maxRecDepth 100000
namespace LAW
open PySem PySem.Spec PyProof.Rows L2 PySem.W OB
local macro_rules | `(tactic| walk_at "obc") => `(tactic| first
  | exact Or.inl ⟨by omega, by omega⟩
  | exact Or.inr ⟨by omega, by omega⟩
  | exact cdiv_ok (by omega) (by omega)
  | (show (0 : Int) < _; omega)
  | exact ⟨by omega, by decide⟩
  | exact ⟨by decide, by decide⟩)
local macro_rules | `(tactic| walk_at "obat") => `(tactic| first
  | exact Sy.at (by assumption) 0 rfl | exact Sy.at (by assumption) 1 rfl | exact Sy.at (by assumption) 2 rfl | exact Sy.at (by assumption) 3 rfl
  | exact Sy.at (by assumption) 4 rfl | exact Sy.at (by assumption) 5 rfl | exact Sy.at (by assumption) 6 rfl | exact Sy.at (by assumption) _ (by assumption) | exact Sy.at (by assumption) (_ + 1) (by assumption) | exact Sy.at (by assumption) (_ + 2) (by assumption))
local macro_rules | `(tactic| walk_at "obt") => `(tactic| first
  | exact Sy.tqs (by assumption) 0 rfl | exact Sy.tqs (by assumption) 1 rfl | exact Sy.tqs (by assumption) 2 rfl | exact Sy.tqs (by assumption) 3 rfl | exact Sy.tqs (by assumption) 4 rfl | exact Sy.tqs (by assumption) 5 rfl
  | exact Sy.tqs (by assumption) 6 rfl | exact Sy.tqs (by assumption) 7 rfl | assumption)
local macro_rules | `(tactic| walk_at "obl") => `(tactic| first
  | exact SqL.of (by walk_at "obat")
  | exact Sy.sq (by assumption) 0 rfl | exact Sy.sq (by assumption) 1 rfl | exact Sy.sq (by assumption) 2 rfl | exact Sy.sq (by assumption) 3 rfl | exact Sy.sq (by assumption) _ (by assumption))
local macro_rules | `(tactic| walk_at "obd") => `(tactic| first
  | exact Dp.int _ | exact Dp.bl _ | exact Dp.str _ | exact Dp.non
  | exact Sy.dp (by assumption) 0 rfl | exact Sy.dp (by assumption) 1 rfl | exact Sy.dp (by assumption) 2 rfl | exact Sy.dp (by assumption) 3 rfl
  | exact Sy.dp (by assumption) 4 rfl | exact Sy.dp (by assumption) 5 rfl | exact Sy.dp (by assumption) 6 rfl | exact Sy.dp (by assumption) 7 rfl
  | exact Sy.dp (by assumption) 8 rfl | exact Sy.dp (by assumption) 9 rfl | exact Sy.dp (by assumption) _ (by assumption) | assumption)
local macro_rules | `(tactic| walk_at "obds") => `(tactic| first
  | exact DpAll.nil
  | (refine' DpAll.cons ?ob1 ?ob2; (case ob1 => walk_at "obd"); (case ob2 => walk_at "obds"))
  | exact Sy.dps (by assumption) 0 rfl | exact Sy.dps (by assumption) 1 rfl | exact Sy.dps (by assumption) 2 rfl | exact Sy.dps (by assumption) 3 rfl | assumption)
local macro_rules | `(tactic| walk_at "obsc") => `(tactic| first
  | exact ScL.nil
  | ((first | refine' ScL.int ?obz | refine' ScL.str ?obz | refine' ScL.bl ?obz | refine' ScL.non ?obz); (case obz => walk_at "obsc")))
local macro_rules | `(tactic| walk_at "ob1") => `(tactic| first
  | ((with_reducible refine' g_var ?obh ?_); (case obh => rfl))
  | with_reducible refine g_c ?_
  | with_reducible refine g_nx ?_
  | with_reducible refine g_rt ?_
  | with_reducible refine g_bk ?_
  | with_reducible refine g_ct ?_
  | with_reducible refine g_op ?_
  | with_reducible refine g_I0 ?_
  | with_reducible refine g_test ?_
  | with_reducible refine g_bl ?_
  | with_reducible refine g_blx ?_
  | with_reducible refine g_B ?_
  | with_reducible refine g_seq ?_
  | with_reducible refine g_asg ?_
  | with_reducible refine g_name ?_
  | with_reducible refine g_ifS ?_
  | with_reducible refine g_ret ?_
  | with_reducible refine g_cb ?_
  | with_reducible refine g_cons ?_
  | with_reducible refine g_nil ?_
  | with_reducible refine g_int ?_
  | with_reducible refine g_intB ?_
  | with_reducible refine g_abs ?_
  | with_reducible refine g_max ?_
  | with_reducible refine g_min ?_
  | with_reducible refine g_un ?_
  | with_reducible refine g_U ?_
  | with_reducible refine g_eqI ?_
  | with_reducible refine g_neI ?_
  | with_reducible refine g_eqS ?_
  | with_reducible refine g_neS ?_
  | with_reducible refine g_tt ?_
  | with_reducible refine g_ff ?_
  | with_reducible refine g_next ?_
  | with_reducible refine g_drop ?_
  | with_reducible refine g_if ?_
  | with_reducible refine g_andV ?_
  | with_reducible refine g_orV ?_
  | with_reducible refine g_notV ?_
  | with_reducible refine g_and ?_
  | with_reducible refine g_or ?_
  | with_reducible refine g_not ?_
  | with_reducible refine g_yes ?_
  | with_reducible refine g_chain ?_
  | with_reducible refine g_cg ?_
  | with_reducible refine g_mg ?_
  | with_reducible refine g_kg ?_
  | with_reducible refine g_pg ?_
  | ((with_reducible refine' g_call ?obh ?obj ?_); (case obh => rfl); (case obj => rfl))
  | with_reducible refine g_par ?_
  | with_reducible refine g_par2 ?_
  | with_reducible refine g_par3 ?_
  | with_reducible refine g_par33 ?_
  | with_reducible refine g_gnil ?_
  | with_reducible refine g_gcons ?_
  | with_reducible refine g_gsub ?_
  | with_reducible refine g_ipI ?_
  | with_reducible refine g_rAdd ?_
  | with_reducible refine g_rSub ?_
  | ((with_reducible refine' g_aug ?obh ?_); (case obh => rfl))
  | with_reducible refine g_tup ?_
  | with_reducible refine g_lst ?_
  | with_reducible refine g_bm ?_
  | with_reducible refine g_bm0 ?_
  | with_reducible refine g_sl ?_
  | with_reducible refine g_nopart ?_
  | with_reducible refine g_part ?_
  | with_reducible refine g_pint ?_
  | with_reducible refine isi_int ?_
  | with_reducible refine isi_intB ?_
  | ((with_reducible refine' g_I ?obh ?_); (case obh => walk_at "obc"))
  | ((with_reducible refine' g_tyl ?obh ?_); (case obh => walk_at "obl"))
  | ((with_reducible refine' g_lenL ?obh ?_); (case obh => walk_at "obl"))
  | with_reducible refine g_ne ?_
  | ((with_reducible refine' g_neN' ?obh ?_); (case obh => rfl))
  | with_reducible refine g_ntt ?_
  | with_reducible refine g_nff ?_
  | with_reducible refine g_star ?_
  | with_reducible refine g_att ?_
  | with_reducible refine g_sfld ?_
  | with_reducible refine g_faug ?_
  | with_reducible refine g_fld ?_
  | ((with_reducible refine' g_nF ?obh ?_); (case obh => omega))
  | ((with_reducible refine' g_nT ?obh ?_); (case obh => omega))
  | ((with_reducible refine' g_TD ?obh ?_); (case obh => omega))
  | ((with_reducible refine' g_FD ?obh ?_); (case obh => omega))
  | ((with_reducible refine' g_ixUL ?obh ?obi ?_); (case obh => walk_at "obl"); (case obi => exact atI_nn (by omega) (by rfl)))
  | ((with_reducible refine' g_setLS ?obs ?obh ?obi ?_); (case obs => assumption); (case obh => assumption); (case obi => rfl); intro _ _ _)
  | ((with_reducible refine' g_newT ?obs ?obh ?obi ?obj ?_); (case obs => assumption); (case obh => walk_at "obds"); (case obi => rfl); (case obj => exact Nat.le_of_ble_eq_true rfl); intro _ _ _ _)
  | ((with_reducible refine' g_newL ?obs ?obj ?_); (case obs => assumption); (case obj => exact Nat.le_of_ble_eq_true rfl); intro _ _ _ _)
  | ((with_reducible refine' isi_tup ?obh ?_); (case obh => walk_at "obt"))
  | ((with_reducible refine' g_lenT ?obh ?_); (case obh => walk_at "obt"))
  | ((with_reducible refine' g_unpT ?obh ?obi ?_); (case obh => walk_at "obt"); (case obi => rfl))
  | ((with_reducible refine' g_divmod ?obs ?obh ?_); (case obs => assumption); (case obh => exact cdivp_ok (by omega) (by omega) (by omega)); intro _ _ _ _)
  | ((with_reducible refine' g_unpD ?obh ?obi ?obj ?_); (case obh => walk_at "obd"); (case obi => walk_at "obsc"); (case obj => rfl))
  | with_reducible refine g_att ?_)
local macro_rules | `(tactic| walk_at "ob") => `(tactic| first
  | walk_at "ob1"
  | refine use_is_integer ?_
  | refine use_is_within ?_
  | with_reducible refine g_lstRg ?_
  | with_reducible refine g_rg1 ?_
  | with_reducible refine g_rg2 ?_
  | with_reducible refine g_tTru ?_
  | ((with_reducible refine' g_truL ?obh ?_); (case obh => walk_at "obl"))
  | ((with_reducible refine' g_ixUT ?obh ?obi ?_); (case obh => walk_at "obt"); (case obi => rfl))
  | with_reducible refine g_forZ ?_
  | with_reducible refine g_forR2 ?_
  | with_reducible refine g_forE ?_
  | with_reducible refine g_lcZ ?_)
section
variable {w : World} {K : Frag} {mg : Str → Option Value} {base : Heap}
def sp_law (K : Frag) : Sp := fun vs H Q E => vs.length = 1 ∧ ∃ (a : Addr) (ns : List Int), vs = [.ref a] ∧ Sy K [] [.sq a (ns.map V.int)] H ∧ ns.length ≤ 63 ∧ ∀ H', Q (.bl true) H'
abbrev names_law : List Str := ["script", "place"]
theorem sc_law : FnScope names_law ["script"] (defScope (top 43)) := ⟨rfl, rfl, rfl, by decide +kernel, rfl, by decide +kernel, by decide +kernel⟩
set_option maxHeartbeats 4000000 in
theorem ok_law (T : Tx K mg) : FG P w K mg base CX0 11 T.a_law T.d_law ["script"] (sp_law K) := by
  refine OB.Fun.fg T.F_law sc_law (fun vs H Q E h => h.1) (fun cdv A out s H vs Q E g h => ?_)
  obtain ⟨_, a, ns, rfl, S, hn, k⟩ := h
  refine ⟨_, (pss_one (ps_ret (pe_callB (toK (r := rAll) (K := K) rfl (cr_all rfl)) (by rfl) T.n_all (by decide +kernel) (pa_cons (pe_lc (own := [("place", 1)]) (tt := tYes) rfl sc_law.nd (pi_seq (pe_cg (ok_law_cells T) (g.mono (by decide : 1 ≤ 10)) (by rfl) T.m_law_cells T.F_law_cells.kp (OB.Fun.bd T.F_law_cells (ps := ["script", "most"]) (n := 2) (ks := []) (ix := [0, 1]) (fun _ _ _ _ _ _ us ws h1 h2 => match us, ws, h1, h2 with | [_, _], [], _, _ => rfl)) pass0 (pa_cons (pv 0) (pa_cons pe_int pa_nil)) pk_nil)) (blkOk_by (N := names_law) (sc := defScope (top 43)) (own := [("place", 1)]) (by decide +kernel)) (fun _ _ _ _ _ => (pg_name (i := 1) sc_law.nd rfl (by first | exact Or.inl rfl | exact Or.inr rfl))) (fun _ _ _ _ _ => pts_nil) (fun _ _ _ _ _ => (pe_cg (ok_law_right T) (g.mono (by decide : 10 ≤ 10)) (by rfl) T.m_law_right T.F_law_right.kp (OB.Fun.bd T.F_law_right (ps := ["pot"]) (n := 1) (ks := []) (ix := [0]) (fun _ _ _ _ _ _ us ws h1 h2 => match us, ws, h1, h2 with | [_], [], _, _ => rfl)) pass0 (pa_cons (pe_cg (ok_law_pot T) (g.mono (by decide : 1 ≤ 10)) (by rfl) T.m_law_pot T.F_law_pot.kp (OB.Fun.bd T.F_law_pot (ps := ["script", "place"]) (n := 2) (ks := []) (ix := [0, 1]) (fun _ _ _ _ _ _ us ws h1 h2 => match us, ws, h1, h2 with | [_, _], [], _, _ => rfl)) pass0 (pa_cons (pv 0) (pa_cons (pv 1) pa_nil)) pk_nil) pa_nil) pk_nil))) pa_nil)))), ?_⟩
  refine g_start (σ := [some _, none]) rfl ?_
  repeat walk_at "ob"
  refine g_lcE2 ?_
  repeat walk_at "ob"
  refine ⟨rfl, [], [], a, ns, 2, rfl, S, hn, by decide, by decide, fun ms p H1 hms hml S1 => ?_⟩
  repeat walk_at "ob"
  refine g_lcS (a := p) (xs := ms.map V.int) true (fun i F' ds => F' = [(p, .lst (ms.map V.int))] ∧ ds = List.replicate i (.bool true) ∧ i ≤ ms.length) S1 (fun Q' q => q) ⟨rfl, rfl, Nat.zero_le _⟩ (fun i F' ds H' hi S3 => SqL.of ((hi.1 ▸ S3).at 0 rfl)) (fun i F' ds hi => by
      rw [hi.2.1, List.length_replicate]
      omega) ?_ ?_
  · intro i x hx Dp H2 F2 vs ds QE QR hi S3 kE kR
    obtain ⟨rfl, rfl, hi2⟩ := hi
    have hi3 : i < ms.length := by
      have := (List.getElem?_eq_some_iff.mp hx).1
      rw [List.length_map] at this
      exact this
    rw [List.getElem?_map] at hx
    obtain ⟨m, hm, rfl⟩ := Option.map_eq_some_iff.mp hx
    obtain ⟨m0, m1⟩ := hms m (List.mem_of_getElem? hm)
    repeat walk_at "ob"
    refine ⟨rfl, ?_⟩
    repeat walk_at "ob"
    refine ⟨rfl, _, _, a, ns, m, rfl, S3.add (.sq a (ns.map V.int)) (S3.ft _ (by simp)), hn, m0, m1, fun x y z q H4 o S4 => ?_⟩
    repeat walk_at "ob"
    refine ⟨rfl, _, _, q, x, y, z, rfl, S4, o, fun H5 S5 => ?_⟩
    repeat walk_at "ob"
    exact kE _ (.bool true) _ _ ⟨rfl, by rw [List.replicate_succ'], hi3⟩ (S5.drop.fact (dps_one (L2.Dp.bl true)) rfl)
  · rintro Dp H2 F2 vs ds hD ⟨rfl, rfl, _⟩ S3
    have hv : vs = (List.replicate (ms.map V.int).length true).map V.bl := by
      rw [dps_scal (S3.dps 0 rfl) fun d hd => by rw [(List.mem_replicate.mp hd).2]; rfl, List.map_replicate, List.map_replicate]
      rfl
    subst hv
    repeat walk_at "ob"
    refine g_all (by walk_at "obl") ?_
    have e : ((List.replicate (ms.map V.int).length true).all id) = true := List.all_eq_true.mpr fun b hb => (List.mem_replicate.mp hb).2
    rw [e]
    exact k H2
end
theorem sy_script {K : Frag} {H : Hp} {a : Addr} {xs : List V} (o : Only H) (h : SqL K H a xs) : Sy K [] [.sq a xs] H := by
  refine Sy.nil.add _ ?_
  rcases h with (h | h) | h
  · rcases o a with e | ⟨ob, ys, e⟩
    · rw [e] at h; cases h
    · rw [e] at h; cases h
  · exact .inl h
  · exact .inr h
theorem law_in (K : Frag) (H : Hp) (a : Addr) (ns : List Int) (hn : ns.length ≤ 63) (o : Only H) (h : SqL K H a (ns.map V.int)) : sp_law K [.ref a] H (fun v _ => v = .bl true) fun _ _ _ => False :=
  ⟨rfl, a, ns, rfl, sy_script o h, hn, fun _ => rfl⟩
theorem law_fin {w : World} {K : Frag} {h : Heap} {mg : Str → Option Value} {fa : Addr} (X : K.In h) (G : h.Ns mainGlobals mg) (hfa : mg "law" = some (.ref fa)) (T : Tx K mg) :
    ∃ fd : FuncData, (∀ (s : Shared) (u : Value), BindsTo s fd ⟨[u], []⟩ [("script", u)]) ∧ ∀ base : Heap, K.In base → base.Ns mainGlobals mg → FG P w K mg base CX0 11 fa fd ["script"] (sp_law K) := by
  have e := hfa.symm.trans T.m_law
  cases e
  refine ⟨T.d_law, fun s u => ?_, fun base _ _ => ok_law T⟩
  exact .of_eq ((OB.Fun.bd T.F_law (ps := ["script"]) (n := 1) (ks := []) (ix := [0]) (fun _ _ _ _ _ _ us ws h1 h2 => match us, ws, h1, h2 with | [_], [], _, _ => rfl)).to [u] [] rfl rfl)
end LAW

set_option Elab.async false
set_option linter.all false
set_option maxRecDepth 100000
namespace LAW
open PySem PySem.Spec PyProof.Rows L2 PySem.W OB
theorem walk {l : PySem.W.OpenLaw} {q : Program} {loose : List Str} {XP : (Str → Option Value) → Heap → Prop} {YP : World → Heap → Prop} {d : DefRec} {K : Params → PySem.W.Frag} (hn : l.most = some 63) (hdf : d.params.defaults = [])
    (hY : ∀ (w : World) (h : Heap), YP w h → (K w.params).In h)
    (F : ∀ (w : World) (mg : Str → Option Value) (fa : Addr) (h : Heap), (K w.params).In h → h.Ns mainGlobals mg → mg d.name = some (.ref fa) →
      ∃ fd : FuncData, (∀ (s : Shared) (u : Value), BindsTo s fd ⟨[u], []⟩ [("script", u)]) ∧ ∀ base : Heap, (K w.params).In base → base.Ns mainGlobals mg → FG l.prog w (K w.params) mg base CX0 11 fa fd ["script"] (sp_law (K w.params))) :
    PySem.W.WalkO q loose XP YP l.row.toRowW d [] (fun f vs => PySem.call f vs) :=
  walk_g (n := 63) (k := 11) (x := "script") (sp := sp_law) hn (by decide) hdf ⟨⟨rfl, by decide, by decide⟩, rfl⟩ hY F law_in
end LAW
open PySem PySem.W PyProof.Rows
set_option maxRecDepth 100000 in
set_option maxHeartbeats 0 in
theorem PySem.Challenge.cw_oncebooked_k36_lots_with_a_sum_holds : PySem.Challenge.rw_oncebooked_k36_lots_with_a_sum.Holds := by
  w_on; o_law; k_head; (case hw => w_witness2)
  k_fill
  refine LAW.walk (l := PySem.Challenge.rw_oncebooked_k36_lots_with_a_sum) rfl rfl (fun w h Y => PySem.W.kIn_of Y) ?F
  case F =>
    intro w mg fa h KX G hmg
    refine' LAW.law_fin KX G hmg (LAW.mkTx KX G ?x_n_lots_of_notes ?x_l_lots_of_notes ?x_c_lots_of_notes ?x_k_lots_of_notes ?x_n_is_integer ?x_l_is_integer ?x_c_is_integer ?x_k_is_integer ?x_n_is_note_word ?x_l_is_note_word ?x_c_is_note_word ?x_k_is_note_word ?x_n_law_take ?x_l_law_take ?x_c_law_take ?x_k_law_take ?x_n_lots_by_sum ?x_l_lots_by_sum ?x_c_lots_by_sum ?x_k_lots_by_sum ?x_n_law_all_sums ?x_l_law_all_sums ?x_c_law_all_sums ?x_k_law_all_sums ?x_n_law_pot ?x_l_law_pot ?x_c_law_pot ?x_k_law_pot ?x_n_law_cells ?x_l_law_cells ?x_c_law_cells ?x_k_law_cells ?x_n_halves ?x_l_halves ?x_c_halves ?x_k_halves ?x_n_is_within ?x_l_is_within ?x_c_is_within ?x_k_is_within ?x_n_law_of ?x_l_law_of ?x_c_law_of ?x_k_law_of ?x_n_is_note_amount ?x_l_is_note_amount ?x_c_is_note_amount ?x_k_is_note_amount ?x_n_law_note ?x_l_law_note ?x_c_law_note ?x_k_law_note ?x_n_is_lot_of ?x_l_is_lot_of ?x_c_is_lot_of ?x_k_is_lot_of ?x_n_law_asked_sum ?x_l_law_asked_sum ?x_c_law_asked_sum ?x_k_law_asked_sum ?x_n_is_note ?x_l_is_note ?x_c_is_note ?x_k_is_note ?x_n_law_book ?x_l_law_book ?x_c_law_book ?x_k_law_book ?x_n_check_notes ?x_l_check_notes ?x_c_check_notes ?x_k_check_notes ?x_n_check_lots ?x_l_check_lots ?x_c_check_lots ?x_k_check_lots ?x_n_near_sums ?x_l_near_sums ?x_c_near_sums ?x_k_near_sums ?x_n_a_lot ?x_l_a_lot ?x_c_a_lot ?x_k_a_lot ?x_n_lots_with ?x_l_lots_with ?x_c_lots_with ?x_k_lots_with ?x_n_shows_lot ?x_l_shows_lot ?x_c_shows_lot ?x_k_shows_lot ?x_n_law_are_lots_right ?x_l_law_are_lots_right ?x_c_law_are_lots_right ?x_k_law_are_lots_right ?x_n_law_is_one_right ?x_l_law_is_one_right ?x_c_law_is_one_right ?x_k_law_is_one_right ?x_n_law_right ?x_l_law_right ?x_c_law_right ?x_k_law_right ?x_n_law ?x_l_law ?x_c_law ?x_k_law ?x_n_BookError ?x_n_TooMany ?x_fi_ei ?x_l_ei ?x_c_ei ?x_ti_ei ?x_lc_ei ?x_kr_vs ?x_kr_file ?x_lx_ei ?x_cd_ei ?x_op_ei ?x_su_ei ?x_kr_top ?x_sg_ei ?x_st_ei ?x_kr_D ?x_kr_BookError ?x_kr_TooMany ?x_kr_nd_TooMany ?x_kr_nodup ?x_g_LETTERS ?x_g_MOST_LETTERS ?x_g_MOST_AMOUNT ?x_g_MOST_NOTES ?x_g_MOST_ALL_LOTS ?x_g_MOST_ONE_LOT ?x_g_MOST_LOTS ?x_g_PAIR ?x_n_ValueError ?x_n_abs ?x_n_all ?x_n_bool ?x_n_enumerate ?x_n_int ?x_n_isinstance ?x_n_len ?x_n_list ?x_n_max ?x_n_min ?x_n_range ?x_n_repr ?x_n_sorted ?x_n_str ?x_n_sum ?x_n_tuple ?x_n_zip)
    (case x_n_lots_of_notes => k_is)
    (case x_l_lots_of_notes => k_is)
    (case x_c_lots_of_notes => k_is)
    (case x_k_lots_of_notes => k_is)
    (case x_n_is_integer => k_is)
    (case x_l_is_integer => k_is)
    (case x_c_is_integer => k_is)
    (case x_k_is_integer => k_is)
    (case x_n_is_note_word => k_is)
    (case x_l_is_note_word => k_is)
    (case x_c_is_note_word => k_is)
    (case x_k_is_note_word => k_is)
    (case x_n_law_take => k_is)
    (case x_l_law_take => k_is)
    (case x_c_law_take => k_is)
    (case x_k_law_take => k_is)
    (case x_n_lots_by_sum => k_is)
    (case x_l_lots_by_sum => k_is)
    (case x_c_lots_by_sum => k_is)
    (case x_k_lots_by_sum => k_is)
    (case x_n_law_all_sums => k_is)
    (case x_l_law_all_sums => k_is)
    (case x_c_law_all_sums => k_is)
    (case x_k_law_all_sums => k_is)
    (case x_n_law_pot => k_is)
    (case x_l_law_pot => k_is)
    (case x_c_law_pot => k_is)
    (case x_k_law_pot => k_is)
    (case x_n_law_cells => k_is)
    (case x_l_law_cells => k_is)
    (case x_c_law_cells => k_is)
    (case x_k_law_cells => k_is)
    (case x_n_halves => k_is)
    (case x_l_halves => k_is)
    (case x_c_halves => k_is)
    (case x_k_halves => k_is)
    (case x_n_is_within => k_is)
    (case x_l_is_within => k_is)
    (case x_c_is_within => k_is)
    (case x_k_is_within => k_is)
    (case x_n_law_of => k_is)
    (case x_l_law_of => k_is)
    (case x_c_law_of => k_is)
    (case x_k_law_of => k_is)
    (case x_n_is_note_amount => k_is)
    (case x_l_is_note_amount => k_is)
    (case x_c_is_note_amount => k_is)
    (case x_k_is_note_amount => k_is)
    (case x_n_law_note => k_is)
    (case x_l_law_note => k_is)
    (case x_c_law_note => k_is)
    (case x_k_law_note => k_is)
    (case x_n_is_lot_of => k_is)
    (case x_l_is_lot_of => k_is)
    (case x_c_is_lot_of => k_is)
    (case x_k_is_lot_of => k_is)
    (case x_n_law_asked_sum => k_is)
    (case x_l_law_asked_sum => k_is)
    (case x_c_law_asked_sum => k_is)
    (case x_k_law_asked_sum => k_is)
    (case x_n_is_note => k_is)
    (case x_l_is_note => k_is)
    (case x_c_is_note => k_is)
    (case x_k_is_note => k_is)
    (case x_n_law_book => k_is)
    (case x_l_law_book => k_is)
    (case x_c_law_book => k_is)
    (case x_k_law_book => k_is)
    (case x_n_check_notes => k_is)
    (case x_l_check_notes => k_is)
    (case x_c_check_notes => k_is)
    (case x_k_check_notes => k_is)
    (case x_n_check_lots => k_is)
    (case x_l_check_lots => k_is)
    (case x_c_check_lots => k_is)
    (case x_k_check_lots => k_is)
    (case x_n_near_sums => k_is)
    (case x_l_near_sums => k_is)
    (case x_c_near_sums => k_is)
    (case x_k_near_sums => k_is)
    (case x_n_a_lot => k_is)
    (case x_l_a_lot => k_is)
    (case x_c_a_lot => k_is)
    (case x_k_a_lot => k_is)
    (case x_n_lots_with => k_is)
    (case x_l_lots_with => k_is)
    (case x_c_lots_with => k_is)
    (case x_k_lots_with => k_is)
    (case x_n_shows_lot => k_is)
    (case x_l_shows_lot => k_is)
    (case x_c_shows_lot => k_is)
    (case x_k_shows_lot => k_is)
    (case x_n_law_are_lots_right => k_is)
    (case x_l_law_are_lots_right => k_is)
    (case x_c_law_are_lots_right => k_is)
    (case x_k_law_are_lots_right => k_is)
    (case x_n_law_is_one_right => k_is)
    (case x_l_law_is_one_right => k_is)
    (case x_c_law_is_one_right => k_is)
    (case x_k_law_is_one_right => k_is)
    (case x_n_law_right => k_is)
    (case x_l_law_right => k_is)
    (case x_c_law_right => k_is)
    (case x_k_law_right => k_is)
    (case x_n_law => k_is)
    (case x_l_law => k_is)
    (case x_c_law => k_is)
    (case x_k_law => k_is)
    (case x_n_BookError => k_is)
    (case x_n_TooMany => k_is)
    (case x_fi_ei => k_is)
    (case x_l_ei => k_is)
    (case x_c_ei => k_is)
    (case x_ti_ei => k_is)
    (case x_lc_ei => k_is)
    (case x_kr_vs => rfl)
    (case x_kr_file => kernel_rfl)
    (case x_lx_ei => k_is)
    (case x_cd_ei => k_is)
    (case x_op_ei => k_is)
    (case x_su_ei => k_is)
    (case x_kr_top => kernel_rfl)
    (case x_sg_ei => k_is)
    (case x_st_ei => k_is)
    (case x_kr_D => kernel_rfl)
    (case x_kr_BookError => kernel_rfl)
    (case x_kr_TooMany => kernel_rfl)
    (case x_kr_nd_TooMany => kernel_rfl)
    (case x_kr_nodup => decide +kernel)
    (case x_g_LETTERS => k_is)
    (case x_g_MOST_LETTERS => k_is)
    (case x_g_MOST_AMOUNT => k_is)
    (case x_g_MOST_NOTES => k_is)
    (case x_g_MOST_ALL_LOTS => k_is)
    (case x_g_MOST_ONE_LOT => k_is)
    (case x_g_MOST_LOTS => k_is)
    (case x_g_PAIR => k_is)
    (case x_n_ValueError => k_is)
    (case x_n_abs => k_is)
    (case x_n_all => k_is)
    (case x_n_bool => k_is)
    (case x_n_enumerate => k_is)
    (case x_n_int => k_is)
    (case x_n_isinstance => k_is)
    (case x_n_len => k_is)
    (case x_n_list => k_is)
    (case x_n_max => k_is)
    (case x_n_min => k_is)
    (case x_n_range => k_is)
    (case x_n_repr => k_is)
    (case x_n_sorted => k_is)
    (case x_n_str => k_is)
    (case x_n_sum => k_is)
    (case x_n_tuple => k_is)
    (case x_n_zip => k_is)
#print axioms PySem.Challenge.cw_oncebooked_k36_lots_with_a_sum_holds

