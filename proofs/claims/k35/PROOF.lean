import PyProof.Rows.All
import Wide.All
import OpenK.AllK
import Wide.FinOn
import PyProof.ReprRoads
import HandS.ForMost
import HandS.Exc
import HandS.Wide
import HandS.WideBits
import HandS.Star
import HandS.Defaults
import HandS.Property
import HandS.IsInst
import HandS.Deep
import KE.GoesMore
import KE.GoesZip
import KE.GoesEnum
import PyProof.NoPylong
import PyProof.EnumMake
import HandS.TupAny
import HandS.Style
import PyProof.ReprLen
import HandS.Conv
import HandS.Dict
import HandS.DictComp
import HandS.More
import HandS.Walk
import PyProof.DictUpdate
import KE.KTupSum
import HandS.SetFor
import PyProof.Rows.SetFrom
import KE.DataMinMax
import PyProof.P3Eq
import KE.SortData
import HandS.Small
import KE.KIntText
import HandS.ExcInit
import HandS.ExcField
import HandS.ExcIs
import KE.KExcSuper
import KE.KExcIs
import HandS.DictTup
import HandS.SetKeys
import PyProof.DictMoreH
import KE.KDictSum
import HandS.Text
import HandS.Steps
import HandS.LawCells
import HandS.Remove
import PySem.Challenge.RW_oncebooked_k35_whole_two_books_matched
set_option Elab.async false
set_option linter.all false
set_option maxRecDepth 100000
set_option maxHeartbeats 4000000
/-! OB, part a: calls where no repr is under way (so that repr of any data may be asked), by position and by name. -/
namespace OB
open PySem PySem.Spec PyProof.Rows L2 PySem.W

/-- room, and no guard around -/
structure RG (k : Nat) (A : Around) : Prop where
  rm : Room k A
  gd : A.guards = some []
theorem RG.mono {j k : Nat} {A : Around} (g : RG k A) (h : j ≤ k) : RG j A := ⟨g.rm.mono h, g.gd⟩
theorem RG.deeper {k : Nat} {A : Around} (g : RG (k + 1) A) (en : Env) : RG k (A.deeper en) := ⟨g.rm.deeper en, g.gd⟩
theorem RG.in1 {k : Nat} {A : Around} (g : RG (k + 1) A) : RG k A.in1 := ⟨g.rm.in1, g.gd⟩
theorem RG.make {k : Nat} {A : Around} (g : RG (k + 1) A) (C : Addr) (us : List Value) (kw : List (Str × Value)) :
    RG k (A.under (.builtin "type.__call__" ⟨.ref C :: us, kw⟩)) := by
  refine ⟨g.rm.make C us kw, ?_⟩
  have e : Code.guards (.builtin "type.__call__" ⟨.ref C :: us, kw⟩) = [] := by
    unfold Code.guards
    rw [if_neg]
    intro z
    have z2 : guardIds.contains "type.__call__" = true := by simpa [Code.isGuard] using z
    exact absurd z2 (by decide +kernel)
  show pushGuards (Code.guards (.builtin "type.__call__" ⟨.ref C :: us, kw⟩)) A.guards = some []
  rw [e]
  exact g.gd

/-- a def's promise where no guard is around -/
structure FG (P : Program) (w : World) (K : PySem.W.Frag) (mg : Str → Option Value) (base : Heap) (CX : CXT) (k : Nat) (f : Addr) (fd : FuncData) (ps : List Str) (sp : Sp) : Prop where
  len : ∀ vs H Q E, sp vs H Q E → vs.length = ps.length
  go : ∀ (A : Around) (out : List Env) (s : Shared) (H : Hp) (ar : Args) (us : List Value) (vs : List V) (Q : VK) (E : XK), RG k A → Env0 P w K mg base A out s H →
    BindsTo s fd ar (ps.zip us) → Vals vs us → sp vs H Q E → codeAny (model P w) A (.call (.ref f) ar) (CR CX out P w H s Q E) s
section
variable {P : Program} {w : World} {K : PySem.W.Frag} {mg : Str → Option Value} {base : Heap} {CX : CXT} {f : Addr} {fd : FuncData} {ps : List Str} {sp : Sp}
theorem FG.mono {j k : Nat} (F : FG P w K mg base CX j f fd ps sp) (h : j ≤ k) : FG P w K mg base CX k f fd ps sp :=
  ⟨F.len, fun A out s H ar us vs Q E g => F.go A out s H ar us vs Q E (g.mono h)⟩
theorem FG.imp {k : Nat} {sp' : Sp} (F : FG P w K mg base CX k f fd ps sp) (h : ∀ vs H Q E, sp' vs H Q E → sp vs H Q E) : FG P w K mg base CX k f fd ps sp' :=
  ⟨fun vs H Q E q => F.len vs H Q E (h _ _ _ _ q), fun A out s H ar us vs Q E g e0 hb hv q => F.go A out s H ar us vs Q E g e0 hb hv (h _ _ _ _ q)⟩
/-- the rule for a def: as L2.fn_of, the room without guards handed on -/
theorem fg_of {k : Nat} {name qual : Str} {params : Arguments} {body : List Stmt} {sc : Scope} {dV kV doc pm cdv ct oc : Value} {an od : Option Addr}
    {osl : Array (Option Value)} {N : List Str} (lk : K.lookup f = some ⟨oc, od, .func (PySem.W.fnOf name qual params body sc dV kV doc pm an cdv ct), osl⟩)
    (hcd : PySem.W.codeIn K cdv qual = true) (S : FnScope N ps sc) (len : ∀ vs H Q E, sp vs H Q E → vs.length = ps.length)
    (hbody : ∀ (A : Around) (out : List Env) (s : Shared) (H : Hp) (vs : List V) (Q : VK) (E : XK), RG k (A.deeper (envOfC qual sc s.heap.objs.size f cdv)) → sp vs H Q E →
      ∃ t, PSs (cxOf CX P w K mg base N qual sc f cdv A out s H E) body t ∧ t { nx := fun _ H' => Q .non H', rt := Q } (start N vs) H) :
    FG P w K mg base CX (k + 1) f (PySem.W.fnOf name qual params body sc dV kV doc pm an cdv ct) ps sp := by
  refine ⟨len, fun A out s H ar us vs Q E g e0 hb r hsp => ?_⟩
  have hlen := len _ _ _ _ hsp
  have KI : K.In s.heap := e0.mod.kin.keeps fun b o e => (e0.bs b o e).1
  have nl : s.heap.NoLimit := e0.mod.nolimit.keeps fun b o e => (e0.bs b o e).1
  have kinds : ∀ y ∈ ps.zip us, sc.names.lookup y.1 = some .local ∨ (sc.names.lookup y.1 = some .cell ∧ ((cellsFrom (s.heap.objs.size + 1) sc.names []).lookup y.1).isSome = true) := fun ⟨n, v⟩ hy => by
    rcases S.par n (List.of_mem_zip hy).1 with q | q
    · exact .inl q
    · exact .inr ⟨q, PySem.W.cellsFrom_some _ _ _ (.inl q)⟩
  refine codeAny_call_function g.rm.depth (KI _ _ lk) rfl S.co S.gen rfl (PySem.W.codeRec_of KI hcd) (hb _ _ _ _ ?_)
  refine wpAny_newFunctionEnv_cells S.kind kinds fun env he s1 x => ?_
  subst he
  refine ⟨nl.keeps x.toInCall.keep, codeAny_func ?_⟩
  obtain ⟨t, ht, hq⟩ := hbody A out s H vs Q E (g.deeper _) hsp
  have I : Inv (cxOf CX P w K mg base N qual sc f cdv A out s H E) [] (start N vs) H s1 := inv_start S g.rm.hd e0 hlen r x
  refine wpAny_mono (ht.run [] s1 (start N vs) H _ I hq) (fun fl s' hs => ?_) fun e s' hs => hs
  have fin : ∀ {σ' : L2.St} {H' : Hp} {v : V} {u : Value}, Inv (cxOf CX P w K mg base N qual sc f cdv A out s H E) [] σ' H' s' → RelV v u → Q v H' → CE out P w H s Q u s' :=
    fun {σ' H' v u} J rv q => ⟨v, H', J.os, J.bare, J.base, J.hok, rv, q⟩
  match fl, hs with
  | .ret u, ⟨v, σ', H', J, rv, q⟩ => exact fin J rv q
  | .next, ⟨σ', H', J, q⟩ => exact fin (v := V.non) (u := Value.none) J rfl q
  | .brk, ⟨_, _, _, q⟩ => exact False.elim q
  | .cont, ⟨_, _, _, q⟩ => exact False.elim q
/-- .. of a def of the text, no exception leaving -/
theorem Fun.fg {x qual : Str} {st : Stmt} {N : List Str} {k : Nat} (F : Fun K x qual st f fd) (S : FnScope N ps (defScope st)) (len : ∀ vs H Q E, sp vs H Q E → vs.length = ps.length)
    (hbody : ∀ (cdv : Value) (A : Around) (out : List Env) (s : Shared) (H : Hp) (vs : List V) (Q : VK) (E : XK), RG k (A.deeper (envOfC qual (defScope st) s.heap.objs.size f cdv)) → sp vs H Q E →
      ∃ t, PSs (cxOf CX0 P w K mg base N qual (defScope st) f cdv A out s H E).nox (defBody st) t ∧ t { nx := fun _ H' => Q .non H', rt := Q } (start N vs) H) : FG P w K mg base CX0 (k + 1) f fd ps sp := by
  obtain ⟨oc, od, kV, doc, pm, an, cdv, ct, osl, rfl, lk, hcd⟩ := F.ex
  refine fg_of lk hcd S len fun A out s H vs Q E g hsp => ?_
  obtain ⟨t, h, q⟩ := hbody cdv A out s H vs Q E g hsp
  exact ⟨t, h.nox, q⟩
end

/-! ### how arguments bind -/
def pick {α : Type} (ix : List Nat) (l : List α) : List α := ix.filterMap (l[·]?)
theorem vals_pick {vs : List V} {us : List Value} (r : Vals vs us) : ∀ ix : List Nat, Vals (pick ix vs) (pick ix us)
  | [] => .nil
  | i :: ix => by
    unfold pick
    rw [List.filterMap_cons, List.filterMap_cons]
    cases e : vs[i]? with
    | none =>
      rw [r.none_of e]
      exact vals_pick r ix
    | some v =>
      obtain ⟨u, e2, r2⟩ := r.get e
      rw [e2]
      exact .cons r2 (vals_pick r ix)
/-- n values by position, those named ks by name; ix: the parameters' places among all of them -/
structure Bd (K : PySem.W.Frag) (fd : FuncData) (ps : List Str) (n : Nat) (ks : List Str) (ix : List Nat) : Prop where
  to : ∀ (us ws : List Value), us.length = n → ws.length = ks.length → bindArgs fd ⟨us, ks.zip ws⟩ = pure (ps.zip (pick ix (us ++ ws)))
theorem Fun.bd {K : PySem.W.Frag} {x qual : Str} {st : Stmt} {f : Addr} {fd : FuncData} {ps : List Str} {n : Nat} {ks : List Str} {ix : List Nat} (F : Fun K x qual st f fd)
    (h : ∀ (kV doc pm : Value) (an : Option Addr) (cdv ct : Value) (us ws : List Value), us.length = n → ws.length = ks.length →
      bindArgs (PySem.W.fnOf x qual (defArgs st) (defBody st) (defScope st) .none kV doc pm an cdv ct) ⟨us, ks.zip ws⟩ = pure (ps.zip (pick ix (us ++ ws)))) : Bd K fd ps n ks ix := by
  obtain ⟨oc, od, kV, doc, pm, an, cdv, ct, osl, rfl, lk, hcd⟩ := F.ex
  exact ⟨h kV doc pm an cdv ct⟩

/-! ### calls -/
def tCg (n m : Nat) (ix : List Nat) (sp : Sp) (E : XK) (t tk : TA) : TE := fun σ H Q => t σ H fun vs H1 => tk σ H1 fun zs H2 => vs.length = n ∧ zs.length = m ∧ sp (pick ix (vs ++ zs)) H2 Q E
def tMg (C : Addr) (mn : Str) (n m : Nat) (ix : List Nat) (sp : Sp) (E : XK) (ta : TE) (t tk : TA) : TE := fun σ H Q => ta σ H fun x H1 => ∃ a dx fs, x = .ref a ∧ H1 a = some (.ins C dx fs) ∧ fs.lookup mn = none ∧
  t σ H1 fun vs H2 => tk σ H2 fun zs H3 => (x :: vs).length = n ∧ zs.length = m ∧ sp (pick ix ((x :: vs) ++ zs)) H3 Q E
def tKg (C : Addr) (n m : Nat) (ix : List Nat) (sp : Sp) (E : XK) (t tk : TA) : TE := fun σ H Q => t σ H fun vs H1 => tk σ H1 fun zs H2 => vs.length + 1 = n ∧ zs.length = m ∧
  ∀ x dx, H2 x = none → H2 dx = none → dx ≠ x → sp (pick ix ((.ref x :: vs) ++ zs)) (upd (upd H2 dx (.own x)) x (.ins C dx [])) (fun v H3 => v = .non ∧ Q (.ref x) H3) E
section
variable {X : Cx} {CX : CXT} {k n : Nat} {f C : Addr} {fd : FuncData} {ps ks : List Str} {ix : List Nat} {sp : Sp} {E : XK} {x mn : Str} {p pos apos : Pos} {e o : Expr} {es : List Expr} {kws : List Keyword} {ta : TE} {t tk : TA}
theorem run_g {pins : List (Addr × Obj)} {σ : L2.St} {H : Hp} {s : Shared} {Q : VK} {us ws : List Value} {vs zs : List V} (F : FG X.prog X.w X.K X.mg X.base CX k f fd ps sp) (g : RG k X.A) (hb : Bd X.K fd ps n ks ix) (hx : Passes CX X E)
    (I : Inv X pins σ H s) (r : Vals vs us) (rz : Vals zs ws) (l1 : vs.length = n) (l2 : zs.length = ks.length) (h : sp (pick ix (vs ++ zs)) H Q E) :
    wpAny (model X.prog X.w) X.A (call (.ref f) us (ks.zip ws)) (EP X pins σ Q) X.xe s := by
  refine wpAny_call (codeAny_mono (F.go X.A X.stack s H ⟨us, ks.zip ws⟩ (pick ix (us ++ ws)) (pick ix (vs ++ zs)) Q E g I.env0 (.of_eq (hb.to us ws (r.length.symm.trans l1) (rz.length.symm.trans l2))) (vals_pick (r.append rz) ix) h) fun r s' hq => ?_)
  match r, hq with
  | .error e, hq => exact hx pins σ H s e s' I hq
  | .ok (.ret u), hq => exact I.after hq
  | .ok .next, hq => exact False.elim hq
  | .ok .brk, hq => exact False.elim hq
  | .ok .cont, hq => exact False.elim hq
/-- f(e, .., k = v, ..) -/
theorem pe_cg (F : FG X.prog X.w X.K X.mg X.base CX k f fd ps sp) (g : RG k X.A) (hg : Gl X x) (hm : X.mg x = some (.ref f)) (hk : PySem.W.keepIn X.K (.ref f) = true) (hb : Bd X.K fd ps n ks ix) (hx : Passes CX X E)
    (ha : PA X (e :: es) t) (hkw : PK X kws tk) (hall : (backToKw pos (keywordEach kws X.env)).all (·.1.isSome) = true := by rfl) (hks : (backToKw pos (keywordEach kws X.env)).filterMap (·.1) = ks := by rfl)
    (hdb : (x == ("__debug__" : Str)) = false := by decide) (he : starEach (e :: es) X.env = (false, eval e X.env) :: starEach es X.env := by rfl)
    (hpl : ((backTo pos (starEach (e :: es) X.env)).any (·.1) || (backToKw pos (keywordEach kws X.env)).any (·.1.isNone)) = false := by rfl) : PE X (.Call (.Name x p) (e :: es) kws pos) (tCg n ks.length ix sp E t tk) := by
  refine ⟨fun pins s σ H Q I h => wpAny_Call_Name_kw (ld_glob I hg hm ?_ hdb)⟩
  refine PySem.W.callWith_KW (h₀ := X.base) I.ok.mod.kin hk hall (thn (ha.run pos pins s σ H _ I h) fun us s1 ⟨vs, H1, I1, r, q⟩ => ?_) hpl he
  refine thn (hkw.run pos pins s1 σ H1 _ I1 q) fun ws s2 ⟨zs, H2, I2, rz, l1, l2, q2⟩ => ⟨I2.kIn, ?_⟩
  rw [hks]
  exact run_g F g hb hx I2 r rz l1 l2 q2
/-- f(k = v, ..), f() -/
theorem pe_cg0 (F : FG X.prog X.w X.K X.mg X.base CX k f fd ps sp) (g : RG k X.A) (hg : Gl X x) (hm : X.mg x = some (.ref f)) (hk : PySem.W.keepIn X.K (.ref f) = true) (hb : Bd X.K fd ps 0 ks ix) (hx : Passes CX X E)
    (hkw : PK X kws tk) (hall : (backToKw pos (keywordEach kws X.env)).all (·.1.isSome) = true := by rfl) (hks : (backToKw pos (keywordEach kws X.env)).filterMap (·.1) = ks := by rfl)
    (hdb : (x == ("__debug__" : Str)) = false := by decide)
    (hpl : ((backTo pos (starEach [] X.env)).any (·.1) || (backToKw pos (keywordEach kws X.env)).any (·.1.isNone)) = false := by rfl) : PE X (.Call (.Name x p) [] kws pos) (tCg 0 ks.length ix sp E tNil tk) := by
  refine ⟨fun pins s σ H Q I h => wpAny_Call_Name_kw (ld_glob I hg hm ?_ hdb)⟩
  refine PySem.W.callWith_KW0 (h₀ := X.base) I.ok.mod.kin hk hall ?_ hpl
  refine thn (hkw.run pos pins s σ H _ I h) fun ws s2 ⟨zs, H2, I2, rz, l1, l2, q2⟩ => ⟨I2.kIn, ?_⟩
  rw [hks]
  exact run_g (us := []) (vs := []) F g hb hx I2 .nil rz l1 l2 q2
/-- o.m(e, .., k = v, ..) -/
theorem pe_mg {pl : Sem Bool} (ho : PE X o ta) (c : Cls X.K C) (hm : Meth X.K C mn f) (F : FG X.prog X.w X.K X.mg X.base CX k f fd ps sp) (g : RG k X.A) (hb : Bd X.K fd ps n ks ix) (hx : Passes CX X E) (ha : PA X (e :: es) t) (hkw : PK X kws tk)
    (hall : (backToKw pos (keywordEach kws X.env)).all (·.1.isSome) = true := by rfl) (hks : (backToKw pos (keywordEach kws X.env)).filterMap (·.1) = ks := by rfl)
    (he : starEach (e :: es) X.env = (false, eval e X.env) :: starEach es X.env := by rfl) (hpl : ((backTo pos (starEach (e :: es) X.env)).any (·.1) || (backToKw pos (keywordEach kws X.env)).any (·.1.isNone)) = false := by rfl)
    (ht : eval (.Call (.Attribute o mn apos) (e :: es) kws pos) X.env = (do
      let ov ← eval o X.env
      standAt apos.atName
      let (fv, first) ← holding [ov] (getMethod ov mn pl)
      callWith pos fv first (backTo pos (starEach (e :: es) X.env)) (backToKw pos (keywordEach kws X.env))) := by rfl) : PE X (.Call (.Attribute o mn apos) (e :: es) kws pos) (tMg C mn n ks.length ix sp E ta t tk) := by
  refine ⟨fun pins s σ H Q I h => ?_⟩
  refine PySem.W.methodCall_KW (pl := pl) (thn (ho.run pins s σ H _ I h) fun u s1 ⟨y, H1, I1, ry, a, dx, fs, ey, ea, l, q⟩ => ?_) ht
  subst ey
  obtain rfl : u = Value.ref a := ry
  refine getmeth_ok I1 ea c hm l ?_
  refine PySem.W.callWith_KW (first := [.ref a]) (h₀ := X.base) I.ok.mod.kin hm.kp hall (thn (ha.run pos pins s1 σ H1 _ I1 q) fun us s2 ⟨vs, H2, I2, r, q2⟩ => ?_) hpl he
  refine thn (hkw.run pos pins s2 σ H2 _ I2 q2) fun ws s3 ⟨zs, H3, I3, rz, l1, l2, q3⟩ => ⟨I3.kIn, ?_⟩
  rw [hks]
  exact run_g (us := .ref a :: us) (vs := .ref a :: vs) F g hb hx I3 (.cons rfl r) rz l1 l2 q3
/-- o.m(k = v, ..), o.m() -/
theorem pe_mg0 {pl : Sem Bool} (ho : PE X o ta) (c : Cls X.K C) (hm : Meth X.K C mn f) (F : FG X.prog X.w X.K X.mg X.base CX k f fd ps sp) (g : RG k X.A) (hb : Bd X.K fd ps 1 ks ix) (hx : Passes CX X E) (hkw : PK X kws tk)
    (hall : (backToKw pos (keywordEach kws X.env)).all (·.1.isSome) = true := by rfl) (hks : (backToKw pos (keywordEach kws X.env)).filterMap (·.1) = ks := by rfl)
    (hpl : ((backTo pos (starEach [] X.env)).any (·.1) || (backToKw pos (keywordEach kws X.env)).any (·.1.isNone)) = false := by rfl)
    (ht : eval (.Call (.Attribute o mn apos) [] kws pos) X.env = (do
      let ov ← eval o X.env
      standAt apos.atName
      let (fv, first) ← holding [ov] (getMethod ov mn pl)
      callWith pos fv first (backTo pos (starEach [] X.env)) (backToKw pos (keywordEach kws X.env))) := by rfl) : PE X (.Call (.Attribute o mn apos) [] kws pos) (tMg C mn 1 ks.length ix sp E ta tNil tk) := by
  refine ⟨fun pins s σ H Q I h => ?_⟩
  refine PySem.W.methodCall_KW (pl := pl) (thn (ho.run pins s σ H _ I h) fun u s1 ⟨y, H1, I1, ry, a, dx, fs, ey, ea, l, q⟩ => ?_) ht
  subst ey
  obtain rfl : u = Value.ref a := ry
  refine getmeth_ok I1 ea c hm l ?_
  refine PySem.W.callWith_KW0 (first := [.ref a]) (h₀ := X.base) I.ok.mod.kin hm.kp hall ?_ hpl
  refine thn (hkw.run pos pins s1 σ H1 _ I1 q) fun ws s3 ⟨zs, H3, I3, rz, l1, l2, q3⟩ => ⟨I3.kIn, ?_⟩
  rw [hks]
  exact run_g (us := [.ref a]) (vs := [.ref a]) F g hb hx I3 (.cons rfl .nil) rz l1 l2 q3

theorem run_kg {pins : List (Addr × Obj)} {σ : L2.St} {H : Hp} {s : Shared} {Q : VK} {us ws : List Value} {vs zs : List V} (M : Mk X.K C f) (F : FG X.prog X.w X.K X.mg X.base CX k f fd ps sp) (g : RG (k + 1) X.A) (hb : Bd X.K fd ps n ks ix) (hx : Passes CX X E)
    (I : Inv X pins σ H s) (r : Vals vs us) (rz : Vals zs ws) (l1 : vs.length + 1 = n) (l2 : zs.length = ks.length)
    (h : ∀ x dx, H x = none → H dx = none → dx ≠ x → sp (pick ix ((.ref x :: vs) ++ zs)) (upd (upd H dx (.own x)) x (.ins C dx [])) (fun v H2 => v = .non ∧ Q (.ref x) H2) E) :
    wpAny (model X.prog X.w) X.A (call (.ref C) us (ks.zip ws)) (EP X pins σ Q) X.xe s := by
  have hq := h (s.heap.objs.size + 1) s.heap.objs.size (I.hok.fresh (Nat.le_succ _)) (I.hok.fresh (Nat.le_refl _)) (Nat.ne_of_lt (Nat.lt_succ_self _))
  have I2 := Inv.made (C := C) I
  have r1 : Vals (V.ref (s.heap.objs.size + 1) :: vs) (Value.ref (s.heap.objs.size + 1) :: us) := .cons rfl r
  have e1 : (Value.ref (s.heap.objs.size + 1) :: us).length = n := by
    rw [← r1.length]
    exact l1
  refine wpAny_call (make_map (f := f) I.kIn M.makes M.init (beq_iff_eq.mp M.fn) (codeAny_mono (F.go _ X.stack _ _ ⟨Value.ref (s.heap.objs.size + 1) :: us, ks.zip ws⟩ (pick ix ((Value.ref (s.heap.objs.size + 1) :: us) ++ ws)) _ _ E (g.make C us (ks.zip ws))
    (I2.env0.make C us (ks.zip ws)) (.of_eq (hb.to _ _ e1 (rz.length.symm.trans l2))) (vals_pick (r1.append rz) ix) hq) fun r s' hq' => ?_))
  match r, hq' with
  | .error e, hq' => exact hx pins σ _ _ e s' I2 hq'
  | .ok (.ret u), hq' =>
    obtain ⟨v, H', I3, rv, ev, q3⟩ := I2.after hq'
    subst ev
    exact ⟨rv, ⟨V.ref (s.heap.objs.size + 1), H', I3, rfl, q3⟩⟩
  | .ok .next, hq' => exact False.elim hq'
  | .ok .brk, hq' => exact False.elim hq'
  | .ok .cont, hq' => exact False.elim hq'
/-- C(e, .., k = v, ..) -/
theorem pe_kg (M : Mk X.K C f) (F : FG X.prog X.w X.K X.mg X.base CX k f fd ps sp) (g : RG (k + 1) X.A) (hg : Gl X x) (hm : X.mg x = some (.ref C)) (hb : Bd X.K fd ps n ks ix) (hx : Passes CX X E) (ha : PA X (e :: es) t) (hkw : PK X kws tk)
    (hall : (backToKw pos (keywordEach kws X.env)).all (·.1.isSome) = true := by rfl) (hks : (backToKw pos (keywordEach kws X.env)).filterMap (·.1) = ks := by rfl)
    (hdb : (x == ("__debug__" : Str)) = false := by decide) (he : starEach (e :: es) X.env = (false, eval e X.env) :: starEach es X.env := by rfl)
    (hpl : ((backTo pos (starEach (e :: es) X.env)).any (·.1) || (backToKw pos (keywordEach kws X.env)).any (·.1.isNone)) = false := by rfl) : PE X (.Call (.Name x p) (e :: es) kws pos) (tKg C n ks.length ix sp E t tk) := by
  refine ⟨fun pins s σ H Q I h => wpAny_Call_Name_kw (ld_glob I hg hm ?_ hdb)⟩
  refine PySem.W.callWith_KW (h₀ := X.base) I.ok.mod.kin M.kp hall (thn (ha.run pos pins s σ H _ I h) fun us s1 ⟨vs, H1, I1, r, q⟩ => ?_) hpl he
  refine thn (hkw.run pos pins s1 σ H1 _ I1 q) fun ws s2 ⟨zs, H2, I2, rz, l1, l2, q2⟩ => ⟨I2.kIn, ?_⟩
  rw [hks]
  exact run_kg M F g hb hx I2 r rz l1 l2 q2
/-- C(k = v, ..), C() -/
theorem pe_kg0 (M : Mk X.K C f) (F : FG X.prog X.w X.K X.mg X.base CX k f fd ps sp) (g : RG (k + 1) X.A) (hg : Gl X x) (hm : X.mg x = some (.ref C)) (hb : Bd X.K fd ps 1 ks ix) (hx : Passes CX X E) (hkw : PK X kws tk)
    (hall : (backToKw pos (keywordEach kws X.env)).all (·.1.isSome) = true := by rfl) (hks : (backToKw pos (keywordEach kws X.env)).filterMap (·.1) = ks := by rfl)
    (hdb : (x == ("__debug__" : Str)) = false := by decide)
    (hpl : ((backTo pos (starEach [] X.env)).any (·.1) || (backToKw pos (keywordEach kws X.env)).any (·.1.isNone)) = false := by rfl) : PE X (.Call (.Name x p) [] kws pos) (tKg C 1 ks.length ix sp E tNil tk) := by
  refine ⟨fun pins s σ H Q I h => wpAny_Call_Name_kw (ld_glob I hg hm ?_ hdb)⟩
  refine PySem.W.callWith_KW0 (h₀ := X.base) I.ok.mod.kin M.kp hall ?_ hpl
  refine thn (hkw.run pos pins s σ H _ I h) fun ws s2 ⟨zs, H2, I2, rz, l1, l2, q2⟩ => ⟨I2.kIn, ?_⟩
  rw [hks]
  exact run_kg (us := []) (vs := []) M F g hb hx I2 .nil rz l1 l2 q2

/-- e.f, a property -/
def tPg (C : Addr) (sp : Sp) (E : XK) (ta : TE) : TE := fun σ H Q => ta σ H fun y H1 => ∃ a dx fs, y = .ref a ∧ H1 a = some (.ins C dx fs) ∧ sp [.ref a] H1 Q E
theorem pe_pg {pa : Addr} {nm : Str} (ho : PE X o ta) (c : Cls X.K C) (hp : PropOf X.K C nm pa f) (F : FG X.prog X.w X.K X.mg X.base CX k f fd ["self"] sp) (g : RG (k + 1) X.A) (hb : Bd X.K fd ["self"] 1 [] [0]) (hx : Passes CX X.nox E)
    (hab : attributeBase o nm X.env (eval o X.env) = eval o X.env := by rfl) : PE X (.Attribute o nm pos) (tPg C sp E ta) := by
  refine ⟨fun pins s σ H Q I h => ?_⟩
  refine attr_of hab (thn (ho.run pins s σ H _ I h) fun u s1 ⟨y, H1, I1, ry, a, dx, fs, ey, ea, q⟩ => ?_)
  subst ey
  obtain rfl : u = Value.ref a := ry
  obtain ⟨mA, O, _, _, _, _⟩ := ins_get I1.hok ea
  obtain ⟨od, J, _⟩ := O.look
  obtain ⟨more, hrec⟩ := hp.rec_
  have I2 := I1.tok (s1.toks + 1)
  have hc : (PySem.W.clsIn X.K C).isSome = true := by
    obtain ⟨cd, hc, _⟩ := PySem.W.any_some c.hd
    rw [hc]
    rfl
  refine PySem.W.get_bind I1.kIn J (PySem.W.plainGet_of (c.get nm)).1 (PySem.W.findObj_data hc hp.at_ hp.get hp.tak) (PySem.W.plainGet_of (c.get nm)).2 (wpAny_call (PySem.W.prop_get (s := { s1 with toks := s1.toks + 1 }) I1.kIn hrec ?_))
  refine codeAny_mono (F.go X.A.in1 X.stack { s1 with toks := s1.toks + 1 } H1 ⟨[.ref a], []⟩ [.ref a] [.ref a] Q E g.in1 I2.env0.in1 (.of_eq (hb.to [.ref a] [] rfl rfl)) (.cons rfl .nil) q) fun r s' hq => ?_
  match r, hq with
  | .error er, hq => exact False.elim (hx pins σ H1 { s1 with toks := s1.toks + 1 } er s' (I2.wish _) hq)
  | .ok (.ret u), hq =>
    obtain ⟨v, H', I3, rv, q3⟩ := I2.after hq
    show wpAny _ _ (handedOut u) _ _ _
    rw [PySem.W.handedOut_of (handed_of rv)]
    exact wpAny_pure ⟨v, H', I3, rv, q3⟩
  | .ok .next, hq => exact False.elim hq
  | .ok .brk, hq => exact False.elim hq
  | .ok .cont, hq => exact False.elim hq
end

/-! ### repr of data -/
def rRepr (K : PySem.W.Frag) : List V → Hp → VK → Prop := fun xs H Q => ∃ v d, xs = [v] ∧ Dp K H v d ∧ d.showable = true ∧ d.hasDict = false ∧ d.depth ≤ 60 ∧ d.shown.length ≤ sizeLine ∧ Q (.str d.shown) H
section
variable {X : Cx}
theorem call_repr {k : Nat} (g : RG k X.A) : CallR X (.builtin "repr") (rRepr X.K) := by
  intro pins s σ H xs us Q I r h
  obtain ⟨v, d, rfl, hd, hs, hn, hdep, hsz, q⟩ := h
  obtain ⟨u, rfl, ru⟩ := vals1 r
  have hun := g.rm.un
  obtain ⟨as, rd⟩ := Dp.reads I d v u hd ru
  cases hd with
  | non =>
    cases ru
    exact PySem.P.repr_of_none ⟨.str _, H, I.tok _, ⟨_, rfl⟩, q⟩
  | bl b =>
    cases ru
    exact PySem.P.repr_of_bool ⟨.str _, H, I.tok _, ⟨_, rfl⟩, q⟩
  | int i =>
    obtain ⟨t, rfl⟩ := ru
    exact PySem.P.repr_of_int (of_decide_eq_true hs) ⟨.str _, H, I.tok _, ⟨_, rfl⟩, q⟩
  | str x =>
    obtain ⟨t, rfl⟩ := ru
    exact PySem.P.repr_of_str ⟨.str _, H, I.tok _, ⟨_, rfl⟩, q⟩ hsz
  | lst h1 h2 =>
    cases ru
    exact repr_of_reads' rd hs (PyData.noDict_hsm hn) g.gd (by omega) (fun _ _ e => e) (fun h' u tk hk => ⟨.str _, H, I.kept hk, ⟨_, rfl⟩, q⟩) hsz
  | tup h1 h2 =>
    cases ru
    exact repr_of_reads' rd hs (PyData.noDict_hsm hn) g.gd (by omega) (fun _ _ e => e) (fun h' u tk hk => ⟨.str _, H, I.kept hk, ⟨_, rfl⟩, q⟩) hsz
end

/-! ### the end of a law -/
theorem law_cg {P : Program} {w : World} {s₁ : Shared} {K : PySem.W.Frag} {mg mb : Str → Option Value} {a : Addr} {vs : List Value} {ns : List Int} {fa : Addr} {fd : FuncData} {x : Str} {k : Nat} {sp : Sp}
    (KX : K.In s₁.heap) (hns : s₁.heap.Ns mainGlobals mg) (hbl : s₁.heap.Ns builtinsNs mb) (hbb : ∀ x : Str, x ≠ "__name__" → mb x = bootBuiltins x) (lim : s₁.heap.NoLimit) (gn : s₁.gens = #[])
    (ha : s₁.heap.get? a = some { cls := .type "list", data := .seq vs.toArray }) (hi : IntsAre vs ns) (hl : ns.length ≤ sizeLine)
    (hr : RG k callerA) (F : ∀ base : Heap, K.In base → base.Ns mainGlobals mg → FG P w K mg base CX0 k fa fd [x] sp) (hbind : ∀ (s : Shared) (u : Value), BindsTo s fd ⟨[u], []⟩ [(x, u)])
    (hsp : ∀ H : Hp, Only H → SqL K H a (ns.map V.int) → sp [.ref a] H (fun v _ => v = .bl true) fun _ _ _ => False) :
    codeAny (model P w) callerA (.call (.ref fa) ⟨[.ref a], []⟩) (fun r s' => r = .ok (.ret (.bool true)) ∧ OldK s₁.heap s'.heap ∧ s'.os = s₁.os ∧ AllBare s'.gens) s₁ := by
  have rv := vals_ints hi
  have lv := hi.length
  -- whatever abstract heap tells of the script alone
  have main : ∀ H : Hp, (∀ b, H b ≠ none → b = a) → (H a ≠ none → K.lookup a = none) → Only H → HOk P w H s₁.heap → SqL K H a (ns.map V.int) →
      codeAny (model P w) callerA (.call (.ref fa) ⟨[.ref a], []⟩) (fun r s' => r = .ok (.ret (.bool true)) ∧ OldK s₁.heap s'.heap ∧ s'.os = s₁.os ∧ AllBare s'.gens) s₁ := by
    intro H alone apart only hok hS
    have free : ∀ {b : Addr} {o : Obj}, s₁.heap.get? b = some o → (b = a → False) → H b = none := fun {b o} e ne => by
      cases q : H b with
      | none => rfl
      | some u => exact (ne (alone b (by rw [q]; exact fun z => nomatch z))).elim
    have keepNs : ∀ {b : Addr} {m : Str → Option Value}, s₁.heap.Ns b m → (hidT s₁.heap H).Ns b m := by
      rintro b m ⟨o, es, ep, e, d, r⟩
      refine ⟨o, es, ep, hidT_get e (free e ?_), d, r⟩
      rintro rfl
      rw [ha] at e
      cases e
      exact nomatch d
    have keepK : K.In (hidT s₁.heap H) := fun b o e => by
      refine hidT_get (KX b o e) ?_
      cases q : H b with
      | none => rfl
      | some u =>
        have hb : H b ≠ none := by rw [q]; exact fun z => nomatch z
        have eb := alone b hb
        rw [eb] at hb e
        rw [apart hb] at e
        cases e
    have hM : Mod K mg (hidT s₁.heap H) := by
      obtain ⟨mc, c1, c2⟩ := lim
      exact ⟨keepK, keepNs hns, ⟨mb, keepNs hbl, hbb⟩, ⟨mc, keepNs c1, c2⟩⟩
    have e0 : Env0 P w K mg (hidT s₁.heap H) callerA [] s₁ H := ⟨rfl, hM, fun b o e => of_hidT e, Nat.le_of_eq (hidT_size _ _), trivial, (fun b hb => (nomatch hb)), hok, .of_eq gn⟩
    have fin := (F _ keepK (keepNs hns)).go callerA [] s₁ H ⟨[.ref a], []⟩ [.ref a] [.ref a] _ _ hr e0 (hbind s₁ (.ref a)) (.cons rfl .nil) (hsp H only hS)
    refine codeAny_mono fin fun r s' h => ?_
    match r, h with
    | .error e, h => exact False.elim h
    | .ok .next, h => exact False.elim h
    | .ok .brk, h => exact False.elim h
    | .ok .cont, h => exact False.elim h
    | .ok (.ret u), ⟨v, H', os, bare, un, hok', ru, q⟩ =>
      have qv : v = .bl true := q
      subst qv
      obtain rfl : u = Value.bool true := ru
      refine ⟨rfl, OldK.of_keep fun b o e => ?_, os, bare⟩
      rcases only b with z | ⟨ob, xs, z⟩
      · exact un.keep b o e z (fun y => nomatch y) (fun y => nomatch y)
      · obtain ⟨e1, _⟩ := hok b _ z
        obtain ⟨e2, _⟩ := hok' b _ (un.frzs b ob _ z)
        rw [e] at e1
        cases e1
        exact e2
  cases hk : K.lookup a with
  | some o =>
    have e := KX a o hk
    rw [ha] at e
    cases e
    refine main (fun _ => none) (fun b z => absurd rfl z) (fun z => absurd rfl z) (fun _ => .inl rfl) (fun b u z => nomatch z) (.inr ⟨_, vs.toArray, _, hk, rfl, rfl, rfl, ?_, by simpa using rv⟩)
    rw [List.size_toArray, lv]
    exact hl
  | none =>
    have one : ∀ b u, (if b = a then some (HO.frz { cls := .type "list", data := .seq vs.toArray } (.lst (ns.map V.int))) else none) = some u → b = a ∧ u = .frz { cls := .type "list", data := .seq vs.toArray } (.lst (ns.map V.int)) := fun b u z => by
      by_cases hb : b = a
      · rw [if_pos hb] at z
        exact ⟨hb, (Option.some.inj z).symm⟩
      · rw [if_neg hb] at z
        cases z
    refine main (fun b => if b = a then some (.frz { cls := .type "list", data := .seq vs.toArray } (.lst (ns.map V.int))) else none) (fun b z => ?_) (fun _ => hk) (fun b => ?_) (fun b u z => ?_) (.inl (.inr ⟨_, if_pos rfl⟩))
    · by_cases hb : b = a
      · exact hb
      · exact (z (if_neg hb)).elim
    · by_cases hb : b = a
      · exact .inr ⟨_, _, if_pos hb⟩
      · exact .inl (if_neg hb)
    · obtain ⟨hb, hu⟩ := one b u z
      subst hb hu
      exact ⟨ha, by rw [List.length_map]; exact hl, vs, _, rv, ha⟩
theorem walk_g {l : PySem.W.OpenLaw} {n k : Nat} {q : Program} {loose : List Str} {XP : (Str → Option Value) → Heap → Prop} {YP : World → Heap → Prop} {d : DefRec} {K : Params → PySem.W.Frag} {sp : PySem.W.Frag → Sp} {x : Str}
    (hn : l.most = some n) (hn2 : n ≤ sizeLine) (hdf : d.params.defaults = []) (hr : RG k callerA) (hY : ∀ (w : World) (h : Heap), YP w h → (K w.params).In h)
    (F : ∀ (w : World) (mg : Str → Option Value) (fa : Addr) (h : Heap), (K w.params).In h → h.Ns mainGlobals mg → mg d.name = some (.ref fa) → ∃ fd : FuncData,
      (∀ (s : Shared) (u : Value), BindsTo s fd ⟨[u], []⟩ [(x, u)]) ∧ ∀ base : Heap, (K w.params).In base → base.Ns mainGlobals mg → FG l.prog w (K w.params) mg base CX0 k fa fd [x] (sp (K w.params)))
    (hsp : ∀ (K : PySem.W.Frag) (H : Hp) (a : Addr) (ns : List Int), ns.length ≤ n → Only H → SqL K H a (ns.map V.int) → sp K [.ref a] H (fun v _ => v = .bl true) fun _ _ _ => False) :
    PySem.W.WalkO q loose XP YP l.row.toRowW d [] (fun f vs => PySem.call f vs) := by
  refine Att.attach_call hn hdf fun w s₀ s₁ mg mb fa o pm cd doc a vs ns G Y ho hd hcd hmg hobj hints hlen hg => ?_
  have KX := hY w _ Y
  obtain ⟨fd, hb, hF⟩ := F w mg fa _ KX G.T.g hmg
  exact law_cg KX G.T.g G.T.b G.T.builtins G.T.nolimit hg hobj hints (Nat.le_trans hlen hn2) hr hF hb fun H hO hS => hsp (K w.params) H a ns hlen hO hS
end OB

set_option Elab.async false
set_option linter.all false
set_option maxRecDepth 100000
set_option maxHeartbeats 4000000
/-! OB, part b: what is known of the heap (Sy): objects that stand exactly so (F), data that lasts (G); the steps of a reading. -/
namespace OB
open PySem PySem.Spec PyProof.Rows L2 PySem.W

/-! ### data that lasts: no list, no dict in it -/
mutual
def imm : PyData → Bool
  | .none | .bool _ | .int _ | .str _ => true
  | .tuple xs => immAll xs
  | .list _ | .dict _ => false
def immAll : List PyData → Bool
  | [] => true
  | x :: xs => imm x && immAll xs
end
/-- what stays for good where it is locked: lists and tuples -/
def isFix : HO → Bool
  | .lst _ | .tup _ => true
  | _ => false
/-- tuples and what is locked for good stay -/
def Tx (H H' : Hp) : Prop := (∀ a xs, H a = some (.tup xs) → H' a = some (.tup xs)) ∧ ∀ a o u, isFix u = true → H a = some (.frz o u) → H' a = some (.frz o u)
theorem Tx.refl (H : Hp) : Tx H H := ⟨fun _ _ h => h, fun _ _ _ _ h => h⟩
theorem Tx.trans {H H1 H2 : Hp} (a : Tx H H1) (b : Tx H1 H2) : Tx H H2 := ⟨fun c xs h => b.1 c xs (a.1 c xs h), fun c o u f h => b.2 c o u f (a.2 c o u f h)⟩
theorem Tx.new {H : Hp} {p : Addr} {o : HO} (h : H p = none) : Tx H (upd H p o) := by
  refine ⟨fun a xs e => ?_, fun a o u _ e => ?_⟩
  · rw [upd_ne (ne_of_none e h)]
    exact e
  · rw [upd_ne (ne_of_none e h)]
    exact e
def isMut : HO → Bool
  | .tup _ => false
  | .frz _ u => !isFix u
  | _ => true
theorem Tx.put {H : Hp} {p : Addr} {o o' : HO} (h : H p = some o) (m : isMut o = true) : Tx H (upd H p o') := by
  refine ⟨fun a xs e => ?_, fun a ob u f e => ?_⟩
  · rw [upd_ne]
    · exact e
    · rintro rfl
      rw [h] at e
      cases e
      cases m
  · rw [upd_ne]
    · exact e
    · rintro rfl
      rw [h] at e
      cases e
      have m2 : (!isFix u) = true := m
      rw [f] at m2
      cases m2
theorem sqt_keep {K : Frag} {H H' : Hp} (t : Tx H H') {a : Addr} {xs : List V} (h : SqT K H a xs) : SqT K H' a xs := by
  rcases h with (h | ⟨o, h⟩) | h
  · exact .inl (.inl (t.1 _ _ h))
  · exact .inl (.inr ⟨o, t.2 _ _ _ rfl h⟩)
  · exact .inr h
mutual
theorem dp_keep {K : Frag} {H H' : Hp} (t : Tx H H') : ∀ (d : PyData) (v : V), imm d = true → Dp K H v d → Dp K H' v d
  | .none, _, _, h => by cases h; exact .non
  | .bool b, _, _, h => by cases h; exact .bl b
  | .int i, _, _, h => by cases h; exact .int i
  | .str x, _, _, h => by cases h; exact .str x
  | .tuple ds, _, m, h => by
    cases h with
    | tup h1 h2 => exact .tup (sqt_keep t h1) (dps_keep t ds _ (by simpa [imm] using m) h2)
  | .list _, _, m, _ => by simp [imm] at m
  | .dict _, _, m, _ => by simp [imm] at m
theorem dps_keep {K : Frag} {H H' : Hp} (t : Tx H H') : ∀ (ds : List PyData) (vs : List V), immAll ds = true → DpAll K H vs ds → DpAll K H' vs ds
  | [], _, _, h => by cases h; exact .nil
  | d :: ds, _, m, h => by
    have m2 : imm d = true ∧ immAll ds = true := by simpa [immAll] using m
    cases h with
    | cons h1 h2 => exact .cons (dp_keep t d _ m2.1 h1) (dps_keep t ds _ m2.2 h2)
end
theorem immAll_append {xs ys : List PyData} : immAll (xs ++ ys) = (immAll xs && immAll ys) := by
  induction xs with
  | nil => rfl
  | cons x xs ih =>
    show (imm x && immAll (xs ++ ys)) = (imm x && immAll xs && immAll ys)
    rw [ih, Bool.and_assoc]
theorem immAll_of {xs : List PyData} (h : ∀ x ∈ xs, imm x = true) : immAll xs = true := by
  induction xs with
  | nil => rfl
  | cons x xs ih =>
    show (imm x && immAll xs) = true
    rw [h x (List.mem_cons_self ..), ih fun y hy => h y (List.mem_cons_of_mem _ hy)]
    rfl
theorem immAll_mem {xs : List PyData} (h : immAll xs = true) : ∀ x ∈ xs, imm x = true := by
  induction xs with
  | nil => intro x hx; cases hx
  | cons y xs ih =>
    have m2 : imm y = true ∧ immAll xs = true := by simpa [immAll] using h
    intro x hx
    rcases List.mem_cons.mp hx with rfl | hx
    · exact m2.1
    · exact ih m2.2 x hx

/-! ### DpAll -/
section
variable {K : Frag} {H : Hp}
theorem dps_length {vs : List V} {ds : List PyData} (h : DpAll K H vs ds) : vs.length = ds.length := by
  induction ds generalizing vs with
  | nil => cases h; rfl
  | cons d ds ih =>
    cases h with
    | cons h1 h2 => simp [ih h2]
theorem dps_get : ∀ {ds : List PyData} {vs : List V} {i : Nat} {v : V}, DpAll K H vs ds → vs[i]? = some v → ∃ d, ds[i]? = some d ∧ Dp K H v d
  | [], _, _, _, .nil, e => by simp at e
  | d :: ds, _, 0, v, .cons h1 h2, e => by
    simp at e
    subst e
    exact ⟨d, rfl, h1⟩
  | d :: ds, _, i + 1, v, .cons h1 h2, e => by
    obtain ⟨d', e1, e2⟩ := dps_get (i := i) h2 (by simpa using e)
    exact ⟨d', by simpa using e1, e2⟩
theorem dps_getD : ∀ {ds : List PyData} {vs : List V} {i : Nat} {d : PyData}, DpAll K H vs ds → ds[i]? = some d → ∃ v, vs[i]? = some v ∧ Dp K H v d
  | [], _, _, _, .nil, e => by simp at e
  | d :: ds, _, 0, v, .cons h1 h2, e => by
    simp at e
    subst e
    exact ⟨_, rfl, h1⟩
  | d :: ds, _, i + 1, v, .cons h1 h2, e => by
    obtain ⟨d', e1, e2⟩ := dps_getD (i := i) h2 (by simpa using e)
    exact ⟨d', by simpa using e1, e2⟩
theorem dps_append : ∀ {ds : List PyData} {vs : List V} {es : List PyData} {ws : List V}, DpAll K H vs ds → DpAll K H ws es → DpAll K H (vs ++ ws) (ds ++ es)
  | [], _, _, _, .nil, h => h
  | _ :: _, _, _, _, .cons h1 h2, h => .cons h1 (dps_append h2 h)
theorem dps_drop : ∀ (n : Nat) {ds : List PyData} {vs : List V}, DpAll K H vs ds → DpAll K H (vs.drop n) (ds.drop n)
  | 0, _, _, h => h
  | _ + 1, [], _, .nil => .nil
  | n + 1, _ :: _, _, .cons _ h2 => dps_drop n h2
theorem dps_take : ∀ (n : Nat) {ds : List PyData} {vs : List V}, DpAll K H vs ds → DpAll K H (vs.take n) (ds.take n)
  | 0, _, _, _ => .nil
  | _ + 1, [], _, .nil => .nil
  | n + 1, _ :: _, _, .cons h1 h2 => .cons h1 (dps_take n h2)
theorem dps_one {v : V} {d : PyData} (h : Dp K H v d) : DpAll K H [v] [d] := .cons h .nil
theorem dps_un {v : V} {d : PyData} (h : DpAll K H [v] [d]) : Dp K H v d := by
  cases h with
  | cons h1 _ => exact h1
theorem dps_ints : ∀ (ns : List Int), DpAll K H (ns.map V.int) (ns.map PyData.int)
  | [] => .nil
  | n :: ns => .cons (.int n) (dps_ints ns)
theorem dps_map {α : Type} {f : α → PyData} {ss : List α} {xs : List V} {i : Nat} {x : V} (h : DpAll K H xs (ss.map f)) (e : xs[i]? = some x) : ∃ s, ss[i]? = some s ∧ Dp K H x (f s) := by
  obtain ⟨d, e2, h2⟩ := dps_get h e
  rw [List.getElem?_map] at e2
  cases q : ss[i]? with
  | none => rw [q] at e2; cases e2
  | some s =>
    rw [q] at e2
    cases e2
    exact ⟨s, rfl, h2⟩
theorem dp_tuple {v : V} {ds : List PyData} (h : Dp K H v (.tuple ds)) : ∃ a xs, v = .ref a ∧ SqT K H a xs ∧ DpAll K H xs ds := by
  cases h with
  | tup h1 h2 => exact ⟨_, _, rfl, h1, h2⟩
theorem dp_int {v : V} {i : Int} (h : Dp K H v (.int i)) : v = .int i := by cases h; rfl
theorem dp_str {v : V} {i : Str} (h : Dp K H v (.str i)) : v = .str i := by cases h; rfl
end

/-! ### what is known -/
/-- the script: locked, or the module's own -/
def Scr (K : Frag) (H : Hp) (a : Addr) (xs : List V) : Prop := SqL K H a xs ∧ ∀ o, H a = some o → ∃ ob, o = .frz ob (.lst xs)
theorem scr_keep {K : Frag} {H H' : Hp} (t : Tx H H') {a : Addr} {xs : List V} (h : Scr K H a xs) (hn : H a = none → H' a = none) : Scr K H' a xs := by
  obtain ⟨h1, h2⟩ := h
  cases e : H a with
  | none =>
    refine ⟨?_, fun o q => by rw [hn e] at q; cases q⟩
    rcases h1 with (h1 | ⟨o, h1⟩) | h1
    · rw [e] at h1; cases h1
    · rw [e] at h1; cases h1
    · exact .inr h1
  | some o =>
    obtain ⟨ob, rfl⟩ := h2 o e
    have e2 := t.2 _ _ _ rfl e
    exact ⟨.inl (.inr ⟨ob, e2⟩), fun o q => by rw [e2] at q; cases q; exact ⟨ob, rfl⟩⟩
inductive Ft where
  | dat (vs : List V) (ds : List PyData)
  | sq (a : Addr) (xs : List V)
  | tq (a : Addr) (xs : List V)
  | tt (l : List (Addr × List V))
def Ft.ok (K : Frag) (H : Hp) : Ft → Prop
  | .dat vs ds => DpAll K H vs ds ∧ immAll ds = true
  | .sq a xs => (∃ o, H a = some (.frz o (.lst xs))) ∨ ∃ (o : Obj) (its : Array Value) (n : Nat), K.lookup a = some o ∧ o.cls = .type "list" ∧ o.dict = none ∧ o.data = .seq its n ∧ its.size ≤ sizeLine ∧ Vals xs its.toList
  | .tq a xs => SqT K H a xs
  | .tt l => ∀ p ∈ l, H p.1 = some (.tup p.2)
theorem Ft.keep {K : Frag} {H H' : Hp} (t : Tx H H') : ∀ g : Ft, g.ok K H → g.ok K H'
  | .dat vs ds, ⟨h, m⟩ => ⟨dps_keep t ds vs m h, m⟩
  | .sq a xs, .inl ⟨o, h⟩ => .inl ⟨o, t.2 _ _ _ rfl h⟩
  | .sq a xs, .inr h => .inr h
  | .tq a xs, h => sqt_keep t h
  | .tt l, h => fun p hp => t.1 _ _ (h p hp)
structure Sy (K : Frag) (F : List (Addr × HO)) (G : List Ft) (H : Hp) : Prop where
  st : ∀ p ∈ F, H p.1 = some p.2
  nd : (F.map (·.1)).Nodup
  ft : ∀ g ∈ G, g.ok K H
section
variable {K : Frag} {F : List (Addr × HO)} {G : List Ft} {H H' : Hp} {p : Addr} {o o' : HO} {i : Nat} {v : V} {vs : List V} {d : PyData} {ds : List PyData}
theorem Sy.nil : Sy K [] [] H := ⟨fun _ h => (nomatch h), .nil, fun _ h => (nomatch h)⟩
theorem Sy.at (S : Sy K F G H) (i : Nat) (h : F[i]? = some (p, o)) : H p = some o := S.st _ (List.mem_of_getElem? h)
theorem Sy.dps (S : Sy K F G H) (i : Nat) (h : G[i]? = some (.dat vs ds)) : DpAll K H vs ds := (S.ft _ (List.mem_of_getElem? h)).1
theorem Sy.dpi (S : Sy K F G H) (i : Nat) (h : G[i]? = some (.dat vs ds)) : immAll ds = true := (S.ft _ (List.mem_of_getElem? h)).2
theorem Sy.dp (S : Sy K F G H) (i : Nat) (h : G[i]? = some (.dat [v] [d])) : Dp K H v d := dps_un (S.dps i h)
theorem Sy.sq {xs : List V} (S : Sy K F G H) (i : Nat) (h : G[i]? = some (.sq p xs)) : SqL K H p xs := by
  rcases S.ft _ (List.mem_of_getElem? h) with ⟨o, q⟩ | q
  · exact .inl (.inr ⟨o, q⟩)
  · exact .inr q
theorem Sy.tqs {xs : List V} (S : Sy K F G H) (i : Nat) (h : G[i]? = some (.tq p xs)) : SqT K H p xs := S.ft _ (List.mem_of_getElem? h)
theorem Sy.tts {l : List (Addr × List V)} (S : Sy K F G H) (i : Nat) (h : G[i]? = some (.tt l)) : ∀ p ∈ l, H p.1 = some (.tup p.2) := S.ft _ (List.mem_of_getElem? h)
/-- a new object -/
theorem Sy.push (S : Sy K F G H) (h : H p = none) : Sy K ((p, o) :: F) G (upd H p o) := by
  refine ⟨fun q hq => ?_, ?_, fun g hg => Ft.keep (Tx.new h) g (S.ft g hg)⟩
  · rcases List.mem_cons.mp hq with rfl | hq
    · exact upd_same
    · have e := S.st q hq
      rw [upd_ne (ne_of_none e h)]
      exact e
  · show (p :: F.map (·.1)).Nodup
    refine List.nodup_cons.mpr ⟨fun hm => ?_, S.nd⟩
    obtain ⟨q, hq, e⟩ := List.mem_map.mp hm
    have e2 := S.st q hq
    rw [e, h] at e2
    cases e2
/-- a new object that is not kept in mind -/
theorem Sy.over (S : Sy K F G H) (h : H p = none) : Sy K F G (upd H p o) := by
  obtain ⟨a, b, c⟩ := S.push (o := o) h
  exact ⟨fun q hq => a q (List.mem_cons_of_mem _ hq), S.nd, c⟩
theorem Sy.fact (S : Sy K F G H) (h : DpAll K H vs ds) (m : immAll ds = true) : Sy K F (.dat vs ds :: G) H :=
  ⟨S.st, S.nd, fun g hg => (List.mem_cons.mp hg).elim (fun e => by rw [e]; exact ⟨h, m⟩) (S.ft g)⟩
theorem Sy.add (S : Sy K F G H) (g : Ft) (h : g.ok K H) : Sy K F (g :: G) H :=
  ⟨S.st, S.nd, fun f hf => (List.mem_cons.mp hf).elim (fun e => by rw [e]; exact h) (S.ft f)⟩
/-- a tuple of data opened -/
theorem Sy.opn (S : Sy K F G H) (h : Dp K H v (.tuple ds)) (m : immAll ds = true) : ∃ a xs, v = .ref a ∧ Sy K F (.tq a xs :: .dat xs ds :: G) H := by
  obtain ⟨a, xs, e, h1, h2⟩ := dp_tuple h
  exact ⟨a, xs, e, (S.fact h2 m).add _ h1⟩
theorem Sy.lay (S : Sy K F G H) (h : H p = none) (hd : DpAll K H vs ds) (m : immAll ds = true) : Sy K F (.dat [.ref p] [.tuple ds] :: G) (upd H p (.tup vs)) := by
  refine (S.over h).fact (dps_one (.tup (.inl (.inl upd_same)) (dps_keep (Tx.new h) ds vs m hd))) ?_
  show (imm (.tuple ds) && true) = true
  rw [Bool.and_true]
  exact m
/-- a new tuple, told as itself and as data -/
theorem Sy.layT (S : Sy K F G H) (h : H p = none) (hd : DpAll K H vs ds) (m : immAll ds = true) : Sy K F (.tt [(p, vs)] :: .dat [.ref p] [.tuple ds] :: G) (upd H p (.tup vs)) :=
  (S.lay h hd m).add _ fun q hq => by
    rcases List.mem_singleton.mp hq with rfl
    exact upd_same
/-- an object changed -/
theorem Sy.put (S : Sy K F G H) (i : Nat) (h : F[i]? = some (p, o)) (m : isMut o = true) : Sy K (F.set i (p, o')) G (upd H p o') := by
  have hp := S.at i h
  have hi : i < F.length := (List.getElem?_eq_some_iff.mp h).1
  refine ⟨fun q hq => ?_, ?_, fun g hg => Ft.keep (Tx.put hp m) g (S.ft g hg)⟩
  · obtain ⟨j, hj⟩ := List.mem_iff_getElem?.mp hq
    by_cases e : i = j
    · subst e
      rw [List.getElem?_set_self hi] at hj
      cases hj
      exact upd_same
    · rw [List.getElem?_set_ne e] at hj
      have e2 := S.st q (List.mem_of_getElem? hj)
      rw [upd_ne]
      · exact e2
      · intro z
        have n := S.nd
        have h1 : (F.map (·.1))[i]? = some p := by rw [List.getElem?_map, h]; rfl
        have h2 : (F.map (·.1))[j]? = some p := by rw [List.getElem?_map, hj, ← z]; rfl
        exact e ((List.getElem_inj n).mp ((List.getElem?_eq_some_iff.mp h1).2.trans (List.getElem?_eq_some_iff.mp h2).2.symm))
  · have e : (F.set i (p, o')).map (·.1) = F.map (·.1) := by
      rw [List.map_set]
      refine List.ext_getElem? fun j => ?_
      by_cases e : i = j
      · subst e
        rw [List.getElem?_set_self (by simpa using hi), List.getElem?_map, h]
        rfl
      · rw [List.getElem?_set_ne e]
    rw [e]
    exact S.nd
theorem Sy.less {x : Addr × HO} (S : Sy K (x :: F) G H) : Sy K F G H := ⟨fun q hq => S.st q (List.mem_cons_of_mem _ hq), (List.nodup_cons.mp (show (x.1 :: F.map (·.1)).Nodup from S.nd)).2, S.ft⟩
theorem Sy.drop {x : Ft} (S : Sy K F (x :: G) H) : Sy K F G H := ⟨S.st, S.nd, fun g hg => S.ft g (List.mem_cons_of_mem _ hg)⟩
/-- other facts, all of them among those known -/
theorem Sy.facts {G' : List Ft} (S : Sy K F G H) (h : ∀ g ∈ G', g ∈ G) : Sy K F G' H := ⟨S.st, S.nd, fun g hg => S.ft g (h g hg)⟩
theorem Sy.drop2 {x y : Ft} (S : Sy K F (x :: y :: G) H) : Sy K F (x :: G) H := S.facts fun g hg => by
  rcases List.mem_cons.mp hg with rfl | h
  · exact List.mem_cons_self ..
  · exact List.mem_cons_of_mem _ (List.mem_cons_of_mem _ h)
theorem Sy.drop3 {x y z : Ft} (S : Sy K F (x :: y :: z :: G) H) : Sy K F (x :: y :: G) H := S.facts fun g hg => by
  rcases List.mem_cons.mp hg with rfl | h
  · exact List.mem_cons_self ..
  · rcases List.mem_cons.mp h with rfl | h
    · exact List.mem_cons_of_mem _ (List.mem_cons_self ..)
    · exact List.mem_cons_of_mem _ (List.mem_cons_of_mem _ (List.mem_cons_of_mem _ h))
theorem Sy.swap {x y : Addr × HO} (S : Sy K (x :: y :: F) G H) : Sy K (y :: x :: F) G H := by
  refine ⟨fun q hq => S.st q ?_, ?_, S.ft⟩
  · rcases List.mem_cons.mp hq with rfl | hq
    · exact List.mem_cons_of_mem _ (List.mem_cons_self ..)
    · rcases List.mem_cons.mp hq with rfl | hq
      · exact List.mem_cons_self ..
      · exact List.mem_cons_of_mem _ (List.mem_cons_of_mem _ hq)
  · have n : (x.1 :: y.1 :: F.map (·.1)).Nodup := S.nd
    show (y.1 :: x.1 :: F.map (·.1)).Nodup
    obtain ⟨n1, n2⟩ := List.nodup_cons.mp n
    obtain ⟨n3, n4⟩ := List.nodup_cons.mp n2
    refine List.nodup_cons.mpr ⟨fun z => ?_, List.nodup_cons.mpr ⟨fun z => n1 (List.mem_cons_of_mem _ z), n4⟩⟩
    rcases List.mem_cons.mp z with e | z
    · exact n1 (by rw [e]; exact List.mem_cons_self ..)
    · exact n3 z
end
end OB

set_option Elab.async false
set_option linter.all false
set_option maxRecDepth 100000
set_option maxHeartbeats 4000000
/-! OB, part c: more rules: walks over lists and tuples alike, zip and enumerate of both, a written dict of ints, powers, attributes as targets. -/
namespace OB
open PySem PySem.Spec PyProof.Rows L2 PySem.W

/-! ### a list or a tuple -/
def SqA (K : Frag) (H : Hp) (a : Addr) (xs : List V) : Prop := SqL K H a xs ∨ SqT K H a xs
/-- k: it is a list -/
def SqK (K : Frag) (H : Hp) (k : Bool) (a : Addr) (xs : List V) : Prop := match k with
  | true => SqL K H a xs
  | false => SqT K H a xs
def IsK (h : Heap) (k : Bool) (a : Addr) (its : Array Value) : Prop := match k with
  | true => h.IsList a its
  | false => h.IsTuple a its
def ItK (h : Heap) (k : Bool) (it a : Addr) (i : Nat) : Prop := match k with
  | true => h.IsListIter it a i
  | false => h.IsTupleIter it a i
theorem ItK.at {h h' : Heap} {k : Bool} {it a : Addr} {i : Nat} (x : ItK h k it a i) (e : ∀ o, h.get? it = some o → h'.get? it = some o) : ItK h' k it a i := by
  cases k with
  | true => exact Heap.IsListIter.at x e
  | false => exact Heap.IsTupleIter.at x e
theorem ItK.obj {h : Heap} {k : Bool} {it a : Addr} {i : Nat} (x : ItK h k it a i) : ∃ o, h.get? it = some o ∧ ∀ v, o.data ≠ .cell v := by
  cases k with
  | true =>
    obtain ⟨o, e, c, d⟩ := x
    exact ⟨o, e, fun v z => by rw [d] at z; cases z⟩
  | false =>
    obtain ⟨o, e, c, d⟩ := x
    exact ⟨o, e, fun v z => by rw [d] at z; cases z⟩
def itObj (k : Bool) (a : Addr) : Obj := match k with
  | true => { cls := .type "list_iterator", data := .fields #[.ref a, .int 0 0] }
  | false => { cls := .type "tuple_iterator", data := .fields #[.ref a, .int 0 0] }
theorem beginsK (k : Bool) (a : Addr) (its : Array Value) : Begins (.ref a) (itObj k a) fun h => IsK h k a its := match k with
  | true => begins_list a its
  | false => begins_tuple a its
theorem itK_new {h : Heap} {k : Bool} {it a : Addr} (e : h.get? it = some (itObj k a)) : ItK h k it a 0 := match k, e with
  | true, e => ⟨_, e, rfl, rfl⟩
  | false, e => ⟨_, e, rfl, rfl⟩
theorem drawsK {prog : Program} {w : World} {A : Around} (hh : A.handled = none) (k : Bool) (it a : Addr) (hne : a ≠ it) (its : Array Value) :
    Draws prog w A it [it, a] its.size (fun i v => its[i]? = some v) (fun i h => ItK h k it a i ∧ IsK h k a its) := match k with
  | true => Draws.list hh it a hne its
  | false => Draws.tuple hh it a hne its
section
variable {X : Cx} {pins : List (Addr × Obj)} {σ : L2.St} {H : Hp} {s : Shared} {a : Addr} {xs ys : List V} {k : Bool}
theorem inv_sqk (I : Inv X pins σ H s) (h : SqK X.K H k a xs) : ∃ its : List Value, Vals xs its ∧ IsK s.heap k a its.toArray ∧ a < s.heap.objs.size := by
  cases k with
  | true =>
    obtain ⟨its, r, p, _⟩ := I.list h
    exact ⟨its, r, p.isList, p.lt⟩
  | false =>
    obtain ⟨its, r, p, _⟩ := I.tuple h
    exact ⟨its, r, p, p.lt⟩
theorem sqk_inj (I : Inv X pins σ H s) (h : SqK X.K H k a xs) (h' : SqK X.K H k a ys) : xs = ys := by
  cases k with
  | true => exact I.list_inj h h'
  | false => exact I.tuple_inj h h'
end
theorem isK_le {h : Heap} {k : Bool} {a : Addr} {its : Array Value} (x : IsK h k a its) : ∃ o, h.get? a = some o ∧ ∃ n, o.data = .seq its n := by
  cases k with
  | true =>
    obtain ⟨o, e, _, n, d⟩ := x
    exact ⟨o, e, n, d⟩
  | false =>
    obtain ⟨o, e, _, n, d⟩ := x
    exact ⟨o, e, n, d⟩

/-! ### zip of two, each a list or a tuple -/
def ItzK (K : Frag) (k l : Bool) (a b : Addr) : It :=
  ⟨fun i H => ∃ (xs ys : List V) (x y : V), SqK K H k a xs ∧ SqK K H l b ys ∧ xs[i]? = some x ∧ ys[i]? = some y,
    fun i H v H' => ∃ T x y, v = .ref T ∧ H T = none ∧ H' = upd H T (.tup [x, y]) ∧ (∀ xs, SqK K H k a xs → xs[i]? = some x) ∧ ∀ ys, SqK K H l b ys → ys[i]? = some y,
    fun i H => ∃ xs ys : List V, SqK K H k a xs ∧ SqK K H l b ys ∧ i ≤ xs.length ∧ i ≤ ys.length ∧ (i = xs.length ∨ i = ys.length)⟩
theorem turn_zipK {P : Program} {w : World} {K : Frag} {elts : List Expr} {kk : Nat} {tpos : Pos} {k l : Bool} {a b z TI TO i1 i2 : Addr} (D : ZipSep2 z TI TO i1 i2 [i1, a] [i2, b]) :
    Turn P w K (.Tuple elts kk tpos) (ItzK K k l a b) [z, TI, TO, i1, i2] z
      (fun i h => IsZip h z TI TO .none ∧ IsTupOf2 h TI (.ref i1) (.ref i2) ∧ (∃ x y, IsTupOf2 h TO x y) ∧ ItK h k i1 a i ∧ ItK h l i2 b i) where
  mem := List.mem_cons_self ..
  obj := fun i h st c hc => by
    obtain ⟨hz, hTI, ⟨x, y, hTO⟩, h1, h2⟩ := st
    have cs : c = z ∨ c = TI ∨ c = TO ∨ c = i1 ∨ c = i2 := by simpa using hc
    rcases cs with rfl | rfl | rfl | rfl | rfl
    · exact ⟨_, hz, fun v q => nomatch q⟩
    · exact ⟨_, hTI, fun v q => nomatch q⟩
    · exact ⟨_, hTO, fun v q => nomatch q⟩
    · exact h1.obj
    · exact h2.obj
  keep := fun i h h' st kp => by
    obtain ⟨hz, hTI, ⟨x, y, hTO⟩, h1, h2⟩ := st
    exact ⟨kp z (by simp) _ hz, kp TI (by simp) _ hTI, ⟨x, y, kp TO (by simp) _ hTO⟩, h1.at fun o q => kp i1 (by simp) o q, h2.at fun o q => kp i2 (by simp) o q⟩
  item := by
    intro X hP hw hK hc i pins s σ H E I hf st hg
    subst hP hw hK
    obtain ⟨hz, hTI, ⟨x0, y0, hTO⟩, h1, h2⟩ := st
    obtain ⟨xs, ys, x, y, qa, qb, hx, hy⟩ := hg
    obtain ⟨its, ra, pa, _⟩ := inv_sqk I qa
    obtain ⟨jts, rb, pb, _⟩ := inv_sqk I qb
    obtain ⟨u, hu, ru⟩ := ra.get hx
    obtain ⟨u2, hu2, ru2⟩ := rb.get hy
    have zlt : z < s.heap.objs.size := Heap.lt_size hz
    have hh : X.A.in1.handled = none := I.ok.hd hc
    have la : i < its.toArray.size := by
      rw [List.size_toArray]
      exact (List.getElem?_eq_some_iff.mp hu).1
    have lb : i < jts.toArray.size := by
      rw [List.size_toArray]
      exact (List.getElem?_eq_some_iff.mp hu2).1
    have nea : a ≠ i1 := fun e => by
      obtain ⟨o, e1, n, d1⟩ := isK_le pa
      rw [e] at e1
      cases k with
      | true => obtain ⟨o2, e2, _, d2⟩ := h1; rw [e1] at e2; cases e2; rw [d1] at d2; cases d2
      | false => obtain ⟨o2, e2, _, d2⟩ := h1; rw [e1] at e2; cases e2; rw [d1] at d2; cases d2
    have neb : b ≠ i2 := fun e => by
      obtain ⟨o, e1, n, d1⟩ := isK_le pb
      rw [e] at e1
      cases l with
      | true => obtain ⟨o2, e2, _, d2⟩ := h2; rw [e1] at e2; cases e2; rw [d1] at d2; cases d2
      | false => obtain ⟨o2, e2, _, d2⟩ := h2; rw [e1] at e2; cases e2; rw [d1] at d2; cases d2
    refine wpAny_pyNext_zipD2_item D (drawsK hh k i1 a nea its.toArray) (drawsK hh l i2 b neb jts.toArray) hz hTI hTO ⟨h1, pa⟩ ⟨h2, pb⟩ la lb fun v1 v2 h' tk e1 e2 z' TO' g1 g2 hT hsz kp => ?_
    have q1 : v1 = u := Option.some.inj (e1.symm.trans (by simpa using hu))
    have q2 : v2 = u2 := Option.some.inj (e2.symm.trans (by simpa using hu2))
    subst q1 q2
    refine ⟨_, rfl, wpAny_letOwnedTupleGo_zip (s := { s with heap := h', toks := tk }) z' fun h'' z'' sb => ?_⟩
    have hT2 : h''.get? s.heap.objs.size = some { cls := .type "tuple", data := .seq #[v1, v2] } := (sb.2 _ (Nat.ne_of_gt zlt)).trans hT
    have fresh : ObjOk X.prog X.w (upd H s.heap.objs.size (.tup [x, y])) h'' s.heap.objs.size (.tup [x, y]) :=
      ⟨by show 2 ≤ sizeLine; decide, [v1, v2], .cons ru (.cons ru2 .nil), ⟨_, hT2, rfl, _, rfl⟩⟩
    have kp2 : ∀ c o, c ∉ [z, TI, TO, i1, i2] → s.heap.get? c = some o → h''.get? c = some o := fun c o hb q =>
      (sb.2 c (fun e => hb (by simp [e]))).trans (kp c o (fun e => hb (by simp [e])) (fun e => hb (by simp [e])) (fun e => hb (by simp [e])) (fun e => hb (by simp [e])) q)
    have I1 : Inv X pins σ (upd H s.heap.objs.size (.tup [x, y])) { s with heap := h'', toks := tk } := I.turnedNew (ch := [z, TI, TO, i1, i2]) kp2 hf (Nat.le_refl _) fresh
    have neTI : TI ≠ z ∧ TI ≠ TO ∧ TI ≠ i1 ∧ TI ≠ i2 := ⟨D.TIz, D.TITO, D.TIi1, D.TIi2⟩
    refine ⟨.ref s.heap.objs.size, _, I1, rfl, ⟨_, x, y, rfl, I.hok.fresh (Nat.le_refl _), rfl, fun m hm => by rw [sqk_inj I hm qa]; exact hx, fun m hm => by rw [sqk_inj I hm qb]; exact hy⟩, ⟨z'', ?_, ⟨v1, v2, ?_⟩, ?_, ?_⟩, fun c hcm => ?_⟩
    · exact (sb.2 _ D.TIz).trans (kp _ _ D.TIz D.TITO D.TIi1 D.TIi2 hTI)
    · exact (sb.2 _ D.TOz).trans TO'
    · exact g1.1.at fun o q => (sb.2 _ (Ne.symm D.zi1)).trans q
    · exact g2.1.at fun o q => (sb.2 _ (Ne.symm D.zi2)).trans q
    · have lt : c < s.heap.objs.size := by
        have cs : c = z ∨ c = TI ∨ c = TO ∨ c = i1 ∨ c = i2 := by simpa using hcm
        rcases cs with rfl | rfl | rfl | rfl | rfl
        · exact zlt
        · exact Heap.lt_size hTI
        · exact Heap.lt_size hTO
        · obtain ⟨o, q, _⟩ := h1.obj; exact Heap.lt_size q
        · obtain ⟨o, q, _⟩ := h2.obj; exact Heap.lt_size q
      rw [upd_ne (Nat.ne_of_lt lt)]
      exact (hf c hcm).1
  done := by
    intro X hP hw hK hc i pins s σ H E I hf st hg
    subst hP hw hK
    obtain ⟨hz, hTI, ⟨x0, y0, hTO⟩, h1, h2⟩ := st
    obtain ⟨xs, ys, qa, qb, l1, l2, le⟩ := hg
    obtain ⟨its, ra, pa, _⟩ := inv_sqk I qa
    obtain ⟨jts, rb, pb, _⟩ := inv_sqk I qb
    have hh : X.A.in1.handled = none := I.ok.hd hc
    have e1 := ra.length
    have e2 := rb.length
    have nea : a ≠ i1 := fun e => by
      obtain ⟨o, e1, n, d1⟩ := isK_le pa
      rw [e] at e1
      cases k with
      | true => obtain ⟨o2, e2, _, d2⟩ := h1; rw [e1] at e2; cases e2; rw [d1] at d2; cases d2
      | false => obtain ⟨o2, e2, _, d2⟩ := h1; rw [e1] at e2; cases e2; rw [d1] at d2; cases d2
    have neb : b ≠ i2 := fun e => by
      obtain ⟨o, e1, n, d1⟩ := isK_le pb
      rw [e] at e1
      cases l with
      | true => obtain ⟨o2, e2, _, d2⟩ := h2; rw [e1] at e2; cases e2; rw [d1] at d2; cases d2
      | false => obtain ⟨o2, e2, _, d2⟩ := h2; rw [e1] at e2; cases e2; rw [d1] at d2; cases d2
    refine wpAny_pyNext_zipD2_end D (drawsK hh k i1 a nea its.toArray) (drawsK hh l i2 b neb jts.toArray) hz hTI hTO ⟨h1, pa⟩ ⟨h2, pb⟩ (by rw [List.size_toArray]; omega) (by rw [List.size_toArray]; omega) (by rw [List.size_toArray, List.size_toArray]; omega) fun h' tk kp => ?_
    exact ⟨rfl, I.turnedL (t' := tk) (ch := [z, TI, TO, i1, i2]) (fun c o hb q => kp c o (fun e => hb (by simp [e])) (fun e => hb (by simp [e])) (fun e => hb (by simp [e])) (fun e => hb (by simp [e])) q) hf⟩
  self := fun A i s Q E st h => wpAny_pyIter_zip st.1 h
def iZipK (K : Frag) (ta : TA) : TI := fun σ H R => ta σ H fun vs H1 => ∃ k l a b xs ys, vs = [.ref a, .ref b] ∧ SqK K H1 k a xs ∧ SqK K H1 l b ys ∧ R (ItzK K k l a b) H1
theorem pi_zipK {X : Cx} {e e2 : Expr} {ta : TA} {p pos tpos : Pos} {elts : List Expr} {kk : Nat} (hg : Gl X "zip") (hm : X.mg "zip" = none) (ha : PA X [e, e2] ta)
    (hs : starEach [e, e2] X.env = (false, eval e X.env) :: starEach [e2] X.env := by rfl) (hpl : (backTo pos (starEach [e2] X.env)).any (·.1) = false := by rfl) :
    PI X (.Tuple elts kk tpos) (.Call (.Name "zip" p) [e, e2] [] pos) (iZipK X.K ta) := by
  refine ⟨fun pins s σ H R I h => Call_ (ld_blt I hg hm PyProof.Rows.boot_zip (PyProof.Rows.callWith_type1 (thn (ha.run pos pins s σ H _ I h) fun us s1 ⟨vs, H1, I1, r1, q1⟩ => ?_) hs hpl))⟩
  obtain ⟨k, l, a, b, xs, ys, rfl, qa, qb, q⟩ := q1
  cases r1 with
  | cons r rr =>
    cases rr with
    | cons r' rr =>
      cases rr
      cases r
      cases r'
      obtain ⟨its, ra, pa, la⟩ := inv_sqk I1 qa
      obtain ⟨jts, rb, pb, lb⟩ := inv_sqk I1 qb
      refine zip_begins2 (beginsK k a its.toArray) (beginsK l b jts.toArray) pa pb fun h' hz hTI hTO g1 g2 hsz kp => wpAny_pyIter_zip hz ?_
      have I2 : Inv X pins σ H1 { s1 with heap := h' } := I1.kept (t' := s1.toks) kp
      refine ⟨s1.heap.objs.size + 4, [s1.heap.objs.size + 4, s1.heap.objs.size + 2, s1.heap.objs.size + 3, s1.heap.objs.size, s1.heap.objs.size + 1], _, _, H1, rfl, I2,
        turn_zipK (zip_sep2 (fp1 := [a]) (fp2 := [b]) (fun c hc => by rw [List.mem_singleton.mp hc]; exact la) (fun c hc => by rw [List.mem_singleton.mp hc]; exact lb)), ⟨hz, hTI, ⟨_, _, hTO⟩, itK_new g1, itK_new g2⟩, fun c hcm => ?_, q⟩
      have cs : c = s1.heap.objs.size + 4 ∨ c = s1.heap.objs.size + 2 ∨ c = s1.heap.objs.size + 3 ∨ c = s1.heap.objs.size ∨ c = s1.heap.objs.size + 1 := by simpa using hcm
      have le : s1.heap.objs.size ≤ c := by
        rcases cs with rfl | rfl | rfl | rfl | rfl
        · exact Nat.le_add_right _ _
        · exact Nat.le_add_right _ _
        · exact Nat.le_add_right _ _
        · exact Nat.le_refl _
        · exact Nat.le_add_right _ _
      exact I1.fpOk le (I1.hok.fresh le)
theorem for_zipK {K : Frag} {k l : Bool} {a b : Addr} {xs ys : List V} {g : TG} {tb : TS} {D : Ends} {σ : L2.St} {H : Hp} (hl : xs.length = ys.length) (Pv : Nat → L2.St → Hp → Prop) (h0 : Pv 0 σ H) (hq : ∀ i σ H, Pv i σ H → SqK K H k a xs ∧ SqK K H l b ys)
    (hs : ∀ i x y T σ H, xs[i]? = some x → ys[i]? = some y → Pv i σ H → H T = none → g (.ref T) σ (upd H T (.tup [x, y])) fun σ2 H2 => tb { D with nx := Pv (i + 1), ct := Pv (i + 1), bk := D.nx } σ2 H2) (hd : ∀ σ H, Pv xs.length σ H → D.nx σ H) :
    ∃ W : Nat → Nat → L2.St → Hp → Prop, (∃ m, W 0 m σ H) ∧ ∀ i m σ H, W i m σ H →
      ((ItzK K k l a b).stop i H ∧ D.nx σ H) ∨ ((ItzK K k l a b).go i H ∧ ∃ N : L2.St → Hp → Prop, (∀ σ' H', N σ' H' → ∃ m', m' < m ∧ W (i + 1) m' σ' H') ∧ ∀ x H', (ItzK K k l a b).yld i H x H' → g x σ H' fun σ2 H2 => tb { D with nx := N, ct := N, bk := D.nx } σ2 H2) := by
  refine ⟨fun i m σ H => m = xs.length - i ∧ i ≤ xs.length ∧ Pv i σ H, ⟨_, rfl, Nat.zero_le _, h0⟩, ?_⟩
  rintro i m σ H ⟨rfl, hi, p⟩
  obtain ⟨qa, qb⟩ := hq i σ H p
  by_cases lt : i < xs.length
  · have hx : xs[i]? = some xs[i] := List.getElem?_eq_getElem lt
    have hy : ys[i]? = some (ys[i]'(hl ▸ lt)) := List.getElem?_eq_getElem _
    refine .inr ⟨⟨xs, ys, _, _, qa, qb, hx, hy⟩, Pv (i + 1), fun σ' H' p' => ⟨xs.length - (i + 1), by omega, rfl, lt, p'⟩, fun v H' yl => ?_⟩
    obtain ⟨T, x, y, rfl, hT, rfl, e1, e2⟩ := yl
    exact hs i x y T σ H (e1 xs qa) (e2 ys qb) p hT
  · have e : i = xs.length := by omega
    subst e
    exact .inl ⟨⟨xs, ys, qa, qb, hi, by omega, .inl rfl⟩, hd σ H p⟩

/-! ### for over a list or a tuple -/
def iSeq (K : Frag) (tl : TE) : TI := fun σ H R => tl σ H fun x H1 => ∃ a, x = .ref a ∧ (((∃ xs, SqL K H1 a xs) ∧ R (Itl K a) H1) ∨ ((∃ xs, SqT K H1 a xs) ∧ R (Itt K a) H1))
theorem pi_seq {X : Cx} {tg l : Expr} {tl : TE} (hl : PE X l tl) : PI X tg l (iSeq X.K tl) := by
  refine ⟨fun pins s σ H R I h => thn (hl.run pins s σ H _ I h) fun v s1 ⟨x, H1, I1, r1, a, ex, q⟩ => ?_⟩
  subst ex
  cases r1
  have fresh : ∀ b ∈ [s1.heap.objs.size], FpOk X pins H1 b := fun b hb => by
    rw [List.mem_singleton.mp hb]
    exact I1.fpOk (Nat.le_refl _) (I1.hok.fresh (Nat.le_refl _))
  rcases q with ⟨⟨xs, hq⟩, q⟩ | ⟨⟨xs, hq⟩, q⟩
  · obtain ⟨its, rv, p, _⟩ := I1.list hq
    exact wpAny_pyIter_list p.isList ⟨s1.heap.objs.size, [s1.heap.objs.size], _, _, H1, rfl, I1.kept (t' := s1.toks) fun b o e => Heap.get?_push_of_some _ e, turn_list a _, ⟨_, Heap.get?_push_size _ rfl, rfl, rfl⟩, fresh, q⟩
  · obtain ⟨its, rv, p, _⟩ := I1.tuple hq
    exact wpAny_pyIter_tuple (show s1.heap.IsTuple a its.toArray from p) ⟨s1.heap.objs.size, [s1.heap.objs.size], _, _, H1, rfl, I1.kept (t' := s1.toks) fun b o e => Heap.get?_push_of_some _ e, turn_tuple a _, ⟨_, Heap.get?_push_size _ rfl, rfl, rfl⟩, fresh, q⟩
end OB

set_option Elab.async false
set_option linter.all false
set_option maxRecDepth 100000
set_option maxHeartbeats 4000000
/-! OB, part d: enumerate of lists and tuples alike, a written dict of ints, powers, attributes as targets. -/
namespace OB
open PySem PySem.Spec PyProof.Rows L2 PySem.W

/-! ### enumerate -/
theorem meets_enum1 {v : Value} {o : Obj} {B : Heap → Prop} (bg : Begins v o B) :
    Meets (Builtin.«enumerate.__new__» ⟨[.type "enumerate", v], []⟩) (fun _ R s => B s.heap ∧
      R (.ok (.ret (.ref (s.heap.push o).objs.size))) { s with heap := (s.heap.push o).push { cls := .type "enumerate", data := .fields #[.none, .bool false, .ref s.heap.objs.size, rawInt 0, .none, .none] } }) :=
  .of_wp fun prog w A R s h => by
    obtain ⟨hp, gn, dr, tk, os⟩ := s
    obtain ⟨hb, h⟩ := h
    have hsub := sub_enumerate
    have walk : ∀ {A' : Around} {E : Value → Shared → Prop} {Q : Value → Shared → Prop}, Q (.ref hp.objs.size) ⟨hp.push o, gn, dr, tk, os⟩ → wpAny (model prog w) A' (pyIter v) Q E ⟨hp, gn, dr, tk, os⟩ :=
      fun q => bg.iter prog w _ _ ⟨hp, gn, dr, tk, os⟩ _ hb q
    wp_walk using walk
    refine wpAny_stack_any fun st => wpAny_pure ?_
    split
    · rename_i c _ _ _ _ _
      cases (c == Value.type "enumerate")
      · wp_walk using walk
        exact ⟨_, rfl, h⟩
      · wp_walk using walk
        exact ⟨_, rfl, h⟩
    · wp_walk using walk
      exact ⟨_, rfl, h⟩
theorem call_enum1 {prog : Program} {w : World} {A : Around} {E : Value → Shared → Prop} {s : Shared} {v : Value} {o : Obj} {B : Heap → Prop} {Q : Value → Shared → Prop} (bg : Begins v o B) (hb : B s.heap)
    (h : ∀ h', IsEnum h' (s.heap.objs.size + 1) s.heap.objs.size 0 .none → h'.get? s.heap.objs.size = some o → (∀ b o, s.heap.get? b = some o → h'.get? b = some o) → Q (.ref (s.heap.objs.size + 1)) { s with heap := h' }) :
    wpAny (model prog w) A (call (.type "enumerate") [v]) Q E s := by
  refine callType_new F.called_enumerate (by decide) (F.typeCall_enumerate_1 _) (F.newCall_enumerate_1 _) (fun obj => F.args_object_init_2 obj _) F.entry_enumerate_new (meets_enum1 bg) ⟨hb, ?_⟩
  have hz : (s.heap.push o).objs.size = s.heap.objs.size + 1 := Heap.size_push ..
  show _ ∧ _
  rw [hz]
  have he : IsEnum ((s.heap.push o).push { cls := .type "enumerate", data := .fields #[.none, .bool false, .ref s.heap.objs.size, rawInt 0, .none, .none] }) (s.heap.objs.size + 1) s.heap.objs.size 0 .none := by
    have q := Heap.get?_push_size (s.heap.push o) (o := { cls := .type "enumerate", data := .fields #[.none, .bool false, .ref s.heap.objs.size, rawInt 0, .none, .none] }) rfl
    rw [hz] at q
    exact q
  exact ⟨⟨_, he, rfl⟩, h _ he (Heap.get?_push_of_some _ (Heap.get?_push_size _ bg.free)) fun b o x => Heap.get?_push_of_some _ (Heap.get?_push_of_some _ x)⟩
def IteK (K : Frag) (k : Bool) (a : Addr) : It :=
  ⟨fun i H => ∃ (xs : List V) (x : V), SqK K H k a xs ∧ xs[i]? = some x,
    fun i H v H' => ∃ T x, v = .ref T ∧ H T = none ∧ H' = upd H T (.tup [.int (i : Nat), x]) ∧ ∀ xs, SqK K H k a xs → xs[i]? = some x,
    fun i H => ∃ xs : List V, SqK K H k a xs ∧ i = xs.length⟩
theorem turn_enumK {P : Program} {w : World} {K : Frag} {elts : List Expr} {kk : Nat} {tpos : Pos} {k : Bool} {a e it : Addr} (hea : e ≠ a) :
    Turn P w K (.Tuple elts kk tpos) (IteK K k a) [e, it] e (fun i h => (∃ old, IsEnum h e it ((i : Nat) : Int) old) ∧ ItK h k it a i ∧ e ≠ it) where
  mem := List.mem_cons_self ..
  obj := fun i h st b hb => by
    obtain ⟨⟨old, he⟩, h1, _⟩ := st
    have cs : b = e ∨ b = it := by simpa using hb
    rcases cs with rfl | rfl
    · exact ⟨_, he, fun v q => nomatch q⟩
    · exact h1.obj
  keep := fun i h h' st kp => by
    obtain ⟨⟨old, he⟩, h1, ne⟩ := st
    exact ⟨⟨old, kp e (by simp) _ he⟩, h1.at fun o q => kp it (by simp) o q, ne⟩
  item := by
    intro X hP hw hK hc i pins s σ H E I hf st hg
    subst hP hw hK
    obtain ⟨⟨old, he⟩, h1, ne⟩ := st
    obtain ⟨xs, x, qa, hx⟩ := hg
    obtain ⟨its, ra, pa, _⟩ := inv_sqk I qa
    obtain ⟨u, hu, ru⟩ := ra.get hx
    have elt : e < s.heap.objs.size := Heap.lt_size he
    have hh : X.A.in1.handled = none := I.ok.hd hc
    have la : i < its.toArray.size := by
      rw [List.size_toArray]
      exact (List.getElem?_eq_some_iff.mp hu).1
    have nea : a ≠ it := fun z => by
      obtain ⟨o, e1, n, d1⟩ := isK_le pa
      rw [z] at e1
      cases k with
      | true => obtain ⟨o2, e2, _, d2⟩ := h1; rw [e1] at e2; cases e2; rw [d1] at d2; cases d2
      | false => obtain ⟨o2, e2, _, d2⟩ := h1; rw [e1] at e2; cases e2; rw [d1] at d2; cases d2
    have nin : e ∉ [it, a] := fun z => by
      have cs : e = it ∨ e = a := by simpa using z
      exact cs.elim ne hea
    refine wpAny_pyNext_enum_itemD (drawsK hh k it a nea its.toArray) he ⟨h1, pa⟩ la ne nin fun v1 h' tk e1 he' g1 hT hsz kp => ?_
    have q1 : v1 = u := Option.some.inj (e1.symm.trans (by simpa using hu))
    subst q1
    refine ⟨_, rfl, wpAny_letOwnedTupleGo_enum (s := { s with heap := h', toks := tk + 1 }) he' fun h'' he'' sb => ?_⟩
    have hT2 : h''.get? s.heap.objs.size = some { cls := .type "tuple", data := .seq #[.int i tk, v1] } := (sb.2 _ (Nat.ne_of_gt elt)).trans hT
    have fresh : ObjOk X.prog X.w (upd H s.heap.objs.size (.tup [.int (i : Nat), x])) h'' s.heap.objs.size (.tup [.int (i : Nat), x]) :=
      ⟨by show 2 ≤ sizeLine; decide, [.int i tk, v1], .cons ⟨_, rfl⟩ (.cons ru .nil), ⟨_, hT2, rfl, _, rfl⟩⟩
    have I1 : Inv X pins σ (upd H s.heap.objs.size (.tup [.int (i : Nat), x])) { s with heap := h'', toks := tk + 1 } :=
      I.turnedNew (ch := [e, it]) (fun c o hb q => (sb.2 c (fun z => hb (by simp [z]))).trans (kp c o (fun z => hb (by simp [z])) (fun z => hb (by simp [z])) q)) hf (Nat.le_refl _) fresh
    refine ⟨.ref s.heap.objs.size, _, I1, rfl, ⟨_, x, rfl, I.hok.fresh (Nat.le_refl _), rfl, fun m hm => by rw [sqk_inj I hm qa]; exact hx⟩, ⟨⟨v1, ?_⟩, g1.1.at fun o q => (sb.2 _ (Ne.symm ne)).trans q, ne⟩, fun c hcm => ?_⟩
    · have ei : ((i + 1 : Nat) : Int) = (i : Int) + 1 := by omega
      rw [ei]
      exact he''
    · have lt : c < s.heap.objs.size := by
        have cs : c = e ∨ c = it := by simpa using hcm
        rcases cs with rfl | rfl
        · exact elt
        · obtain ⟨o, q, _⟩ := h1.obj; exact Heap.lt_size q
      rw [upd_ne (Nat.ne_of_lt lt)]
      exact (hf c hcm).1
  done := by
    intro X hP hw hK hc i pins s σ H E I hf st hg
    subst hP hw hK
    obtain ⟨⟨old, he⟩, h1, ne⟩ := st
    obtain ⟨xs, qa, le⟩ := hg
    obtain ⟨its, ra, pa, _⟩ := inv_sqk I qa
    have hh : X.A.in1.handled = none := I.ok.hd hc
    have e1 := ra.length
    have nea : a ≠ it := fun z => by
      obtain ⟨o, e1, n, d1⟩ := isK_le pa
      rw [z] at e1
      cases k with
      | true => obtain ⟨o2, e2, _, d2⟩ := h1; rw [e1] at e2; cases e2; rw [d1] at d2; cases d2
      | false => obtain ⟨o2, e2, _, d2⟩ := h1; rw [e1] at e2; cases e2; rw [d1] at d2; cases d2
    have ei : i = its.toArray.size := by
      rw [List.size_toArray]
      omega
    subst ei
    obtain ⟨f0, f1, f2, f3, f4, f5⟩ := hf it (by simp)
    exact wpAny_pyNext_enum_endD (drawsK hh k it a nea its.toArray) he ⟨h1, pa⟩ fun h' eb => ⟨rfl, I.turned (t' := s.toks) (fun b o hb q => eb b o hb q) f0 f1 f3 f4 f5⟩
  self := fun A i s Q E st h => by
    obtain ⟨⟨_, he⟩, _⟩ := st
    exact wpAny_pyIter_enum he h
def iEnumK (K : Frag) (ta : TA) : TI := fun σ H R => ta σ H fun vs H1 => ∃ k a xs, vs = [.ref a] ∧ SqK K H1 k a xs ∧ R (IteK K k a) H1
theorem pi_enumK {X : Cx} {e : Expr} {ta : TA} {p pos tpos : Pos} {elts : List Expr} {kk : Nat} (hg : Gl X "enumerate") (hm : X.mg "enumerate" = none) (ha : PA X [e] ta)
    (hs : starEach [e] X.env = [(false, eval e X.env)] := by rfl) : PI X (.Tuple elts kk tpos) (.Call (.Name "enumerate" p) [e] [] pos) (iEnumK X.K ta) := by
  refine ⟨fun pins s σ H R I h => Call_ (ld_blt I hg hm boot_enumerate (PyProof.Rows.callWith_type1 (thn (ha.run pos pins s σ H _ I h) fun us s1 ⟨vs, H1, I1, r1, q1⟩ => ?_) hs rfl))⟩
  obtain ⟨k, a, xs, rfl, qa, q⟩ := q1
  cases r1 with
  | cons r rr =>
    cases rr
    cases r
    obtain ⟨its, ra, pa, la⟩ := inv_sqk I1 qa
    refine call_enum1 (beginsK k a its.toArray) pa fun h' he g1 kp => wpAny_pyIter_enum he ?_
    have I2 : Inv X pins σ H1 { s1 with heap := h' } := I1.kept (t' := s1.toks) kp
    refine ⟨s1.heap.objs.size + 1, [s1.heap.objs.size + 1, s1.heap.objs.size], _, _, H1, rfl, I2, turn_enumK (Nat.ne_of_gt (Nat.lt_succ_of_lt la)), ⟨⟨_, he⟩, itK_new g1, Nat.succ_ne_self _⟩, fun c hcm => ?_, q⟩
    have cs : c = s1.heap.objs.size + 1 ∨ c = s1.heap.objs.size := by simpa using hcm
    have le : s1.heap.objs.size ≤ c := by
      rcases cs with rfl | rfl
      · exact Nat.le_add_right _ _
      · exact Nat.le_refl _
    exact I1.fpOk le (I1.hok.fresh le)
theorem for_enumK {K : Frag} {k : Bool} {a : Addr} {xs : List V} {g : TG} {tb : TS} {D : Ends} {σ : L2.St} {H : Hp} (Pv : Nat → L2.St → Hp → Prop) (h0 : Pv 0 σ H) (hq : ∀ i σ H, Pv i σ H → SqK K H k a xs)
    (hs : ∀ i x T σ H, xs[i]? = some x → Pv i σ H → H T = none → g (.ref T) σ (upd H T (.tup [.int (i : Nat), x])) fun σ2 H2 => tb { D with nx := Pv (i + 1), ct := Pv (i + 1), bk := D.nx } σ2 H2) (hd : ∀ σ H, Pv xs.length σ H → D.nx σ H) :
    ∃ W : Nat → Nat → L2.St → Hp → Prop, (∃ m, W 0 m σ H) ∧ ∀ i m σ H, W i m σ H →
      ((IteK K k a).stop i H ∧ D.nx σ H) ∨ ((IteK K k a).go i H ∧ ∃ N : L2.St → Hp → Prop, (∀ σ' H', N σ' H' → ∃ m', m' < m ∧ W (i + 1) m' σ' H') ∧ ∀ x H', (IteK K k a).yld i H x H' → g x σ H' fun σ2 H2 => tb { D with nx := N, ct := N, bk := D.nx } σ2 H2) := by
  refine ⟨fun i m σ H => m = xs.length - i ∧ i ≤ xs.length ∧ Pv i σ H, ⟨_, rfl, Nat.zero_le _, h0⟩, ?_⟩
  rintro i m σ H ⟨rfl, hi, p⟩
  have qa := hq i σ H p
  by_cases lt : i < xs.length
  · have hx : xs[i]? = some xs[i] := List.getElem?_eq_getElem lt
    refine .inr ⟨⟨xs, _, qa, hx⟩, Pv (i + 1), fun σ' H' p' => ⟨xs.length - (i + 1), by omega, rfl, lt, p'⟩, fun v H' yl => ?_⟩
    obtain ⟨T, x, rfl, hT, rfl, e1⟩ := yl
    exact hs i x T σ H (e1 xs qa) p hT
  · have e : i = xs.length := by omega
    subst e
    exact .inl ⟨⟨xs, qa, rfl⟩, hd σ H p⟩

/-! ### powers -/
def CPowX (i j : Int) : Prop := 0 ≤ j ∧ (Builtin.Int.intBits i : Int) * j ≤ 2 ^ 27
theorem op_powX {X : Cx} : OpR X (binaryOp .Pow) (rI CPowX fun i j => .int (i ^ j.toNat)) := opI fun _ _ _ _ _ _ _ hc q => pow_int hc.1 hc.2 q

/-! ### a written dict of ints -/
def KDi (K : Frag) (a : Addr) (kvs : List (Int × V)) : Prop := ∃ (es : Array DictEntry) (n : Nat), K.lookup a = some ⟨.type "dict", none, .dict es n, #[]⟩ ∧ (a == sysModules) = false ∧
  Paired (fun (p : Int × V) (e : DictEntry) => Value.isInt p.1 e.key = true ∧ e.hash = hashInt p.1 ∧ RelV p.2 e.val) kvs es.toList
theorem kdi_find {kvs : List (Int × V)} : ∀ {es : List DictEntry}, Paired (fun (p : Int × V) (e : DictEntry) => Value.isInt p.1 e.key = true ∧ e.hash = hashInt p.1 ∧ RelV p.2 e.val) kvs es → ∀ i : Int,
    match kvs.lookup i with
    | some v => ∃ u, (es.find? fun d => Value.isInt i d.key).map (·.val) = some u ∧ RelV v u
    | none => (es.find? fun d => Value.isInt i d.key).map (·.val) = none := by
  induction kvs with
  | nil =>
    intro es h i
    cases h
    rfl
  | cons p kvs ih =>
    intro es h i
    cases h with
    | cons h1 h2 =>
      rename_i e es
      obtain ⟨k1, _, k3⟩ := h1
      obtain ⟨t, ek⟩ := Value.isInt_shape k1
      rw [List.lookup_cons, List.find?_cons, ek]
      by_cases q : i = p.1
      · subst q
        rw [beq_self_eq_true]
        have z : Value.isInt p.1 (.int p.1 t) = true := by rw [← ek]; exact k1
        rw [z]
        exact ⟨_, rfl, k3⟩
      · have z : Value.isInt i (.int p.1 t) = false := by
          cases hz : Value.isInt i (.int p.1 t) with
          | false => rfl
          | true =>
            obtain ⟨t2, e2⟩ := Value.isInt_shape hz
            injection e2 with e3 _
            exact absurd e3.symm q
        have z2 : (i == p.1) = false := beq_eq_false_iff_ne.mpr q
        rw [z, z2]
        exact ih h2 i
theorem kdi_keys {kvs : List (Int × V)} : ∀ {es : List DictEntry}, Paired (fun (p : Int × V) (e : DictEntry) => Value.isInt p.1 e.key = true ∧ e.hash = hashInt p.1 ∧ RelV p.2 e.val) kvs es → ∀ e ∈ es, ∃ i, Value.isInt i e.key = true ∧ e.hash = hashInt i := by
  induction kvs with
  | nil =>
    intro es h e he
    cases h
    cases he
  | cons p kvs ih =>
    intro es h e he
    cases h with
    | cons h1 h2 =>
      rcases List.mem_cons.mp he with rfl | he
      · exact ⟨p.1, h1.1, h1.2.1⟩
      · exact ih h2 e he
section
variable {X : Cx}
theorem kdi_map {kvs : List (Int × V)} {a : Addr} {h : Heap} (kin : X.K.In h) (d : KDi X.K a kvs) : ∃ f : Int → Option Value, h.MapOf (PySem.intKind X.prog X.w) a f ∧ (a == sysModules) = false ∧
    ∀ i, match kvs.lookup i with
      | some v => ∃ u, f i = some u ∧ RelV v u
      | none => f i = none := by
  obtain ⟨es, n, lk, low, pr⟩ := d
  refine ⟨fun i => findBy Value.isInt es i, ⟨_, es, n, kin _ _ lk, ⟨rfl, rfl, rfl⟩, rfl, fun e he => kdi_keys pr e (Array.mem_toList_iff.mpr he), fun _ => rfl⟩, low, fun i => ?_⟩
  have q := kdi_find pr i
  obtain ⟨l⟩ := es
  unfold findBy
  have key : ∀ g : DictEntry → Bool, Array.find? g (⟨l⟩ : Array DictEntry) = l.find? g := fun g => List.find?_toArray ..
  simp only [key]
  exact q
def rIxI (K : Frag) : R2 := fun x y H Q => ∃ p i v kvs, x = .ref p ∧ y = .int i ∧ KDi K p kvs ∧ kvs.lookup i = some v ∧ Q v H
theorem ix_kdi : IxR X (rIxI X.K) := by
  intro value slice pins s σ H x y v u Q I rx ry h hs
  obtain ⟨p, i, r, kvs, rfl, rfl, kd, lk, q⟩ := h
  obtain rfl : v = Value.ref p := rx
  obtain ⟨t, rfl⟩ := ry
  obtain ⟨f, hm, low, hf⟩ := kdi_map I.kIn kd
  have hi := hf i
  rw [lk] at hi
  obtain ⟨w, e, rw'⟩ := hi
  exact tail_any hm.typeIs slot_dict_getitem.lookup (wpAny_getItem_of (show (PySem.intKind X.prog X.w).is i (.int i t) = true by simp [PySem.intKind, Value.isInt]) hm e ⟨r, H, I.tok _, rw', q⟩) hs
def rInI (K : Frag) : R2 := fun x y H Q => ∃ p i kvs, x = .int i ∧ y = .ref p ∧ KDi K p kvs ∧ Q (.bl (kvs.lookup i).isSome) H
theorem op_inI : OpR X (compareOp .In) (rInI X.K) := by
  intro pins s σ H x y v u Q I rx ry h
  obtain ⟨p, i, kvs, rfl, rfl, kd, q⟩ := h
  obtain rfl : u = Value.ref p := ry
  obtain ⟨t, rfl⟩ := rx
  obtain ⟨f, hm, low, hf⟩ := kdi_map I.kIn kd
  have hi := hf i
  refine wpAny_in_of (show (PySem.intKind X.prog X.w).is i (.int i t) = true by simp [PySem.intKind, Value.isInt]) low hm ?_
  cases e : kvs.lookup i with
  | none =>
    rw [e] at hi q
    rw [hi]
    exact ⟨.bl _, H, I.tok _, rfl, q⟩
  | some r =>
    rw [e] at hi q
    obtain ⟨z, e2, _⟩ := hi
    rw [e2]
    exact ⟨.bl _, H, I.tok _, rfl, q⟩

/-! ### o.f as a target -/
def gAtt (K : Frag) (ta : TE) (f : Str) : TG := fun v σ H Q => ta σ H fun x H1 => ∃ a C dx fs, x = .ref a ∧ H1 a = some (.ins C dx fs) ∧ Cls K C ∧ NoAttr K C f ∧ fs.length < 1000 ∧ Q σ (upd H1 a (.ins C dx (putF f v fs)))
theorem pg_att {o : Expr} {ta : TE} {f : Str} {pos : Pos} (ho : PE X o ta)
    (ha : ∀ v, assign (.Attribute o f pos) X.env v = (do
      let ov ← holding [v] (eval o X.env)
      standAt pos
      holding [v, ov] (setAttr ov f v)
      release [v, ov] []) := by intro _; rfl) : PG X (.Attribute o f pos) (gAtt X.K ta f) := by
  refine ⟨fun pins s σ H v u Q I r h => ?_⟩
  rw [ha]
  refine wpAny_bind (wpAny_holding (thn (ho.run pins s σ H _ I h) fun ov s1 ⟨x, H1, I1, r1, a, C, dx, fs, ex, ea, c, n, l, q⟩ => ?_))
  subst ex
  obtain rfl : ov = Value.ref a := r1
  refine wpAny_bind (wpAny_standAt (wpAny_bind (wpAny_holding (setattr_ok I1 ea c n l r fun s2 I2 => ?_))))
  exact wpAny_release ⟨σ, _, I2, q⟩
end
end OB

set_option Elab.async false
set_option linter.all false
set_option maxRecDepth 100000
set_option maxHeartbeats 4000000
/-! OB, part e: a reading gone through step by step. -/
namespace OB
open PySem PySem.Spec PyProof.Rows L2 PySem.W
def rInt : List V → Hp → VK → Prop := fun xs H Q => (∃ i, xs = [.int i] ∧ Q (.int i) H) ∨ ∃ k, xs = [.bl k] ∧ Q (.int (if k then 1 else 0)) H
def rAbs : List V → Hp → VK → Prop := fun xs H Q => ∃ i, xs = [.int i] ∧ Q (.int (if i < 0 then -i else i)) H
def rMax2 : List V → Hp → VK → Prop := fun xs H Q => ∃ i j, xs = [.int i, .int j] ∧ Q (.int (if j > i then j else i)) H
def rMin2 : List V → Hp → VK → Prop := fun xs H Q => ∃ i j, xs = [.int i, .int j] ∧ Q (.int (if j < i then j else i)) H
def rLen (K : Frag) : List V → Hp → VK → Prop := fun xs H Q => ∃ p ys, xs = [.ref p] ∧ (SqL K H p ys ∨ SqT K H p ys) ∧ Q (.int ys.length) H
def rTuple (K : Frag) : List V → Hp → VK → Prop := fun xs H Q => ∃ p ys, xs = [.ref p] ∧ ((SqL K H p ys ∧ ∀ l, H l = none → Q (.ref l) (upd H l (.tup ys))) ∨ (SqT K H p ys ∧ Q (.ref p) H))
def rList (K : Frag) : List V → Hp → VK → Prop := fun xs H Q => ∃ p ys, xs = [.ref p] ∧ (SqL K H p ys ∨ SqT K H p ys) ∧ ∀ l, H l = none → Q (.ref l) (upd H l (.lst ys))
def rDivmod : List V → Hp → VK → Prop := fun xs H Q => ∃ i j, xs = [.int i, .int j] ∧ CDivP i j ∧ ∀ p, H p = none → Q (.ref p) (upd H p (.tup [.int (i / j), .int (i % j)]))
def rNewT (xs : List V) (H : Hp) (Q : VK) : Prop := xs.length ≤ sizeLine ∧ ∀ p, H p = none → Q (.ref p) (upd H p (.tup xs))
def rNewL (xs : List V) (H : Hp) (Q : VK) : Prop := xs.length ≤ sizeLine ∧ ∀ p, H p = none → Q (.ref p) (upd H p (.lst xs))
def rFld (K : Frag) (f : Str) (x : V) (H : Hp) (Q : VK) : Prop := ∃ a C dx fs v, x = .ref a ∧ H a = some (.ins C dx fs) ∧ Cls K C ∧ NoAttr K C f ∧ fs.lookup f = some v ∧ Q v H
def rPut (K : Frag) (f : Str) (v x : V) (H : Hp) (QH : Hp → Prop) : Prop := ∃ a C dx fs, x = .ref a ∧ H a = some (.ins C dx fs) ∧ Cls K C ∧ NoAttr K C f ∧ fs.length < 1000 ∧ QH (upd H a (.ins C dx (putF f v fs)))
section
variable {X : Cx}
theorem c_int : CallR X (.type "int") rInt := call_int1
theorem c_abs : CallR X (.builtin "abs") rAbs := call_abs
theorem c_max (hc : X.calm = true) : CallR X (.builtin "max") rMax2 := call_max2 hc
theorem c_min (hc : X.calm = true) : CallR X (.builtin "min") rMin2 := call_min2 hc
theorem c_len : CallR X (.builtin "len") (OB.rLen X.K) := call_len_seq
theorem c_tuple : CallR X (.type "tuple") (rTuple X.K) := call_tuple_of
theorem c_list : CallR X (.type "list") (rList X.K) := call_list_of
theorem c_divmod : CallR X (.builtin "divmod") rDivmod := call_divmodW
end
section
variable {K : Frag} {F : List (Addr × HO)} {G : List Ft} {σ : L2.St} {H : Hp} {Q : VK} {D : Ends} {v x y : V} {vs ws zs : List V} {i j n m : Nat} {a b c : Int} {p q : Bool} {P R : Prop}
  {ta tb tc te tv : TE} {t tk : TA} {tt u : TT} {t1 t2 : TS} {r r' : R2} {rc : List V → Hp → VK → Prop} {ru : V → Hp → VK → Prop} {rm : V → List V → Hp → VK → Prop} {sp : Sp} {E : XK} {ix : List Nat} {ad : Addr} {mn : Str} {T : String}
  {QB : Bool → Hp → Prop} {QL : List V → Hp → Prop} {QS : L2.St → Hp → Prop} {tg : TG} {tgs : TGs} {QI : It → Hp → Prop} {g : Int → Int → V} {C : Int → Int → Prop} {ds : List PyData} {d e : PyData}
/-! expressions -/
theorem g_start {ts : TS} {τ : L2.St} (e : τ = σ) (k : ts D σ H) : ts D τ H := e ▸ k
theorem g_var (h : σ[i]? = some (some v)) (k : Q v H) : tVar i σ H Q := ⟨v, h, k⟩
theorem g_c (k : Q v H) : tC v σ H Q := k
theorem g_op (k : ta σ H fun x H1 => tb σ H1 fun y H2 => r x y H2 Q) : tOp r ta tb σ H Q := k
theorem g_un (k : ta σ H fun x H1 => ru x H1 Q) : tUn ru ta σ H Q := k
theorem g_nil (k : QL [] H) : tNil σ H QL := k
theorem g_cons (k : ta σ H fun x H1 => t σ H1 fun xs H2 => QL (x :: xs) H2) : tCons ta t σ H QL := k
theorem g_cb (k : t σ H fun vs H1 => rc vs H1 Q) : tCB rc t σ H Q := k
theorem g_if (k : tt σ H fun c H1 => if c = true then ta σ H1 Q else tb σ H1 Q) : tIf tt ta tb σ H Q := k
theorem g_andV (k : ta σ H fun x H1 => ∃ c, x = .bl c ∧ if c = true then tb σ H1 Q else Q (.bl false) H1) : tAndV ta tb σ H Q := k
theorem g_orV (k : ta σ H fun x H1 => ∃ c, x = .bl c ∧ if c = true then Q (.bl true) H1 else tb σ H1 Q) : tOrV ta tb σ H Q := k
theorem g_notV (k : ta σ H fun x H1 => ∃ c, x = .bl c ∧ Q (.bl (!c)) H1) : tNotV ta σ H Q := k
theorem g_chain (k : ta σ H fun x H1 => tb σ H1 fun y H2 => r x y H2 fun z H3 => ∃ k, z = .bl k ∧ (if k = true then tc σ H3 fun w H4 => r' y w H4 Q else Q (.bl false) H3)) : tChain r r' ta tb tc σ H Q := k
theorem g_tup (k : t σ H fun xs H1 => rNewT xs H1 Q) : tTup t σ H Q := k
theorem g_lst (k : t σ H fun xs H1 => rNewL xs H1 Q) : tLst t σ H Q := k
theorem g_cg (k : t σ H fun vs H1 => tk σ H1 fun zs H2 => vs.length = n ∧ zs.length = m ∧ sp (pick ix (vs ++ zs)) H2 Q E) : tCg n m ix sp E t tk σ H Q := k
theorem g_mg (k : ta σ H fun x H1 => ∃ a dx fs, x = .ref a ∧ H1 a = some (.ins ad dx fs) ∧ fs.lookup mn = none ∧
  t σ H1 fun vs H2 => tk σ H2 fun zs H3 => (x :: vs).length = n ∧ zs.length = m ∧ sp (pick ix ((x :: vs) ++ zs)) H3 Q E) : tMg ad mn n m ix sp E ta t tk σ H Q := k
theorem g_kg (k : t σ H fun vs H1 => tk σ H1 fun zs H2 => vs.length + 1 = n ∧ zs.length = m ∧
  ∀ x dx, H2 x = none → H2 dx = none → dx ≠ x → sp (pick ix ((.ref x :: vs) ++ zs)) (upd (upd H2 dx (.own x)) x (.ins ad dx [])) (fun v H3 => v = .non ∧ Q (.ref x) H3) E) : tKg ad n m ix sp E t tk σ H Q := k
theorem g_pg (k : ta σ H fun y H1 => ∃ a dx fs, y = .ref a ∧ H1 a = some (.ins ad dx fs) ∧ sp [.ref a] H1 Q E) : tPg ad sp E ta σ H Q := k
theorem g_bm (k : ta σ H fun x H1 => tyV K T x H1 ∧ t σ H1 fun xs H2 => rm x xs H2 Q) : tBM K T rm ta t σ H Q := k
theorem g_bm0 (k : ta σ H fun x H1 => tyV K T x H1 ∧ rm x [] H1 Q) : tBM0 K T rm ta σ H Q := k
theorem g_fld {f : Str} (k : ta σ H fun x H1 => rFld K f x H1 Q) : tFld K ta f σ H Q := k
theorem g_sl {rs : V → Option Int → Option Int → Hp → VK → Prop} {tl th : TO} (k : te σ H fun x H1 => tl σ H1 fun l H2 => th σ H2 fun u H3 => rs x l u H3 Q) : tSl rs te tl th σ H Q := k
theorem g_nopart {QO : Option Int → Hp → Prop} (k : QO none H) : tNoPart σ H QO := k
theorem g_part {QO : Option Int → Hp → Prop} (k : te σ H fun x H1 => ∃ i, x = .int i ∧ QO (some i) H1) : tPart te σ H QO := k
theorem g_pint {a : Int} {f : Int → Prop} (k : f a) : ∃ i, V.int a = .int i ∧ f i := ⟨a, rfl, k⟩
theorem g_star (k : te σ H fun x H1 => ∃ p xs, x = V.ref p ∧ (SqT K H1 p xs ∨ SqL K H1 p xs) ∧ t σ H1 fun ys H2 => QL (xs ++ ys) H2) : StX.tStar K te t σ H QL := k
/-! tests -/
theorem g_test (k : te σ H fun x H' => ∃ k, x = .bl k ∧ QB k H') : tTest te σ H QB := k
theorem g_B (k : te σ H fun x H' => ∃ k, x = .bl k ∧ QB k H') : tB te σ H QB := k
theorem g_and (k : tt σ H fun c H1 => if c = true then u σ H1 QB else QB false H1) : tAnd tt u σ H QB := k
theorem g_or (k : tt σ H fun c H1 => if c = true then QB true H1 else u σ H1 QB) : tOr tt u σ H QB := k
theorem g_not (k : tt σ H fun c H1 => QB (!c) H1) : tNot tt σ H QB := k
theorem g_yes (k : QB true H) : tYes σ H QB := k
theorem g_bl (k : QB p H) : ∃ c, V.bl p = .bl c ∧ QB c H := ⟨p, rfl, k⟩
theorem g_blx {f : Bool → Prop} (k : f p) : ∃ c, V.bl p = .bl c ∧ f c := ⟨p, rfl, k⟩
/-! statements -/
theorem g_seq (k : t1 { D with nx := t2 D } σ H) : tSeq t1 t2 D σ H := k
theorem g_asg (k : te σ H fun x H1 => tg x σ H1 D.nx) : tAsg te tg D σ H := k
theorem g_name (k : QS (σ.set i (some v)) H) : gName i v σ H QS := k
theorem g_drop (k : te σ H fun _ H1 => D.nx σ H1) : tDrop te D σ H := k
theorem g_ret (k : te σ H D.rt) : tRet te D σ H := k
theorem g_retN (k : D.rt .non H) : tRetN D σ H := k
theorem g_ifS (k : tt σ H fun b H1 => if b = true then t1 D σ H1 else t2 D σ H1) : tIfS tt t1 t2 D σ H := k
theorem g_next (k : D.nx σ H) : tNext D σ H := k
theorem g_cont (k : D.ct σ H) : tCont D σ H := k
theorem g_break (k : D.bk σ H) : tBreak D σ H := k
theorem g_par (k : t σ H fun vs H1 => ∃ v w, vs = [v, w] ∧ D.nx ((σ.set i (some v)).set j (some w)) H1) : tPar i j t D σ H := k
theorem g_par2 {N : V → V → Prop} (k : N x y) : ∃ v w, [x, y] = [v, w] ∧ N v w := ⟨x, y, rfl, k⟩
theorem g_par3 {l : Nat} (k : t σ H fun vs H1 => ∃ u v w, vs = [u, v, w] ∧ D.nx (((σ.set i (some u)).set j (some v)).set l (some w)) H1) : tPar3 i j l t D σ H := k
theorem g_par33 {z : V} {N : V → V → V → Prop} (k : N x y z) : ∃ u v w, [x, y, z] = [u, v, w] ∧ N u v w := ⟨x, y, z, rfl, k⟩
theorem g_aug {ti : TIp} (h : σ[i]? = some (some v)) (k : te σ H fun y H1 => ti v y H1 fun z H2 => D.nx (σ.set i (some z)) H2) : tAug i te ti D σ H := ⟨v, h, k⟩
theorem g_gnil (k : QS σ H) : gNil [] σ H QS := ⟨rfl, k⟩
theorem g_gcons (k : tg v σ H fun σ' H' => tgs vs σ' H' QS) : gCons tg tgs (v :: vs) σ H QS := ⟨v, vs, rfl, k⟩
theorem g_nx {A B C : L2.St → Hp → Prop} {R : VK} (k : A σ H) : Ends.nx ⟨A, R, B, C⟩ σ H := k
theorem g_rt {A B C : L2.St → Hp → Prop} {R : VK} (k : R v H) : Ends.rt ⟨A, R, B, C⟩ v H := k
theorem g_bk {A B C : L2.St → Hp → Prop} {R : VK} (k : B σ H) : Ends.bk ⟨A, R, B, C⟩ σ H := k
theorem g_ct {A B C : L2.St → Hp → Prop} {R : VK} (k : C σ H) : Ends.ct ⟨A, R, B, C⟩ σ H := k
/-! operators by values -/
theorem g_I0 (k : Q (g a b) H) : rI0 g (.int a) (.int b) H Q := ⟨a, b, rfl, rfl, k⟩
theorem g_I (h : C a b) (k : Q (g a b) H) : rI C g (.int a) (.int b) H Q := ⟨a, b, rfl, rfl, h, k⟩
theorem g_U {f : Int → V} (k : Q (f a) H) : rU f (.int a) H Q := ⟨a, rfl, k⟩
theorem g_ipI {f : Int → Int → Int} (k : Q (.int (f a b)) H) : ipI f (.int a) (.int b) H Q := ⟨a, b, rfl, rfl, k⟩
theorem g_rAdd (k : Q (.int (a + b)) H) : L2.rAdd (.int a) (.int b) H Q := ⟨a, b, rfl, rfl, k⟩
theorem g_rSub (k : Q (.int (a - b)) H) : L2.rSub (.int a) (.int b) H Q := ⟨a, b, rfl, rfl, k⟩
theorem g_eqI (k : Q (.bl (decide (a = b))) H) : rEq (.int a) (.int b) H Q := ⟨rfl, by
  have e : decide (V.int a = V.int b) = decide (a = b) := by simp
  rw [e]
  exact k⟩
theorem g_neI (k : Q (.bl (decide (a ≠ b))) H) : rNe (.int a) (.int b) H Q := ⟨rfl, by
  have e : (!decide (V.int a = V.int b)) = decide (a ≠ b) := by simp
  rw [e]
  exact k⟩
theorem g_eqS {s z : Str} (k : Q (.bl (decide (s = z))) H) : rEq (.str s) (.str z) H Q := ⟨rfl, by
  have e : decide (V.str s = V.str z) = decide (s = z) := by simp
  rw [e]
  exact k⟩
theorem g_neS {s z : Str} (k : Q (.bl (decide (s ≠ z))) H) : rNe (.str s) (.str z) H Q := ⟨rfl, by
  have e : (!decide (V.str s = V.str z)) = decide (s ≠ z) := by simp
  rw [e]
  exact k⟩
theorem g_ite (h1 : p = true → P) (h2 : p = false → R) : if p = true then P else R := by
  cases p with
  | true => rw [if_pos rfl]; exact h1 rfl
  | false => rw [if_neg Bool.false_ne_true]; exact h2 rfl
theorem g_iteD {A : Prop} [Decidable A] (h1 : A → P) (h2 : ¬ A → R) : if decide A = true then P else R := by
  by_cases h : A
  · rw [if_pos (decide_eq_true h)]; exact h1 h
  · rw [if_neg (by rw [decide_eq_false h]; exact Bool.false_ne_true)]; exact h2 h
theorem g_T (h : p = true) (k : P) : if p = true then P else R := by rw [if_pos h]; exact k
theorem g_F (h : p = false) (k : R) : if p = true then P else R := by rw [if_neg (by rw [h]; exact Bool.false_ne_true)]; exact k
theorem g_TD {A : Prop} [Decidable A] (h : A) (k : P) : if decide A = true then P else R := g_T (decide_eq_true h) k
theorem g_FD {A : Prop} [Decidable A] (h : ¬ A) (k : R) : if decide A = true then P else R := g_F (decide_eq_false h) k
theorem g_tt (k : P) : if true = true then P else R := g_T rfl k
theorem g_ff (k : R) : if false = true then P else R := g_F rfl k
/-! built-in functions by values -/
theorem g_int (k : Q (.int a) H) : rInt [.int a] H Q := .inl ⟨a, rfl, k⟩
theorem g_intB (k : Q (.int (if p then 1 else 0)) H) : rInt [.bl p] H Q := .inr ⟨p, rfl, k⟩
theorem g_abs (k : Q (.int (if a < 0 then -a else a)) H) : rAbs [.int a] H Q := ⟨a, rfl, k⟩
theorem g_max (k : Q (.int (if b > a then b else a)) H) : rMax2 [.int a, .int b] H Q := ⟨a, b, rfl, k⟩
theorem g_min (k : Q (.int (if b < a then b else a)) H) : rMin2 [.int a, .int b] H Q := ⟨a, b, rfl, k⟩
theorem g_lenL {l : Addr} (h : SqL K H l vs) (k : Q (.int vs.length) H) : OB.rLen K [.ref l] H Q := ⟨l, vs, rfl, .inl h, k⟩
theorem g_lenT {l : Addr} (h : SqT K H l vs) (k : Q (.int vs.length) H) : OB.rLen K [.ref l] H Q := ⟨l, vs, rfl, .inr h, k⟩
theorem g_divmod (S : Sy K F G H) (h : CDivP a b) (k : ∀ p H', H p = none → Sy K F (.dat [.ref p] [.tuple [.int (a / b), .int (a % b)]] :: G) H' → Q (.ref p) H') : rDivmod [.int a, .int b] H Q :=
  ⟨a, b, rfl, h, fun p hp => k p _ hp (S.lay hp (.cons (.int _) (.cons (.int _) .nil)) rfl)⟩
/-! what stands -/
theorem g_ixL {l : Addr} (h : SqL K H l vs) (e : atI vs a = some v) (k : Q v H) : rIxL K (.ref l) (.int a) H Q := ⟨l, vs, a, v, rfl, rfl, h, e, k⟩
theorem g_ixT {l : Addr} (h : SqT K H l vs) (e : atI vs a = some v) (k : Q v H) : rIxT K (.ref l) (.int a) H Q := ⟨l, vs, a, v, rfl, rfl, h, e, k⟩
theorem g_setL {l : Addr} {QH : Hp → Prop} (h : H l = some (.lst vs)) (e : ixN vs.length a = some j) (k : QH (upd H l (.lst (vs.set j v)))) : rSetL (.ref l) (.int a) v H QH := ⟨l, vs, a, j, rfl, rfl, h, e, k⟩
theorem g_gsub {ts : TSet} {to ti : TE} (k : to σ H fun o H1 => ti σ H1 fun i H2 => ts o i v H2 fun H3 => QS σ H3) : gSub to ti ts v σ H QS := k
/-- a new tuple of data -/
theorem g_newT (S : Sy K F G H) (hd : DpAll K H vs ds) (hi : immAll ds = true) (hl : vs.length ≤ 100000) (k : ∀ p H', H p = none → Sy K F (.dat [.ref p] [.tuple ds] :: G) H' → Q (.ref p) H') :
    rNewT vs H Q :=
  ⟨Nat.le_trans hl (by decide), fun p hp => k p _ hp (S.lay hp hd hi)⟩
/-- a new list -/
theorem g_newL (S : Sy K F G H) (hl : vs.length ≤ 100000) (k : ∀ p H', H p = none → Sy K ((p, .lst vs) :: F) G H' → Q (.ref p) H') :
    rNewL vs H Q :=
  ⟨Nat.le_trans hl (by decide), fun p hp => k p _ hp (S.push hp)⟩
/-- a call -/
theorem g_call (h1 : vs.length = n) (h2 : zs.length = m) (k : sp (pick ix (vs ++ zs)) H Q E) : vs.length = n ∧ zs.length = m ∧ sp (pick ix (vs ++ zs)) H Q E := ⟨h1, h2, k⟩
/-- data unpacked -/
theorem g_unp {l : Addr} (S : Sy K F G H) (h : Dp K H (.ref l) (.tuple ds)) (m : immAll ds = true) (hl : ds.length = n) (k : ∀ xs, DpAll K H xs ds → Sy K F (.dat xs ds :: G) H → tgs xs σ H QS) : gTup K n tgs (.ref l) σ H QS := by
  obtain ⟨a, xs, e, h1, h2⟩ := dp_tuple h
  cases e
  exact ⟨l, xs, rfl, h1, (dps_length h2).trans hl, k xs h2 (S.fact h2 m)⟩
theorem g_unpT {l : Addr} (h : SqT K H l vs) (hl : vs.length = n) (k : tgs vs σ H QS) : gTup K n tgs (.ref l) σ H QS := ⟨l, vs, rfl, h, hl, k⟩
/-- a pair that an iterator has just made -/
theorem g_pair {l : Addr} (S : Sy K F G H) (hl : H l = none) (k : ∀ H', Sy K F (.tq l [x, y] :: G) H' → tgs [x, y] σ H' QS) : gTup K 2 tgs (.ref l) σ (upd H l (.tup [x, y])) QS :=
  g_unpT (.inl (.inl upd_same)) rfl (k _ ((S.over hl).add (.tq l [x, y]) (.inl (.inl upd_same))))
theorem g_neN {a b : Nat} (h : a = b) (k : R) : if decide ((a : Int) ≠ (b : Int)) = true then P else R := g_FD (fun z => z (by rw [h])) k
theorem g_neN' {a : Nat} {c : Int} (h : (a : Int) = c) (k : R) : if decide ((a : Int) ≠ c) = true then P else R := g_FD (fun z => z h) k
/-- append, extend -/
theorem g_app {l : Addr} (h : H l = some (.lst vs)) (hl : vs.length < 100000) (k : Q .non (upd H l (.lst (vs ++ [v])))) : rAppend (.ref l) [v] H Q := ⟨l, vs, v, rfl, rfl, h, Nat.lt_of_lt_of_le hl (by decide), k⟩
theorem g_ext {l o : Addr} (h : H l = some (.lst vs)) (h2 : H o = some (.lst ws)) (hl : vs.length + ws.length ≤ 100000) (k : Q .non (upd H l (.lst (vs ++ ws)))) : rExtend (.ref l) [.ref o] H Q := ⟨l, o, vs, ws, rfl, rfl, h, h2, Nat.le_trans hl (by decide), k⟩
/-- the same, what stands carried on -/
theorem g_setLS {l : Addr} {QH : Hp → Prop} {f : Nat} (S : Sy K F G H) (h : F[f]? = some (l, .lst vs)) (e : ixN vs.length a = some j) (k : ∀ H', Sy K (F.set f (l, .lst (vs.set j v))) G H' → (F.set f (l, .lst (vs.set j v)))[f]? = some (l, .lst (vs.set j v)) → QH H') : rSetL (.ref l) (.int a) v H QH :=
  g_setL (S.at f h) e (k _ (S.put f h rfl) (List.getElem?_set_self (List.getElem?_eq_some_iff.mp h).1))
theorem g_appS {l : Addr} {f : Nat} (S : Sy K F G H) (h : F[f]? = some (l, .lst vs)) (hl : vs.length < 100000) (k : ∀ H', Sy K (F.set f (l, .lst (vs ++ [v]))) G H' → Q .non H') : rAppend (.ref l) [v] H Q :=
  g_app (S.at f h) hl (k _ (S.put f h rfl))
theorem g_extS {l o : Addr} {f : Nat} (S : Sy K F G H) (h : F[f]? = some (l, .lst vs)) (h2 : H o = some (.lst ws)) (hl : vs.length + ws.length ≤ 100000) (k : ∀ H', Sy K (F.set f (l, .lst (vs ++ ws))) G H' → Q .non H') : rExtend (.ref l) [.ref o] H Q :=
  g_ext (S.at f h) h2 hl (k _ (S.put f h rfl))
theorem g_fldS {l : Addr} {f : Str} {C dx : Addr} {fs : List (Str × V)} (h : H l = some (.ins C dx fs)) (c : Cls K C) (n : NoAttr K C f) (e : fs.lookup f = some v) (k : Q v H) :
    rFld K f (.ref l) H Q := ⟨l, C, dx, fs, v, rfl, h, c, n, e, k⟩
theorem g_att {f : Str} (k : ta σ H fun x H1 => rPut K f v x H1 fun H2 => QS σ H2) : gAtt K ta f v σ H QS := k
theorem g_sfld {f : Str} (k : tv σ H fun y H1 => ta σ H1 fun x H2 => rPut K f y x H2 fun H3 => D.nx σ H3) : sFld K ta tv f D σ H := k
theorem g_attS {l : Addr} {f : Str} {C dx : Addr} {fs : List (Str × V)} {i : Nat} {QH : Hp → Prop} (S : Sy K F G H) (h : F[i]? = some (l, .ins C dx fs)) (c : Cls K C) (n : NoAttr K C f) (hl : fs.length < 1000) (k : ∀ H', Sy K (F.set i (l, .ins C dx (putF f v fs))) G H' → (F.set i (l, .ins C dx (putF f v fs)))[i]? = some (l, .ins C dx (putF f v fs)) → QH H') :
    rPut K f v (.ref l) H QH :=
  ⟨l, C, dx, fs, rfl, S.at i h, c, n, hl, k _ (S.put i h rfl) (List.getElem?_set_self (List.getElem?_eq_some_iff.mp h).1)⟩
def rAugE (C a : Addr) (f : Str) (z : V) (H : Hp) (QH : Hp → Prop) : Prop := ∃ dx' fs', H a = some (.ins C dx' fs') ∧ fs'.length < 1000 ∧ QH (upd H a (.ins C dx' (putF f z fs')))
def rAugF (K : Frag) (f : Str) (x : V) (H : Hp) (R : Addr → Addr → V → Prop) : Prop := ∃ a C dx fs v, x = .ref a ∧ H a = some (.ins C dx fs) ∧ Cls K C ∧ NoAttr K C f ∧ fs.lookup f = some v ∧ R C a v
theorem g_faug {f : Str} {ta tv : TE} {rd : V → V → Hp → VK → Prop} (k : ta σ H fun x H1 => rAugF K f x H1 fun C a v => tv σ H1 fun y H2 => rd v y H2 fun z H3 => rAugE C a f z H3 fun H4 => D.nx σ H4) : sFldAug K ta tv rd f D σ H := k
theorem g_augS {l : Addr} {f : Str} {C dx : Addr} {fs : List (Str × V)} {R : Addr → Addr → V → Prop} (h : H l = some (.ins C dx fs)) (c : Cls K C) (n : NoAttr K C f) (e : fs.lookup f = some v) (k : R C l v) : rAugF K f (.ref l) H R := ⟨l, C, dx, fs, v, rfl, h, c, n, e, k⟩
theorem g_augE {l : Addr} {f : Str} {C dx : Addr} {fs : List (Str × V)} {i : Nat} {QH : Hp → Prop} (S : Sy K F G H) (h : F[i]? = some (l, .ins C dx fs)) (hl : fs.length < 1000) (k : ∀ H', Sy K (F.set i (l, .ins C dx (putF f v fs))) G H' → (F.set i (l, .ins C dx (putF f v fs)))[i]? = some (l, .ins C dx (putF f v fs)) → QH H') : rAugE C l f v H QH :=
  ⟨dx, fs, S.at i h, hl, k _ (S.put i h rfl) (List.getElem?_set_self (List.getElem?_eq_some_iff.mp h).1)⟩
theorem g_tyl {l : Addr} (h : SqL K H l vs) (k : P) : tyV K "list" (.ref l) H ∧ P := ⟨.inl ⟨rfl, _, h⟩, k⟩
theorem g_tup0 {l : Addr} (S : Sy K F G H) (h : SqL K H l vs) (hd : DpAll K H vs ds) (hi : immAll ds = true) (k : ∀ p H', H p = none → Sy K F (.dat [.ref p] [.tuple ds] :: G) H' → Q (.ref p) H') :
    rTuple K [.ref l] H Q :=
  ⟨l, vs, rfl, .inl ⟨h, fun p hp => k p _ hp (S.lay hp hd hi)⟩⟩
theorem g_sum {l : Addr} {ns : List Int} (h : SqL K H l (ns.map V.int)) (k : Q (.int ns.sum) H) : rSum K [.ref l] H Q := ⟨l, ns, rfl, h, k⟩
theorem g_all {l : Addr} {bs : List Bool} (h : SqL K H l (bs.map V.bl)) (k : Q (.bl (bs.all id)) H) : rAll K [.ref l] H Q := ⟨l, bs, rfl, h, k⟩
theorem g_repr (h : Dp K H v d) (s : d.showable = true) (hn : d.hasDict = false) (hd : d.depth ≤ 60) (hl : d.shown.length ≤ sizeLine) (k : Q (.str d.shown) H) : rRepr K [v] H Q := ⟨v, d, rfl, h, s, hn, hd, hl, k⟩
end
/-! any subscript -/
def rIxU (K : Frag) : R2 := fun x y H Q => rIxL K x y H Q ∨ rIxT K x y H Q ∨ rIxI K x y H Q ∨ rIxS x y H Q
theorem ix_U {X : Cx} : IxR X (rIxU X.K) := by
  intro value slice pins s σ H x y v u Q I rx ry h hs
  rcases h with h | h | h | h
  · exact ix_list value slice pins s σ H x y v u Q I rx ry h hs
  · exact ix_tup value slice pins s σ H x y v u Q I rx ry h hs
  · exact ix_kdi value slice pins s σ H x y v u Q I rx ry h hs
  · exact ix_str value slice pins s σ H x y v u Q I rx ry h hs
/-- any slice -/
def rSlU (K : Frag) : V → Option Int → Option Int → Hp → VK → Prop := fun x lo hi H Q => rSlA K x lo hi H Q ∨ rSlL K x lo hi H Q
theorem sl_U {X : Cx} : SlR X (rSlU X.K) := by
  intro pins s σ H x v vl vu lo hi sl Q I rx hs pl pu h
  rcases h with h | h
  · exact sl_tupA pins s σ H x v vl vu lo hi sl Q I rx hs pl pu h
  · exact sl_list pins s σ H x v vl vu lo hi sl Q I rx hs pl pu h
theorem pg_tupK {X : Cx} {K : Frag} (hK : X.K = K) {es : List Expr} {k pos : _} {t : TGs} {n : Nat} (hc : X.calm = true) (h : PGs X es t)
    (hn : (assignEach es X.env).length = n := by rfl) (hst : (assignEach es X.env).findIdx? (·.1) = none := by rfl) : PG X (.Tuple es k pos) (gTup K n t) := hK ▸ pg_tup hc h hn hst
theorem ix_UK {X : Cx} {K : Frag} (h : X.K = K) : IxR X (rIxU K) := h ▸ ix_U
theorem sl_UK {X : Cx} {K : Frag} (h : X.K = K) : SlR X (rSlU K) := h ▸ sl_U
theorem toK {X : Cx} {K : Frag} {f : Value} {r : Frag → List V → Hp → VK → Prop} (h : X.K = K) (c : CallR X f (r X.K)) : CallR X f (r K) := h ▸ c
section
variable {K : Frag} {F : List (Addr × HO)} {G : List Ft} {H : Hp} {Q : VK} {vs : List V} {v : V} {a : Int} {l : Addr}
theorem g_ixUL (h : SqL K H l vs) (e : atI vs a = some v) (k : Q v H) : rIxU K (.ref l) (.int a) H Q := .inl (g_ixL h e k)
theorem g_ixUT (h : SqT K H l vs) (e : atI vs a = some v) (k : Q v H) : rIxU K (.ref l) (.int a) H Q := .inr (.inl (g_ixT h e k))
theorem g_ixUI {kvs : List (Int × V)} (h : KDi K l kvs) (e : kvs.lookup a = some v) (k : Q v H) : rIxU K (.ref l) (.int a) H Q := .inr (.inr (.inl ⟨l, a, v, kvs, rfl, rfl, h, e, k⟩))
theorem g_slT {lo hi : Option Int} {ys : List V} (S : Sy K F G H) (h : SqT K H l vs) (hw : Nat.beq (HT.sIx vs.length 0 lo) 0 = false) (e : cutV vs lo hi = ys) (k : ∀ p H', Sy K F (.tq p ys :: G) H' → Q (.ref p) H') : rSlU K (.ref l) lo hi H Q := by
  subst e
  refine .inl ⟨l, vs, rfl, h, fun z => ?_, fun _ p hp => k p _ ((S.over hp).add (.tq p _) (.inl (.inl upd_same)))⟩
  rw [z.1] at hw
  exact Bool.noConfusion hw
theorem atI_nn {α : Type} {xs : List α} {i : Int} {x : α} (h0 : 0 ≤ i) (h : xs[i.toNat]? = some x) : atI xs i = some x := by
  have hl := (List.getElem?_eq_some_iff.mp h).1
  unfold atI ixN
  rw [if_pos h0, if_pos (by omega)]
  exact h
theorem atI_ints {ns : List Int} {i : Int} (h0 : 0 ≤ i) (h1 : i < ns.length) : ∃ n, n ∈ ns ∧ atI (ns.map V.int) i = some (.int n) := by
  have hl : i.toNat < ns.length := by omega
  refine ⟨ns[i.toNat], List.getElem_mem hl, atI_nn h0 ?_⟩
  rw [List.getElem?_map, List.getElem?_eq_getElem hl]
  rfl
theorem cpow_ok {i j : Int} {a : Nat} (h : i.natAbs < 2 ^ a) (h0 : 0 ≤ j) (h1 : (a : Int) * j ≤ 2 ^ 27) : CPowX i j :=
  ⟨h0, Int.le_trans (Int.mul_le_mul_of_nonneg_right (Int.ofNat_le.mpr (PyProof.Rows.intBits_le h)) h0) h1⟩
theorem cdiv_ok {i j : Int} (h : 0 < j) (h2 : j < 2 ^ 64) : CDivW i j := wide_div (b := 64) h (by omega) (by decide) (by decide)
end
/-! isinstance -/
section
variable {K : Frag} {H : Hp} {Q : VK}
theorem cdivp_ok {i j : Int} (h : 0 < j) (h0 : 0 ≤ i) (h1 : i < 2 ^ 200) : CDivP i j :=
  divp_ok h (Nat.le_trans (PyProof.Rows.intBits_le (k := 200) (by omega)) (by omega))
theorem isi_int {a : Int} (k : Q (.bl true) H) : rIsi K [.int a, .ty "int"] H Q := ⟨_, _, _, _, true, rfl, .ty "int", .base (.int a), kit_ty (by decide +kernel), k⟩
theorem isi_intB {a : Int} (k : Q (.bl false) H) : rIsi K [.int a, .ty "bool"] H Q := ⟨_, _, _, _, false, rfl, .ty "bool", .base (.int a), kit_ty (by decide +kernel), k⟩
theorem isi_tup {l : Addr} {xs : List V} (h : SqT K H l xs) (k : Q (.bl true) H) : rIsi K [.ref l, .ty "tuple"] H Q := by
  refine ⟨_, _, .type "tuple", _, true, rfl, .ty "tuple", ?_, kit_ty (by decide +kernel), k⟩
  rcases h with (h | ⟨o, h⟩) | ⟨o, its, n, e, c, _⟩
  · exact .base (.tup h)
  · exact .fTuple h
  · exact .kTuple e c
end
end OB

set_option Elab.async false
set_option linter.all false
set_option maxRecDepth 100000
set_option maxHeartbeats 4000000
/-! OB, part f: how long the text of data is. -/
namespace OB
open PySem PySem.Spec PyProof.Rows L2 PySem.W
/-- its text has at most n signs, it is at most k deep -/
structure Small (n k : Nat) (d : PyData) : Prop where
  sh : d.showable = true
  nd : d.hasDict = false
  dp : d.depth ≤ k
  ln : d.shown.length ≤ n
structure SmallL (n k : Nat) (xs : List PyData) : Prop where
  sh : PyData.showableAll xs = true
  nd : PyData.hasDictAll xs = false
  dp : PyData.depthAll xs ≤ k
  ln : ((PyData.shownAll xs).map (·.length)).sum + 2 * xs.length ≤ n
theorem Small.mono {n k m j : Nat} {d : PyData} (h : Small n k d) (h1 : n ≤ m) (h2 : k ≤ j) : Small m j d := ⟨h.sh, h.nd, Nat.le_trans h.dp h2, Nat.le_trans h.ln h1⟩
theorem SmallL.mono {n k m j : Nat} {d : List PyData} (h : SmallL n k d) (h1 : n ≤ m) (h2 : k ≤ j) : SmallL m j d := ⟨h.sh, h.nd, Nat.le_trans h.dp h2, Nat.le_trans h.ln h1⟩
theorem Small.int {i : Int} (h : i.natAbs < 10 ^ 60) : Small 61 0 (.int i) := by
  have h2 : i.natAbs < 2 ^ 200 := Nat.lt_of_lt_of_le h (by decide)
  refine ⟨decide_eq_true ?_, rfl, Nat.le_refl _, ?_⟩
  · have q := PySem.Flt.log2_lt_of (k := 200) (by decide) h2
    omega
  · show (Str.ofString (toString i)).length ≤ 61
    rw [PySem.ofString_length]
    exact int_text_length_le10 (k := 60) (by decide) h
theorem Small.non : Small 4 0 .none := ⟨rfl, rfl, Nat.le_refl _, by decide +kernel⟩
theorem Small.bl {b : Bool} : Small 5 0 (.bool b) := ⟨rfl, rfl, Nat.le_refl _, by cases b <;> decide +kernel⟩
theorem Small.str {x : Str} {n : Nat} (h : (reprText x).length ≤ n) : Small n 0 (.str x) := ⟨rfl, rfl, Nat.le_refl _, h⟩
theorem SmallL.nil {k : Nat} : SmallL 0 k [] := ⟨rfl, rfl, Nat.zero_le _, Nat.le_refl _⟩
theorem SmallL.cons {n m k : Nat} {x : PyData} {xs : List PyData} (h : Small n k x) (t : SmallL m k xs) : SmallL (n + 2 + m) k (x :: xs) := by
  refine ⟨?_, ?_, ?_, ?_⟩
  · show (PyData.showable x && PyData.showableAll xs) = true
    rw [h.sh, t.sh]; rfl
  · show (PyData.hasDict x || PyData.hasDictAll xs) = false
    rw [h.nd, t.nd]; rfl
  · exact Nat.max_le.mpr ⟨h.dp, t.dp⟩
  · have h1 := h.ln
    have h2 := t.ln
    show (x.shown.length + ((PyData.shownAll xs).map (·.length)).sum) + 2 * (xs.length + 1) ≤ _
    omega
theorem SmallL.all {n k : Nat} : ∀ {xs : List PyData}, (∀ x ∈ xs, Small n k x) → SmallL ((n + 2) * xs.length) k xs
  | [], _ => SmallL.nil
  | x :: xs, h => by
    have q := SmallL.cons (h x (List.mem_cons_self ..)) (SmallL.all fun y hy => h y (List.mem_cons_of_mem _ hy))
    refine q.mono ?_ (Nat.le_refl _)
    rw [List.length_cons, Nat.mul_succ]
    omega
theorem shownAll_length : ∀ xs : List PyData, (PyData.shownAll xs).length = xs.length
  | [] => rfl
  | x :: xs => by
    show (PyData.shownAll xs).length + 1 = xs.length + 1
    rw [shownAll_length xs]
theorem Small.tup {n k : Nat} {xs : List PyData} (h : SmallL n k xs) : Small (n + 3) (k + 1) (.tuple xs) := by
  refine ⟨h.sh, h.nd, Nat.succ_le_succ h.dp, ?_⟩
  have q := tupleText_len_le (PyData.shownAll xs)
  have l := h.ln
  rw [shownAll_length] at q
  show (tupleText (PyData.shownAll xs)).length ≤ _
  omega
theorem Small.lst {n k : Nat} {xs : List PyData} (h : SmallL n k xs) : Small (n + 3) (k + 1) (.list xs) := by
  refine ⟨h.sh, h.nd, Nat.succ_le_succ h.dp, ?_⟩
  have q := listText_len_le (PyData.shownAll xs)
  have l := h.ln
  rw [shownAll_length] at q
  show (listText (PyData.shownAll xs)).length ≤ _
  omega
theorem Small.up {n k : Nat} {d : PyData} (h : Small n k d) : Small n (k + 1) d := h.mono (Nat.le_refl _) (Nat.le_succ _)
theorem g_reprS {K : Frag} {H : Hp} {Q : VK} {v : V} {d : PyData} {n k : Nat} (h : Dp K H v d) (s : Small n k d) (hn : n ≤ 16777216) (hk : k ≤ 60) (q : Q (.str d.shown) H) : rRepr K [v] H Q :=
  g_repr h s.sh s.nd (Nat.le_trans s.dp hk) (Nat.le_trans s.ln hn) q
/-! ### scalars -/
def toV : PyData → V
  | .none => .non
  | .bool b => .bl b
  | .int i => .int i
  | .str x => .str x
  | _ => .non
def scal1 : PyData → Bool
  | .none | .bool _ | .int _ | .str _ => true
  | _ => false
theorem dp_scal {K : Frag} {H : Hp} {v : V} {d : PyData} (h : Dp K H v d) (s : scal1 d = true) : v = toV d := by
  cases h with
  | non => rfl
  | bl b => rfl
  | int i => rfl
  | str x => rfl
  | lst _ _ => cases s
  | tup _ _ => cases s
theorem dps_scal {K : Frag} {H : Hp} : ∀ {ds : List PyData} {vs : List V}, DpAll K H vs ds → (∀ d ∈ ds, scal1 d = true) → vs = ds.map toV
  | [], _, h, _ => by cases h; rfl
  | d :: ds, _, h, s => by
    cases h with
    | cons h1 h2 =>
      rw [dp_scal h1 (s d (List.mem_cons_self ..)), dps_scal h2 fun e he => s e (List.mem_cons_of_mem _ he)]
      rfl
theorem scal_dp {K : Frag} {H : Hp} {d : PyData} (s : scal1 d = true) : Dp K H (toV d) d := by
  cases d with
  | none => exact .non
  | bool b => exact .bl b
  | int i => exact .int i
  | str x => exact .str x
  | _ => cases s
theorem sqt_scal {K : Frag} {H : Hp} {p : Addr} {ds : List PyData} (h : Dp K H (.ref p) (.tuple ds)) (s : ∀ d ∈ ds, scal1 d = true) : SqT K H p (ds.map toV) := by
  obtain ⟨a, xs, e, h1, h2⟩ := dp_tuple h
  cases e
  rw [← dps_scal h2 s]
  exact h1
inductive ScL : List PyData → List V → Prop where
  | nil : ScL [] []
  | int {i : Int} {ds : List PyData} {vs : List V} : ScL ds vs → ScL (.int i :: ds) (.int i :: vs)
  | str {i : Str} {ds : List PyData} {vs : List V} : ScL ds vs → ScL (.str i :: ds) (.str i :: vs)
  | bl {i : Bool} {ds : List PyData} {vs : List V} : ScL ds vs → ScL (.bool i :: ds) (.bl i :: vs)
  | non {ds : List PyData} {vs : List V} : ScL ds vs → ScL (.none :: ds) (.non :: vs)
theorem ScL.sc {ds : List PyData} {vs : List V} (h : ScL ds vs) : (∀ d ∈ ds, scal1 d = true) ∧ vs = ds.map toV := by
  induction h with
  | nil => exact ⟨fun d hd => (nomatch hd), rfl⟩
  | int _ ih | str _ ih | bl _ ih | non _ ih =>
    refine ⟨fun d hd => ?_, by rw [ih.2]; rfl⟩
    rcases List.mem_cons.mp hd with rfl | hd
    · rfl
    · exact ih.1 d hd
theorem g_unpD {K : Frag} {H : Hp} {n : Nat} {tgs : TGs} {σ : L2.St} {QS : L2.St → Hp → Prop} {l : Addr} {ds : List PyData} {ws : List V} (h : Dp K H (.ref l) (.tuple ds)) (s : ScL ds ws) (hl : ds.length = n) (k : tgs ws σ H QS) : gTup K n tgs (.ref l) σ H QS := by
  obtain ⟨h1, rfl⟩ := s.sc
  exact g_unpT (sqt_scal h h1) (by rw [List.length_map]; exact hl) k
theorem g_ne {α : Type} {x : α} [Decidable (x ≠ x)] {P R : Prop} (k : R) : if decide (x ≠ x) = true then P else R := g_FD (fun h => h rfl) k
theorem dp_at {K : Frag} {H : Hp} {v : V} {ds : List PyData} (h : Dp K H v (.tuple ds)) : ∃ a xs, v = .ref a ∧ SqT K H a xs ∧ DpAll K H xs ds := dp_tuple h
end OB

set_option Elab.async false
set_option linter.all false
set_option maxRecDepth 100000
set_option maxHeartbeats 4000000
/-! OB, part g: comprehensions and loops by what is known. -/
namespace OB
open PySem PySem.Spec PyProof.Rows L2 PySem.W
section
variable {K : Frag} {G : List Ft} {σ : L2.St} {H : Hp} {Q : VK} {D : Ends} {P R : Prop} {A : Prop} [Decidable A]
theorem g_nT (h : ¬ A) (k : P) : if (!decide A) = true then P else R := g_T (by rw [decide_eq_false h]; rfl) k
theorem g_nF (h : A) (k : R) : if (!decide A) = true then P else R := g_F (by rw [decide_eq_true h]; rfl) k
theorem g_ntt (k : R) : if (!true) = true then P else R := g_F rfl k
theorem g_nff (k : P) : if (!false) = true then P else R := g_T rfl k
/-! a list comprehension: I tells of (turn, what stands, the data so far) -/
/-- one turn -/
abbrev Turn1 (K : Frag) (G : List Ft) (I : Nat → List (Addr × HO) → List PyData → Prop) (σ : L2.St) (own : List Nat) (g : TG) (tt : TT) (te : TE) (i : Nat) (x : V) : Prop :=
  ∀ (Dp : Addr) (H : Hp) (F : List (Addr × HO)) (vs : List V) (ds : List PyData) (QE : VK) (QR : Hp → Prop), I i F ds → Sy K ((Dp, .lst vs) :: F) (.dat vs ds :: G) H →
    (∀ y d F' H', I (i + 1) F' (ds ++ [d]) → Sy K ((Dp, .lst vs) :: F') (.dat [y] [d] :: .dat vs ds :: G) H' → QE y H') →
    (∀ F' H', I (i + 1) F' ds → Sy K ((Dp, .lst vs) :: F') (.dat vs ds :: G) H' → QR H') →
    g x (wipe σ own) H fun σ2 H2 => wipe σ2 own = wipe σ own ∧ tt σ2 H2 fun b H3 => if b = true then te σ2 H3 QE else QR H3
variable {I : Nat → List (Addr × HO) → List PyData → Prop} {F : List (Addr × HO)} {own : List Nat} {g : TG} {tt : TT} {te : TE}
/-- what is kept between the turns -/
def LcP (K : Frag) (G : List Ft) (I : Nat → List (Addr × HO) → List PyData → Prop) (Dp : Addr) (i : Nat) (H : Hp) : Prop :=
  ∃ (F : List (Addr × HO)) (vs : List V) (ds : List PyData), I i F ds ∧ Sy K ((Dp, .lst vs) :: F) (.dat vs ds :: G) H
theorem lcp_start {Dp : Addr} (S : Sy K F G H) (h0 : I 0 F []) (hD : H Dp = none) : LcP K G I Dp 0 (upd H Dp (.lst [])) :=
  ⟨F, [], [], h0, (S.push hD).fact .nil rfl⟩
theorem lcp_turn {Dp : Addr} {i : Nat} {x : V} (hl : ∀ i F ds, I i F ds → ds.length < 100000) (t : Turn1 K G I σ own g tt te i x) (p : LcP K G I Dp i H) :
    g x (wipe σ own) H fun σ2 H2 => wipe σ2 own = wipe σ own ∧ tt σ2 H2 fun b H3 =>
      if b = true then te σ2 H3 fun y H4 => ∃ acc, H4 Dp = some (.lst acc) ∧ acc.length < sizeLine ∧ LcP K G I Dp (i + 1) (upd H4 Dp (.lst (acc ++ [y]))) else LcP K G I Dp (i + 1) H3 := by
  obtain ⟨F, vs, ds, hi, S⟩ := p
  refine t Dp H F vs ds _ (LcP K G I Dp (i + 1)) hi S (fun y d F' H' hi' S' => ?_) fun F' H' hi' S' => ⟨F', vs, ds, hi', S'⟩
  have len := dps_length (S'.dps 1 rfl)
  have lt := hl _ _ _ hi'
  rw [List.length_append] at lt
  refine ⟨vs, S'.at 0 rfl, Nat.lt_of_lt_of_le (by omega) (show 100000 ≤ sizeLine by decide), F', vs ++ [y], ds ++ [d], hi', ?_⟩
  have S2 : Sy K ((Dp, .lst (vs ++ [y])) :: F') (.dat [y] [d] :: .dat vs ds :: G) (upd H' Dp (.lst (vs ++ [y]))) := S'.put (o' := .lst (vs ++ [y])) 0 rfl rfl
  have m1 := S'.dpi 1 rfl
  have m2 := S'.dpi 0 rfl
  exact (S2.drop.drop).fact (dps_append (S2.dps 1 rfl) (S2.dps 0 rfl)) (by rw [immAll_append, m1, m2]; rfl)
/-- over a list or a tuple -/
theorem g_lcS {tl : TE} {a : Addr} {xs : List V} (k : Bool) (I : Nat → List (Addr × HO) → List PyData → Prop) (S : Sy K F G H) (ht : ∀ Q' : VK, Q' (.ref a) H → tl σ H Q') (h0 : I 0 F [])
    (hq : ∀ i F' ds H', I i F' ds → Sy K F' G H' → SqK K H' k a xs) (hl : ∀ i F ds, I i F ds → ds.length < 100000)
    (turn : ∀ i x, xs[i]? = some x → Turn1 K G I σ own g tt te i x)
    (done : ∀ Dp H' F' vs ds, H Dp = none → I xs.length F' ds → Sy K ((Dp, .lst vs) :: F') (.dat vs ds :: G) H' → Q (.ref Dp) H') : tLc (iSeq K tl) g tt te own σ H Q := by
  refine ht _ ⟨a, rfl, ?_⟩
  have q0 := hq 0 F [] H h0 S
  have sub : ∀ {Dp i H'}, LcP K G I Dp i H' → SqK K H' k a xs := fun ⟨F', vs, ds, hi, S'⟩ => hq _ F' ds _ hi S'.drop.less
  cases k with
  | true =>
    refine .inl ⟨⟨xs, q0⟩, fun Dp hD => lc_list (K := K) (a := a) (xs := xs) (LcP K G I Dp) (lcp_start S h0 hD) (fun i H' _ p => sub p) (fun i x H' hx p => lcp_turn hl (turn i x hx) p) fun H' p => ?_⟩
    obtain ⟨F', vs, ds, hi, S'⟩ := p
    exact done Dp H' F' vs ds hD hi S'
  | false =>
    refine .inr ⟨⟨xs, q0⟩, fun Dp hD => lc_tup (K := K) (a := a) (xs := xs) (LcP K G I Dp) (lcp_start S h0 hD) (fun i H' _ p => sub p) (fun i x H' hx p => lcp_turn hl (turn i x hx) p) fun H' p => ?_⟩
    obtain ⟨F', vs, ds, hi, S'⟩ := p
    exact done Dp H' F' vs ds hD hi S'
/-- over range(n), behind what its argument does -/
def RgLc (K : Frag) (g : TG) (tt : TT) (te : TE) (own : List Nat) (σ : L2.St) (Q : VK) (n : Nat) (H : Hp) : Prop := ∀ Dp, H Dp = none → ∃ W : Nat → Nat → Hp → Prop, (∃ m, W 0 m (upd H Dp (.lst []))) ∧ ∀ i m H, W i m H →
  ((Itr 0 n).stop i H ∧ Q (.ref Dp) H) ∨ ((Itr 0 n).go i H ∧ ∃ Nx : Hp → Prop, (∀ H', Nx H' → ∃ m', m' < m ∧ W (i + 1) m' H') ∧ ∀ x H', (Itr 0 n).yld i H x H' → g x (wipe σ own) H' fun σ2 H2 => wipe σ2 own = wipe σ own ∧ tt σ2 H2 fun b H3 =>
    if b = true then te σ2 H3 fun y H4 => ∃ acc, H4 Dp = some (.lst acc) ∧ acc.length < sizeLine ∧ Nx (upd H4 Dp (.lst (acc ++ [y]))) else Nx H3)
theorem g_lcR {ta : TA} (k : ta σ H fun vs H1 => ∃ j : Int, vs = [.int j] ∧ -(2 ^ 62) ≤ j ∧ j < 2 ^ 62 ∧ RgLc K g tt te own σ Q j.toNat H1) : tLc (iRng1 ta) g tt te own σ H Q := k
theorem g_rgJ {a : Int} {f : Int → Prop} (h1 : -(2 ^ 62) ≤ a) (h2 : a < 2 ^ 62) (k : f a) : ∃ j : Int, [V.int a] = [.int j] ∧ -(2 ^ 62) ≤ j ∧ j < 2 ^ 62 ∧ f j := ⟨a, rfl, h1, h2, k⟩
theorem rglc_of {n : Nat} (I : Nat → List (Addr × HO) → List PyData → Prop) (S : Sy K F G H) (h0 : I 0 F []) (hl : ∀ i F ds, I i F ds → ds.length < 100000)
    (turn : ∀ i, i < n → Turn1 K G I σ own g tt te i (.int (0 + i)))
    (done : ∀ Dp H' F' vs ds, H Dp = none → I n F' ds → Sy K ((Dp, .lst vs) :: F') (.dat vs ds :: G) H' → Q (.ref Dp) H') : RgLc K g tt te own σ Q n H := fun Dp hD => by
  refine lc_range (lo := 0) (n := n) (LcP K G I Dp) (lcp_start S h0 hD) (fun i H' hi p => lcp_turn hl (turn i hi) p) fun H' p => ?_
  obtain ⟨F', vs, ds, hi, S'⟩ := p
  exact done Dp H' F' vs ds hD hi S'
/-! loops: W tells of (turn, slots, heap) -/
theorem g_forS {tl : TE} {tb : TS} {a : Addr} {xs : List V} (k : Bool) (Pv : Nat → L2.St → Hp → Prop) (ht : ∀ Q' : VK, Q' (.ref a) H → tl σ H Q') (h0 : Pv 0 σ H)
    (hq : ∀ i σ' H', Pv i σ' H' → SqK K H' k a xs)
    (turn : ∀ i x σ' H', xs[i]? = some x → Pv i σ' H' → g x σ' H' fun σ2 H2 => tb { D with nx := Pv (i + 1), ct := Pv (i + 1), bk := D.nx } σ2 H2)
    (done : ∀ σ' H', Pv xs.length σ' H' → D.nx σ' H') : tFor (iSeq K tl) g tb D σ H := by
  refine ht _ ⟨a, rfl, ?_⟩
  have q0 := hq 0 σ H h0
  cases k with
  | true => exact .inl ⟨⟨xs, q0⟩, for_list (K := K) (a := a) (xs := xs) Pv h0 (fun i σ' H' _ p => hq i σ' H' p) turn done⟩
  | false => exact .inr ⟨⟨xs, q0⟩, for_tup (K := K) (a := a) (xs := xs) Pv h0 (fun i σ' H' _ p => hq i σ' H' p) turn done⟩
def RgFor (g : TG) (tb : TS) (D : Ends) (σ : L2.St) (n : Nat) (H : Hp) : Prop := ∃ W : Nat → Nat → L2.St → Hp → Prop, (∃ m, W 0 m σ H) ∧ ∀ i m σ H, W i m σ H →
  ((Itr 0 n).stop i H ∧ D.nx σ H) ∨ ((Itr 0 n).go i H ∧ ∃ N : L2.St → Hp → Prop, (∀ σ' H', N σ' H' → ∃ m', m' < m ∧ W (i + 1) m' σ' H') ∧ ∀ x H', (Itr 0 n).yld i H x H' → g x σ H' fun σ2 H2 => tb { D with nx := N, ct := N, bk := D.nx } σ2 H2)
theorem g_forR {ta : TA} {tb : TS} (k : ta σ H fun vs H1 => ∃ j : Int, vs = [.int j] ∧ -(2 ^ 62) ≤ j ∧ j < 2 ^ 62 ∧ RgFor g tb D σ j.toNat H1) : tFor (iRng1 ta) g tb D σ H := k
theorem rgfor_of {tb : TS} {n : Nat} (Pv : Nat → L2.St → Hp → Prop) (h0 : Pv 0 σ H) (turn : ∀ i σ' H', i < n → Pv i σ' H' → g (.int (0 + i)) σ' H' fun σ2 H2 => tb { D with nx := Pv (i + 1), ct := Pv (i + 1), bk := D.nx } σ2 H2)
    (done : ∀ σ' H', Pv n σ' H' → D.nx σ' H') : RgFor g tb D σ n H := for_range (lo := 0) Pv h0 turn done
def rEnum (K : Frag) (vs : List V) (H : Hp) (R : It → Hp → Prop) : Prop := ∃ k a xs, vs = [.ref a] ∧ SqK K H k a xs ∧ R (IteK K k a) H
def rZip (K : Frag) (vs : List V) (H : Hp) (R : It → Hp → Prop) : Prop := ∃ k l a b xs ys, vs = [.ref a, .ref b] ∧ SqK K H k a xs ∧ SqK K H l b ys ∧ R (ItzK K k l a b) H
theorem g_forE {ta : TA} {tb : TS} (k : ta σ H fun vs H1 => rEnum K vs H1 fun J H1 => ∃ W : Nat → Nat → L2.St → Hp → Prop, (∃ m, W 0 m σ H1) ∧ ∀ i m σ H, W i m σ H →
  (J.stop i H ∧ D.nx σ H) ∨ (J.go i H ∧ ∃ N : L2.St → Hp → Prop, (∀ σ' H', N σ' H' → ∃ m', m' < m ∧ W (i + 1) m' σ' H') ∧ ∀ x H', J.yld i H x H' → g x σ H' fun σ2 H2 => tb { D with nx := N, ct := N, bk := D.nx } σ2 H2)) : tFor (iEnumK K ta) g tb D σ H := k
theorem g_forZ {ta : TA} {tb : TS} (k : ta σ H fun vs H1 => rZip K vs H1 fun J H1 => ∃ W : Nat → Nat → L2.St → Hp → Prop, (∃ m, W 0 m σ H1) ∧ ∀ i m σ H, W i m σ H →
  (J.stop i H ∧ D.nx σ H) ∨ (J.go i H ∧ ∃ N : L2.St → Hp → Prop, (∀ σ' H', N σ' H' → ∃ m', m' < m ∧ W (i + 1) m' σ' H') ∧ ∀ x H', J.yld i H x H' → g x σ H' fun σ2 H2 => tb { D with nx := N, ct := N, bk := D.nx } σ2 H2)) : tFor (iZipK K ta) g tb D σ H := k
/-- a loop without end in sight: m falls -/
theorem g_while {c : TT} {tb : TS} (W : Nat → L2.St → Hp → Prop) (m0 : Nat) (h0 : W m0 σ H)
    (turn : ∀ m σ' H', W m σ' H' → c σ' H' fun b H1 => if b = true then tb { D with nx := fun σ2 H2 => ∃ m', m' < m ∧ W m' σ2 H2, ct := fun σ2 H2 => ∃ m', m' < m ∧ W m' σ2 H2, bk := D.nx } σ' H1 else D.nx σ' H1)
    (mono : ∀ σ' H' (Q Q' : Bool → Hp → Prop), (∀ b H1, Q b H1 → Q' b H1) → c σ' H' Q → c σ' H' Q') : tWhile c tb D σ H := by
  refine ⟨W, ⟨m0, h0⟩, fun m σ' H' w => mono σ' H' _ _ (fun b H1 q => ?_) (turn m σ' H' w)⟩
  cases b with
  | true => exact ⟨_, fun _ _ h => h, q⟩
  | false => exact q
end
end OB

set_option Elab.async false
set_option linter.all false
set_option maxRecDepth 100000
set_option maxHeartbeats 4000000
/-! OB, part h: more steps. -/
namespace OB
open PySem PySem.Spec PyProof.Rows L2 PySem.W
section
variable {K : Frag} {G : List Ft} {σ : L2.St} {H : Hp} {Q : VK} {D : Ends} {P R : Prop}
/-- list(range(..)) -/
def rNewRg (a b : Int) (H : Hp) (Q : VK) : Prop := RgOk a b ∧ ∀ q, H q = none → Q (.ref q) (upd H q (.lst (rgV a b)))
theorem g_lstRg {te : L2.St → Hp → (Int → Int → Hp → Prop) → Prop} (k : te σ H fun a b H1 => rNewRg a b H1 Q) : tLstRg te σ H Q := k
theorem g_rg1 {ta : TE} {R : Int → Int → Hp → Prop} (k : ta σ H fun x H1 => ∃ n, x = .int n ∧ R 0 n H1) : tRg1 ta σ H R := k
theorem g_rg2 {ta tb : TE} {R : Int → Int → Hp → Prop} (k : ta σ H fun x H1 => tb σ H1 fun y H2 => ∃ i j, x = .int i ∧ y = .int j ∧ R i j H2) : tRg2 ta tb σ H R := k
theorem g_newRg {F : List (Addr × HO)} {a b : Int} (S : Sy K F G H) (h : RgOk a b) (k : ∀ p H', Sy K ((p, .lst (rgV a b)) :: F) G H' → Q (.ref p) H') : rNewRg a b H Q := ⟨h, fun p hp => k p _ (S.push hp)⟩
theorem rgV0 (b : Int) : rgV 0 b = ((List.range b.toNat).map fun i : Nat => (i : Int)).map V.int := by
  unfold rgV
  rw [List.map_map, Int.sub_zero]
  congr 1
  funext i
  show V.int (0 + (i : Int)) = V.int (i : Int)
  rw [Int.zero_add]
end
end OB

set_option Elab.async false
set_option linter.all false
set_option maxRecDepth 100000
set_option maxHeartbeats 4000000
/-! OB, part i: zip of unlike lengths, comprehensions over zip, dicts of ints updated and sorted, deep equality. -/
namespace OB
open PySem PySem.Spec PyProof.Rows L2 PySem.W
/-! ### zip: it ends with the shorter one -/
theorem walk_zipK {K : Frag} {k l : Bool} {a b : Addr} {xs ys : List V} : Walk (ItzK K k l a b) (min xs.length ys.length) (fun H => SqK K H k a xs ∧ SqK K H l b ys) (YPair (xs[·]?) (ys[·]?)) where
  goes := fun i H hi ⟨qa, qb⟩ => ⟨xs, ys, xs[i]'(by omega), ys[i]'(by omega), qa, qb, List.getElem?_eq_getElem _, List.getElem?_eq_getElem _⟩
  stops := fun H ⟨qa, qb⟩ => ⟨xs, ys, qa, qb, Nat.min_le_left .., Nat.min_le_right .., by omega⟩
  yields := fun i H x H' hi ⟨qa, qb⟩ ⟨T, u, v, e1, hT, e2, f1, f2⟩ => ⟨T, u, v, e1, hT, e2, f1 xs qa, f2 ys qb⟩
section
variable {K : Frag} {F : List (Addr × HO)} {G : List Ft} {σ : L2.St} {H : Hp} {Q : VK} {D : Ends} {g : TG} {tt : TT} {te : TE} {tb : TS} {own : List Nat}
def ZipLc (K : Frag) (g : TG) (tt : TT) (te : TE) (own : List Nat) (σ : L2.St) (Q : VK) (vs : List V) (H1 : Hp) : Prop := ∃ k l a b xs ys, vs = [.ref a, .ref b] ∧ SqK K H1 k a xs ∧ SqK K H1 l b ys ∧ ∀ Da, H1 Da = none → ∃ W : Nat → Nat → Hp → Prop, (∃ m, W 0 m (upd H1 Da (.lst []))) ∧ ∀ i m H, W i m H →
  ((ItzK K k l a b).stop i H ∧ Q (.ref Da) H) ∨ ((ItzK K k l a b).go i H ∧ ∃ Nx : Hp → Prop, (∀ H', Nx H' → ∃ m', m' < m ∧ W (i + 1) m' H') ∧ ∀ x H', (ItzK K k l a b).yld i H x H' → g x (wipe σ own) H' fun σ2 H2 => wipe σ2 own = wipe σ own ∧ tt σ2 H2 fun b H3 =>
    if b = true then te σ2 H3 fun y H4 => ∃ acc, H4 Da = some (.lst acc) ∧ acc.length < sizeLine ∧ Nx (upd H4 Da (.lst (acc ++ [y]))) else Nx H3)
theorem g_lcZ {ta : TA} (k : ta σ H fun vs H1 => ZipLc K g tt te own σ Q vs H1) : tLc (iZipK K ta) g tt te own σ H Q := k
/-- the pair at T was just made -/
def TurnZ (K : Frag) (G : List Ft) (I : Nat → List (Addr × HO) → List PyData → Prop) (σ : L2.St) (own : List Nat) (g : TG) (tt : TT) (te : TE) (i : Nat) (x y : V) : Prop :=
  ∀ (Da T : Addr) (H2 : Hp) (F2 : List (Addr × HO)) (vs : List V) (ds : List PyData) (QE : VK) (QR : Hp → Prop), I i F2 ds → H2 T = none → Sy K ((Da, .lst vs) :: F2) (.dat vs ds :: G) H2 →
    (∀ (z : V) (d : PyData) F' H', I (i + 1) F' (ds ++ [d]) → Sy K ((Da, .lst vs) :: F') (.dat [z] [d] :: .dat vs ds :: G) H' → QE z H') →
    (∀ F' H', I (i + 1) F' ds → Sy K ((Da, .lst vs) :: F') (.dat vs ds :: G) H' → QR H') →
    g (.ref T) (wipe σ own) (upd H2 T (.tup [x, y])) fun σ2 H2 => wipe σ2 own = wipe σ own ∧ tt σ2 H2 fun b H3 => if b = true then te σ2 H3 QE else QR H3
theorem ziplc_of {k l : Bool} {a b : Addr} {xs ys : List V} (I : Nat → List (Addr × HO) → List PyData → Prop) (S : Sy K F G H) (h0 : I 0 F [])
    (hq : ∀ i F' ds H', I i F' ds → Sy K F' G H' → SqK K H' k a xs ∧ SqK K H' l b ys) (hl : ∀ i F ds, I i F ds → ds.length < 100000)
    (turn : ∀ i x y, xs[i]? = some x → ys[i]? = some y → TurnZ K G I σ own g tt te i x y)
    (done : ∀ Da H' F' vs ds, H Da = none → I (min xs.length ys.length) F' ds → Sy K ((Da, .lst vs) :: F') (.dat vs ds :: G) H' → Q (.ref Da) H') : ZipLc K g tt te own σ Q [.ref a, .ref b] H := by
  obtain ⟨q1, q2⟩ := hq 0 F [] H h0 S
  refine ⟨k, l, a, b, xs, ys, rfl, q1, q2, fun Da hD => lc_it (walk_zipK (K := K) (xs := xs) (ys := ys)) (LcP K G I Da) (lcp_start S h0 hD) (fun i H' _ p => ?_) (fun i v H1 H' hi p y => ?_) fun H' p => ?_⟩
  · obtain ⟨F', vs, ds, hi, S'⟩ := p
    exact hq i F' ds _ hi S'.drop.less
  · obtain ⟨F', vs, ds, hI, S'⟩ := p
    obtain ⟨T, x, y, rfl, hT, rfl, e1, e2⟩ := y
    refine turn i x y e1 e2 Da T H1 F' vs ds _ (LcP K G I Da (i + 1)) hI hT S' (fun z d F2 H2 hi' S2 => ?_) fun F2 H2 hi' S2 => ⟨F2, vs, ds, hi', S2⟩
    have len := dps_length (S2.dps 1 rfl)
    have lt := hl _ _ _ hi'
    rw [List.length_append] at lt
    refine ⟨vs, S2.at 0 rfl, Nat.lt_of_lt_of_le (by omega) (show 100000 ≤ sizeLine by decide), F2, vs ++ [z], ds ++ [d], hi', ?_⟩
    have S3 : Sy K ((Da, .lst (vs ++ [z])) :: F2) (.dat [z] [d] :: .dat vs ds :: G) (upd H2 Da (.lst (vs ++ [z]))) := S2.put (o' := .lst (vs ++ [z])) 0 rfl rfl
    exact (S3.drop.drop).fact (dps_append (S3.dps 1 rfl) (S3.dps 0 rfl)) (by rw [immAll_append, S2.dpi 1 rfl, S2.dpi 0 rfl]; rfl)
  · obtain ⟨F', vs, ds, hI, S'⟩ := p
    exact done Da H' F' vs ds hD hI S'
/-- a for over zip -/
theorem for_zipM {k l : Bool} {a b : Addr} {xs ys : List V} (Pv : Nat → L2.St → Hp → Prop) (h0 : Pv 0 σ H) (hq : ∀ i σ H, Pv i σ H → SqK K H k a xs ∧ SqK K H l b ys)
    (hs : ∀ i x y T σ H, xs[i]? = some x → ys[i]? = some y → Pv i σ H → H T = none → g (.ref T) σ (upd H T (.tup [x, y])) fun σ2 H2 => tb { D with nx := Pv (i + 1), ct := Pv (i + 1), bk := D.nx } σ2 H2) (hd : ∀ σ H, Pv (min xs.length ys.length) σ H → D.nx σ H) :
    ∃ W : Nat → Nat → L2.St → Hp → Prop, (∃ m, W 0 m σ H) ∧ ∀ i m σ H, W i m σ H →
      ((ItzK K k l a b).stop i H ∧ D.nx σ H) ∨ ((ItzK K k l a b).go i H ∧ ∃ N : L2.St → Hp → Prop, (∀ σ' H', N σ' H' → ∃ m', m' < m ∧ W (i + 1) m' σ' H') ∧ ∀ x H', (ItzK K k l a b).yld i H x H' → g x σ H' fun σ2 H2 => tb { D with nx := N, ct := N, bk := D.nx } σ2 H2) :=
  for_it walk_zipK Pv h0 (fun i σ H _ p => hq i σ H p) (fun i v σ H H' hi p y => by
    obtain ⟨T, x, y, rfl, hT, rfl, e1, e2⟩ := y
    exact hs i x y T σ H e1 e2 p hT) hd
end
/-! ### dicts of ints -/
def rUpdD (x : V) (xs : List V) (H : Hp) (Q : VK) : Prop := ∃ a b kvs more, x = .ref a ∧ xs = [.ref b] ∧ a ≠ b ∧ H a = some (.dK kvs) ∧ H b = some (.dK more) ∧ kvs.length + more.length ≤ sizeLine ∧ Q .non (upd H a (.dK (mergeK kvs more)))
theorem mt_dupdate {X : Cx} : MtR X "dict.update" rUpdD := by
  intro pins s σ H x xs v us Q I rx rv h
  obtain ⟨a, b, kvs, more, rfl, rfl, hne, ha, hb, hz, q⟩ := h
  cases rx
  obtain ⟨u, rfl, ru⟩ := vals1 rv
  cases ru
  obtain ⟨z1, lo1, vs1, rel1, dd1⟩ := dk_of I.hok ha
  obtain ⟨z2, lo2, vs2, rel2, dd2⟩ := dk_of I.hok hb
  have e1 : vs1.length = kvs.length := rel1.length.symm
  have e2 : vs2.length = more.length := rel2.length.symm
  refine call_meetsIn PySem.F.slot_dict_update dd1.typeIs PySem.F.entry_dict_update (PySem.F.args_dict_update_2 _ _) (meets_dict_update (mixKind X.prog X.w) a b hne lo2) ⟨vs1, vs2, dd1, dd2, by omega, fun h' d1 d2 hs => ?_⟩
  have he : ∃ q, h'.get? a = some q := let ⟨q, _, _, hq, _⟩ := d1; ⟨q, hq⟩
  have hl : (mergeK kvs more).length ≤ sizeLine := Nat.le_trans (length_mergeK more kvs) hz
  exact ⟨.non, _, d_write I (by rw [ha]; exact True.intro) hs he (dk_new hl lo1 (rel2.merge rel1) d1), rfl, q⟩
end OB

set_option Elab.async false
set_option linter.all false
set_option maxRecDepth 100000
set_option maxHeartbeats 4000000
/-! OB, part j: steps for dicts of ints, deep equality of small tuples, truth of lists, last items. -/
namespace OB
open PySem PySem.Spec PyProof.Rows L2 PySem.W
section
variable {K : Frag} {F : List (Addr × HO)} {G : List Ft} {σ : L2.St} {H : Hp} {Q : VK} {D : Ends} {g : TG} {tt : TT} {te tk tv : TE} {tb : TS} {own : List Nat}
/-- {k: v} with a whole number and a value at hand -/
theorem g_disp1 {i : Int} {v : V} (S : Sy K F G H) (hk : ∀ H' (Q' : VK), Q' (.int i) H' → tk σ H' Q') (hv : ∀ H' (Q' : VK), Q' v H' → tv σ H' Q') (k : ∀ p H', Sy K ((p, .dK [(.inl i, v)]) :: F) G H' → Q (.ref p) H') : tDisp [(tk, tv)] σ H Q := by
  intro p hp
  refine hk _ _ (hv _ _ ⟨upd_same, [(.inl i, v)], rfl, Nat.le_of_ble_eq_true rfl, ?_⟩)
  rw [L2.upd_upd]
  exact k p _ (S.push hp)
/-- a dict comprehension over a tuple that stays, the objects around staying as they are -/
theorem g_dcT {tl : TE} {a : Addr} {xs : List V} (I : Nat → List (Key × V) → Prop) (S : Sy K F (.tq a xs :: G) H) (ht : ∀ Q' : VK, Q' (.ref a) H → tl σ H Q') (h0 : I 0 []) (hl : ∀ i kvs, I i kvs → kvs.length < 100000)
    (turn : ∀ i x, xs[i]? = some x → ∀ (Da : Addr) (H2 : Hp) (kvs : List (Key × V)) (QE : V → V → Hp → Prop) (QR : Hp → Prop), I i kvs → Sy K ((Da, .dK kvs) :: F) (.tq a xs :: G) H2 →
      (∀ (n : Int) z H', I (i + 1) (putK kvs (.inl n) z) → Sy K ((Da, .dK kvs) :: F) (.tq a xs :: G) H' → QE (.int n) z H') → (∀ H', I (i + 1) kvs → Sy K ((Da, .dK kvs) :: F) (.tq a xs :: G) H' → QR H') →
      g x (wipe σ own) H2 fun σ2 H3 => wipe σ2 own = wipe σ own ∧ tt σ2 H3 fun b H4 => if b = true then tk σ2 H4 fun y H5 => tv σ2 H5 fun z H6 => QE y z H6 else QR H4)
    (done : ∀ Da H' kvs, H Da = none → I xs.length kvs → Sy K ((Da, .dK kvs) :: F) (.tq a xs :: G) H' → Q (.ref Da) H') : tDc (iSeq K tl) g tt tk tv own σ H Q := by
  refine ht _ ⟨a, rfl, .inr ⟨⟨xs, S.tqs 0 rfl⟩, fun Da hD => ?_⟩⟩
  refine dc_tup (K := K) (a := a) (xs := xs) (fun i H' => ∃ kvs, I i kvs ∧ Sy K ((Da, .dK kvs) :: F) (.tq a xs :: G) H') ⟨[], h0, S.push hD⟩ (fun i H' _ ⟨kvs, _, S'⟩ => S'.tqs 0 rfl) (fun i x H' hx ⟨kvs, hi, S'⟩ => ?_) (fun H' ⟨kvs, hi, S'⟩ => done Da H' kvs hD hi S')
  have hz := hl i kvs hi
  refine turn i x hx Da H' kvs _ (fun H2 => ∃ kvs, I (i + 1) kvs ∧ Sy K ((Da, .dK kvs) :: F) (.tq a xs :: G) H2) hi S' (fun n z H2 hi2 S2 => ?_) fun H2 hi2 S2 => ⟨kvs, hi2, S2⟩
  exact ⟨kvs, .inl n, rfl, S2.at 0 rfl, Nat.lt_of_lt_of_le hz (by decide), _, hi2, S2.put (o' := .dK (putK kvs (.inl n) z)) 0 rfl rfl⟩
theorem Sy.ne {p q : Addr} {o u : HO} {i j : Nat} (S : Sy K F G H) (h1 : F[i]? = some (p, o)) (h2 : F[j]? = some (q, u)) (h : i ≠ j) : p ≠ q := by
  intro e
  subst e
  have nd := S.nd
  have g1 : (F.map (·.1))[i]? = some p := by rw [List.getElem?_map, h1]; rfl
  have g2 : (F.map (·.1))[j]? = some p := by rw [List.getElem?_map, h2]; rfl
  obtain ⟨l1, e1⟩ := List.getElem?_eq_some_iff.mp g1
  obtain ⟨l2, e2⟩ := List.getElem?_eq_some_iff.mp g2
  have pw := List.pairwise_iff_getElem.mp nd
  rcases Nat.lt_or_gt_of_ne h with c | c
  · exact pw i j l1 l2 c (e1.trans e2.symm)
  · exact pw j i l2 l1 c (e2.trans e1.symm)
theorem g_tyd {d : Addr} {kvs : List (Key × V)} {R : Prop} (h : H d = some (.dK kvs)) (k : R) : tyV K "dict" (.ref d) H ∧ R := ⟨.inr (.inr (.inl ⟨rfl, .inl ⟨kvs, h⟩⟩)), k⟩
theorem g_dupd {d o : Addr} {kvs more : List (Key × V)} {i j : Nat} (S : Sy K F G H) (h1 : F[i]? = some (d, .dK kvs)) (h2 : F[j]? = some (o, .dK more)) (hij : i ≠ j) (hl : kvs.length + more.length ≤ 100000)
    (k : ∀ H', Sy K (F.set i (d, .dK (mergeK kvs more))) G H' → Q .non H') : rUpdD (.ref d) [.ref o] H Q :=
  ⟨d, o, kvs, more, rfl, rfl, S.ne h1 h2 hij, S.at i h1, S.at j h2, Nat.le_trans hl (by decide), k _ (S.put i h1 rfl)⟩
/-- sorted of a dict of few ints -/
def rSortDI : List V → Hp → VK → Prop := fun xs H Q => ∃ (a : Addr) (kvs : List (Key × V)) (ks : List Int), xs = [.ref a] ∧ Rd H a (.dK kvs) ∧ kvs.map (·.1) = ks.map Sum.inl ∧ ks.length < 64 ∧
    ∀ (ys : List Int) (p : Addr), ys.Perm ks → ys.Pairwise (· ≤ ·) → H p = none → Q (.ref p) (upd H p (.lst (ys.map V.int)))
theorem c_sortDI {X : Cx} (hc : X.calm = true) : CallR X (.builtin "sorted") rSortDI := call_sortedDI hc
theorem g_sortDI {d : Addr} {kvs : List (Key × V)} {ks : List Int} {i : Nat} (S : Sy K F G H) (h : F[i]? = some (d, .dK kvs)) (hk : kvs.map (·.1) = ks.map Sum.inl) (hl : ks.length < 64)
    (k : ∀ (ys : List Int) p H', ys.Perm ks → ys.Pairwise (· ≤ ·) → Sy K ((p, .lst (ys.map V.int)) :: F) G H' → Q (.ref p) H') : rSortDI [.ref d] H Q :=
  ⟨d, kvs, ks, rfl, .inl (S.at i h), hk, hl, fun ys p e1 e2 hp => k ys p _ e1 e2 (S.push hp)⟩
/-- what keys a dict of ints has behind puts and merges -/
def KeysI (kvs : List (Key × V)) (ks : List Int) : Prop := kvs.map (·.1) = ks.map Sum.inl
theorem any_key {kvs : List (Key × V)} {ks : List Int} {n : Int} (h : KeysI kvs ks) : (kvs.any fun kv => decide (kv.1 = Sum.inl n)) = ks.contains n := by
  unfold KeysI at h
  induction ks generalizing kvs with
  | nil =>
    rw [List.map_nil, List.map_eq_nil_iff] at h
    subst h
    rfl
  | cons m ks ih =>
    cases kvs with
    | nil => cases h
    | cons p kvs =>
      rw [List.map_cons, List.map_cons] at h
      injection h with h1 h2
      rw [List.any_cons, List.contains_cons, ih h2, h1]
      congr 1
      by_cases e : m = n
      · subst e
        simp
      · have e2 : ¬ n = m := fun z => e z.symm
        have e3 : ¬ (Sum.inl m : Key) = Sum.inl n := fun z => e (Sum.inl.inj z)
        simp [e2, e3]
theorem keys_put {kvs : List (Key × V)} {ks : List Int} {n : Int} {z : V} (h : KeysI kvs ks) : KeysI (putK kvs (.inl n) z) (if ks.contains n then ks else ks ++ [n]) := by
  unfold putK
  rw [any_key h]
  by_cases e : ks.contains n = true
  · rw [if_pos e, if_pos e]
    show List.map _ (List.map _ _) = _
    rw [List.map_map, ← h]
    apply List.map_congr_left
    intro p _
    show (if p.1 = Sum.inl n then (p.1, z) else p).1 = p.1
    split <;> rfl
  · rw [if_neg e, if_neg e]
    show List.map _ (kvs ++ [(Sum.inl n, z)]) = _
    rw [List.map_append, h, List.map_append]
    rfl
/-- the keys of a merge: those of both, none twice -/
theorem keys_merge : ∀ {more kvs : List (Key × V)} {ms ks : List Int}, KeysI more ms → KeysI kvs ks → ∃ ls, KeysI (mergeK kvs more) ls ∧ (∀ x, x ∈ ls ↔ x ∈ ks ∨ x ∈ ms) ∧ (ks.Nodup → ls.Nodup) ∧ ls.length ≤ ks.length + ms.length
  | [], kvs, ms, ks, h1, h2 => by
    cases ms with
    | nil => exact ⟨ks, h2, fun x => by simp, id, by simp⟩
    | cons m ms => cases h1
  | p :: more, kvs, [], ks, h1, h2 => by cases h1
  | p :: more, kvs, m :: ms, ks, h1, h2 => by
    unfold KeysI at h1
    rw [List.map_cons, List.map_cons] at h1
    injection h1 with e1 e2
    obtain ⟨ls, f1, f2, f3, f4⟩ := keys_merge (more := more) (ms := ms) e2 (keys_put (n := m) (z := p.2) h2)
    refine ⟨ls, ?_, fun x => ?_, fun nd => f3 ?_, ?_⟩
    · have e3 : mergeK kvs (p :: more) = mergeK (putK kvs (.inl m) p.2) more := by
        show mergeK (putK kvs p.1 p.2) more = _
        rw [e1]
      rw [e3]
      exact f1
    · rw [f2]
      by_cases e : ks.contains m = true
      · rw [if_pos e]
        have hm : m ∈ ks := List.contains_iff_mem.mp e
        rw [List.mem_cons]
        constructor
        · rintro (h | h)
          · exact .inl h
          · exact .inr (.inr h)
        · rintro (h | h | h)
          · exact .inl h
          · subst h; exact .inl hm
          · exact .inr h
      · rw [if_neg e, List.mem_append, List.mem_singleton, List.mem_cons, or_assoc]
    · by_cases e : ks.contains m = true
      · rw [if_pos e]
        exact nd
      · rw [if_neg e]
        have hm : ¬ m ∈ ks := fun z => e (List.contains_iff_mem.mpr z)
        exact List.nodup_append.mpr ⟨nd, by simp, fun x hx y hy => by
          cases List.mem_singleton.mp hy
          exact fun z => hm (z ▸ hx)⟩
    · rw [List.length_cons]
      split at f4
      · omega
      · rw [List.length_append] at f4
        simp at f4
        omega
/-! truth and equality -/
def rTruK (K : Frag) (x : V) (H : Hp) (Q : Bool → Hp → Prop) : Prop := ∃ k, TruV K x H k ∧ Q k H
theorem g_tru {ta : TE} {QB : Bool → Hp → Prop} (k : ta σ H fun x H' => rTruK K x H' QB) : (fun σ H Q => ta σ H fun x H' => ∃ k, TruV K x H' k ∧ Q k H' : TT) σ H QB := k
def tTru (K : Frag) (ta : TE) : TT := fun σ H Q => ta σ H fun x H' => rTruK K x H' Q
theorem pt_tru {X : Cx} {K : Frag} {a : Expr} {ta : TE} (hK : X.K = K) (ha : PE X a ta) (he : ∀ whole, isTrue a X.env whole = (do let v ← whole; standAt a.pos; holding [v] (truthy v))) : PT X a (tTru K ta) := hK ▸ pt_truth ha he
theorem g_tTru {ta : TE} {QB : Bool → Hp → Prop} (k : ta σ H fun x H' => rTruK K x H' QB) : tTru K ta σ H QB := k
theorem g_truL {l : Addr} {vs : List V} {QB : Bool → Hp → Prop} (h : SqL K H l vs) (k : QB (!vs.isEmpty) H) : rTruK K (.ref l) H QB := ⟨_, .inl ⟨vs, h, rfl⟩, k⟩
theorem g_eqD {x y : V} {d e : PyData} (h1 : L2.Dp K H x d) (h2 : L2.Dp K H y e) (s1 : SeqAt.shaped d = true) (s2 : SeqAt.shaped e = true) (k : Q (.bl (PyData.eqv d e)) H) : rEqD K x y H Q := ⟨d, e, h1, h2, s1, s2, k⟩
theorem g_neD {x y : V} {d e : PyData} (h1 : L2.Dp K H x d) (h2 : L2.Dp K H y e) (s1 : SeqAt.shaped d = true) (s2 : SeqAt.shaped e = true) (k : Q (.bl (!PyData.eqv d e)) H) : rNeD K x y H Q := ⟨d, e, h1, h2, s1, s2, k⟩
theorem RG.hu64 {k : Nat} {A : Around} (g : RG k A) : A.units + 64 < cLine := by
  have := g.rm.un
  omega
/-- a tuple whose items need not last as data -/
theorem g_newTq {vs : List V} (S : Sy K F G H) (hl : vs.length ≤ 100000) (k : ∀ p H', H p = none → Sy K F (.tq p vs :: G) H' → Q (.ref p) H') : rNewT vs H Q :=
  ⟨Nat.le_trans hl (by decide), fun p hp => k p _ hp ((S.over hp).add (.tq p vs) (.inl (.inl upd_same)))⟩
/-- the last item -/
theorem atI_last {α : Type} {xs : List α} {x : α} : atI (xs ++ [x]) (-1) = some x := by
  have e : ixN (xs ++ [x]).length (-1) = some xs.length := by
    unfold ixN
    rw [List.length_append, List.length_singleton]
    rw [if_neg (by omega)]
    first
      | (rw [if_pos (by omega)]; congr 1; omega)
      | (simp; omega)
  unfold atI
  rw [e]
  show (xs ++ [x])[xs.length]? = some x
  rw [List.getElem?_append_right (Nat.le_refl _), Nat.sub_self]
  rfl
/-- for over range(a, b) -/
def Rg2For (g : TG) (tb : TS) (D : Ends) (σ : L2.St) (lo : Int) (n : Nat) (H : Hp) : Prop := ∃ W : Nat → Nat → L2.St → Hp → Prop, (∃ m, W 0 m σ H) ∧ ∀ i m σ H, W i m σ H →
  ((Itr lo n).stop i H ∧ D.nx σ H) ∨ ((Itr lo n).go i H ∧ ∃ N : L2.St → Hp → Prop, (∀ σ' H', N σ' H' → ∃ m', m' < m ∧ W (i + 1) m' σ' H') ∧ ∀ x H', (Itr lo n).yld i H x H' → g x σ H' fun σ2 H2 => tb { D with nx := N, ct := N, bk := D.nx } σ2 H2)
theorem g_forR2 {ta : TA} (k : ta σ H fun vs H1 => ∃ i j : Int, vs = [.int i, .int j] ∧ (-(2 ^ 62) ≤ i ∧ i < 2 ^ 62 ∧ -(2 ^ 62) ≤ j ∧ j < 2 ^ 62) ∧ Rg2For g tb D σ i (j - i).toNat H1) : tFor (iRng2 ta) g tb D σ H := k
theorem rg2for_of {lo : Int} {n : Nat} (Pv : Nat → L2.St → Hp → Prop) (h0 : Pv 0 σ H) (turn : ∀ i σ' H', i < n → Pv i σ' H' → g (.int (lo + i)) σ' H' fun σ2 H2 => tb { D with nx := Pv (i + 1), ct := Pv (i + 1), bk := D.nx } σ2 H2)
    (done : ∀ σ' H', Pv n σ' H' → D.nx σ' H') : Rg2For g tb D σ lo n H := for_range (lo := lo) Pv h0 turn done
end
end OB

set_option Elab.async false
set_option linter.all false
set_option maxRecDepth 100000
set_option maxHeartbeats 4000000
/-! OB, part k: sums of tuples, tuples turned round and joined, lists joined. -/
namespace OB
open PySem PySem.Spec PyProof.Rows L2 PySem.W
/-! sum of a list or a tuple of whole numbers -/
def rSumU (K : Frag) : List V → Hp → VK → Prop := fun vs H Q => ∃ (a : Addr) (ns : List Int), vs = [V.ref a] ∧ (SqL K H a (ns.map V.int) ∨ SqT K H a (ns.map V.int)) ∧ Q (.int ns.sum) H
section
variable {X : Cx}
theorem c_sumU (hc : X.calm = true) : CallR X (.builtin "sum") (rSumU X.K) := by
  intro pins s σ H vs us Q I r h
  obtain ⟨a, ns, rfl, hs | hs, q⟩ := h
  · exact cr_sum hc pins s σ H [.ref a] us Q I r ⟨a, ns, rfl, hs, q⟩
  · obtain ⟨its, rv, hl, _⟩ := I.tuple hs
    rw [Vals.ref1 r]
    obtain ⟨xs, hx⟩ := rv.ints.allInts.items
    have hn : numsOf its.toArray.toList = ns := by rw [show its.toArray.toList = its from rfl, rv.ints.numsOf]
    have hl2 : s.heap.IsTuple a (intItems xs) := hx ▸ hl
    rw [hx, nums_intItems] at hn
    refine ktm_sumG (I.ok.hd hc) hl2 fun h' tk t' hk => ?_
    rw [preSum_eq, List.take_of_length_le (by simp), hn]
    exact ⟨.int _, H, I.kept hk, ⟨_, rfl⟩, q⟩
end
section
variable {K : Frag} {F : List (Addr × HO)} {G : List Ft} {H : Hp} {Q : VK} {ns : List Int} {l : Addr}
theorem g_sumUL (h : SqL K H l (ns.map V.int)) (k : Q (.int ns.sum) H) : rSumU K [.ref l] H Q := ⟨l, ns, rfl, .inl h, k⟩
theorem g_sumUT (h : SqT K H l (ns.map V.int)) (k : Q (.int ns.sum) H) : rSumU K [.ref l] H Q := ⟨l, ns, rfl, .inr h, k⟩
end
/-! xs[::-1] of a tuple -/
section
open HT
theorem fm_congr {α β : Type} : ∀ {l : List α} {f g : α → Option β}, (∀ m ∈ l, f m = g m) → l.filterMap f = l.filterMap g
  | [], _, _, _ => rfl
  | x :: l, f, g, h => by
    rw [List.filterMap_cons, List.filterMap_cons, h x (List.mem_cons_self ..), fm_congr fun m hm => h m (List.mem_cons_of_mem _ hm)]
theorem pick_rev (items : Array Value) : ((List.range items.size).filterMap fun (m : Nat) => items[((items.size : Int) - 1 + (m : Int) * (-1)).toNat]?).toArray = items.toList.reverse.toArray := by
  have e : (List.range items.size).filterMap (fun (m : Nat) => items[((items.size : Int) - 1 + (m : Int) * (-1)).toNat]?) = items.toList.reverse := by
    have e1 : ∀ m ∈ List.range items.size, items[((items.size : Int) - 1 + (m : Int) * (-1)).toNat]? = (items.toList.reverse)[m]? := by
      intro m hm
      have hm := List.mem_range.mp hm
      rw [List.getElem?_reverse (by rw [Array.length_toList]; exact hm), Array.length_toList, Array.getElem?_toList]
      congr 1
      omega
    have e2 : (List.range items.size).filterMap (fun (m : Nat) => items[((items.size : Int) - 1 + (m : Int) * (-1)).toNat]?) = (List.range items.toList.reverse.length).filterMap fun m => (items.toList.reverse)[m]? := by
      rw [List.length_reverse, Array.length_toList]
      exact fm_congr e1
    rw [e2]
    generalize items.toList.reverse = l
    induction l with
    | nil => rfl
    | cons x l ih =>
      rw [List.length_cons, List.range_succ_eq_map, List.filterMap_cons]
      show x :: List.filterMap _ _ = _
      rw [List.filterMap_map]
      congr 1
  rw [e]
theorem adjust_rev (n : Nat) : Builtin.Slice.sliceAdjust none none (-1) (n : Int) = ((n : Int) - 1, -1) := rfl
theorem places_rev (n : Nat) : Builtin.Slice.slicePlaces ((n : Int) - 1) (-1) (-1) = n := by
  unfold Builtin.Slice.slicePlaces
  have h1 : ¬ ((-1 : Int) > 0) := by decide
  have h2 : (-(-1 : Int)) = 1 := by decide
  rw [if_neg h1, h2, Int.ediv_one]
  split <;> omega
variable {prog : Program} {w : World} {A : Around} {E : Value → Shared → Prop} {s : Shared}
theorem sliceApplied_rev {sl : Addr} {vl vu vk : Value} {n : Nat} {Q : Int × Int × Nat → Shared → Prop} (hs : s.heap.IsSliceOf sl vl vu vk) (pl : IsPart vl none) (pu : IsPart vu none) (pk : IsPart vk (some (-1)))
    (h : Q ((n : Int) - 1, -1, n) s) : wpAny (model prog w) A (Builtin.Slice.sliceApplied (.ref sl) (pure (n : Int))) Q E s := by
  obtain ⟨os, hos, hcs, hds⟩ := id hs
  unfold Builtin.Slice.sliceApplied Builtin.Slice.sliceFields
  refine wpAny_bind (wpAny_bind (wpAny_field hos hds (x := vl) rfl (wpAny_bind (wpAny_field hos hds (x := vu) rfl (wpAny_bind (wpAny_field hos hds (x := vk) rfl (wpAny_pure ?_)))))))
  refine wpAny_bind (slicePart_ pk ?_)
  show wpAny _ _ (if ((-1 : Int) == 0) = true then _ else _) _ _ s
  rw [if_neg (by decide)]
  refine wpAny_bind (slicePart_ pl (wpAny_bind (slicePart_ pu (wpAny_bind (wpAny_pure ?_)))))
  show wpAny _ _ (match Builtin.Slice.sliceAdjust none none (-1) (n : Int) with | (lo, hi) => pure (lo, (-1 : Int), Builtin.Slice.slicePlaces lo hi (-1))) _ _ s
  rw [adjust_rev n]
  show wpAny _ _ (pure ((n : Int) - 1, (-1 : Int), Builtin.Slice.slicePlaces ((n : Int) - 1) (-1) (-1))) _ _ s
  rw [places_rev]
  exact wpAny_pure h
theorem getItem_tuple_rev {t sl : Addr} {items : Array Value} {vl vu vk : Value} {Q : Value → Shared → Prop} (ht : IsTup s.heap t items) (hs : s.heap.IsSliceOf sl vl vu vk) (pl : IsPart vl none) (pu : IsPart vu none) (pk : IsPart vk (some (-1)))
    (h : Q (.ref s.heap.objs.size) { s with heap := s.heap.push { cls := .type "tuple", data := .seq items.toList.reverse.toArray } })
    (hsz : items.size ≤ sizeLine) : wpAny (model prog w) A (getItem (.ref t) (.ref sl)) Q E s := by
  have htake : sizeOk (.seq items.toList.reverse.toArray) := by
    show (items.toList.reverse.toArray).size ≤ sizeLine
    rw [List.size_toArray, List.length_reverse, Array.length_toList]
    omega
  obtain ⟨os, hos, hcs, hds⟩ := id hs
  have hTs : s.TypeIs (.ref sl) "slice" := ⟨os, hos, hcs⟩
  unfold getItem
  try with_reducible refine wpAny_holding ?_
  first | refine wpAny_bind (wpAny_pure ?_) | skip
  refine wpAny_bind (wpAny_sequenceKey ht.typeIs (by decide) ?_)
  refine wpAny_bind (wpAny_callSpecial?_slot (name := Str.ofString "__getitem__") ht.typeIs PyProof.Rows.slot_tuple_getitem
    (wpAny_call_entry PyProof.Rows.slot_tuple_getitem ht.typeIs entry_tuple_getitem ?_ (args_tuple_getitem _ _)))
  show wpAny _ _ (Builtin.Tuple.tupleItemsOf (.ref t) >>= _) _ _ s
  refine wpAny_bind (tupleItemsOf_ ht ?_)
  refine wpAny_bind (wpAny_typeOf hTs ?_)
  rw [if_pos (by decide)]
  refine wpAny_bind (sliceApplied_rev hs pl pu pk ?_)
  have hno : ¬ (((((items.size : Int) - 1) == 0) && (-1 : Int) == 1 && items.size == items.size) = true) := by
    intro q
    rw [Bool.and_eq_true, Bool.and_eq_true] at q
    exact absurd q.1.2 (by decide)
  show wpAny _ _ (if ((((items.size : Int) - 1) == 0) && (-1 : Int) == 1 && items.size == items.size) = true then _ else _) _ _ s
  rw [if_neg hno, pick_rev]
  first
    | exact wpAny_bind (m := Builtin.Tuple.tupleExact _) (wpAny_newObj_type (wpAny_pure ⟨_, rfl, wpAny_pure h⟩) htake)
    | exact wpAny_bind (m := Builtin.Tuple.tupleExact _) (wpAny_newObj_type (wpAny_bind (wpAny_pure (wpAny_pure ⟨_, rfl, wpAny_pure h⟩))) htake)
    | exact wpAny_bind (wpAny_bind (m := Builtin.Tuple.tupleExact _) (wpAny_newObj_type (wpAny_pure (wpAny_pure ⟨_, rfl, wpAny_pure h⟩)) htake))
    | exact wpAny_bind (wpAny_bind (m := Builtin.Tuple.tupleExact _) (wpAny_newObj_type (wpAny_pure ⟨_, rfl, wpAny_pure h⟩) htake))
end
def tRevT (K : Frag) (te : TE) : TE := fun σ H Q => te σ H fun x H1 => ∃ a xs, x = .ref a ∧ SqT K H1 a xs ∧ ∀ p, H1 p = none → Q (.ref p) (upd H1 p (.tup xs.reverse))
theorem pe_revT0 {X : Cx} {e : Expr} {te : TE} {k : Nat} {p1 p2 p3 pos : Pos} (he : PE X e te) : PE X (.Subscript e (.Slice none none (some (.UnaryOp .USub (.Constant (.int 1) k p1) p2)) p3) pos) (tRevT X.K te) := by
  refine ⟨fun pins s σ H Q I h => ?_⟩
  refine Subscript_ (thn (he.run pins s σ H _ I h) fun v s1 ⟨x, H1, I1, r1, q1⟩ => ?_)
  obtain ⟨a, xs, ex, hx, q⟩ := q1
  subst ex
  cases r1
  have hst : PO X (some (.UnaryOp .USub (.Constant (.int 1) k p1) p2)) (tPart (tUn (rU fun i => .int (-i)) (tC (.int 1)))) := po_some (pe_un un_neg pe_int)
  refine wpAny_Slice (thn (po_none.run pins s1 σ H1 (fun o H2 => o = none ∧ H2 = H1) I1 ⟨rfl, rfl⟩) fun vl s2 ⟨l, H2, I2, pl, el, e2⟩ => ?_)
  subst el e2
  refine thn (po_none.run pins s2 σ H2 (fun o H3 => o = none ∧ H3 = H2) I2 ⟨rfl, rfl⟩) fun vu s3 ⟨u, H3, I3, pu, eu, e3⟩ => ?_
  subst eu e3
  refine thn (hst.run pins s3 σ H3 (fun o H4 => o = some (-1) ∧ H4 = H3) I3 ⟨1, rfl, -1, rfl, rfl, rfl⟩) fun vs s4 ⟨o, H4, I4, ps, eo, e4⟩ => ?_
  subst eo e4
  have I5 : Inv X pins σ H4 { s4 with heap := s4.heap.push { cls := .type "slice", data := .fields #[vl, vu, vs] } } := I4.kept (t' := s4.toks) fun b ob q => Heap.get?_push_of_some _ q
  obtain ⟨its, r, ht, hz⟩ := I5.tuple hx
  have hlen := r.length
  show wpAny (model X.prog X.w) X.A (subscriptTail e (.Slice none none (some (.UnaryOp .USub (.Constant (.int 1) k p1) p2)) p3) (.ref a) (.ref s4.heap.objs.size)) (EP X pins σ Q) X.xe { s4 with heap := s4.heap.push { cls := .type "slice", data := .fields #[vl, vu, vs] } }
  refine tail_any (ops := [.ref a, .ref s4.heap.objs.size]) ht.typeIs (PyProof.Rows.slot_tuple_getitem.lookup) ?_ (by with_unfolding_all rfl)
  refine getItem_tuple_rev ht (Heap.IsSliceOf.new _ vl vu vs) pl pu ps ?_ (by rw [List.size_toArray]; omega)
  refine ⟨.ref _, _, I5.laid (t' := s4.toks) (o := .tup xs.reverse) (fun b ob q => Heap.get?_push_of_some _ q) (Nat.le_refl _) ?_, rfl, q _ (I5.hok.fresh (Nat.le_refl _))⟩
  exact ⟨by rw [List.length_reverse]; exact hz, _, r.reverse, IsTup.new _ _⟩
theorem pe_revT {X : Cx} {K : Frag} (h : X.K = K) {e : Expr} {te : TE} {k : Nat} {p1 p2 p3 pos : Pos} (he : PE X e te) : PE X (.Subscript e (.Slice none none (some (.UnaryOp .USub (.Constant (.int 1) k p1) p2)) p3) pos) (tRevT K te) := h ▸ pe_revT0 he
theorem op_catAK {X : Cx} {K : Frag} (h : X.K = K) : OpR X (binaryOp .Add) (rCatA K) := h ▸ op_catA
section
variable {K : Frag} {F : List (Addr × HO)} {G : List Ft} {σ : L2.St} {H : Hp} {Q : VK} {te : TE} {l b : Addr} {vs zs : List V} {ds : List PyData}
theorem g_revT (k : te σ H fun x H1 => ∃ a xs, x = .ref a ∧ SqT K H1 a xs ∧ ∀ p, H1 p = none → Q (.ref p) (upd H1 p (.tup xs.reverse))) : tRevT K te σ H Q := k
theorem g_rev1 (S : Sy K F G H) (h : SqT K H l vs) (hd : DpAll K H vs ds) (hi : immAll ds = true) (k : ∀ p H', Sy K F (.dat [.ref p] [.tuple ds.reverse] :: G) H' → Q (.ref p) H') : ∃ a xs, V.ref l = .ref a ∧ SqT K H a xs ∧ ∀ p, H p = none → Q (.ref p) (upd H p (.tup xs.reverse)) := by
  have rev : ∀ {vs : List V} {ds : List PyData}, DpAll K H vs ds → DpAll K H vs.reverse ds.reverse := by
    intro vs ds h
    induction vs generalizing ds with
    | nil =>
      cases h
      exact .nil
    | cons v vs ih =>
      cases h with
      | cons a b =>
        rw [List.reverse_cons, List.reverse_cons]
        exact dps_append (ih b) (dps_one a)
  have irev : immAll ds.reverse = true := immAll_of fun x hx => by
    have := List.mem_reverse.mp hx
    clear k hd rev
    induction ds with
    | nil => cases this
    | cons d ds ih =>
      have hi2 : (imm d && immAll ds) = true := hi
      rw [Bool.and_eq_true] at hi2
      rcases List.mem_cons.mp this with rfl | h3
      · exact hi2.1
      · exact ih hi2.2 (List.mem_reverse.mpr h3) h3
  exact ⟨l, vs, rfl, h, fun p hp => k p _ (S.lay hp (rev hd) irev)⟩
/-- two tuples joined: both of data, neither empty -/
theorem g_catA {d1 d2 : List PyData} (S : Sy K F G H) (h1 : SqT K H l vs) (h2 : SqT K H b zs) (e1 : DpAll K H vs d1) (e2 : DpAll K H zs d2) (i1 : immAll (d1 ++ d2) = true) (n1 : vs ≠ []) (n2 : zs ≠ []) (hl : vs.length + zs.length ≤ 100000)
    (k : ∀ p H', H p = none → Sy K F (.dat [.ref p] [.tuple (d1 ++ d2)] :: G) H' → Q (.ref p) H') : rCatA K (.ref l) (.ref b) H Q :=
  ⟨l, b, vs, zs, rfl, rfl, h1, h2, Nat.le_trans hl (by decide), fun z => absurd z n1, fun _ z => absurd z n2, fun _ _ p hp => k p _ hp (S.lay hp (dps_append e1 e2) i1)⟩
/-- two lists joined -/
theorem g_cat {i j : Nat} (S : Sy K F G H) (h1 : F[i]? = some (l, .lst vs)) (h2 : F[j]? = some (b, .lst zs)) (hl : vs.length + zs.length ≤ 100000)
    (k : ∀ p H', Sy K ((p, .lst (vs ++ zs)) :: F) G H' → Q (.ref p) H') : rCat (.ref l) (.ref b) H Q :=
  ⟨l, b, vs, zs, rfl, rfl, S.at i h1, S.at j h2, Nat.le_trans hl (by decide), fun p hp => k p _ (S.push hp)⟩
end
end OB

set_option Elab.async false
set_option linter.all false
set_option maxRecDepth 100000
set_option maxHeartbeats 4000000
/-! OB, part l: sets of whole numbers made of lists, sorted; max of a tuple; in, index, pop; comprehensions over range(a, b). -/
namespace OB
open PySem PySem.Spec PyProof.Rows L2 PySem.W
/-! ### max of a tuple of ints -/
def rMaxU (K : Frag) : List V → Hp → VK → Prop := fun vs H Q => ∃ (a : Addr) (ns : List Int), vs = [V.ref a] ∧ (SqL K H a (ns.map V.int) ∨ SqT K H a (ns.map V.int)) ∧ 0 < ns.length ∧ ∀ m, m ∈ ns → (∀ y, y ∈ ns → y ≤ m) → Q (.int m) H
section
variable {prog : Program} {w : World} {A : Around} {E : Value → Shared → Prop} {s : Shared} {t : Addr} {its : List Value} {ns : List Int}
theorem max_rawT {Q : Value → Shared → Prop} (hh : A.handled = none) (hl : s.heap.IsTuple t its.toArray) (hi : IntsAre its ns) (hne : 0 < ns.length)
    (h : ∀ h' tk M t', (∀ b o, s.heap.get? b = some o → h'.get? b = some o) → M ∈ ns → (∀ a, a ∈ ns → a ≤ M) → Q (.int M t') { s with heap := h', toks := tk }) : wpAny (model prog w) A (call (.builtin "max") [.ref t]) Q E s := by
  obtain ⟨xs, e⟩ := hi.allInts.items
  have hn : numsOf (intItems xs).toList = ns := e ▸ hi.numsOf
  rw [nums_intItems] at hn
  subst hn
  rw [e] at hl
  have n0 : 0 < xs.size := by simpa using hne
  obtain ⟨o, ho, hc, n, hd⟩ := id hl
  have ne : t ≠ s.heap.objs.size := Nat.ne_of_lt (Heap.lt_size ho)
  refine call_max_walk (wpAny_pyIter_tuple hl ⟨s.heap.objs.size, _, _, _, _, _, _, rfl, Walks.tuple (A := A.in1) hh _ t ne (intItems xs), ⟨⟨_, Heap.get?_push_size _ rfl, rfl, rfl⟩, hl.at fun o e => Heap.get?_push_of_some _ e⟩, fun b hb => ?_, by simpa [intItems] using n0, CmpOf.ints_gt (numAt xs) (fun _ _ => intItems_at), fun v h' tk hP hk => ?_⟩)
  · rcases List.mem_cons.mp hb with rfl | hb
    · exact Heap.lt_size (Heap.get?_push_size _ rfl)
    · cases List.mem_singleton.mp hb
      exact Heap.lt_size (Heap.get?_push_of_some _ ho)
  · obtain ⟨t', rfl⟩ := intItems_at (show (intItems xs)[_]? = some v from hP)
    obtain ⟨b1, b2⟩ := argBest_gt (numAt xs) ((intItems xs).size - 1)
    have es : (intItems xs).size = xs.size := by simp [intItems]
    rw [es] at b1 b2
    refine h h' tk _ t' (fun b o e => hk b o (fun hb => absurd (Heap.lt_size e) ((List.mem_singleton.mp hb) ▸ Nat.lt_irrefl _)) (Heap.get?_push_of_some _ e)) ?_ fun a ha => ?_
    · rw [numAt_eq, es]
      exact PySem.getD_mem (by rw [List.length_map, Array.length_toList]; omega)
    · obtain ⟨j, hj, rfl⟩ := mem_getD ha
      rw [List.length_map, Array.length_toList] at hj
      have := b2 j (by omega)
      rw [numAt_eq, numAt_eq] at this
      rw [numAt_eq, es]
      exact this
end
section
variable {X : Cx}
theorem c_maxU (hc : X.calm = true) : CallR X (.builtin "max") (rMaxU X.K) := by
  intro pins s σ H vs us Q I r h
  obtain ⟨a, ns, rfl, hs | hs, n0, q⟩ := h
  · exact cr_max hc pins s σ H [.ref a] us Q I r ⟨a, ns, rfl, hs, n0, q⟩
  · obtain ⟨its, rv, hl, _⟩ := I.tuple hs
    rw [Vals.ref1 r]
    exact max_rawT (I.ok.hd hc) hl rv.ints n0 fun h' tk m t' hk h1 h2 => ⟨.int _, H, I.kept hk, ⟨_, rfl⟩, q m h1 h2⟩
/-! ### x in a list or tuple of ints -/
theorem op_inK {K : Frag} (h : X.K = K) : OpR X (compareOp .In) (rIn K false) := h ▸ op_in_seq
end
theorem flat_ints (ns : List Int) : (ns.map V.int).all flatV = true := List.all_eq_true.mpr fun x hx => by
  obtain ⟨n, _, rfl⟩ := List.mem_map.mp hx
  rfl
theorem inV_ints (a : Int) : ∀ (ns : List Int), inV (.int a) (ns.map V.int) = decide (a ∈ ns)
  | [] => by simp [inV]
  | n :: ns => by
    have e := inV_ints a ns
    unfold inV at e ⊢
    rw [List.map_cons, List.any_cons, e]
    by_cases h : n = a
    · subst h
      simp [eqV]
    · have h2 : ¬ a = n := fun z => h z.symm
      have e3 : eqV (.int n) (.int a) = false := by simp [eqV, h]
      rw [e3]
      simp [h2]
section
variable {K : Frag} {F : List (Addr × HO)} {G : List Ft} {σ : L2.St} {H : Hp} {Q : VK} {ns : List Int} {l : Addr} {a : Int}
theorem g_inT (h : SqT K H l (ns.map V.int)) (k : Q (.bl (decide (a ∈ ns))) H) : rIn K false (.int a) (.ref l) H Q :=
  ⟨l, _, rfl, .inr h, rfl, flat_ints ns, by rw [if_neg Bool.false_ne_true, inV_ints]; exact k⟩
theorem g_inL (h : SqL K H l (ns.map V.int)) (k : Q (.bl (decide (a ∈ ns))) H) : rIn K false (.int a) (.ref l) H Q :=
  ⟨l, _, rfl, .inl h, rfl, flat_ints ns, by rw [if_neg Bool.false_ne_true, inV_ints]; exact k⟩
theorem g_maxUL (h : SqL K H l (ns.map V.int)) (n0 : 0 < ns.length) (k : ∀ m, m ∈ ns → (∀ y, y ∈ ns → y ≤ m) → Q (.int m) H) : rMaxU K [.ref l] H Q := ⟨l, ns, rfl, .inl h, n0, k⟩
theorem g_maxUT (h : SqT K H l (ns.map V.int)) (n0 : 0 < ns.length) (k : ∀ m, m ∈ ns → (∀ y, y ∈ ns → y ≤ m) → Q (.int m) H) : rMaxU K [.ref l] H Q := ⟨l, ns, rfl, .inr h, n0, k⟩
theorem seqIx0 {n : Nat} (h : 0 < n) : seqIndex? 0 n = some 0 := by
  unfold seqIndex?
  first
    | (rw [if_pos (by omega)]; simp; done)
    | (simp; omega)
/-- xs.pop(0) -/
theorem g_pop0 {f : Nat} {x : V} {xs : List V} (S : Sy K F G H) (h : F[f]? = some (l, .lst (x :: xs))) (k : ∀ H', Sy K (F.set f (l, .lst xs)) G H' → Q x H') : rPopAt (.ref l) [.int 0] H Q :=
  ⟨l, x :: xs, 0, 0, x, rfl, rfl, S.at f h, by decide, by decide, seqIx0 (Nat.succ_pos _), rfl, k _ (S.put f h rfl)⟩
/-- xs.index(n), n there -/
theorem g_indexI (h : SqL K H l (ns.map V.int)) {j : Nat} (e : ns[j]? = some a) (no : ∀ m z, m < j → ns[m]? = some z → z ≠ a) (k : Q (.int (j : Nat)) H) : rIndex K (.ref l) [.int a] H Q := by
  refine ⟨l, ns.map V.int, .int a, j, .int a, rfl, rfl, h, rfl, flat_ints ns, by rw [List.getElem?_map, e]; rfl, by simp [eqV], fun m z' hm hz => ?_, k⟩
  rw [List.getElem?_map] at hz
  obtain ⟨z, hz2, rfl⟩ := Option.map_eq_some_iff.mp hz
  have := no m z hm hz2
  simp [eqV, this]
end
/-! ### comprehensions over range(a, b) -/
section
variable {K : Frag} {F : List (Addr × HO)} {G : List Ft} {σ : L2.St} {H : Hp} {Q : VK} {own : List Nat} {g : TG} {tt : TT} {te : TE}
def Rg2Lc (K : Frag) (g : TG) (tt : TT) (te : TE) (own : List Nat) (σ : L2.St) (Q : VK) (lo : Int) (n : Nat) (H : Hp) : Prop := ∀ Dp, H Dp = none → ∃ W : Nat → Nat → Hp → Prop, (∃ m, W 0 m (upd H Dp (.lst []))) ∧ ∀ i m H, W i m H →
  ((Itr lo n).stop i H ∧ Q (.ref Dp) H) ∨ ((Itr lo n).go i H ∧ ∃ Nx : Hp → Prop, (∀ H', Nx H' → ∃ m', m' < m ∧ W (i + 1) m' H') ∧ ∀ x H', (Itr lo n).yld i H x H' → g x (wipe σ own) H' fun σ2 H2 => wipe σ2 own = wipe σ own ∧ tt σ2 H2 fun b H3 =>
    if b = true then te σ2 H3 fun y H4 => ∃ acc, H4 Dp = some (.lst acc) ∧ acc.length < sizeLine ∧ Nx (upd H4 Dp (.lst (acc ++ [y]))) else Nx H3)
theorem g_lcR2 {ta : TA} (k : ta σ H fun vs H1 => ∃ i j : Int, vs = [.int i, .int j] ∧ (-(2 ^ 62) ≤ i ∧ i < 2 ^ 62 ∧ -(2 ^ 62) ≤ j ∧ j < 2 ^ 62) ∧ Rg2Lc K g tt te own σ Q i (j - i).toNat H1) : tLc (iRng2 ta) g tt te own σ H Q := k
theorem rg2lc_of {lo : Int} {n : Nat} (I : Nat → List (Addr × HO) → List PyData → Prop) (S : Sy K F G H) (h0 : I 0 F []) (hl : ∀ i F ds, I i F ds → ds.length < 100000)
    (turn : ∀ i, i < n → Turn1 K G I σ own g tt te i (.int (lo + i)))
    (done : ∀ Dp H' F' vs ds, H Dp = none → I n F' ds → Sy K ((Dp, .lst vs) :: F') (.dat vs ds :: G) H' → Q (.ref Dp) H') : Rg2Lc K g tt te own σ Q lo n H := fun Dp hD => by
  refine lc_range (lo := lo) (n := n) (LcP K G I Dp) (lcp_start S h0 hD) (fun i H' hi p => lcp_turn hl (turn i hi) p) fun H' p => ?_
  obtain ⟨F', vs, ds, hi, S'⟩ := p
  exact done Dp H' F' vs ds hD hi S'
/-! tuples of data joined, either of them empty or not -/
theorem g_catU {l b : Addr} {d1 d2 : List PyData} (S : Sy K F G H) (h1 : L2.Dp K H (.ref l) (.tuple d1)) (h2 : L2.Dp K H (.ref b) (.tuple d2)) (i1 : immAll d1 = true) (i2 : immAll d2 = true) (hl : d1.length + d2.length ≤ 100000)
    (k : ∀ p H', Sy K F (.dat [.ref p] [.tuple (d1 ++ d2)] :: G) H' → Q (.ref p) H') : rCatA K (.ref l) (.ref b) H Q := by
  obtain ⟨l', vs, e, s1, e1⟩ := dp_at h1
  cases e
  obtain ⟨b', zs, e, s2, e2⟩ := dp_at h2
  cases e
  have n1 := dps_length e1
  have n2 := dps_length e2
  refine ⟨l, b, vs, zs, rfl, rfl, s1, s2, Nat.le_trans (by omega) (show 100000 ≤ sizeLine by decide), fun z => ?_, fun _ z => ?_, fun _ _ p hp => k p _ (S.lay hp (dps_append e1 e2) (by rw [immAll_append, i1, i2]; rfl))⟩
  · subst z
    have : d1 = [] := List.length_eq_zero_iff.mp n1.symm
    subst this
    exact k b H (S.fact (dps_one h2) (by show (imm (.tuple d2) && true) = true; rw [Bool.and_true]; exact i2))
  · subst z
    have : d2 = [] := List.length_eq_zero_iff.mp n2.symm
    subst this
    refine k l H (S.fact (dps_one ?_) ?_)
    · rw [List.append_nil]; exact h1
    · show (imm (.tuple (d1 ++ [])) && true) = true
      rw [List.append_nil, Bool.and_true]
      exact i1
end
/-! ### set(xs) of a list of ints, sorted(set) -/
abbrev sObj (w : World) : Obj := { cls := .type "set", dict := none, data := .set #[] 0 (.fresh 0 0 (!w.params.followText "set-order")) }
section
variable {P : Program} {w : World} {A : Around} {E : Value → Shared → Prop} {s : Shared}
set_option maxRecDepth 100000 in
set_option maxHeartbeats 3200000 in
theorem set_listI {l : Addr} {items : Array Value} (ns : List Int) {Q : Value → Shared → Prop} (hh : A.handled = none) (hl : s.heap.IsList l items) (hit : IntsAre items.toList ns) (hb : ns.length + 1 < scanBound)
    (h : ∀ (h' : Heap) (tk c : Nat), SetR w h' s.heap.objs.size (fun j => decide (j ∈ ns)) c → c ≤ ns.length → (∀ b o, s.heap.get? b = some o → h'.get? b = some o) → Q (.ref s.heap.objs.size) { s with heap := h', toks := tk }) :
    wpAny (model P w) A (call (.type "set") [.ref l]) Q E s := by
  have isz : items.size = ns.length := (Array.length_toList ▸ IntsAre.length hit : _)
  obtain ⟨_, _, hmro⟩ := F.called_set.mro
  have made := F.called_set.made
  have sub := F.called_set.sub
  refine wpAny_call (codeAny_of_tree (show wpAny _ _ (callAny (.type "set") _) _ _ _ from wpAny_pure ⟨Code.quiet_builtin _ (by decide +kernel), codeAny_builtin F.entry_type_call ?_⟩))
  rw [Around.under_plain (weight_type_call_type "set" [.ref l] []) rfl]
  have nt := F.called_set.notType
  have cc := F.called_set.canCreate
  have tc := F.typeCall_set_1 (.ref l)
  repeat (any_goals (first | assumption | wp_step))
  refine codeAny_mono (code_set_led1 (.ref l) (E := E) (Q₁ := fun obj s₁ => obj = .ref s.heap.objs.size ∧ s₁ = { s with heap := s.heap.push (sObj w) }) ⟨rfl, rfl⟩) fun r s₁ hr => ?_
  cases r with
  | error e => exact hr
  | ok fl =>
    cases fl with
    | ret obj =>
      obtain ⟨rfl, rfl⟩ := hr
      have hS : (s.heap.push (sObj w)).get? s.heap.objs.size = some (sObj w) := Heap.get?_push_size _ rfl
      have hT : Shared.TypeIs { s with heap := s.heap.push (sObj w) } (.ref s.heap.objs.size) "set" := ⟨_, hS, rfl⟩
      have li := F.called_set.init.lookup
      have bi := F.called_set.init.bind (.ref s.heap.objs.size)
      repeat (any_goals (first | assumption | wp_step))
      refine codeAny_mono (codeAny_call_builtin (R := wants (fun r s₂ => r = .none ∧ ∃ h' tk c, s₂ = { s with heap := h', toks := tk } ∧ SetR w h' s.heap.objs.size (fun j => decide (j ∈ ns)) c ∧ c ≤ ns.length ∧ (∀ b o, s.heap.get? b = some o → h'.get? b = some o)) E) F.called_set.init.plain F.entry_set_init (check_set_init_1 hT ?_)) fun r₂ s₂ hr₂ => ?_
      · obtain ⟨⟨oc, od, oda, osl⟩, hol, hcl, nl, hdl⟩ := hl
        simp only at hcl hdl
        subst hcl hdl
        have hol' : (s.heap.push (sObj w)).get? l = some { cls := .type "list", dict := od, data := .seq items nl, slots := osl } := Heap.get?_push_of_some _ hol
        have u1 := F.sub_list_set
        have u2 := F.sub_list_frozenset
        have u3 : (Value.type "list" == Value.type "dict") = false := by decide
        have hl1 : (s.heap.push (sObj w)).IsList l items := ⟨_, hol', rfl, nl, rfl⟩
        unfold Builtin.«set.__init__» noKeywords Builtin.Frozenset.updateFrom
        generalize hPI : pyIter = PI
        wp_walk
        subst hPI
        refine wpAny_pyIter_list hl1 (wpAny_bind (wpAny_runValue ?_))
        have lS : l < s.heap.objs.size := Heap.lt_size hol
        have z1 : (s.heap.push (sObj w)).objs.size = s.heap.objs.size + 1 := Heap.size_push ..
        have nI : l ≠ (s.heap.push (sObj w)).objs.size := fun z => by
          rw [Heap.size_push] at z
          exact Nat.lt_irrefl _ (Nat.lt_of_succ_lt (z ▸ lS))
        have Sf : s.heap.objs.size ∉ [(s.heap.push (sObj w)).objs.size, l] := by
          intro z
          rcases List.mem_cons.mp z with z | z
          · rw [Heap.size_push] at z
            exact Nat.succ_ne_self _ z.symm
          · exact absurd (List.mem_singleton.mp z) (Nat.ne_of_gt lS)
        have val : ∀ (i : Nat) (v : Value), items[i]? = some v → ∃ k t, ns[i]? = some k ∧ v = .int k t := fun i v hv => by
          have hi : i < ns.length := by rw [← isz]; exact (Array.getElem?_eq_some_iff.mp hv).1
          obtain ⟨t, e⟩ := PyProof.Rows.IntsAre.int_at hit i v (by rw [Array.getElem?_toList]; exact hv)
          exact ⟨ns[i], t, List.getElem?_eq_getElem hi, by rw [e, List.getD_eq_getElem?_getD, List.getElem?_eq_getElem hi] <;> rfl⟩
        refine set_update_ints ((Walks.list (by simp [hh]) _ l nI items).toS) s.heap.objs.size Sf ns isz hb val (items.size - 0) 0 _ (by omega) (Nat.zero_le _) ⟨⟨_, Heap.get?_push_size _ rfl, rfl, rfl⟩, (hl1.push _)⟩ ⟨0, Nat.le_refl 0, setR_new_at (Heap.get?_push_of_some _ hS)⟩ fun s' c' hm hc' hS' => ?_
        obtain ⟨h', g2, d', tk', os'⟩ := s'
        have eg : g2 = s.gens := hm.gens
        have ed : d' = s.drawn := hm.drawn
        have eo : os' = s.os := hm.os
        subst eg ed eo
        show wpAny _ _ _ _ _ _
        refine wpAny_pure (show wpAny _ _ (ret Value.none) _ _ _ from ?_)
        rw [isz] at hc'
        refine wpAny_pure ⟨rfl, h', tk', c', rfl, hS', hc', fun b o e => ?_⟩
        have b0 : b < s.heap.objs.size := Heap.lt_size e
        refine hm.heap b o (fun z => ?_) (Heap.get?_push_of_some _ (Heap.get?_push_of_some _ e))
        rcases List.mem_cons.mp z with z | z
        · exact absurd z (Nat.ne_of_lt b0)
        · have z := List.mem_singleton.mp z
          rw [Heap.size_push] at z
          exact absurd z (Nat.ne_of_lt (Nat.lt_succ_of_lt b0))
      · cases r₂ with
        | error e => exact hr₂
        | ok fl₂ =>
          cases fl₂ with
          | ret r =>
            obtain ⟨rfl, h', tk, c, rfl, q1, q2, q3⟩ := hr₂
            repeat (any_goals (first | assumption | wp_step))
            exact h _ _ _ q1 q2 q3
          | _ => exact hr₂.elim
    | _ => exact hr.elim
end
def SetIO (w : World) (a : Addr) (S : Int → Bool) (n : Nat) : HO := .ext fun h => SetR w h a S n
theorem setIO_new {P : Program} {w : World} {H : Hp} {h : Heap} {a : Addr} {S : Int → Bool} {n : Nat} (R : SetR w h a S n) : ObjOk P w H h a (SetIO w a S n) := by
  obtain ⟨o, _, _, _, ho, _⟩ := id R
  exact ⟨R, ⟨o, ho⟩, fun h1 h2 p k => p.at k⟩
def rSetI (K : Frag) (w : World) : List V → Hp → VK → Prop := fun vs H Q => ∃ (l : Addr) (ns : List Int), vs = [V.ref l] ∧ SqL K H l (ns.map V.int) ∧ ns.length < 1000 ∧ ∀ a n, H a = none → n ≤ ns.length → Q (.ref a) (upd H a (SetIO w a (fun j => decide (j ∈ ns)) n))
def rSortSI (w : World) : List V → Hp → VK → Prop := fun vs H Q => ∃ (a : Addr) (S : Int → Bool) (n : Nat), vs = [V.ref a] ∧ H a = some (SetIO w a S n) ∧ n < 64 ∧
  ∀ (ms : List Int) (p : Addr), ms.Pairwise (· < ·) → (∀ k, k ∈ ms ↔ S k = true) → ms.length = n → H p = none → Q (.ref p) (upd H p (.lst (ms.map V.int)))
section
variable {X : Cx}
theorem c_setI (hc : X.calm = true) : CallR X (.type "set") (rSetI X.K X.w) := by
  intro pins s σ H vs us Q I r h
  obtain ⟨l, ns, rfl, hs, hn, q⟩ := h
  rw [Vals.ref1 r]
  obtain ⟨its, rv, pl, _⟩ := I.list hs
  refine set_listI (P := X.prog) (w := X.w) ns (I.ok.hd hc) pl.isList rv.ints (by unfold scanBound; omega) fun h' tk c R hc' k => ?_
  exact ⟨.ref s.heap.objs.size, upd H s.heap.objs.size (SetIO X.w s.heap.objs.size _ c), I.laid (t' := tk) k (Nat.le_refl _) (setIO_new R), rfl, q _ c (I.hok.fresh (Nat.le_refl _)) hc'⟩
theorem c_sortSI (hc : X.calm = true) : CallR X (.builtin "sorted") (rSortSI X.w) := by
  intro pins s σ H vs us Q I r h
  obtain ⟨a, S, n, rfl, ha, h64, q⟩ := h
  have R : SetR X.w s.heap a S n := (I.hok a _ ha).1
  rw [Vals.ref1 r]
  refine sorted_set R (I.ok.hd hc) h64 fun s' p out c ms k g o hp hg hi pw hm hl => ?_
  have len : (ms.map V.int).length ≤ sizeLine := by rw [List.length_map, hl, sizeLine_eq]; omega
  have hn : H p = none := I.hok.fresh hp
  have J : Inv X pins σ (upd H p (.lst (ms.map V.int))) { s with heap := s'.heap, gens := s'.gens, drawn := s'.drawn, toks := s'.toks } :=
    I.call (ch := []) (Un.laid k hp hn) (I.hok.laid k hp ⟨len, out.toList, c, vals_of_ints hi, hg⟩) (by rw [g]; exact I.bare) (fun _ z => nomatch z)
  have e : s' = { s with heap := s'.heap, gens := s'.gens, drawn := s'.drawn, toks := s'.toks } := by
    obtain ⟨_, _, _, _, _⟩ := s'
    obtain ⟨_, _, _, _, _⟩ := s
    cases o
    rfl
  rw [e]
  exact ⟨.ref p, _, J, rfl, q ms p pw hm hl hn⟩
end
section
variable {K : Frag} {w : World} {F : List (Addr × HO)} {G : List Ft} {H : Hp} {Q : VK} {ns : List Int} {l : Addr}
theorem g_setI (S : Sy K F G H) (h : SqL K H l (ns.map V.int)) (hl : ns.length < 64) (k : ∀ a n H', n < 64 → H' a = some (SetIO w a (fun j => decide (j ∈ ns)) n) → Sy K F G H' → Q (.ref a) H') : rSetI K w [.ref l] H Q :=
  ⟨l, ns, rfl, h, by omega, fun a n ha hn => k a n _ (by omega) upd_same (S.over ha)⟩
theorem g_sortSI {a : Addr} {n : Nat} (S : Sy K F G H) (h : H a = some (SetIO w a (fun j => decide (j ∈ ns)) n)) (h64 : n < 64) (k : ∀ (ms : List Int) p H', ms.Pairwise (· < ·) → (∀ x, x ∈ ms ↔ x ∈ ns) → ms.length < 64 → Sy K ((p, .lst (ms.map V.int)) :: F) G H' → Q (.ref p) H') : rSortSI w [.ref a] H Q :=
  ⟨a, _, n, rfl, h, h64, fun ms p pw hm hl hp => k ms p _ pw (fun x => by rw [hm]; exact decide_eq_true_iff) (by omega) (S.push hp)⟩
end
end OB

set_option Elab.async false
set_option linter.all false
set_option maxRecDepth 100000
set_option maxHeartbeats 4000000
/-! OB, part m: dicts of ints read, written, gone through; min of a list of alike data; lists turned round. -/
namespace OB
open PySem PySem.Spec PyProof.Rows L2 PySem.W
section
variable {K : Frag} {F : List (Addr × HO)} {G : List Ft} {σ : L2.St} {H : Hp} {Q : VK} {d : Addr} {kvs : List (Key × V)} {i : Nat} {n : Int} {v x : V} {od : Obj} {u : HO}
/-! ### locked while a comprehension goes through it -/
theorem g_lockE {t : TE} (S : Sy K F G H) (h : F[i]? = some (d, .dK kvs)) (k : ∀ od H', Sy K (F.set i (d, .frz od (.dK kvs))) G H' → t σ H' fun v H2 => H2 d = some (.frz od (.dK kvs)) ∧ Q v (upd H2 d (.dK kvs))) : tLockE t σ H Q :=
  ⟨d, _, S.at i h, trivial, fun od => k od _ (S.put i h rfl)⟩
theorem Sy.unlock {y : Addr × HO} (S : Sy K (y :: F.set i (d, .frz od u)) G H) (h : F[i]? = some (d, u)) (m : isFix u = false) : H d = some (.frz od u) ∧ Sy K (y :: F) G (upd H d u) := by
  have hi := (List.getElem?_eq_some_iff.mp h).1
  have e : (y :: F.set i (d, .frz od u))[i + 1]? = some (d, .frz od u) := by
    show (F.set i (d, .frz od u))[i]? = _
    exact List.getElem?_set_self hi
  refine ⟨S.at (i + 1) e, ?_⟩
  have S2 := S.put (o' := u) (i + 1) e (by show (!isFix u) = true; rw [m]; rfl)
  have S3 : Sy K (y :: (F.set i (d, .frz od u)).set i (d, u)) G (upd H d u) := S2
  have e3 : F.set i (d, u) = F := by
    refine List.ext_getElem? fun j => ?_
    by_cases c : i = j
    · subst c
      rw [List.getElem?_set_self hi, h]
    · rw [List.getElem?_set_ne c]
  rw [List.set_set, e3] at S3
  exact S3
/-- a comprehension over the keys -/
theorem g_lcK {td : TE} {g : TG} {tt : TT} {te : TE} {own : List Nat} {ks : List Int} (I : Nat → List (Addr × HO) → List PyData → Prop) (S : Sy K F G H) (ht : ∀ Q' : VK, Q' (.ref d) H → td σ H Q') (h0 : I 0 F [])
    (hq : ∀ i F' ds H', I i F' ds → Sy K F' G H' → H' d = some (.frz od (.dK kvs))) (hl : ∀ i F ds, I i F ds → ds.length < 100000) (hk : KeysI kvs ks)
    (turn : ∀ i n, ks[i]? = some n → Turn1 K G I σ own g tt te i (.int n))
    (done : ∀ Dp H' F' vs ds, H Dp = none → I ks.length F' ds → Sy K ((Dp, .lst vs) :: F') (.dat vs ds :: G) H' → Q (.ref Dp) H') : tLc (iKeys td) g tt te own σ H Q := by
  have kl : kvs.length = ks.length := by
    have e := congrArg List.length hk
    rw [List.length_map, List.length_map] at e
    exact e
  refine ht _ ⟨d, od, rfl, .inl ⟨kvs, hq 0 F [] H h0 S, fun Dp hD => ?_⟩⟩
  refine lc_it (walk_keys (d := d) (o := od) (kvs := kvs)) (LcP K G I Dp) (lcp_start S h0 hD) (fun i H' _ p => ?_) (fun i v H1 H' hi p y => ?_) fun H' p => ?_
  · obtain ⟨F', vs, ds, hi, S'⟩ := p
    exact hq i F' ds _ hi S'.drop.less
  · obtain ⟨rfl, k, z, hz, rfl⟩ := y
    have hki : (kvs.map (·.1))[i]? = some k := by rw [List.getElem?_map, hz]; rfl
    rw [show kvs.map (·.1) = ks.map Sum.inl from hk, List.getElem?_map] at hki
    obtain ⟨n, hn, rfl⟩ := Option.map_eq_some_iff.mp hki
    exact lcp_turn hl (turn i n hn) p
  · obtain ⟨F', vs, ds, hi, S'⟩ := p
    rw [kl] at hi
    exact done Dp H' F' vs ds hD hi S'
/-! ### read and written -/
def rDGet (x y : V) (H : Hp) (Q : VK) : Prop := ∃ a v, x = .ref a ∧ DGet H a y (some v) ∧ Q v H
theorem g_dget {td ty : TE} (k : td σ H fun x H1 => ty σ H1 fun y H2 => rDGet x y H2 Q) : tDGet td ty σ H Q := k
theorem g_dgetI (h : Rd H d (.dK kvs)) (e : valV kvs (.inl n) = some v) (k : Q v H) : rDGet (.ref d) (.int n) H Q := ⟨d, v, rfl, .inl ⟨kvs, .inl n, h, rfl, e.symm⟩, k⟩
def rDNotIn (y x : V) (H : Hp) (Q : VK) : Prop := ∃ a o, x = .ref a ∧ DGet H a y o ∧ Q (.bl (!o.isSome)) H
theorem g_dnotin {td ty : TE} (k : ty σ H fun y H1 => td σ H1 fun x H2 => rDNotIn y x H2 Q) : tDNotIn ty td σ H Q := k
theorem g_dnotinI (h : Rd H d (.dK kvs)) (k : Q (.bl (!(valV kvs (.inl n)).isSome)) H) : rDNotIn (.int n) (.ref d) H Q := ⟨d, _, rfl, .inl ⟨kvs, .inl n, h, rfl, rfl⟩, k⟩
theorem g_setD {QH : Hp → Prop} (S : Sy K F G H) (h : F[i]? = some (d, .dK kvs)) (hl : kvs.length < 100000) (k : ∀ H', Sy K (F.set i (d, .dK (putK kvs (.inl n) v))) G H' → QH H') : rSetD (.ref d) (.int n) v H QH :=
  ⟨d, _, rfl, .inl ⟨kvs, .inl n, S.at i h, rfl, Nat.lt_of_lt_of_le hl (by decide), rfl⟩, k _ (S.put i h rfl)⟩
/-- {k: v}, the value made behind the dict -/
theorem g_disp2 {tk tv : TE} (k : ∀ p, H p = none → tk σ (upd H p (.dK [])) fun x H2 => tv σ H2 fun y H3 => H3 p = some (.dK []) ∧ ∃ n, x = .int n ∧ Q (.ref p) (upd H3 p (.dK [(.inl n, y)]))) (mono : ∀ H (Q Q' : VK), (∀ x H', Q x H' → Q' x H') → tk σ H Q → tk σ H Q')
    (mono2 : ∀ H (Q Q' : VK), (∀ x H', Q x H' → Q' x H') → tv σ H Q → tv σ H Q') : tDisp [(tk, tv)] σ H Q := by
  intro p hp
  refine mono _ _ _ (fun x H2 h2 => mono2 _ _ _ (fun y H3 h3 => ?_) h2) (k p hp)
  obtain ⟨e, n, rfl, q⟩ := h3
  exact ⟨e, [(.inl n, y)], rfl, Nat.le_of_ble_eq_true rfl, q⟩
end
/-! ### min of a list of alike data: the item itself -/
def rMinD (K : Frag) : List V → Hp → VK → Prop := fun vs H Q => ∃ (a : Addr) (xs : List V) (d : PyData) (ds : List PyData), vs = [.ref a] ∧ SqL K H a xs ∧ DpAll K H xs (d :: ds) ∧ AlikeAll (d :: ds) ∧ (∀ e ∈ d :: ds, e.canLay0 = true) ∧ PyData.depthAll (d :: ds) ≤ 60 ∧
  ∀ (i : Nat) (v : V), xs[i]? = some v → (d :: ds)[i]? = some (minD d ds) → Q v H
section
variable {X : Cx}
theorem c_minD (hc : X.calm = true) (hu : X.A.units + 64 < cLine) : CallR X (.builtin "min") (rMinD X.K) := by
  intro pins s σ H vs us Q I r h
  obtain ⟨a, xs, d, ds, rfl, hs, hd, ha, hcl, hdp, q⟩ := h
  rw [Vals.ref1 r]
  obtain ⟨its, rv, pl, _⟩ := I.list hs
  obtain ⟨as, hr⟩ := Dp.readsAll I (d :: ds) xs its hd rv
  refine min_list_data (I.ok.hd hc) pl.isList hr ha (by omega) fun i v h' tk bs hv hrd hk => ?_
  have I2 : Inv X pins σ H { s with heap := h', toks := tk } := I.kept hk
  have hv : its[i]? = some v := by
    rw [← hv]
    simp
  have hi : i < xs.length := by
    rw [rv.length]
    exact (List.getElem?_eq_some_iff.mp hv).1
  have hy : xs[i]? = some xs[i] := List.getElem?_eq_getElem hi
  generalize xs[i] = y at hy
  obtain ⟨u, hu2, ry⟩ := rv.get hy
  rw [hv] at hu2
  cases hu2
  obtain ⟨e, he, hye⟩ := dps_get hd hy
  obtain ⟨as2, r2⟩ := Dp.reads I2 e y v hye ry
  have eq := PySem.SeqAt.Reads.unique e (minD d ds) v as2 bs (hcl e (List.mem_of_getElem? he)) r2 hrd
  exact ⟨y, H, I2, ry, q i y hy (eq ▸ he)⟩
end
/-! ### a list turned round -/
def rRevL (K : Frag) (x : V) (H : Hp) (Q : VK) : Prop := ∃ a xs, x = .ref a ∧ SqL K H a xs ∧ ∀ p, H p = none → Q (.ref p) (upd H p (.lst xs.reverse))
theorem pe_revLK {X : Cx} {K : Frag} (h : X.K = K) {e : Expr} {te : TE} {k : Nat} {p1 p2 p3 pos : Pos} (he : PE X e te) : PE X (.Subscript e (.Slice none none (some (.UnaryOp .USub (.Constant (.int 1) k p1) p2)) p3) pos) (tRevL K te) := h ▸ pe_revL he
section
variable {K : Frag} {F : List (Addr × HO)} {G : List Ft} {σ : L2.St} {H : Hp} {Q : VK} {te : TE} {l : Addr} {xs : List V}
theorem g_revL (k : te σ H fun x H1 => rRevL K x H1 Q) : tRevL K te σ H Q := k
theorem g_revL1 (S : Sy K F G H) (h : SqL K H l xs) (k : ∀ p H', Sy K ((p, .lst xs.reverse) :: F) G H' → Q (.ref p) H') : rRevL K (.ref l) H Q := ⟨l, xs, rfl, h, fun p hp => k p _ (S.push hp)⟩
/-! truth of None and of whole numbers -/
theorem g_truN {QB : Bool → Hp → Prop} (k : QB false H) : rTruK K .non H QB := ⟨_, rfl, k⟩
theorem g_truI {n : Int} {QB : Bool → Hp → Prop} (k : QB (n != 0) H) : rTruK K (.int n) H QB := ⟨_, rfl, k⟩
end
end OB

set_option Elab.async false
set_option linter.all false
set_option maxRecDepth 100000
set_option maxHeartbeats 4000000
/-! OB, part n: a comprehension inside of one; items that are objects that may change. -/
namespace OB
open PySem PySem.Spec PyProof.Rows L2 PySem.W
theorem pi_seqK {X : Cx} {K : Frag} {tg l : Expr} {tl : TE} (h : X.K = K) (hl : PE X l tl) : PI X tg l (iSeq K tl) := h ▸ pi_seq hl
section
variable {K : Frag}
/-! ### a comprehension whose items are objects that may change -/
abbrev Turn3 (K : Frag) (G : List Ft) (I : Nat → List (Addr × HO) → List V → Prop) (σ : L2.St) (own : List Nat) (g : TG) (tt : TT) (te : TE) (i : Nat) (x : V) : Prop :=
  ∀ (Dp : Addr) (H : Hp) (F : List (Addr × HO)) (vs : List V) (QE : VK) (QR : Hp → Prop), I i F vs → Sy K ((Dp, .lst vs) :: F) G H →
    (∀ y F' H', I (i + 1) F' (vs ++ [y]) → Sy K ((Dp, .lst vs) :: F') G H' → QE y H') → (∀ F' H', I (i + 1) F' vs → Sy K ((Dp, .lst vs) :: F') G H' → QR H') →
    g x (wipe σ own) H fun σ2 H2 => wipe σ2 own = wipe σ own ∧ tt σ2 H2 fun b H3 => if b = true then te σ2 H3 QE else QR H3
def LcP3 (K : Frag) (G : List Ft) (I : Nat → List (Addr × HO) → List V → Prop) (Dp : Addr) (i : Nat) (H : Hp) : Prop :=
  ∃ (F : List (Addr × HO)) (vs : List V), I i F vs ∧ Sy K ((Dp, .lst vs) :: F) G H
theorem lcp_turn3 {G : List Ft} {σ : L2.St} {H : Hp} {I : Nat → List (Addr × HO) → List V → Prop} {own : List Nat} {g : TG} {tt : TT} {te : TE} {Dp : Addr} {i : Nat} {x : V} (hl : ∀ i F vs, I i F vs → vs.length < 100000) (t : Turn3 K G I σ own g tt te i x) (p : LcP3 K G I Dp i H) :
    g x (wipe σ own) H fun σ2 H2 => wipe σ2 own = wipe σ own ∧ tt σ2 H2 fun b H3 =>
      if b = true then te σ2 H3 fun y H4 => ∃ acc, H4 Dp = some (.lst acc) ∧ acc.length < sizeLine ∧ LcP3 K G I Dp (i + 1) (upd H4 Dp (.lst (acc ++ [y]))) else LcP3 K G I Dp (i + 1) H3 := by
  obtain ⟨F, vs, hi, S⟩ := p
  refine t Dp H F vs _ (LcP3 K G I Dp (i + 1)) hi S (fun y F' H' hi' S' => ?_) fun F' H' hi' S' => ⟨F', vs, hi', S'⟩
  have lt := hl _ _ _ hi'
  rw [List.length_append] at lt
  exact ⟨vs, S'.at 0 rfl, Nat.lt_of_lt_of_le (by omega) (show 100000 ≤ sizeLine by decide), F', vs ++ [y], hi', S'.put (o' := .lst (vs ++ [y])) 0 rfl rfl⟩
theorem g_lcV {F : List (Addr × HO)} {G : List Ft} {σ : L2.St} {H : Hp} {Q : VK} {own : List Nat} {g : TG} {tt : TT} {te tl : TE} {a : Addr} {xs : List V} (I : Nat → List (Addr × HO) → List V → Prop) (S : Sy K F G H) (ht : ∀ Q' : VK, Q' (.ref a) H → tl σ H Q') (h0 : I 0 F [])
    (hq : ∀ i F' vs H', I i F' vs → Sy K F' G H' → SqL K H' a xs) (hl : ∀ i F vs, I i F vs → vs.length < 100000)
    (turn : ∀ i x, xs[i]? = some x → Turn3 K G I σ own g tt te i x)
    (done : ∀ Dp H' F' vs, H Dp = none → I xs.length F' vs → Sy K ((Dp, .lst vs) :: F') G H' → Q (.ref Dp) H') : tLc (iSeq K tl) g tt te own σ H Q := by
  refine ht _ ⟨a, rfl, ?_⟩
  have q0 := hq 0 F [] H h0 S
  have sub : ∀ {Dp i H'}, LcP3 K G I Dp i H' → SqL K H' a xs := fun ⟨F', vs, hi, S'⟩ => hq _ F' vs _ hi S'.less
  refine .inl ⟨⟨xs, q0⟩, fun Dp hD => lc_list (K := K) (a := a) (xs := xs) (LcP3 K G I Dp) ⟨F, [], h0, S.push hD⟩ (fun i H' _ p => sub p) (fun i x H' hx p => lcp_turn3 hl (turn i x hx) p) fun H' p => ?_⟩
  obtain ⟨F', vs, hi, S'⟩ := p
  exact done Dp H' F' vs hD hi S'
theorem Sy.tail {G : List Ft} {H : Hp} : ∀ {A F : List (Addr × HO)}, Sy K (A ++ F) G H → Sy K F G H
  | [], _, S => S
  | _ :: A, _, S => Sy.tail (A := A) (Sy.less S)
end
end OB

set_option Elab.async false
set_option linter.all false
set_option maxRecDepth 100000
set_option maxHeartbeats 4000000
/-! OB, part o: a comprehension over enumerate; not in, of data in a list. -/
namespace OB
open PySem PySem.Spec PyProof.Rows L2 PySem.W
def YEn (xs : List V) : Nat → Hp → V → Hp → Prop := fun i H v H' => ∃ T x, v = .ref T ∧ H T = none ∧ H' = upd H T (.tup [.int (i : Nat), x]) ∧ xs[i]? = some x
theorem walk_enumK {K : Frag} {k : Bool} {a : Addr} {xs : List V} : Walk (IteK K k a) xs.length (fun H => SqK K H k a xs) (YEn xs) where
  goes := fun i H hi qa => ⟨xs, xs[i]'(by omega), qa, List.getElem?_eq_getElem _⟩
  stops := fun H qa => ⟨xs, qa, rfl⟩
  yields := fun i H x H' hi qa ⟨T, u, e1, hT, e2, f1⟩ => ⟨T, u, e1, hT, e2, f1 xs qa⟩
section
variable {K : Frag} {F : List (Addr × HO)} {G : List Ft} {σ : L2.St} {H : Hp} {Q : VK} {D : Ends} {g : TG} {tt : TT} {te : TE} {tb : TS} {own : List Nat}
def EnLc (K : Frag) (g : TG) (tt : TT) (te : TE) (own : List Nat) (σ : L2.St) (Q : VK) (vs : List V) (H1 : Hp) : Prop := ∃ k a xs, vs = [.ref a] ∧ SqK K H1 k a xs ∧ ∀ Da, H1 Da = none → ∃ W : Nat → Nat → Hp → Prop, (∃ m, W 0 m (upd H1 Da (.lst []))) ∧ ∀ i m H, W i m H →
  ((IteK K k a).stop i H ∧ Q (.ref Da) H) ∨ ((IteK K k a).go i H ∧ ∃ Nx : Hp → Prop, (∀ H', Nx H' → ∃ m', m' < m ∧ W (i + 1) m' H') ∧ ∀ x H', (IteK K k a).yld i H x H' → g x (wipe σ own) H' fun σ2 H2 => wipe σ2 own = wipe σ own ∧ tt σ2 H2 fun b H3 =>
    if b = true then te σ2 H3 fun y H4 => ∃ acc, H4 Da = some (.lst acc) ∧ acc.length < sizeLine ∧ Nx (upd H4 Da (.lst (acc ++ [y]))) else Nx H3)
theorem g_lcEn {ta : TA} (k : ta σ H fun vs H1 => EnLc K g tt te own σ Q vs H1) : tLc (iEnumK K ta) g tt te own σ H Q := k
theorem enlc_of {k : Bool} {a : Addr} {xs : List V} (I : Nat → List (Addr × HO) → List PyData → Prop) (S : Sy K F G H) (h0 : I 0 F [])
    (hq : ∀ i F' ds H', I i F' ds → Sy K F' G H' → SqK K H' k a xs) (hl : ∀ i F ds, I i F ds → ds.length < 100000)
    (turn : ∀ (i : Nat) x, xs[i]? = some x → TurnZ K G I σ own g tt te i (.int (i : Nat)) x)
    (done : ∀ Da H' F' vs ds, H Da = none → I xs.length F' ds → Sy K ((Da, .lst vs) :: F') (.dat vs ds :: G) H' → Q (.ref Da) H') : EnLc K g tt te own σ Q [.ref a] H := by
  have q1 := hq 0 F [] H h0 S
  refine ⟨k, a, xs, rfl, q1, fun Da hD => lc_it (walk_enumK (K := K) (xs := xs)) (LcP K G I Da) (lcp_start S h0 hD) (fun i H' _ p => ?_) (fun i v H1 H' hi p y => ?_) fun H' p => ?_⟩
  · obtain ⟨F', vs, ds, hi, S'⟩ := p
    exact hq i F' ds _ hi S'.drop.less
  · obtain ⟨F', vs, ds, hI, S'⟩ := p
    obtain ⟨T, x, rfl, hT, rfl, e1⟩ := y
    refine turn i x e1 Da T H1 F' vs ds _ (LcP K G I Da (i + 1)) hI hT S' (fun z d F2 H2 hi' S2 => ?_) fun F2 H2 hi' S2 => ⟨F2, vs, ds, hi', S2⟩
    have len := dps_length (S2.dps 1 rfl)
    have lt := hl _ _ _ hi'
    rw [List.length_append] at lt
    refine ⟨vs, S2.at 0 rfl, Nat.lt_of_lt_of_le (by omega) (show 100000 ≤ sizeLine by decide), F2, vs ++ [z], ds ++ [d], hi', ?_⟩
    have S3 : Sy K ((Da, .lst (vs ++ [z])) :: F2) (.dat [z] [d] :: .dat vs ds :: G) (upd H2 Da (.lst (vs ++ [z]))) := S2.put (o' := .lst (vs ++ [z])) 0 rfl rfl
    exact (S3.drop.drop).fact (dps_append (S3.dps 1 rfl) (S3.dps 0 rfl)) (by rw [immAll_append, S2.dpi 1 rfl, S2.dpi 0 rfl]; rfl)
  · obtain ⟨F', vs, ds, hI, S'⟩ := p
    exact done Da H' F' vs ds hD hI S'
/-! in, of data in a list -/
theorem g_notinD {x : V} {l : Addr} {vs : List V} {d : PyData} {ds : List PyData} (h1 : L2.Dp K H x d) (h2 : SqL K H l vs) (h3 : DpAll K H vs ds) (s1 : SeqAt.shaped d = true) (s2 : SeqAt.shaped (.list ds) = true) (k : Q (.bl (!ds.any fun z => PyData.eqv z d)) H) : rNotInD K x (.ref l) H Q := ⟨d, ds, h1, .lst h2 h3, s1, s2, k⟩
end
end OB

set_option Elab.async false
set_option linter.all false
set_option maxRecDepth 100000
set_option maxHeartbeats 4000000
/-! OB, part p: what repr writes of numbers differs where they differ; in, of data in a list. -/
namespace OB
open PySem PySem.Spec PyProof.Rows L2 PySem.W PySem.NumText
theorem sh_int {i : Int} : (PyData.int i).shown.cps.toList = (toString i).toList.map Char.toNat := by
  rw [PyData.shown_int]
  exact signs_ofString _
theorem nat_repr_inj {m n : Nat} (h : Nat.repr m = Nat.repr n) : m = n := by
  have h2 := congrArg String.toList h
  rw [Nat.toList_repr, Nat.toList_repr] at h2
  rw [← Nat.ofDigitChars_ten_toDigits (n := m), h2, Nat.ofDigitChars_ten_toDigits]
theorem no_dash {n : Nat} : '-' ∉ (Nat.repr n).toList := fun h => by
  rw [Nat.toList_repr] at h
  have := Nat.isDigit_of_mem_toDigits (by decide) (by decide) h
  exact absurd this (by decide)
theorem int_str_inj {i j : Int} (h : toString i = toString j) : i = j := by
  rw [Int.toString_eq_repr, Int.toString_eq_repr, Int.repr_eq_if, Int.repr_eq_if] at h
  split at h <;> split at h
  · have := nat_repr_inj h
    omega
  · exfalso
    exact no_dash (n := i.toNat) (by rw [h, String.toList_append]; exact List.mem_append_left _ (by decide))
  · exfalso
    exact no_dash (n := j.toNat) (by rw [← h, String.toList_append]; exact List.mem_append_left _ (by decide))
  · have h2 := congrArg String.toList h
    rw [String.toList_append, String.toList_append] at h2
    have h3 := List.append_cancel_left h2
    have := nat_repr_inj (String.toList_injective h3)
    omega
theorem int_sh_inj {i j : Int} (h : (PyData.int i).shown = (PyData.int j).shown) : i = j := by
  have h2 := congrArg (fun s : Str => s.cps.toList) h
  simp only [sh_int] at h2
  have h3 : (toString i).toList = (toString j).toList := by
    refine List.map_inj_right ?_ |>.mp h2
    intro a b e
    exact Char.toNat_inj.mp e
  exact int_str_inj (String.toList_injective h3)
theorem int_sh {i j : Int} : decide ((PyData.int i).shown = (PyData.int j).shown) = decide (i = j) := by
  by_cases h : i = j
  · subst h
    rw [decide_eq_true rfl, decide_eq_true rfl]
  · rw [decide_eq_false h, decide_eq_false fun z => h (int_sh_inj z)]
/-- the signs of a number's text -/
theorem int_sign {i : Int} {c : Nat} (h : c ∈ (PyData.int i).shown.cps.toList) : c ≤ 57 ∧ 45 ≤ c := by
  rw [sh_int] at h
  obtain ⟨ch, hc, rfl⟩ := List.mem_map.mp h
  have dig : ∀ n : Nat, ch ∈ (Nat.repr n).toList → ch.toNat ≤ 57 ∧ 45 ≤ ch.toNat := fun n hn => by
    rw [Nat.toList_repr] at hn
    have r := digit_range (Nat.isDigit_of_mem_toDigits (by decide) (by decide) hn)
    omega
  rw [Int.toString_eq_repr, Int.repr_eq_if] at hc
  split at hc
  · exact dig _ hc
  · rw [String.toList_append, List.mem_append] at hc
    rcases hc with hc | hc
    · have : ch = '-' := by simpa using hc
      subst this
      decide
    · exact dig _ hc
theorem bl_sh {b : Bool} {j : Int} : decide ((PyData.bool b).shown = (PyData.int j).shown) = false := decide_eq_false fun z => by
  cases b
  · have : 70 ∈ (PyData.int j).shown.cps.toList := by rw [← z]; decide +kernel
    have := int_sign this
    omega
  · have : 84 ∈ (PyData.int j).shown.cps.toList := by rw [← z]; decide +kernel
    have := int_sign this
    omega
theorem tup_sh {l : List PyData} {j : Int} : decide ((PyData.tuple l).shown = (PyData.int j).shown) = false := decide_eq_false fun z => by
  have : 40 ∈ (PyData.int j).shown.cps.toList := by
    rw [← z, PyData.shown_tuple]
    show 40 ∈ ((((("(" : String) : Str).cps ++ (Str.join ", " (PyData.shownAll l)).cps) ++ _ : Array Nat)).toList
    rw [Array.toList_append, Array.toList_append]
    exact List.mem_append_left _ (List.mem_append_left _ (by decide +kernel))
  have := int_sign this
  omega
section
variable {K : Frag} {H : Hp} {Q : VK}
theorem g_inD {x : V} {l : Addr} {vs : List V} {d : PyData} {ds : List PyData} (h1 : L2.Dp K H x d) (h2 : SqL K H l vs) (h3 : DpAll K H vs ds) (s1 : SeqAt.shaped d = true) (s2 : SeqAt.shaped (.list ds) = true) (k : Q (.bl (ds.any fun z => PyData.eqv z d)) H) : rInD K x (.ref l) H Q := ⟨d, ds, h1, .lst h2 h3, s1, s2, k⟩
end
end OB

set_option Elab.async false
set_option linter.all false
set_option maxRecDepth 100000
set_option maxHeartbeats 4000000
/-! OB, part q: own classes of errors over ValueError, the first of them with an __init__ that says super().__init__(value) and keeps value. -/
namespace OB
open PySem PySem.Spec PyProof.Rows L2 PySem.W
/-- what the written part says of a class of errors, D being the one with the __init__ -/
structure ErC (K : Frag) (D C : Addr) : Prop where
  ox : OexC K C
  sub : mroIn K C (.ref D) = some true
  sup : ks_superIn K C D "__init__" = some (some (.builtin "ValueError.__init__"))
  val : subIn K (.ref C) (.type "ValueError") = some true
  fld : findIn K (.ref C) "value" = some none
abbrev eiBody (p0 p1 p2 p3 p4 p5 q1 q2 q3 q4 : Pos) : List Stmt :=
  [.Expr (.Call (.Attribute (.Call (.Name "super" p0) [] [] p1) "__init__" p2) [.Name "value" p3] [] p4) p5, .Assign [.Attribute (.Name "self" q1) "value" q2] (.Name "value" q3) q4]
abbrev eiNames : List (Str × NameKind) := [("self", .local), ("value", .local), ("super", .globalImplicit), ("__class__", .free)]
def sp_einit (K : Frag) (D : Addr) : Sp := fun vs H Q E => vs.length = 2 ∧ ∃ (a C : Addr) (y : V), vs = [.ref a, y] ∧ ErC K D C ∧ H a = some (exo a C none) ∧ ∀ dx, H dx = none → dx ≠ a → Q .non (upd (upd H dx (exd dx [("value", y)])) a (exo a C (some dx)))
theorem ei_eval {env : Env} {p0 p1 p2 p3 p4 : Pos} (hp : (p2.endLine == p4.line) = true) :
    eval (.Call (.Attribute (.Call (.Name "super" p0) [] [] p1) "__init__" p2) [.Name "value" p3] [] p4) env = (do
      let ov ← attributeBase (.Call (.Name "super" p0) [] [] p1) "__init__" env (eval (.Call (.Name "super" p0) [] [] p1) env)
      standAt p2.atName
      let (f, first) ← holding [ov] (getMethod ov "__init__" (do return (← importBound (.Call (.Name "super" p0) [] [] p1) env).getD true))
      callWith p4 f first (backTo p4 (starEach [.Name "value" p3] env)) []) := by
  refine (show eval _ env = (attributeBase (.Call (.Name "super" p0) [] [] p1) "__init__" env (eval (.Call (.Name "super" p0) [] [] p1) env) >>= fun ov => standAt p2.atName >>= fun _ =>
    methodCall (.Call (.Name "super" p0) [] [] p1) "__init__" p2 p4 env ov 1 (backTo p4 (starEach [.Name "value" p3] env)) []) from rfl).trans ?_
  congr 1
  funext ov
  congr 1
  funext _
  unfold methodCall
  rw [show methodCallForm 1 (backTo p4 (starEach [.Name "value" p3] env)) [] = true from rfl]
  unfold methodCallPos calleeOf
  rw [hp]
  rfl
theorem ei_inter {q : Str} {sc : Scope} {L f : Addr} {cd : Value} {cc : Addr} (sk : sc.kind = .function) : interactive (ksEnv q sc L f cd cc) = false := by
  unfold interactive
  show (sc.kind == .module && _) = false
  rw [sk]
  rfl
section
variable {P : Program} {w : World} {K : Frag} {mg : Str → Option Value} {base : Heap} {CX : CXT}
/-- ValueError.__init__ bound to the object at a, called -/
theorem mw_init {A : Around} {E : Value → Shared → Prop} {h : Heap} {g : Array GenState} {d : Drawn} {t : Nat} {os : OsState} {u a C t1 : Addr} {us : List Value} {Q : Value → Shared → Prop} (T : OexC K C) (KH : K.In h) (hu : h.get? u = some (kxs_mw "ValueError.__init__" a))
    (hx : h.get? a = some ({ cls := .ref C, dict := none, data := .fields #[.ref t1, .none, .none, .none, .bool false, .none] } : Obj)) (hl : us.length ≤ sizeLine)
    (k : ∀ h' t2, (∀ b o, b ≠ a → h.get? b = some o → h'.get? b = some o) → h'.get? a = some ({ cls := .ref C, dict := none, data := .fields #[.ref t2, .none, .none, .none, .bool false, .none] } : Obj) → Q .none ⟨h', g, d, t, os⟩) :
    wpAny (model P w) A (call (.ref u) us) Q E ⟨h, g, d, t, os⟩ := by
  obtain ⟨nm, q, N, bs, bm, sn, sub, ab, col, dd, k0, k1, k2, k3, k5, hC, hbm⟩ := T.cls
  refine wpAny_call (codeAny_of_tree (show wpAny _ A.in1 (callAny (.ref u) ⟨us, []⟩) _ _ _ from ?_))
  simp only [callAny]
  refine wpAny_bind (wpAny_load hu ?_)
  have e1 : (Value.type "method-wrapper" == Value.type "method" || Value.type "method-wrapper" == Value.type "builtin_function_or_method" || Value.type "method-wrapper" == Value.type "method-wrapper") = true := by decide
  simp only [kxs_mw, e1, if_true]
  refine KFB.if_so (by decide) (wpAny_bind (check_bound_init PySem.F.excBase_ValueError.toExcCallFacts (KH _ _ hC) hx rfl ?_))
  refine wpAny_bind (wpAny_pure (wpAny_pure ⟨plainId_quiet PySem.F.excBase_ValueError.init.plain _, ?_⟩))
  refine codeAny_builtin PySem.F.excBase_ValueError.initEntry ?_
  exact exc_init_tree (cls := .ref C) (t0 := t1) (dv := none) (c2 := .none) (c3 := .none) (b4 := .bool false) hx hl fun h' kk e' _ => k h' _ kk e'
/-- the end: the object at a has its dict at dx -/
theorem ei_end {A : Around} {outer : List Env} {s : Shared} {H : Hp} {Q : VK} {a C dx t3 : Addr} {y : V} {u : Value} {h4 : Heap} {t4 : Nat} (e0 : Env0 P w K mg base A outer s H) (ha : H a = some (exo a C none)) (hdx : H dx = none) (dne : dx ≠ a) (sz : s.heap.objs.size ≤ dx)
    (kAll : ∀ b o, b ≠ a → s.heap.get? b = some o → h4.get? b = some o) (x4 : h4.get? a = some ({ cls := .ref C, dict := some dx, data := .fields #[.ref t3, .none, .none, .none, .bool false, .none] } : Obj))
    (hn4 : h4.Ns1 dx (fun z => if z = "value" then some u else none)) (ry : RelV y u) (kq : Q .non (upd (upd H dx (exd dx [("value", y)])) a (exo a C (some dx)))) :
    CE outer P w H s Q .none ⟨h4, s.gens, s.drawn, t4, s.os⟩ := by
  have na : ∀ {b : Addr} {o : HO}, H b = some o → o ≠ exo a C none → b ≠ a := fun {b o} e ne z => by
    subst z
    rw [ha] at e
    exact ne (Option.some.inj e).symm
  have nn : ∀ {b : Addr}, H b = none → b ≠ a := fun {b} e z => by
    subst z
    rw [ha] at e
    cases e
  have nx : ∀ {b : Addr} {o : HO}, H b = some o → b ≠ dx := fun {b o} e z => by
    subst z
    rw [hdx] at e
    cases e
  have lt : ∀ {b : Addr} {o : Obj}, s.heap.get? b = some o → b ≠ dx := fun {b o} e => Nat.ne_of_lt (Nat.lt_of_lt_of_le (Heap.lt_size e) sz)
  have at' : ∀ {b : Addr}, b ≠ a → b ≠ dx → upd (upd H dx (exd dx [("value", y)])) a (exo a C (some dx)) b = H b := fun {b} n1 n2 => (upd_ne n1).trans (upd_ne n2)
  refine ⟨.non, _, rfl, e0.bare, ?_, fun b o e => ?_, rfl, kq⟩
  · exact {
      keep := fun b o e n _ _ => kAll b o (nn n) e
      slot := fun b o e n _ _ => ⟨o.slots, kAll b o (nn n) e⟩
      free := fun b o e n _ => (at' (nn n) (lt e)).trans n
      there := fun b o e _ => if z : b = a then ⟨_, z ▸ x4⟩ else ⟨o, kAll b o z e⟩
      tups := fun b xs e => (at' (na e fun z => exo_tup z.symm) (nx e)).trans e
      frzs := fun b o v e => (at' (na e fun z => exo_frz z.symm) (nx e)).trans e
      tbls := fun b ps e => ⟨#[], by rw [at' (na e fun z => exo_tbl z.symm) (nx e), e, Array.append_empty]⟩ }
  · by_cases c1 : b = a
    · subst c1
      rw [upd_same] at e
      cases e
      exact exo_ok x4
    · by_cases c2 : b = dx
      · subst c2
        rw [upd_ne c1, upd_same] at e
        cases e
        exact exd_ok hn4 (relO_put (fs := []) ry fun _ => True.intro)
      · rw [at' c1 c2] at e
        refine (e0.hok b o e).stay (fun c v hc z => kAll c v ?_ z) (fun c hc => (at' (na hc fun z => exo_own z.symm) (nx hc)).trans hc) fun c xs hc => (at' (na hc fun z => exo_tup z.symm) (nx hc)).trans hc
        rcases hc with rfl | hc
        · exact c1
        · exact na hc fun z => exo_own z.symm
theorem einit_run {k : Nat} {fI D cda cc : Addr} {q : Str} {pa : Arguments} {ar : Arg} {sc : Scope} {dV kV doc pm ct oc ccl cl : Value} {an od cdd cld : Option Addr} {osl ccs csl : Array (Option Value)} {vs2 : Array Value} {file : Str} {tf : Tok} {cdD : ClassData}
    {p0 p1 p2 p3 p4 p5 q1 q2 q3 q4 : Pos} (hp : (p2.endLine == p4.line) = true)
    (lk : K.lookup fI = some ⟨oc, od, .func (ksFn "__init__" q pa (eiBody p0 p1 p2 p3 p4 p5 q1 q2 q3 q4) sc dV kV doc pm an (.ref cda) ct cc), osl⟩) (hcd : codeIn K (.ref cda) q = true)
    (hpa : (pa.posonlyargs ++ pa.args).head? = some ar) (har : ar.arg = "self") (hcode : K.lookup cda = some ⟨ccl, cdd, .fields vs2, ccs⟩) (hvs : vs2[2]? = some (.str file tf)) (hfile : ((P.main.file : Str) == file) = true)
    (hcell : K.lookup cc = some ⟨cl, cld, .cell (some (.ref D)), csl⟩) (hD : clsIn K D = some cdD) (hop : nsIn K cStatics "thirdparty.any" = some none) (hms : mg "super" = none) (htop : (P.main.scope.names.lookup ("super" : Str)).isSome = false)
    (sk : sc.kind = .function) (sco : sc.isCoroutine = false) (sg : sc.isGenerator = false) (sn : ∀ x ∈ sc.names, x.2 ≠ .cell) (s1 : sc.names.lookup ("self" : Str) = some .local) (s2 : sc.names.lookup ("value" : Str) = some .local)
    (s3 : sc.names.lookup ("super" : Str) = some .globalImplicit) (s4 : sc.names.lookup ("__class__" : Str) = some .free) :
    FnOk P w K mg base CX k fI (ksFn "__init__" q pa (eiBody p0 p1 p2 p3 p4 p5 q1 q2 q3 q4) sc dV kV doc pm an (.ref cda) ct cc) ["self", "value"] (sp_einit K D) where
  len := fun vs H Q E h => h.1
  run := by
    intro A outer s H args us vs Q E hr e0 hb hv hs
    obtain ⟨_, a, C, y, rfl, ec, ha, kq⟩ := hs
    obtain ⟨u0, u, rfl, r0, ry⟩ := vals2 hv
    obtain rfl : u0 = Value.ref a := r0
    have bk : ∀ b o, base.get? b = some o → s.heap.get? b = some o := fun b o e => (e0.bs b o e).1
    have KX : K.In s.heap := e0.mod.kin.keeps bk
    have lim : s.heap.NoLimit := e0.mod.nolimit.keeps bk
    obtain ⟨t1, hx⟩ := exo_at e0.hok ha
    refine ks_codeAny_call_defAt hr.depth (KX _ _ lk) rfl lim (codeRec_of KX hcd) rfl hb sn (fun z hz => ?_) (fun h₀ hns kp => ?_) sco sg sk
    · simp only [List.zip_cons_cons, List.zip_nil_right, List.mem_cons, List.not_mem_nil, or_false] at hz
      rcases hz with rfl | rfl
      · exact s1
      · exact s2
    have K0 : K.In h₀ := KX.keeps kp
    obtain ⟨mb, hbn, hbv⟩ := e0.mod.blt
    obtain ⟨oD, hD1, hD2⟩ : ∃ oD, K.lookup D = some oD ∧ oD.data = .cls cdD := by
      unfold clsIn at hD
      split at hD
      · rename_i c d cd' sl ho
        cases hD
        exact ⟨_, ho, rfl⟩
      · cases hD
    have n1 : (List.lookup ("self" : Str) ((["self", "value"] : List Str).zip [Value.ref a, u]).reverse) = some (.ref a) := rfl
    have n2 : (List.lookup ("value" : Str) ((["self", "value"] : List Str).zip [Value.ref a, u]).reverse) = some u := rfl
    show PySem.wpAt _ _ (.func _ (ksEnv q sc s.heap.objs.size fI (.ref cda) cc)) (execs _ (ksEnv q sc s.heap.objs.size fI (.ref cda) cc)) _ _ _
    refine ks_wpAt_execs_cons (ks_wpAt_Expr_any (ks_wpAt_MethodCall ?_ (ei_eval hp)) (ei_inter sk))
    refine ks_wpAt_super_base (env := ksEnv q sc s.heap.objs.size fI (.ref cda) cc) s3 s4 rfl rfl (K0 _ _ lk) rfl hpa rfl (K0 _ _ hcode) rfl hvs hfile htop ?_
    refine ks_loadName_global sk s3 (Calls.loadGlobal_builtin (env := ksEnv q sc s.heap.objs.size fI (.ref cda) cc) (e0.mod.glob.keeps fun b o e => kp b o (bk b o e)) hms (hbn.keeps fun b o e => kp b o (bk b o e)) ((hbv _ (by decide)).trans Boot.«super») ⟨rfl, ?_⟩)
    refine wpAny_loadName_free sk s4 rfl ⟨_, K0 _ _ hcell, rfl⟩ ?_
    rw [har]
    refine wpAny_loadName_local sk s1 hns n1 ?_
    refine ks_wpAny_isType_cls (K0 _ _ hD1) hD2 ⟨rfl, ?_⟩
    refine ks_wpAny_call_super (K0 _ _ hD1) hD2 (kp _ _ hx) rfl (fun c e => by cases e) (looks_mroIn K0 ec.sub) fun h1 eso k1 => ?_
    have K1 : K.In h1 := K0.keeps k1
    have x1 := k1 _ _ (kp _ _ hx)
    obtain ⟨cd, hcl⟩ : ∃ cd, clsIn K C = some cd := by
      cases z : clsIn K C with
      | some cd => exact ⟨cd, rfl⟩
      | none =>
        have q := ec.sup
        unfold ks_superIn at q
        rw [z] at q
        cases q
    have sup := ec.sup
    unfold ks_superIn at sup
    rw [hcl, Option.bind_some] at sup
    have I1 : InstAt h1 a _ C none := ⟨x1, rfl, rfl, trivial⟩
    refine kxs_getMethod kxs_ValueError eso (looks_opaque K1 hop) (l₀ := cd.mro) (fun A Q E s k q => wpAny_bind ((looks_clsIn K1 hcl) A _ E s k (wpAny_pure q))) rfl K1 sup (I1.type.andThen (looks_subIn K1 ec.val)) (ks_ne K1 I1 hcl) rfl ?_
    have k2 : ∀ b o, h1.get? b = some o → (h1.push (kxs_mw "ValueError.__init__" a)).get? b = some o := fun b o e => Heap.get?_push_of_some _ e
    have hmw : (h1.push (kxs_mw "ValueError.__init__" a)).get? h1.objs.size = some (kxs_mw "ValueError.__init__" a) := Heap.get?_push_at rfl rfl
    refine kxs_callWith (i := "ValueError.__init__") (x := a) rfl (Calls.evalArgs_plain ?_)
    refine Calls.spliced_cons (wpAny_Name (wpAny_loadName_local sk s2 (hns.at fun o e => k2 _ _ (k1 _ _ e)) n2 ?_))
    refine Calls.spliced_nil ⟨hmw, ?_⟩
    have K2 : K.In (h1.push (kxs_mw "ValueError.__init__" a)) := K1.keeps k2
    have x2 := k2 _ _ x1
    have hns2 : (h1.push (kxs_mw "ValueError.__init__" a)).Ns s.heap.objs.size (fun x => List.lookup x ((["self", "value"] : List Str).zip [Value.ref a, u]).reverse) := hns.at fun o e => k2 _ _ (k1 _ _ e)
    generalize h1.push (kxs_mw "ValueError.__init__" a) = h2 at *
    refine mw_init ec.ox K2 hmw x2 (us := [u]) (Nat.le_of_ble_eq_true rfl) fun h3 t3 k3 x3 => ?_
    have c0 : base.get? a = none := by
      cases z : base.get? a with
      | none => rfl
      | some o =>
        have := (e0.bs a o z).2
        rw [ha] at this
        cases this
    have K3 : K.In h3 := fun b o e => k3 b o (fun z => by
      have := e0.mod.kin b o e
      rw [z, c0] at this
      cases this) (K2 b o e)
    have fr : s.heap.objs.size ≠ a := Nat.ne_of_gt (Heap.lt_size hx)
    have hns3 : h3.Ns s.heap.objs.size (fun x => List.lookup x ((["self", "value"] : List Str).zip [Value.ref a, u]).reverse) := hns2.at fun o e => k3 _ _ fr e
    obtain ⟨nm, qn, N, bs, bm, nsl, sub, ab, col, dd, z0, z1, z2, z3, z5, hC, hbm⟩ := ec.ox.cls
    have hcl2 : clsIn K C = some { name := nm, bases := bs, mro := .ref C :: bm, ns := N, qualname := qn, hasDict := true, slotNames := nsl, subclasses := sub, abstract := ab, collection := col, hasDel := false } := by
      unfold clsIn
      rw [hC] <;> rfl
    refine ks_wpAt_execs_cons (ks_wpAt_Assign_Attr (wpAt_of_wpAny (wpAny_Name (wpAny_loadName_local sk s2 hns3 n2 (wpAny_Name (wpAny_loadName_local sk s1 hns3 n1 ?_))))))
    refine set_plain K3 (ox := { cls := .ref C, dict := none, data := .fields #[.ref t3, .none, .none, .none, .bool false, .none] }) (od := none) ⟨x3, rfl, rfl, trivial⟩ ec.ox.sa ?_
    refine HandSPX.exc_osa K3 x3 hcl2 (show HandSPX.refsVE (.ref C :: bm) = true from hbm) rfl ec.fld fun h4 t4 dx k4 dn dne x4 hn4 => ?_
    refine wpAt_of_wpAny (wpAny_pure (show CE outer P w H s Q .none _ from ?_))
    have sz : s.heap.objs.size ≤ dx := by
      obtain ⟨oL, _, _, hL, _⟩ := hns3
      exact Nat.le_trans (Nat.le_of_lt (Heap.lt_size hL)) dn
    have hdx : H dx = none := e0.hok.fresh sz
    have kAll : ∀ b o, b ≠ a → s.heap.get? b = some o → h4.get? b = some o := fun b o nb e => k4 b o nb (k3 b o nb (k2 b o (k1 b o (kp b o e))))
    exact ei_end e0 ha hdx dne sz kAll x4 hn4 ry (kq dx hdx dne)
end
end OB

set_option Elab.async false
set_option linter.all false
set_option maxRecDepth 100000
set_option maxHeartbeats 4000000
/-! OB, part r: errors as values: made, their field read, isinstance. -/
namespace OB
open PySem PySem.Spec PyProof.Rows L2 PySem.W
/-- C(e), C an own class of errors: the object stays with us -/
def tMkE (C : Addr) (sp : Sp) (ta : TA) : TE := fun σ H Q => ta σ H fun vs H1 => vs.length = 1 ∧ ∀ a, H1 a = none → sp (.ref a :: vs) (upd H1 a (exo a C none)) (fun v H2 => v = .non ∧ Q (.ref a) H2) fun _ _ _ => False
/-- x.f of an error -/
def rEf (K : Frag) (f : Str) (x : V) (H : Hp) (Q : VK) : Prop := ∃ (a C dx : Addr) (fs : List (Str × V)) (v : V), x = .ref a ∧ XfC K C ∧ findIn K (.ref C) f = some none ∧ H a = some (exo a C (some dx)) ∧ H dx = some (exd dx fs) ∧ fs.lookup f = some v ∧ Q v H
def tEf (K : Frag) (f : Str) (te : TE) : TE := fun σ H Q => te σ H fun x H1 => rEf K f x H1 Q
/-- isinstance(e, c), e an error -/
def rIsX (K : Frag) : List V → Hp → VK → Prop := fun xs H Q => ∃ (a C dx : Addr) (fs : List (Str × V)) (c : V) (cv : Value) (b : Bool), xs = [.ref a, c] ∧ ClsV c cv ∧ ExcC K C ∧ H a = some (exo a C (some dx)) ∧ H dx = some (exd dx fs) ∧ fs.lookup ("__class__" : Str) = none ∧ kitOne K (.ref C) cv = some b ∧ Q (.bl b) H
section
variable {X : Cx} {e : Expr} {es : List Expr} {te : TE} {ta : TA} {p p' pos : Pos}
theorem pe_mkE {CX : CXT} {x : Str} {C fI : Addr} {k : Nat} {fd : FuncData} {sp : Sp} (T : OexC X.K C) (iC : findIn X.K (.ref C) "__init__" = some (some (.ref fI))) (tI : typeIn X.K (.ref fI) = some (.type "function"))
    (F1 : FnOk X.prog X.w X.K X.mg X.base CX k fI fd ["self", "value"] sp) (hr : Room (k + 1) X.A) (hb : L2.Binds X.K fd ["self", "value"] []) (hx : Passes CX X fun _ _ _ => False) (hg : Gl X x) (hm : X.mg x = some (.ref C)) (ha : PA X (e :: es) ta)
    (hdb : (x == ("__debug__" : Str)) = false := by decide) (he : starEach (e :: es) X.env = (false, eval e X.env) :: starEach es X.env := by rfl) (hpl : (backTo pos (starEach es X.env)).any (·.1) = false := by rfl) : PE X (.Call (.Name x p) (e :: es) [] pos) (tMkE C sp ta) := by
  refine ⟨fun pins s σ H Q I h => ?_⟩
  obtain ⟨nm, q, N, bs, bm, sn, sub, ab, col, dd, k0, k1, k2, k3, k5, hC, hbm⟩ := T.cls
  refine wpAny_Call_Name_kw (ld_glob I hg hm ?_ hdb)
  refine callWith_K (h₀ := X.base) I.ok.mod.kin T.kC (thn (ha.run pos pins s σ H _ I h) fun us s1 ⟨vs, H1, I1, r1, hz, q1⟩ => ⟨I1.kIn, show wpAny _ _ (call (.ref C) us) _ _ _ from ?_⟩) he hpl
  obtain ⟨hp, g, dr, tk, os⟩ := s1
  have hn : H1 (hp.objs.size + 1) = none := I1.hok.fresh (Nat.le_succ _)
  have hq := q1 (hp.objs.size + 1) hn
  have hget : ((hp.push (kdv_tup us)).push (HandSPX.excO C hp.objs.size)).get? (hp.objs.size + 1) = some (HandSPX.excO C hp.objs.size) := by heap_get
  have J : Inv X pins σ (upd H1 (hp.objs.size + 1) (exo (hp.objs.size + 1) C none)) ⟨(hp.push (kdv_tup us)).push (HandSPX.excO C hp.objs.size), g, dr, tk, os⟩ :=
    I1.laid (t' := tk) (fun b o z => Heap.get?_push_of_some _ (Heap.get?_push_of_some _ z)) (Nat.le_succ _) (exo_ok hget)
  have r2 : Vals (V.ref (hp.objs.size + 1) :: vs) (Value.ref (hp.objs.size + 1) :: us) := .cons rfl r1
  have ul : us.length = 1 := (Paired.length r1).symm.trans hz
  refine wpAny_call (HandSPX.call_own PySem.F.excBase_ValueError (fun Y => HandSPX.refsVE_contains Y bm hbm) (I1.kIn _ _ hC) (looks_findIn I1.kIn iC) (fun self => bind_fn I1.kIn self tI) (by rw [ul]; decide)
    (codeAny_mono (F1.run _ X.stack _ _ ⟨Value.ref (hp.objs.size + 1) :: us, []⟩ (Value.ref (hp.objs.size + 1) :: us) _ _ (fun _ _ _ => False) (hr.make C us []) (J.env0.make C us [])
      (by have := hb _ (Value.ref (hp.objs.size + 1) :: us) J.kIn (by rw [List.append_nil, List.length_cons, ul]; rfl); rw [List.append_nil] at this; exact this) r2 hq) fun r s' hq' => ?_))
  cases r with
  | error er => exact hx pins σ _ _ er s' J hq'
  | ok fl =>
    cases fl with
    | ret u =>
      obtain ⟨v, H', I', rv, rfl, q2⟩ := J.after hq'
      exact ⟨rv, .ref (hp.objs.size + 1), H', I', rfl, q2⟩
    | next => exact False.elim hq'
    | brk => exact False.elim hq'
    | cont => exact False.elim hq'
theorem pe_ef {n : Str} (he : PE X e te) (hb : attributeBase e n X.env (eval e X.env) = eval e X.env := by rfl) : PE X (.Attribute e n pos) (tEf X.K n te) := by
  refine ⟨fun pins s σ H Q I h => attr_of hb (thn (he.run pins s σ H _ I h) fun u s1 hh => ?_)⟩
  obtain ⟨x, H1, I1, rx, a, C, dx, fs, v, ex, T, hno, ea, ed, l, q⟩ := hh
  subst ex
  obtain rfl : u = Value.ref a := rx
  obtain ⟨t1, ho⟩ := exo_at I1.hok ea
  obtain ⟨mA, hns, rel⟩ := exd_at I1.hok ed
  obtain ⟨od, hd, hl⟩ := lookIn_ns hns
  obtain ⟨u, hu, ru⟩ := RelO.some_of (v := v) (o := mA n) (by rw [← l]; exact rel n)
  exact HandSPX.exc_get I1.kIn (⟨ho, rfl, rfl, hd⟩ : InstAt s1.heap a _ C (some od)) T.ga T.gg T.exC (findObj_own T.hdC hno rfl (by rw [hl, hu])) (handed_of ru) ⟨v, H1, I1.tok _, ru, q⟩
theorem call_isX : CallR X (.builtin "isinstance") (rIsX X.K) := by
  intro pins s σ H xs us Q I r h
  obtain ⟨a, C, dx, fs, c, cv, b, rfl, hc, T, ea, ed, hl, e, q⟩ := h
  obtain ⟨u1, u2, rfl, r1, r2⟩ := vals2 r
  obtain rfl : u2 = cv := hc.eq r2
  obtain rfl : u1 = Value.ref a := r1
  obtain ⟨t1, ho⟩ := exo_at I.hok ea
  obtain ⟨mA, hns, rel⟩ := exd_at I.hok ed
  obtain ⟨od, hd, hl2⟩ := lookIn_ns hns
  obtain ⟨cdD, hcD, _⟩ := any_some T.hd
  have J : InstAt s.heap a _ C (some od) := ⟨ho, rfl, rfl, hd⟩
  exact kia_one (kitx_exc (by rw [hcD]; rfl) T.hg T.hk T.hs T.ha T.hn T.ht T.hm) I.kIn J e (fun z => nomatch z) fun tk => ⟨.bl b, H, I.tok tk, rfl, q⟩
end
end OB

set_option Elab.async false
set_option linter.all false
set_option maxRecDepth 100000
set_option maxHeartbeats 4000000
/-! OB, part s: what a class of errors must have, checked at once. -/
namespace OB
open PySem PySem.Spec PyProof.Rows L2 PySem.W
/-- a class of errors: D the first one of them, whose __init__ stands at I -/
structure ErrC (K : Frag) (D I C : Addr) : Prop where
  er : ErC K D C
  ini : findIn K (.ref C) "__init__" = some (some (.ref I))
  xf : XfC K C
  ex : ExcC K C
  cls : ((clsIn K C).isSome && typeIn K (.ref C) == some (.type "type")) = true
  kitD : kitOne K (.ref C) (.ref D) = some true
  kitV : kitOne K (.ref C) (.type "ValueError") = some true
  kitN : ∀ C', C' ≠ C → C' ≠ D → ((clsIn K C').isSome && typeIn K (.ref C') == some (.type "type")) = true → kitOne K (.ref C) (.ref C') = some false
def shB (K : Frag) (D C : Addr) : Bool := match K.lookup C with
  | some ⟨.type "type", _, .cls cd, sl⟩ => (match cd.mro, sl.toList with
    | .ref C' :: bm, [_, _, _, _, some (.builtin n), _] => C' == C && (n == "ValueError.__new__" && (!cd.hasDel && (cd.hasDict && bm == (if C == D then HandSPX.veTail else .ref D :: HandSPX.veTail))))
    | _, _ => false)
  | _ => false
def erB (K : Frag) (D I C : Addr) : Bool := shB K D C && (decide (findIn K (.ref C) "__setattr__" = some (some (.builtin "object.__setattr__"))) && (decide (findIn K (.ref C) "__init__" = some (some (.ref I))) &&
  (decide (findIn K (.ref C) "__getattribute__" = some (some (.builtin "BaseException.__getattribute__"))) && (decide (findIn K (.ref C) "__getattr__" = some none) &&
  (decide (findIn K (.ref C) "__class__" = some (some (.builtin "object.__class__"))) && (decide (findIn K (.ref C) "value" = some none) && keepIn K (.ref C)))))))
theorem ve_init (K : Frag) : alongIn K "__init__" HandSPX.veTail = some (some (.builtin "ValueError.__init__")) := by kernel_rfl
theorem erB_ok {K : Frag} {D I C : Addr} (hn : specialIn K (.builtin "object.__class__") "__get__" = some (some (.builtin "getset_descriptor.__get__"))) (ht : takesIn K (.builtin "object.__class__") = some true) (hD : ((clsIn K D).isSome && typeIn K (.ref D) == some (.type "type")) = true) (h : erB K D I C = true) : ErrC K D I C := by
  unfold erB at h
  simp only [Bool.and_eq_true, decide_eq_true_eq] at h
  obtain ⟨h1, hsa, hini, hga, hgt, hca, hva, hk⟩ := h
  unfold shB at h1
  split at h1
  · rename_i dd cd sl hC
    split at h1
    · rename_i C' bm k0 k1 k2 k3 n k5 hm hs
      simp only [Bool.and_eq_true, beq_iff_eq, Bool.not_eq_true'] at h1
      obtain ⟨rfl, rfl, hdel, hdc, hbm⟩ := h1
      obtain ⟨nm, bs, mro, ns, qn, hd, sn, sb, ab, col, del⟩ := cd
      dsimp only at hm hdel hdc
      subst hm hdel hdc
      have hsl : sl = #[k0, k1, k2, k3, some (.builtin "ValueError.__new__"), k5] := by
        obtain ⟨l⟩ := sl
        simp only at hs
        rw [hs]
      subst hsl
      have hcl : clsIn K C' = some { name := nm, bases := bs, mro := .ref C' :: bm, ns := ns, qualname := qn, hasDict := true, slotNames := sn, subclasses := sb, abstract := ab, collection := col, hasDel := false } := by
        unfold clsIn
        rw [hC] <;> rfl
      have mi : ∀ b, mroIn K C' b = some ((Value.ref C' :: bm).contains b) := fun b => by
        unfold mroIn
        rw [hcl]
        rfl
      have ty : typeIn K (.ref C') = some (.type "type") := by
        show (K.lookup C').map (·.cls) = _
        rw [hC]
        rfl
      have hvt : HandSPX.refsVE bm = true := by
        rw [hbm]
        split <;> rfl
      have con : ∀ T, HandSPX.veTail.contains (Value.type T) = true → (Value.ref C' :: bm).contains (Value.type T) = true := fun T e => by
        rw [List.contains_cons, hbm]
        split
        · rw [e, Bool.or_true]
        · rw [List.contains_cons, e, Bool.or_true, Bool.or_true]
      have cD : (Value.ref C' :: bm).contains (Value.ref D) = true := by
        rw [List.contains_cons, hbm]
        split
        · rename_i e
          have e : C' = D := by simpa using e
          subst e
          rw [beq_self_eq_true, Bool.true_or]
        · rw [List.contains_cons, beq_self_eq_true, Bool.true_or, Bool.or_true]
      have hcls : ((clsIn K C').isSome && typeIn K (.ref C') == some (.type "type")) = true := by
        rw [hcl, ty]
        rfl
      have hsup : ks_superIn K C' D "__init__" = some (some (.builtin "ValueError.__init__")) := by
        unfold ks_superIn
        rw [hcl, Option.bind_some, ← ve_init K, hbm]
        congr 1
        split
        · rename_i e
          have e : C' = D := by simpa using e
          subst e
          simp [List.dropWhile_cons]
        · rename_i e
          have e : C' ≠ D := by simpa using e
          simp [List.dropWhile_cons, e]
      have ox : OexC K C' := ⟨⟨nm, qn, ns, bs, bm, sn, sb, ab, col, dd, k0, k1, k2, k3, k5, hC, hvt⟩, hsa, (mi _).trans (congrArg some (con "BaseException" (by decide +kernel))), ty, hk⟩
      have hdi : hasDictIn K C' = true := by
        unfold hasDictIn
        rw [hcl]
        rfl
      refine ⟨⟨ox, (mi _).trans (congrArg some cD), hsup, (mi _).trans (congrArg some (con "ValueError" (by decide +kernel))), hva⟩, hini, ⟨hga, hgt, ox.exC, hdi⟩, ⟨hga, hgt, ox.exC, hdi, hca, hn, ht, (mi _).trans (congrArg some (con "object" (by decide +kernel)))⟩, hcls, ?_, ?_, fun C2 n1 n2 h2 => ?_⟩
      · unfold kitOne
        by_cases c : C' = D
        · subst c
          rw [if_pos (beq_self_eq_true _)]
        · rw [if_neg (by simpa using c)]
          show (if ((clsIn K D).isSome && typeIn K (.ref D) == some (.type "type")) = true then mroIn K C' (.ref D) else none) = some true
          rw [if_pos hD, mi, cD]
      · unfold kitOne
        rw [if_neg (by simp)]
        show (if kitMeta "ValueError" = true then mroIn K C' (.type "ValueError") else none) = some true
        rw [if_pos (by decide +kernel), mi, con "ValueError" (by decide +kernel)]
      · unfold kitOne
        rw [if_neg (by simpa using fun z => n1 z.symm)]
        show (if ((clsIn K C2).isSome && typeIn K (.ref C2) == some (.type "type")) = true then mroIn K C' (.ref C2) else none) = some false
        rw [if_pos h2, mi, List.contains_cons, hbm]
        have q1 : (Value.ref C2 == Value.ref C') = false := by simpa using n1
        have q2 : (Value.ref C2 == Value.ref D) = false := by simpa using n2
        have q3 : HandSPX.veTail.contains (Value.ref C2) = false := by simp [HandSPX.veTail]
        rw [q1]
        split
        · rw [q3]; rfl
        · rw [List.contains_cons, q2, q3]; rfl
    · cases h1
  · cases h1
end OB

set_option Elab.async false
set_option linter.all false
set_option maxRecDepth 100000
set_option maxHeartbeats 4000000
/-! OB, part t: errors' fields with K told; list.count and index of data; repr and != of small dicts; lists joined. -/
namespace OB
open PySem PySem.Spec PyProof.Rows L2 PySem.W
section
variable {X : Cx} {K : Frag}
theorem pe_efK (h : X.K = K) {e : Expr} {te : TE} {pos : Pos} {n : Str} (he : PE X e te) (hb : attributeBase e n X.env (eval e X.env) = eval e X.env := by rfl) : PE X (.Attribute e n pos) (tEf K n te) := h ▸ pe_ef he hb
theorem mtrK {id : String} {r : Frag → V → List V → Hp → VK → Prop} (h : X.K = K) (c : MtR X id (r X.K)) : MtR X id (r K) := h ▸ c
theorem oprK {f : Value → Value → Sem Value} {r : Frag → R2} (h : X.K = K) (c : OpR X f (r X.K)) : OpR X f (r K) := h ▸ c
/-- l.count(x) of data -/
def rCntD (K : Frag) : V → List V → Hp → VK → Prop := fun x xs H Q => ∃ (a : Addr) (y : V) (d : PyData) (ds : List PyData), x = V.ref a ∧ xs = [y] ∧ L2.Dp K H (V.ref a) (.list ds) ∧ L2.Dp K H y d ∧ SeqAt.shaped (.list ds) = true ∧ SeqAt.shaped d = true ∧
  Q (.int ((ds.countP fun z => PyData.eqv z d : Nat) : Int)) H
theorem mt_cntD (hu : X.A.units + 65 < cLine) : MtR X "list.count" (rCntD X.K) := by
  intro pins s σ H x xs v us Q I rx rxs h
  obtain ⟨a, y, d, ds, rfl, rfl, hl, hy, sl, sd, q⟩ := h
  cases rx
  obtain ⟨uy, rfl, ry⟩ := rxs.one
  obtain ⟨bs, r1⟩ := Dp.reads I d y uy hy ry
  have room : X.A.units + 1 + min (PyData.depthAll ds) d.depth < cLine := room_in_shaped sd hu
  have lay : PyData.canLayAll0 ds = true := SeqAt.canLay_of_shaped sl
  cases hl with
  | lst hs ha =>
    obtain ⟨its, rv, ⟨⟨cls, dd, data, sls⟩, n, ho, hc, hdn, hdt⟩, hlen⟩ := I.list hs
    simp only at hc hdt
    subst hc hdt
    obtain ⟨as, r4⟩ := Dp.readsAll I ds _ its ha rv
    have hmap : its.map (SeqAt.readOf s.heap) = ds := SeqAt.readsAll_map ds its as lay r4
    have hcnt : its.toArray.toList.countP (fun u => PyData.eqv (SeqAt.readOf s.heap u) d) = ds.countP fun z => PyData.eqv z d := by
      rw [← hmap, List.countP_map]
      rfl
    refine call_meets PySem.F.slot_list_count ⟨_, ho, rfl⟩ PySem.F.entry_list_count (PySem.F.args_list_count_2 _ _) (SeqAt.list_countAt a its.toArray n dd sls uy fun u => PyData.eqv (SeqAt.readOf s.heap u) d)
      ⟨ho, SeqAt.items_eqAt (vs := its.toArray) (show ReadsAll s.heap its.toArray.toList ds as from r4) r1 lay (SeqAt.canLay_of_shaped sd) room, ?_⟩
    rw [hcnt]
    exact ⟨.int _, H, I.tok _, ⟨_, rfl⟩, q⟩
/-- the small dicts of which is asked here -/
def oddK (kvs : List (Key × V)) (d : PyData) : Prop := (kvs = [] ∧ d = .dict []) ∨ (kvs = [(.inr "a", .int 1)] ∧ d = .dict [(.str "a", .int 1)])
def rReprX (K : Frag) : List V → Hp → VK → Prop := fun xs H Q => rRepr K xs H Q ∨ ∃ (a : Addr) (kvs : List (Key × V)) (d : PyData), xs = [.ref a] ∧ H a = some (.dK kvs) ∧ oddK kvs d ∧ Q (.str d.shown) H
theorem odd_reads {P : Program} {w : World} {H : Hp} {h : Heap} {a : Addr} {kvs : List (Key × V)} {d : PyData} (hok : HOk P w H h) (ha : H a = some (.dK kvs)) (o : oddK kvs d) : ∃ as, Reads h (.ref a) d as ∧ sysModules ∉ as := by
  obtain ⟨_, hs, vs, kv, ob, es, ep, hg, hx, hd, _, hp, _⟩ := hok a _ ha
  have hs' : sysModules ≠ a := fun z => by
    subst z
    simp at hs
  rcases o with ⟨rfl, rfl⟩ | ⟨rfl, rfl⟩
  · cases kv
    cases he : es.toList with
    | cons e r =>
      rw [he] at hp
      cases hp
    | nil =>
      refine ⟨_, Reads.dict (kvs := []) hg hx.1 hd (by rw [he]; exact .nil) (by rw [he]; exact .nil), ?_⟩
      simp [hs']
  · obtain ⟨qk, qv, rfl, e1, e2⟩ : ∃ (qk : Key) (qv : Value), vs = [(qk, qv)] ∧ (.inr "a" : Key) = qk ∧ RelV (.int 1) qv := by
      cases kv with
      | cons k1 kv =>
        cases kv
        exact ⟨_, _, rfl, k1.1, k1.2⟩
    subst e1
    obtain ⟨t2, rfl⟩ := e2
    cases he : es.toList with
    | nil =>
      rw [he] at hp
      cases hp
    | cons e r =>
      rw [he] at hp
      cases hp with
      | cons ke ve hp =>
        cases hp
        rcases keyIs_shape (show keyIs (.inr "a") e.key = true from ke) with ⟨i, t, z, _⟩ | ⟨x, t, z, ek⟩
        · cases z
        · cases z
          refine ⟨_, Reads.dict (kvs := [(.str "a", .int 1)]) hg hx.1 hd (by rw [he]; simp only [List.map_cons, List.map_nil, ek]; exact .cons (.str _ _) .nil) (by rw [he]; simp only [List.map_cons, List.map_nil, ve]; exact .cons (.int _ _) .nil), ?_⟩
          simp [hs']
theorem call_reprX {k : Nat} (g : RG k X.A) : CallR X (.builtin "repr") (rReprX X.K) := by
  intro pins s σ H xs us Q I r h
  rcases h with h | ⟨a, kvs, d, rfl, ha, o, q⟩
  · exact call_repr g pins s σ H xs us Q I r h
  · obtain ⟨u, rfl, ru⟩ := vals1 r
    cases ru
    have hun := g.rm.un
    obtain ⟨as, rd, ns⟩ := odd_reads I.hok ha o
    have fin : d.showable = true ∧ d.depth ≤ 3 ∧ d.shown.length ≤ 20 := by
      rcases o with ⟨_, rfl⟩ | ⟨_, rfl⟩
      · exact ⟨by decide +kernel, by decide +kernel, by decide +kernel⟩
      · exact ⟨by decide +kernel, by decide +kernel, by decide +kernel⟩
    exact repr_of_reads' rd fin.1 (fun _ => ns) g.gd (by have := fin.2.1; omega) (fun _ _ e => e) (fun h' u tk hk => ⟨.str _, H, I.kept hk, ⟨_, rfl⟩, q⟩) (by have := fin.2.2; rw [sizeLine_eq]; omega)
def rNeX (K : Frag) : R2 := fun x y H Q => rNeD K x y H Q ∨ rNeDA x y H Q
theorem op_neX (hu : X.A.units + 64 < cLine) : OpR X (compareOp .NotEq) (rNeX X.K) := by
  intro pins s σ H x y v u Q I rx ry h
  rcases h with h | h
  · exact op_neD hu pins s σ H x y v u Q I rx ry h
  · exact op_ne_dictA (by omega) pins s σ H x y v u Q I rx ry h
end
section
variable {K : Frag} {F : List (Addr × HO)} {G : List Ft} {H : Hp} {Q : VK} {l b : Addr} {vs zs : List V}
theorem g_catH (S : Sy K F G H) (h1 : H l = some (.lst vs)) (h2 : H b = some (.lst zs)) (hl : vs.length + zs.length ≤ 100000) (k : ∀ p H', Sy K ((p, .lst (vs ++ zs)) :: F) G H' → Q (.ref p) H') : rCat (.ref l) (.ref b) H Q :=
  ⟨l, b, vs, zs, rfl, rfl, h1, h2, Nat.le_trans hl (by decide), fun p hp => k p _ (S.push hp)⟩
end
end OB

set_option Elab.async false
set_option linter.all false
set_option maxRecDepth 100000
set_option maxHeartbeats 4000000
/-! OB, part v: dicts with tuple keys: setdefault, get, d[k], d[k] = v, their keys and items gone through, sorted; sorted of a list of data. -/
namespace OB
open PySem PySem.Spec PyProof.Rows L2 PySem.W
section
variable {K : Frag} {F F' : List (Addr × HO)} {G : List Ft} {H : Hp} {p : Addr} {xs : List V}
theorem Sy.perm (S : Sy K F G H) (h : F'.Perm F) : Sy K F' G H := ⟨fun q hq => S.st q (h.mem_iff.mp hq), (h.map _).nodup_iff.mpr S.nd, S.ft⟩
theorem Sy.toTT : ∀ {l : List (Addr × List V)}, Sy K (l.map (fun q => (q.1, HO.tup q.2)) ++ F) G H → Sy K F (.tt l :: G) H := fun {l} S =>
  ⟨fun q hq => S.st q (List.mem_append_right _ hq), by
    have := S.nd
    rw [List.map_append] at this
    exact (List.nodup_append.mp this).2.1, fun g hg => by
    rcases List.mem_cons.mp hg with rfl | hg
    · exact fun q hq => S.st (q.1, .tup q.2) (List.mem_append_left _ (List.mem_map.mpr ⟨q, hq, rfl⟩))
    · exact S.ft g hg⟩
theorem Sy.toTT1 (S : Sy K ((p, .tup xs) :: F) G H) : Sy K F (.tt [(p, xs)] :: G) H := Sy.toTT (l := [(p, xs)]) S
end
/-! ### methods -/
def rSetdT (x : V) (xs : List V) (H : Hp) (Q : VK) : Prop := ∃ a kvs k b z, x = .ref a ∧ xs = [.ref b, z] ∧ H a = some (.dT kvs) ∧ H b = some (.tup (k.map kV)) ∧ kvs.length < sizeLine ∧ (∀ v, valV kvs k = some v → Q v H) ∧ (valV kvs k = none → Q z (upd H a (.dT (putK kvs k z))))
def rGetT (x : V) (xs : List V) (H : Hp) (Q : VK) : Prop := ∃ a kvs k b z, x = .ref a ∧ xs = [.ref b, z] ∧ Rd H a (.dT kvs) ∧ H b = some (.tup (k.map kV)) ∧ Q ((valV kvs k).getD z) H
section
variable {X : Cx}
theorem mt_setdT (hu : X.A.units + 1 < cLine) : MtR X "dict.setdefault" rSetdT := by
  intro pins s σ H x xs v us Q I rx rxs h
  obtain ⟨a, kvs, k, b, z, rfl, rfl, e, eb, hl, h1, h2⟩ := h
  cases rx
  obtain ⟨u0, u1, rfl, r0, r1⟩ : ∃ u0 u1, us = [u0, u1] ∧ RelV (.ref b) u0 ∧ RelV z u1 := by
    cases rxs with
    | cons r0 t =>
      cases t with
      | cons r1 t => cases t; exact ⟨_, _, rfl, r0, r1⟩
  cases r0
  obtain ⟨hz, hd, ks, rel, dd⟩ := dt_of I.hok e
  have hzl : ks.length ≤ sizeLine := by rw [← Paired.length rel]; exact hz
  refine call_setdefault_heap (hsz := hzl) (tupleKind_room_in1 hu) (key_of I.hok eb) hd dd (fun q hq => ?_) fun hn h' dd' hs => ?_
  · have q1 := rel.val k
    rw [hq] at q1
    cases q0 : valV kvs k with
    | none =>
      rw [q0] at q1
      exact (show False from q1).elim
    | some v0 =>
      rw [q0] at q1
      exact ⟨v0, H, I.tok _, q1, h1 v0 q0⟩
  · have q1 := rel.val k
    rw [hn] at q1
    cases q0 : valV kvs k with
    | some v0 =>
      rw [q0] at q1
      exact (show False from q1).elim
    | none =>
      have hl2 : (putK kvs k z).length ≤ sizeLine := by
        have := length_putK kvs k z
        omega
      obtain ⟨q, es, ep, hq, c2, c3, c4, c5, c6⟩ := dd'
      refine ⟨z, _, d_write (ob := .dT (putK kvs k z)) (t' := s.toks + _) I (by rw [e]; exact True.intro) hs ⟨q, hq⟩ ⟨hl2, hd, _, (rel.put k eb r1).keeps fun c ys ec => ?_, q, es, ep, hq, c2, c3, c4, c6⟩, r1, h2 q0⟩
      rw [upd_ne (ne_of ec e (fun z => nomatch z))]
      exact ec
theorem mt_getT (hu : X.A.units + 1 < cLine) : MtR X "dict.get" rGetT := by
  intro pins s σ H x xs v us Q I rx rxs h
  obtain ⟨a, kvs, k, b, z, rfl, rfl, e, eb, q⟩ := h
  cases rx
  obtain ⟨u0, u1, rfl, r0, r1⟩ : ∃ u0 u1, us = [u0, u1] ∧ RelV (.ref b) u0 ∧ RelV z u1 := by
    cases rxs with
    | cons r0 t =>
      cases t with
      | cons r1 t => cases t; exact ⟨_, _, rfl, r0, r1⟩
  exact d_get2 hu I (y := .ref b) (o := valV kvs k) (.inr ⟨kvs, k, b, e, rfl, eb, rfl⟩) r0 r1 fun w' s3 I3 rw' => ⟨_, H, I3, rw', q⟩
end
section
variable {K : Frag} {F : List (Addr × HO)} {G : List Ft} {σ : L2.St} {H : Hp} {Q : VK} {d b : Addr} {kvs : List (List Key × V)} {k : List Key} {i : Nat} {v z : V}
theorem g_setdT (S : Sy K F G H) (h : F[i]? = some (d, .dT kvs)) (hb : H b = some (.tup (k.map kV))) (hl : kvs.length < 100000) (h1 : ∀ v, valV kvs k = some v → Q v H)
    (h2 : ∀ H', valV kvs k = none → Sy K (F.set i (d, .dT (kvs ++ [(k, z)]))) G H' → Q z H') : rSetdT (.ref d) [.ref b, z] H Q :=
  ⟨d, kvs, k, b, z, rfl, rfl, S.at i h, hb, Nat.lt_of_lt_of_le hl (by decide), h1, fun hn => h2 _ hn (by have := S.put (o' := .dT (putK kvs k z)) i h rfl; rw [putK_new z hn] at this ⊢; exact this)⟩
theorem g_getT (h : Rd H d (.dT kvs)) (hb : H b = some (.tup (k.map kV))) (q : Q ((valV kvs k).getD z) H) : rGetT (.ref d) [.ref b, z] H Q := ⟨d, kvs, k, b, z, rfl, rfl, h, hb, q⟩
theorem g_dgetT (h : Rd H d (.dT kvs)) (hb : H b = some (.tup (k.map kV))) (e : valV kvs k = some v) (q : Q v H) : rDGet (.ref d) (.ref b) H Q := ⟨d, v, rfl, .inr ⟨kvs, k, b, h, rfl, hb, e.symm⟩, q⟩
theorem g_setDT {QH : Hp → Prop} (S : Sy K F G H) (h : F[i]? = some (d, .dT kvs)) (hb : H b = some (.tup (k.map kV))) (hl : kvs.length < 100000) (q : ∀ H', Sy K (F.set i (d, .dT (putK kvs k v))) G H' → QH H') : rSetD (.ref d) (.ref b) v H QH :=
  ⟨d, _, rfl, .inr ⟨kvs, k, b, S.at i h, rfl, hb, Nat.lt_of_lt_of_le hl (by decide), rfl⟩, q _ (S.put i h rfl)⟩
end
/-! ### a value locked for good -/
def tFrz (t : TE) : TE := fun σ H Q => t σ H fun x H1 => ∃ d u, x = .ref d ∧ H1 d = some u ∧ Mut (some u) ∧ ∀ od, Q (.ref d) (upd H1 d (.frz od u))
theorem pe_frz {X : Cx} {e : Expr} {t : TE} (h : PE X e t) : PE X e (tFrz t) := by
  refine ⟨fun pins s σ H Q I hw => ?_⟩
  refine thn (h.run pins s σ H _ I hw) fun u s1 ⟨x, H1, I1, rx, d, o, ex, hd, mu, q⟩ => ?_
  subst ex
  obtain ⟨od, I2⟩ := I1.lock hd mu
  exact ⟨.ref d, _, I2, rx, q od⟩
/-! ### the items -/
def Itit (d : Addr) (o : Obj) (kvs : List (List Key × V)) : It :=
  ⟨fun i H => H d = some (.frz o (.dT kvs)) ∧ i < kvs.length, fun i H x H' => ∃ T k v q, kvs[i]? = some (k, v) ∧ x = .ref T ∧ H T = none ∧ H q = some (.tup (k.map kV)) ∧ H' = upd H T (.tup [.ref q, v]), fun i H => H d = some (.frz o (.dT kvs)) ∧ kvs.length ≤ i⟩
section
variable {P : Program} {w : World} {K : Frag} {X : Cx} {pins : List (Addr × Obj)} {σ : L2.St} {H : Hp} {s : Shared} {d : Addr} {o : Obj} {es : Array DictEntry} {ep : Nat}
theorem frzT' {kvs : List (List Key × V)} (I : Inv X pins σ H s) (h : H d = some (.frz o (.dT kvs))) :
    (d == sysModules) = false ∧ s.heap.get? d = some o ∧ o.ExactDict ∧ ∃ (es : Array DictEntry) (ep : Nat), o.data = .dict es ep ∧ es.size = kvs.length ∧
      ∀ (i : Nat) (k : List Key) (v : V), kvs[i]? = some (k, v) → ∃ (en : DictEntry) (q : Addr), es[i]? = some en ∧ en.key = .ref q ∧ H q = some (.tup (k.map kV)) ∧ RelV v en.val := by
  obtain ⟨hd, z, hs, xs, pr, o', es, ep, ho, hx, hdt, he, _⟩ := I.hok d _ h
  rw [hd] at ho
  cases ho
  refine ⟨hs, hd, hx, es, ep, hdt, ?_, fun i k v e => ?_⟩
  · have l1 : es.size = xs.length := size_of_entries he
    have l2 : kvs.length = xs.length := Paired.length pr
    omega
  · obtain ⟨b, hb, e1, e2, e3⟩ := paired_get pr e
    have q := entry_at he i
    rw [hb] at q
    exact ⟨_, b.2.1, q, rfl, e2, e3⟩
theorem turn_itemsT {kvs : List (List Key × V)} {elts : List Expr} {kk : Nat} {tpos : Pos} (it : Addr) (hod : o.data = .dict es ep) :
    Turn P w K (.Tuple elts kk tpos) (Itit d o kvs) [it] it (fun i h => ∃ ok ov, IsItemIter h it d i kvs.length ep ok ov) where
  mem := by simp
  obj := fun i h st b hb => by
    have e : b = it := by simpa using hb
    subst e
    obtain ⟨ok, ov, e⟩ := st
    exact ⟨_, e, fun v z => nomatch z⟩
  keep := fun i h h' st k => let ⟨ok, ov, e⟩ := st; ⟨ok, ov, k it (by simp) _ e⟩
  item := by
    intro X hP hw hK hc i pins s σ H E I hf st hg
    subst hP hw hK
    obtain ⟨hd, hi⟩ := hg
    obtain ⟨hs, hgd, hx, es', ep', hdt, hsz, ent⟩ := frzT' I hd
    obtain ⟨rfl, rfl⟩ := dict_ep hod hdt
    obtain ⟨⟨k, v⟩, hkv⟩ : ∃ p, kvs[i]? = some p := ⟨kvs[i], List.getElem?_eq_getElem hi⟩
    obtain ⟨en, q, hen, hkey, hq, rv⟩ := ent i k v hkv
    obtain ⟨ok, ov, he⟩ := st
    rw [← hsz] at he
    have hi' : i < es'.size := by omega
    have e3 : es'[i] = en := by
      have := Array.getElem?_eq_getElem hi'
      rw [hen] at this
      exact (Option.some.inj this).symm
    have hlt : it < s.heap.objs.size := Heap.lt_size he
    refine DT.nextI he ⟨o, hgd, hx, hdt⟩ hi' fun h' ho hT hz hk => ?_
    rw [e3] at ho hT
    refine ⟨_, rfl, wpAny_letOwnedTupleGo_items (s := { s with heap := h' }) ho fun h'' he' sb => ?_⟩
    have hT2 : h''.get? s.heap.objs.size = some { cls := .type "tuple", data := .seq #[en.key, en.val] } := (sb.2 _ (Nat.ne_of_gt hlt)).trans hT
    have new : ObjOk X.prog X.w (upd H s.heap.objs.size (.tup [.ref q, v])) h'' s.heap.objs.size (.tup [.ref q, v]) :=
      ⟨by show 2 ≤ sizeLine; decide, [en.key, en.val], .cons hkey (.cons rv .nil), ⟨_, hT2, rfl, _, rfl⟩⟩
    have I1 : Inv X pins σ (upd H s.heap.objs.size (.tup [.ref q, v])) { s with heap := h'' } :=
      I.turnedNew (t' := s.toks) (ch := [it]) (fun b ob hb e => (sb.2 b (by simpa using hb)).trans (hk b ob (by simpa using hb) e)) hf (Nat.le_refl _) new
    refine ⟨.ref s.heap.objs.size, _, I1, rfl, ⟨_, k, v, q, hkv, rfl, I.hok.fresh (Nat.le_refl _), hq, rfl⟩, ⟨en.key, en.val, ?_⟩, fun b hb => ?_⟩
    · rw [← hsz]; exact he'
    · have e : b = it := by simpa using hb
      rw [e, upd_ne (Nat.ne_of_lt hlt)]
      exact (hf it (by simp)).1
  done := by
    intro X hP hw hK hc i pins s σ H E I hf st hg
    subst hP hw hK
    obtain ⟨hd, hi⟩ := hg
    obtain ⟨f0, f1, f2, f3, f4, f5⟩ := hf it (by simp)
    obtain ⟨hs, hgd, hx, es', ep', hdt, hsz, ent⟩ := frzT' I hd
    obtain ⟨rfl, rfl⟩ := dict_ep hod hdt
    obtain ⟨ok, ov, he⟩ := st
    rw [← hsz] at he
    exact DT.endI (I.ok.hd hc) he ⟨o, hgd, hx, hdt⟩ (by omega) fun h' eb => ⟨rfl, I.turned (t' := s.toks) (fun b ob hb e => eb b ob hb e) f0 f1 f3 f4 f5⟩
  self := fun A i s Q E st h => let ⟨_, _, e⟩ := st; PySem.W.kcp_self e h
end
def iItemsT (td : TE) : TI := fun σ H R => td σ H fun x H1 => ∃ d o kvs, x = .ref d ∧ H1 d = some (.frz o (.dT kvs)) ∧ R (Itit d o kvs) H1
theorem pi_itemsT {X : Cx} {e : Expr} {td : TE} {apos cpos : Pos} {elts : List Expr} {kk : Nat} {tpos : Pos} (he : PE X e td) (hbase : attributeBase e "items" X.env (eval e X.env) = eval e X.env := by rfl) (hline : (apos.endLine == cpos.line) = true := by rfl) :
    PI X (.Tuple elts kk tpos) (.Call (.Attribute e "items" apos) [] [] cpos) (iItemsT td) := by
  refine ⟨fun pins s σ H R I h => ?_⟩
  refine wpAny_Call_method (T := "dict") (id := "dict.items") hbase rfl hline F.plainAttrs_dict F.slot_dict_items F.type_dict_items (thn (he.run pins s σ H _ I h) fun u s1 ⟨x, H1, I1, rx, d, o, kvs, ex, hd, q⟩ => ?_)
  subst ex
  obtain rfl : u = Value.ref d := rx
  obtain ⟨hs, hgd, hx, es, ep, hdt, hsz, ent⟩ := frzT' I1 hd
  refine ⟨⟨o, hgd, hx.1⟩, fun b q => ?_, ?_⟩
  · cases q
    exact ⟨o, hgd, hx.2.1⟩
  have I2 : Inv X pins σ H1 { s1 with heap := s1.heap.push { cls := .type "dict_items", data := .fields #[.ref d] } } := I1.kept (t' := s1.toks) fun b ob q => Heap.get?_push_of_some _ q
  have fin : wpAny (model X.prog X.w) X.A (pyIter (.ref s1.heap.objs.size)) (PIE X pins σ (.Tuple elts kk tpos) R) X.xe { s1 with heap := s1.heap.push { cls := .type "dict_items", data := .fields #[.ref d] } } := by
    refine DT.iterI (d := d) (es := es) (ep := ep) ⟨_, Heap.get?_push_size _ rfl, rfl, rfl⟩ ⟨o, Heap.get?_push_of_some _ hgd, hx, hdt⟩ (pi_one (tk := s1.toks) I2 _ (turn_itemsT _ hdt) ⟨.none, .none, ?_⟩ q)
    rw [← hsz]
    exact Heap.get?_push_size _ rfl
  show wpAny _ _ (callWith cpos (.builtin "dict.items") [.ref d] [] []) _ X.xe s1
  exact method_meetsIn F.slot_dict_items F.entry_dict_items rfl (PySem.evalArgs_none ⟨rfl, ⟨o, hgd, hx.1⟩, F.args_dict_items_1 _, _, DT.meetsItems (es := es) (ep := ep) hs, ⟨⟨o, hgd, hx, hdt⟩, fin⟩⟩)
/-! ### sorted -/
def rSortD (K : Frag) : List V → Hp → VK → Prop := fun vs H Q => ∃ a xs ds, vs = [.ref a] ∧ SqL K H a xs ∧ DpAll K H xs ds ∧ AllAlike ds ∧ PySem.W.Sortable ds ∧ (∀ d ∈ ds, d.depth ≤ 50) ∧ xs.length ≤ 100000 ∧
  ∀ p, H p = none → Q (.ref p) (upd H p (.lst (((xs.zip ds).mergeSort (dataLe false Prod.snd)).map Prod.fst)))
theorem eachs_zip {h : Heap} : ∀ {xs : List V} {its : List Value} {ds : List PyData}, Vals xs its → EachIs (fun v b => ∃ as, Reads h v b as) its ds → EachIs (fun v b => RelV b.1 v) its (xs.zip ds) ∧ EachIs (fun v b => ∃ as, Reads h v b.2 as) its (xs.zip ds)
  | [], _, _, .nil, .nil => ⟨.nil, .nil⟩
  | _ :: _, _, _, .cons r t, .cons e u => ⟨.cons r (eachs_zip t u).1, .cons e (eachs_zip t u).2⟩
theorem eachs_vals : ∀ {out : List Value} {bs : List (V × PyData)}, EachIs (fun v b => RelV b.1 v) out bs → Vals (bs.map Prod.fst) out
  | [], _, .nil => .nil
  | _ :: _, _, .cons r t => .cons r (eachs_vals t)
section
variable {X : Cx}
theorem c_sortD (hu : X.A.units + 64 < cLine) : CallR X (.builtin "sorted") (rSortD X.K) := by
  intro pins s σ H vs us Q I r h
  obtain ⟨a, xs, ds, rfl, hs, hd, ha, hk, hdp, hl, q⟩ := h
  rw [Vals.ref1 r]
  obtain ⟨its, rv, pl, _⟩ := I.list hs
  obtain ⟨as, hr⟩ := Dp.readsAll I ds xs its hd rv
  have e0 : EachIs (fun v b => ∃ as, Reads s.heap v b as) its ds := readsAll_each (enc := id) (by rw [List.map_id]; exact hr)
  obtain ⟨e1, e2⟩ := eachs_zip rv e0
  have lx : xs.length = ds.length := dps_length hd
  have em : (xs.zip ds).map Prod.snd = ds := List.map_snd_zip (by omega)
  have lz : (xs.zip ds).length = xs.length := by rw [List.length_zip, lx, Nat.min_self]
  refine sorted_data (bs := xs.zip ds) (enc := Prod.snd) (R := fun v b => RelV b.1 v) pl.isList e1 e2 (by rw [em]; exact ha) (by rw [em]; exact hk) (by rw [lz]; exact Nat.le_trans hl (by decide)) (fun b hb => ?_) fun out ho eo => ?_
  · have := hdp b.2 (by rw [← em]; exact List.mem_map.mpr ⟨b, hb, rfl⟩)
    omega
  · have rv2 := eachs_vals eo
    obtain ⟨c, hc⟩ := sortedAll_at s.heap its (List.toArray out)
    refine ⟨.ref (s.heap.objs.size + 1), _, I.laid (t' := s.toks) (a := s.heap.objs.size + 1) (o := .lst (((xs.zip ds).mergeSort (dataLe false Prod.snd)).map Prod.fst)) (fun _ _ => sortedAll_old) (Nat.le_succ _) ?_, rfl, q _ (I.hok.fresh (Nat.le_succ _))⟩
    refine ⟨?_, out, c, rv2, hc⟩
    rw [List.length_map, List.length_mergeSort, lz]
    exact Nat.le_trans hl (by decide)
end
end OB

set_option Elab.async false
set_option linter.all false
set_option maxRecDepth 100000
set_option maxHeartbeats 4000000
/-! OB, part w: sorted of a dict with tuple keys; comprehensions over its items, over its keys and the lists that it holds, over a text; texts cut, joined, read as numbers; remove. -/
namespace OB
open PySem PySem.Spec PyProof.Rows L2 PySem.W
/-! ### sorted(d) -/
def kD : L2.Key → PyData
  | .inl i => .int i
  | .inr s => .str s
def kDs (k : List L2.Key) : PyData := .tuple (k.map kD)
theorem dps_key {K : Frag} {H : Hp} : ∀ k : List L2.Key, DpAll K H (k.map kV) (k.map kD)
  | [] => .nil
  | .inl i :: r => .cons (.int i) (dps_key r)
  | .inr s :: r => .cons (.str s) (dps_key r)
theorem dp_key {K : Frag} {H : Hp} {q : Addr} {k : List L2.Key} (h : H q = some (.tup (k.map kV))) : Dp K H (.ref q) (kDs k) := .tup (.inl (.inl h)) (dps_key k)
def rSortDT : List V → Hp → VK → Prop := fun vs H Q => ∃ d kvs, vs = [.ref d] ∧ Rd H d (.dT kvs) ∧ kvs.length ≤ 100000 ∧ AllAlike (kvs.map fun p => kDs p.1) ∧ (∀ p ∈ kvs, p.1 ≠ []) ∧ (∀ p ∈ kvs, (kDs p.1).depth ≤ 50) ∧
  ∀ p bs, H p = none → IsKeys H kvs bs → Q (.ref p) (upd H p (.lst (((bs.zip (kvs.map Prod.fst)).mergeSort (dataLe false fun b => kDs b.2)).map fun b => V.ref b.1)))
theorem isKeys_get {H : Hp} : ∀ {kvs : List (List L2.Key × V)} {bs : List Addr}, IsKeys H kvs bs → ∀ z ∈ bs.zip (kvs.map Prod.fst), H z.1 = some (.tup (z.2.map kV))
  | [], [], .nil, _, h => by cases h
  | _ :: _, _ :: _, .cons h t, z, hz => by
    rcases List.mem_cons.mp hz with rfl | hz
    · exact h
    · exact isKeys_get t z hz
theorem eachs_refs {R : Value → Addr × List L2.Key → Prop} : ∀ {vs : List Value} {bs : List (Addr × List L2.Key)}, vs = bs.map (fun b => Value.ref b.1) → (∀ b ∈ bs, R (.ref b.1) b) → EachIs R vs bs
  | _, [], rfl, _ => .nil
  | _, b :: bs, rfl, h => .cons (h b (List.mem_cons_self ..)) (eachs_refs rfl fun c hc => h c (List.mem_cons_of_mem _ hc))
theorem eachs_out : ∀ {out : List Value} {bs : List (Addr × List L2.Key)}, EachIs (fun v b => v = .ref b.1) out bs → Vals (bs.map fun b => V.ref b.1) out
  | [], _, .nil => .nil
  | _ :: _, _, .cons rfl t => .cons rfl (eachs_out t)
section
variable {X : Cx}
theorem c_sortDT (hc : X.calm = true) (hu : X.A.units + 64 < cLine) : CallR X (.builtin "sorted") rSortDT := by
  intro pins s σ H xs us Q I r h
  obtain ⟨d, kvs, rfl, hd, hl, hal, hne, hdp, q⟩ := h
  rw [Vals.ref1 r]
  obtain ⟨z, hs, ks, pr, o, es, ep, ho, hx, hdt, he, hn⟩ := (show ObjOk X.prog X.w H s.heap d (.dT kvs) from hd.ok I.hok)
  have l1 : es.size = ks.length := size_of_entries he
  have l2 : kvs.length = ks.length := Paired.length pr
  have z1 : es.size ≤ sizeLine := by
    have : 100000 ≤ sizeLine := by decide
    omega
  refine Calls.call_function_entry kind_sorted plain_sorted entry_sorted (args_sorted1 _) ?_
  unfold Builtin.«sorted»
  refine wpAny_bind (m := checkCount "sorted" 1 1 _) (wpAny_pure ?_)
  refine wpAny_bind (PySem.W.kdu_collect (A := X.A.in1) (kdl_raw hs hx hdt) (I.ok.hd hc) ho z1 fun h' tk acc hk it => ?_)
  have hacc : acc.toList.length = ks.length := by rw [Array.length_toList, it.1]; exact l1
  have ea : acc.toList = ks.map fun x => Value.ref x.2.1 := by
    apply List.ext_getElem?
    intro j
    rw [List.getElem?_map]
    cases hj : acc.toList[j]? with
    | none =>
      have h1 := List.getElem?_eq_none_iff.mp hj
      rw [List.getElem?_eq_none (by omega)]
      all_goals rfl
    | some v =>
      obtain ⟨en, hen, hv⟩ := it.2 j v (by rw [← Array.getElem?_toList]; exact hj)
      have qe := entry_at he j
      rw [hen] at qe
      cases hb : ks[j]? with
      | none =>
        rw [hb] at qe
        exact nomatch (show some en = none from qe)
      | some b =>
        rw [hb] at qe
        have e2 : en = entryOfKey (tupleKind (mixKind X.prog X.w)) b := Option.some.inj qe
        rw [hv, e2]
        all_goals rfl
  refine wpAny_bind (wpAny_newList ?_ (by rw [hacc, ← l1]; exact z1))
  have ik : IsKeys H kvs (ks.map fun x => x.2.1) := isKeys_of pr
  have em : ((ks.map fun x => x.2.1).zip (kvs.map Prod.fst)).map Prod.fst = ks.map fun x => x.2.1 := List.map_fst_zip (by rw [List.length_map, List.length_map]; omega)
  have em2 : ((ks.map fun x => x.2.1).zip (kvs.map Prod.fst)).map Prod.snd = kvs.map Prod.fst := List.map_snd_zip (by rw [List.length_map, List.length_map]; omega)
  generalize hB : (ks.map fun x => x.2.1).zip (kvs.map Prod.fst) = bs at em em2
  have lb : bs.length = kvs.length := by
    have := congrArg List.length em2
    rw [List.length_map, List.length_map] at this
    exact this
  have eab : acc.toList = bs.map fun b => Value.ref b.1 := by
    rw [ea, show (ks.map fun x => Value.ref x.2.1) = (ks.map fun x => x.2.1).map Value.ref by rw [List.map_map]; rfl, ← em, List.map_map]
    rfl
  have I1 : Inv X pins σ H { s with heap := h', toks := tk } := I.kept hk
  have I2 : Inv X pins σ H { s with heap := h'.push { cls := .type "list", data := .seq acc.toList.toArray }, toks := tk } := I1.kept (t' := tk) fun b o e => Heap.get?_push_of_some _ e
  have hob : (h'.push { cls := .type "list", data := .seq acc.toList.toArray }).get? h'.objs.size = some (seqObj "list" acc.toList.toArray 0) := Heap.get?_push_size _ rfl
  have ekd : bs.map (fun b => kDs b.2) = kvs.map fun p => kDs p.1 := by
    rw [show (bs.map fun b => kDs b.2) = (bs.map Prod.snd).map kDs by rw [List.map_map]; rfl, em2, List.map_map]
    rfl
  have mk : ∀ b ∈ bs, ∃ p ∈ kvs, p.1 = b.2 := fun b hb => by
    have : b.2 ∈ kvs.map Prod.fst := by rw [← em2]; exact List.mem_map.mpr ⟨b, hb, rfl⟩
    obtain ⟨p, hp, e⟩ := List.mem_map.mp this
    exact ⟨p, hp, e⟩
  have rd : ∀ b ∈ bs, ∃ as, Reads (h'.push { cls := .type "list", data := .seq acc.toList.toArray }) (.ref b.1) (kDs b.2) as ∧ h'.objs.size ∉ as := fun b hb => by
    have hH := isKeys_get ik b (by rw [hB]; exact hb)
    obtain ⟨as, ra⟩ := Dp.reads I1 (kDs b.2) (.ref b.1) (.ref b.1) (dp_key hH) rfl
    refine ⟨as, Reads.keeps (fun _ _ e => Heap.get?_push_of_some _ e) ra, fun hm => ?_⟩
    have : as = [] := by
      have key : ∀ (k : List L2.Key) (v : Value) (as : List Addr), Reads h' v (kDs k) as → as = [] := by
        intro k v as r
        cases r with
        | tuple h1 h2 h3 h4 =>
          have all : ∀ (k : List L2.Key) (vs : List Value) (as : List Addr), ReadsAll h' vs (k.map kD) as → as = [] := by
            intro k
            induction k with
            | nil => intro vs as r; cases r; rfl
            | cons x k ih =>
              intro vs as r
              cases r with
              | cons r1 r2 =>
                rw [ih _ _ r2]
                cases x with
                | inl i => cases (show Reads h' _ (.int i) _ from r1); rfl
                | inr t => cases (show Reads h' _ (.str t) _ from r1); rfl
          exact all k _ _ h4
      exact key _ _ _ ra
    rw [this] at hm
    cases hm
  refine wpAny_bind (wpAny_holding (list_sort_data (n := 0) (vs := acc.toList) (bs := bs) (enc := fun b => kDs b.2) (R := fun v b => v = .ref b.1) hob (eachs_refs eab fun b hb => rfl) (eachs_refs eab rd) (by rw [ekd]; exact hal) (.inl fun e hm => ?_) ?_ (fun b hb => ?_) fun out ho eo => ?_))
  · obtain ⟨b, hb, rfl⟩ := List.mem_map.mp hm
    obtain ⟨p, hp, e⟩ := mk b hb
    have := hne p hp
    rw [e] at this
    cases hk : b.2 with
    | nil => exact absurd hk this
    | cons x r => exact ⟨kD x, r.map kD, rfl⟩
  · rw [lb]
    exact Nat.le_trans hl (by decide)
  · obtain ⟨p, hp, e⟩ := mk b hb
    have := hdp p hp
    rw [e] at this
    show X.A.units + 1 + 1 + (kDs b.2).depth < cLine
    omega
  · refine wpAny_pure ?_
    have ho2 : (sortedHeap (h'.push { cls := .type "list", data := .seq acc.toList.toArray }) h'.objs.size acc.toList (List.toArray out)).get? h'.objs.size = _ := (sortedHeap_at (vs := acc.toList) (out := List.toArray out) hob).choose_spec
    refine ⟨_, rfl, .ref h'.objs.size, _, I1.laid (t' := tk) (a := h'.objs.size) (o := .lst ((bs.mergeSort (dataLe false fun b => kDs b.2)).map fun b => V.ref b.1)) (fun b u e1 => ?_) (Nat.le_refl _) ?_, rfl, ?_⟩
    · have e2 : (h'.push { cls := .type "list", data := .seq acc.toList.toArray }).get? b = some u := Heap.get?_push_of_some _ e1
      exact (sortedHeap_old (Nat.ne_of_lt (Heap.lt_size e1)) (Heap.lt_size e2)).trans e2
    · refine ⟨?_, out, _, eachs_out eo, ho2⟩
      rw [List.length_map, List.length_mergeSort, lb]
      exact Nat.le_trans hl (by decide)
    · have := q h'.objs.size (ks.map fun x => x.2.1) (I1.hok.fresh (Nat.le_refl _)) ik
      rw [hB] at this
      exact this
end
end OB

set_option Elab.async false
set_option linter.all false
set_option maxRecDepth 100000
set_option maxHeartbeats 4000000
/-! OB, part x: comprehensions over the items of a dict with tuple keys, over its keys and the lists that it holds, over a text; texts cut, joined, read as numbers; remove. -/
namespace OB
open PySem PySem.Spec PyProof.Rows L2 PySem.W
section
variable {K : Frag} {F : List (Addr × HO)} {G : List Ft} {σ : L2.St} {H : Hp} {Q : VK} {g : TG} {tt : TT} {te : TE} {own : List Nat} {d : Addr} {o : Obj}
/-! ### over the items -/
def TurnI (K : Frag) (G : List Ft) (I : Nat → List (Addr × HO) → List PyData → Prop) (σ : L2.St) (own : List Nat) (g : TG) (tt : TT) (te : TE) (i : Nat) (k : List L2.Key) (y : V) : Prop :=
  ∀ (Da T q : Addr) (H2 : Hp) (F2 : List (Addr × HO)) (vs : List V) (ds : List PyData) (QE : VK) (QR : Hp → Prop), I i F2 ds → H2 T = none → H2 q = some (.tup (k.map kV)) → Sy K ((Da, .lst vs) :: F2) (.dat vs ds :: G) H2 →
    (∀ (z : V) (d : PyData) F' H', I (i + 1) F' (ds ++ [d]) → Sy K ((Da, .lst vs) :: F') (.dat [z] [d] :: .dat vs ds :: G) H' → QE z H') →
    (∀ F' H', I (i + 1) F' ds → Sy K ((Da, .lst vs) :: F') (.dat vs ds :: G) H' → QR H') →
    g (.ref T) (wipe σ own) (upd H2 T (.tup [.ref q, y])) fun σ2 H2 => wipe σ2 own = wipe σ own ∧ tt σ2 H2 fun b H3 => if b = true then te σ2 H3 QE else QR H3
theorem walk_itemsT {kvs : List (List L2.Key × V)} : Walk (Itit d o kvs) kvs.length (fun H => H d = some (.frz o (.dT kvs)))
    (fun i H x H' => ∃ T k v q, kvs[i]? = some (k, v) ∧ x = .ref T ∧ H T = none ∧ H q = some (.tup (k.map kV)) ∧ H' = upd H T (.tup [.ref q, v])) :=
  ⟨fun _ _ hi q => ⟨q, hi⟩, fun _ q => ⟨q, Nat.le_refl _⟩, fun _ _ _ _ _ _ y => y⟩
theorem g_lcIT {td : TE} {kvs : List (List L2.Key × V)} (I : Obj → Nat → List (Addr × HO) → List PyData → Prop)
    (ht : td σ H fun x H1 => ∃ d F u, x = .ref d ∧ u = .dT kvs ∧ H1 d = some u ∧ ∃ j, F[j]? = some (d, u) ∧ Sy K F G H1 ∧ ∀ od,
      I od 0 (F.set j (d, .frz od u)) [] ∧ (∀ i F' ds H', I od i F' ds → Sy K F' G H' → H' d = some (.frz od (.dT kvs))) ∧ (∀ i F ds, I od i F ds → ds.length < 100000) ∧
      (∀ i k v, kvs[i]? = some (k, v) → TurnI K G (I od) σ own g tt te i k v) ∧
      (∀ Dp H' F' vs ds, I od kvs.length F' ds → Sy K ((Dp, .lst vs) :: F') (.dat vs ds :: G) H' → Q (.ref Dp) H'))
    (mono : ∀ (H : Hp) (Q Q' : VK), (∀ x H', Q x H' → Q' x H') → td σ H Q → td σ H Q') : tLc (iItemsT (tFrz td)) g tt te own σ H Q := by
  refine mono _ _ _ (fun x H1 h => ?_) ht
  obtain ⟨d, F, u, rfl, rfl, hd, j, hj, S, h⟩ := h
  refine ⟨d, _, rfl, hd, trivial, fun od => ?_⟩
  obtain ⟨h0, hq, hl, turn, done⟩ := h od
  have S1 := S.put (o' := .frz od (.dT kvs)) j hj rfl
  refine ⟨d, od, kvs, rfl, upd_same, fun Dp hD => ?_⟩
  refine lc_it (walk_itemsT (d := d) (o := od) (kvs := kvs)) (LcP K G (I od) Dp) (lcp_start S1 h0 hD) (fun i H' _ p => ?_) (fun i v H1 H' hi p y => ?_) fun H' p => ?_
  · obtain ⟨F', vs, ds, hi, S'⟩ := p
    exact hq i F' ds _ hi S'.drop.less
  · obtain ⟨F', vs, ds, hI, S'⟩ := p
    obtain ⟨T, k, v, q, hk, rfl, hT, hq, rfl⟩ := y
    refine turn i k v hk Dp T q H1 F' vs ds _ (LcP K G (I od) Dp (i + 1)) hI hT hq S' (fun z d F2 H2 hi' S2 => ?_) fun F2 H2 hi' S2 => ⟨F2, vs, ds, hi', S2⟩
    have len := dps_length (S2.dps 1 rfl)
    have lt := hl _ _ _ hi'
    rw [List.length_append] at lt
    refine ⟨vs, S2.at 0 rfl, Nat.lt_of_lt_of_le (by omega) (show 100000 ≤ sizeLine by decide), F2, vs ++ [z], ds ++ [d], hi', ?_⟩
    have S3 : Sy K ((Dp, .lst (vs ++ [z])) :: F2) (.dat [z] [d] :: .dat vs ds :: G) (upd H2 Dp (.lst (vs ++ [z]))) := S2.put (o' := .lst (vs ++ [z])) 0 rfl rfl
    exact (S3.drop.drop).fact (dps_append (S3.dps 1 rfl) (S3.dps 0 rfl)) (by rw [immAll_append, S2.dpi 1 rfl, S2.dpi 0 rfl]; rfl)
  · obtain ⟨F', vs, ds, hI, S'⟩ := p
    exact done Dp H' F' vs ds hI S'
theorem g_tYes {f : Bool → Hp → Prop} (k : f true H) : tYes σ H f := k
/-! ### [x for k in d for x in d[k]], d a dict of lists of whole numbers -/
theorem lc2_it {J : It} {n : Nat} {Gd : Hp → Prop} {Y : Nat → Hp → V → Hp → Prop} (w : Walk J n Gd Y) {wi1 : TI} {g1 : TG} {tt1 : TT} {vs vs1 : List Nat} {H1 : Hp} {D : Addr} {Qd : Hp → Prop} (Pv : Nat → Hp → Prop) (h0 : Pv 0 (upd H1 D (.lst []))) (hG : ∀ i H, i ≤ n → Pv i H → Gd H)
    (hs : ∀ i x H H', i < n → Pv i H → Y i H x H' → g x (wipe σ vs) H' fun σ2 H2 => wipe σ2 vs = wipe σ vs ∧ tt σ2 H2 fun b H3 =>
      if b = true then wi1 σ2 H3 fun J1 H4 => ∃ W1 : Nat → Nat → Hp → Prop, (∃ m, W1 0 m H4) ∧ ∀ j k H, W1 j k H →
        (J1.stop j H ∧ Pv (i + 1) H) ∨ (J1.go j H ∧ ∃ Nx1 : Hp → Prop, (∀ H', Nx1 H' → ∃ k', k' < k ∧ W1 (j + 1) k' H') ∧ ∀ x H', J1.yld j H x H' → g1 x (wipe σ2 vs1) H' fun σ3 H5 => wipe σ3 vs1 = wipe σ2 vs1 ∧ tt1 σ3 H5 fun b H6 =>
          if b = true then te σ3 H6 fun y H7 => ∃ acc, H7 D = some (.lst acc) ∧ acc.length < sizeLine ∧ Nx1 (upd H7 D (.lst (acc ++ [y]))) else Nx1 H6)
      else Pv (i + 1) H3) (hd : ∀ H, Pv n H → Qd H) :
    ∃ W : Nat → Nat → Hp → Prop, (∃ m, W 0 m (upd H1 D (.lst []))) ∧ ∀ i m H, W i m H →
      (J.stop i H ∧ Qd H) ∨ (J.go i H ∧ ∃ Nx : Hp → Prop, (∀ H', Nx H' → ∃ m', m' < m ∧ W (i + 1) m' H') ∧ ∀ x H', J.yld i H x H' → g x (wipe σ vs) H' fun σ2 H2 => wipe σ2 vs = wipe σ vs ∧ tt σ2 H2 fun b H3 =>
        if b = true then wi1 σ2 H3 fun J1 H4 => ∃ W1 : Nat → Nat → Hp → Prop, (∃ m, W1 0 m H4) ∧ ∀ j k H, W1 j k H →
          (J1.stop j H ∧ Nx H) ∨ (J1.go j H ∧ ∃ Nx1 : Hp → Prop, (∀ H', Nx1 H' → ∃ k', k' < k ∧ W1 (j + 1) k' H') ∧ ∀ x H', J1.yld j H x H' → g1 x (wipe σ2 vs1) H' fun σ3 H5 => wipe σ3 vs1 = wipe σ2 vs1 ∧ tt1 σ3 H5 fun b H6 =>
            if b = true then te σ3 H6 fun y H7 => ∃ acc, H7 D = some (.lst acc) ∧ acc.length < sizeLine ∧ Nx1 (upd H7 D (.lst (acc ++ [y]))) else Nx1 H6)
        else Nx H3) := by
  refine ⟨fun i m H => m = n - i ∧ i ≤ n ∧ Pv i H, ⟨n, by simp, Nat.zero_le _, h0⟩, ?_⟩
  rintro i m H ⟨rfl, hi, p⟩
  have q := hG i H hi p
  by_cases hlt : i < n
  · refine .inr ⟨w.goes i H hlt q, Pv (i + 1), fun H' p' => ⟨n - (i + 1), by omega, rfl, hlt, p'⟩, fun x H' y => hs i x H H' hlt p (w.yields i H x H' hlt q y)⟩
  · have e : i = n := by omega
    subst e
    exact .inl ⟨w.stops H q, hd H p⟩
/-- the rows of such a dict: key, where the list stands, its numbers -/
abbrev Row : Type := List L2.Key × Addr × List Int
def rowD (rs : List Row) : HO := .dT (rs.map fun r => (r.1, V.ref r.2.1))
def rowL (rs : List Row) : List (Addr × HO) := rs.map fun r => (r.2.1, HO.lst (r.2.2.map V.int))
theorem g_lc2R {rs : List Row} {a b c : Nat} (hab : a ≠ b) (hca : c ≠ a) (hcb : c ≠ b) (la : a < σ.length) (lb : b < σ.length) (S : Sy K F G H) {i : Nat} (hi : F[i]? = some (d, rowD rs)) (hr : ∀ r ∈ rs, (r.2.1, HO.lst (r.2.2.map V.int)) ∈ F) (nd : (rs.map (·.1)).Nodup)
    (hl : (rs.flatMap fun r => r.2.2).length < 100000) (hc : σ[c]? = some (some (.ref d)))
    (done : ∀ p H', Sy K ((p, .lst ((rs.flatMap fun r => r.2.2).map V.int)) :: F) G H' → Q (.ref p) H') :
    tLockE (tLc2 (iKeys (tVar c)) (gName a) tYes (iSeq K (tDGet (tVar c) (tVar a))) (gName b) tYes (tVar b) [a, b] [b]) σ H Q := by
  have mu : Mut (some (rowD rs)) := trivial
  refine ⟨d, rowD rs, S.at i hi, mu, fun od => ?_⟩
  have S1 := S.put (o' := .frz od (rowD rs)) i hi rfl
  have hil := (List.getElem?_eq_some_iff.mp hi).1
  have hFd : (F.set i (d, .frz od (rowD rs)))[i]? = some (d, .frz od (rowD rs)) := List.getElem?_set_self hil
  have hrow : ∀ r ∈ rs, (r.2.1, HO.lst (r.2.2.map V.int)) ∈ F.set i (d, .frz od (rowD rs)) := fun r hr' => by
    obtain ⟨j, hj⟩ := List.mem_iff_getElem?.mp (hr r hr')
    have hne : i ≠ j := fun e => by
      subst e
      rw [hi] at hj
      cases hj
    refine List.mem_of_getElem? (i := j) ?_
    rw [List.getElem?_set_ne hne]
    exact hj
  refine ⟨_, hc, d, od, rfl, .inr ⟨_, upd_same, fun D hD => ?_⟩⟩
  refine lc2_it (walk_keysT (d := d) (o := od)) (fun n H' => Sy K ((D, .lst (((rs.take n).flatMap fun r => r.2.2).map V.int)) :: F.set i (d, .frz od (rowD rs))) G H') (S1.push hD) (fun n H' _ S' => S'.at (i + 1) hFd) (fun n x H1 H2 hn S' y => ?_) fun H' S' => ?_
  · obtain ⟨rfl, k, v, q, hk, rfl, hq⟩ := y
    rw [List.getElem?_map] at hk
    obtain ⟨r, hr1, hr2⟩ := Option.map_eq_some_iff.mp hk
    obtain ⟨rfl, rfl⟩ := Prod.mk.inj hr2
    have hrm := List.mem_of_getElem? hr1
    have e1 : (wipe σ [a, b]).length = σ.length := wipe_length σ [a, b]
    have wc : (wipe σ [a, b])[c]? = some (some (.ref d)) := by rw [wipe_out (by simp [hca, hcb])]; exact hc
    show gName a (.ref q) (wipe σ [a, b]) H2 _
    show _ ∧ _
    refine ⟨?_, ?_⟩
    · simp only [wipe]
      apply List.ext_getElem?
      intro j
      simp only [List.getElem?_set, List.length_set]
      by_cases ja : a = j <;> by_cases jb : b = j <;> simp [ja, jb]
    refine g_tYes ?_
    refine g_T rfl ?_
    have c1 : ((wipe σ [a, b]).set a (some (.ref q)))[c]? = some (some (.ref d)) := by rw [List.getElem?_set_ne (Ne.symm hca)]; exact wc
    have a1 : ((wipe σ [a, b]).set a (some (.ref q)))[a]? = some (some (.ref q)) := List.getElem?_set_self (by rw [e1]; exact la)
    have vv : valV (rs.map fun r => (r.1, V.ref r.2.1)) r.1 = some (.ref r.2.1) := by
      clear hl done hr hrow hi hc hFd S S1 S' mu hD wc c1 a1 hn hq
      induction rs generalizing n with
      | nil => cases hrm
      | cons x rs ih =>
        rw [List.map_cons, List.nodup_cons] at nd
        rcases List.mem_cons.mp hrm with rfl | hm
        · exact valV_pos rfl
        · rw [List.map_cons, valV_neg (fun e => nd.1 (by rw [show x.1 = r.1 from e]; exact List.mem_map.mpr ⟨r, hm, rfl⟩))]
          obtain ⟨m, hm1⟩ := List.mem_iff_getElem?.mp hm
          exact ih nd.2 m hm1 (by rw [hm1]; rfl) hm
    show iSeq K (tDGet (tVar c) (tVar a)) _ H2 _
    refine ⟨_, c1, _, a1, d, .ref r.2.1, rfl, .inr ⟨_, r.1, q, .inr ⟨od, S'.at (i + 1) hFd⟩, rfl, hq, vv.symm⟩, r.2.1, rfl, .inl ⟨⟨r.2.2.map V.int, ?_⟩, ?_⟩⟩
    · exact .inl (.inl (S'.st _ (List.mem_cons_of_mem _ (hrow r hrm))))
    · have hpre : (rs.take (n + 1)).flatMap (fun r => r.2.2) = (rs.take n).flatMap (fun r => r.2.2) ++ r.2.2 := by
        rw [List.take_succ, hr1, List.flatMap_append]
        simp
      have hle : ((rs.take (n + 1)).flatMap fun r => r.2.2).length ≤ (rs.flatMap fun r => r.2.2).length := by
        have : rs.flatMap (fun r => r.2.2) = (rs.take (n + 1)).flatMap (fun r => r.2.2) ++ (rs.drop (n + 1)).flatMap (fun r => r.2.2) := by rw [← List.flatMap_append, List.take_append_drop]
        rw [this, List.length_append]
        omega
      refine ⟨fun j k H' => k = r.2.2.length - j ∧ j ≤ r.2.2.length ∧ Sy K ((D, .lst (((rs.take n).flatMap (fun r => r.2.2) ++ r.2.2.take j).map V.int)) :: F.set i (d, .frz od (rowD rs))) G H', ⟨_, rfl, Nat.zero_le _, by rw [List.take_zero, List.append_nil]; exact S'⟩, ?_⟩
      rintro j k H' ⟨rfl, hj, S2⟩
      have hL : SqL K H' r.2.1 (r.2.2.map V.int) := .inl (.inl (S2.st _ (List.mem_cons_of_mem _ (hrow r hrm))))
      by_cases hlt : j < r.2.2.length
      · refine .inr ⟨⟨_, V.int (r.2.2[j]), hL, by rw [List.getElem?_map, List.getElem?_eq_getElem hlt]; rfl⟩, fun H5 => Sy K ((D, .lst (((rs.take n).flatMap (fun r => r.2.2) ++ r.2.2.take (j + 1)).map V.int)) :: F.set i (d, .frz od (rowD rs))) G H5, fun H5 S5 => ⟨_, by omega, rfl, hlt, S5⟩, fun x H5 y => ?_⟩
        obtain ⟨rfl, y⟩ := y
        have hx := y _ hL
        rw [List.getElem?_map, List.getElem?_eq_getElem hlt] at hx
        obtain rfl : V.int r.2.2[j] = x := Option.some.inj hx
        show _ ∧ _
        refine ⟨?_, ?_⟩
        · simp only [wipe]
          apply List.ext_getElem?
          intro z
          simp only [List.getElem?_set, List.length_set]
          by_cases jb : b = z <;> simp [jb]
        refine g_tYes ?_
        refine g_T rfl ?_
        refine ⟨_, List.getElem?_set_self ?_, _, S2.at 0 rfl, ?_, ?_⟩
        · show b < (((wipe σ [a, b]).set a (some (V.ref q))).set b none).length
          rw [List.length_set, List.length_set, e1]
          exact lb
        · rw [List.length_map, List.length_append, List.length_take]
          have := congrArg List.length hpre
          rw [List.length_append] at this
          have h3 : 100000 ≤ sizeLine := by decide
          omega
        · have S3 := S2.put (o' := .lst (((rs.take n).flatMap (fun r => r.2.2) ++ r.2.2.take j).map V.int ++ [V.int r.2.2[j]])) 0 rfl rfl
          have e5 : ((rs.take n).flatMap (fun r => r.2.2) ++ r.2.2.take (j + 1)).map V.int = ((rs.take n).flatMap (fun r => r.2.2) ++ r.2.2.take j).map V.int ++ [V.int r.2.2[j]] := by
            rw [List.take_succ, List.getElem?_eq_getElem hlt, ← List.append_assoc, List.map_append (l₂ := (some r.2.2[j]).toList)]
            rfl
          rw [e5]
          exact S3
      · have e : j = r.2.2.length := by omega
        subst e
        refine .inl ⟨⟨_, hL, by rw [List.length_map]; exact Nat.le_refl _⟩, ?_⟩
        rw [List.take_of_length_le (Nat.le_refl _), ← hpre] at S2
        exact S2
  · rw [List.length_map, List.take_of_length_le (Nat.le_refl _)] at S'
    obtain ⟨e1, S2⟩ := S'.unlock hi rfl
    exact ⟨e1, done D _ S2⟩
end
end OB

set_option Elab.async false
set_option linter.all false
set_option maxRecDepth 100000
set_option maxHeartbeats 4000000
/-! OB, part y: texts gone through, cut, joined, read as numbers; list.remove of whole numbers. -/
namespace OB
open PySem PySem.Spec PyProof.Rows L2 PySem.W
def tx (l : List Nat) : Str := ⟨l.toArray⟩
theorem tx_cps (l : List Nat) : (tx l).cps.toList = l := rfl
theorem tx_len (l : List Nat) : (tx l).length = l.length := by simp [tx, Str.length]
theorem tx_of (z : Str) : tx z.cps.toList = z := by simp [tx]
theorem tx_append (l m : List Nat) : tx l ++ tx m = tx (l ++ m) := by
  refine Str.ext' ?_
  show l.toArray ++ m.toArray = (l ++ m).toArray
  simp
theorem tx_inj {l m : List Nat} (h : tx l = tx m) : l = m := by
  have := congrArg (fun z : Str => z.cps.toList) h
  simpa [tx] using this
theorem sIx_nat {n k d : Nat} (h : k ≤ n) : HT.sIx n d (some (k : Int)) = k := by
  unfold HT.sIx
  show (if (k : Int) < 0 then ((k : Int) + (n : Int)).toNat else min (k : Int).toNat n) = k
  rw [if_neg (by omega)]
  omega
theorem cut_take (l : List Nat) (k : Nat) (h : k ≤ l.length) : cutS (tx l) none (some (k : Int)) = tx (l.take k) := by
  unfold cutS
  rw [tx_len, sIx_nat h, show HT.sIx l.length 0 none = 0 from rfl, tx_cps, List.drop_zero, Nat.sub_zero]
  rfl
theorem cut_drop (l : List Nat) (k : Nat) (h : k ≤ l.length) : cutS (tx l) (some (k : Int)) none = tx (l.drop k) := by
  unfold cutS
  rw [tx_len, sIx_nat h, show HT.sIx l.length l.length none = l.length from rfl, tx_cps, List.take_of_length_le (by rw [List.length_drop]; exact Nat.le_refl _)]
  rfl
section
variable {K : Frag} {F : List (Addr × HO)} {G : List Ft} {σ : L2.St} {H : Hp} {Q : VK} {D : Ends} {g : TG} {tt : TT} {te : TE} {own : List Nat}
/-- a comprehension over a text -/
theorem g_lcStr {tl : TE} {l : List Nat} (I : Nat → List (Addr × HO) → List PyData → Prop) (S : Sy K F G H) (ht : ∀ Q' : VK, Q' (.str (tx l)) H → tl σ H Q') (h0 : I 0 F [])
    (hl : ∀ i F ds, I i F ds → ds.length < 100000)
    (turn : ∀ i c, l[i]? = some c → Turn1 K G I σ own g tt te i (.str (tx [c])))
    (done : ∀ Dp H' F' vs ds, H Dp = none → I l.length F' ds → Sy K ((Dp, .lst vs) :: F') (.dat vs ds :: G) H' → Q (.ref Dp) H') : tLc (iStr tl) g tt te own σ H Q := by
  refine ht _ ⟨tx l, rfl, fun Dp hD => ?_⟩
  have e : (tx l).cps.size = l.length := tx_len l
  refine lc_it (walk_str (z := tx l)) (LcP K G I Dp) (lcp_start S h0 hD) (fun i H' _ p => trivial) (fun i x H1 H2 hi p y => ?_) fun H' p => ?_
  · obtain ⟨rfl, c, hc, rfl⟩ := y
    rw [← Array.getElem?_toList, tx_cps] at hc
    exact lcp_turn hl (turn i c hc) p
  · rw [e] at p
    obtain ⟨F', vs, ds, hi, S'⟩ := p
    exact done Dp H' F' vs ds hD hi S'
/-! z[i], z[i:j], z + y -/
theorem g_ixS {l : List Nat} {i : Int} {c : Nat} (h : atI l i = some c) (hl : l.length ≤ 100000) (k : Q (.str (tx [c])) H) : rIxU K (.str (tx l)) (.int i) H Q :=
  .inr (.inr (.inr ⟨tx l, i, c, rfl, rfl, by rw [tx_len]; exact Nat.le_trans hl (by decide), h, k⟩))
theorem g_slS {l : List Nat} {lo hi : Option Int} (hl : l.length ≤ 100000) (k : Q (.str (cutS (tx l) lo hi)) H) : rSlS (.str (tx l)) lo hi H Q := ⟨tx l, rfl, by rw [tx_len]; exact Nat.le_trans hl (by decide), k⟩
theorem g_catS {l m : List Nat} (h : l.length + m.length ≤ 100000) (k : Q (.str (tx (l ++ m))) H) : rCatS (.str (tx l)) (.str (tx m)) H Q :=
  ⟨tx l, tx m, rfl, rfl, by rw [tx_len, tx_len]; exact Nat.le_trans h (by decide), by rw [tx_append]; exact k⟩
theorem g_lenS {l : List Nat} (k : Q (.int (l.length : Nat)) H) (r : rLen K [.str (tx l)] H Q) : rLen K [.str (tx l)] H Q := r
end
/-! int(z) -/
def rIntS : List V → Hp → VK → Prop := fun xs H Q => ∃ a n, xs = [.str a] ∧ PySem.intText? a = some n ∧ a.length ≤ 640 ∧ Q (.int n) H
theorem c_intS {X : Cx} : CallR X (.type "int") rIntS := call_int_str
/-! l.remove(k) -/
def rRemI (x : V) (xs : List V) (H : Hp) (Q : VK) : Prop := ∃ (l : Addr) (ns : List Int) (k : Int), x = .ref l ∧ xs = [.int k] ∧ H l = some (.lst (ns.map V.int)) ∧ k ∈ ns ∧ Q .non (upd H l (.lst ((ns.erase k).map V.int)))
theorem mt_remI {X : Cx} : MtR X "list.remove" rRemI := by
  intro pins s σ H x xs v us Q I rx rxs h
  obtain ⟨l, ns, k, rfl, rfl, hH, hk, qy⟩ := h
  cases rx
  obtain ⟨u, rfl, ry⟩ := rxs.one
  obtain ⟨t, rfl⟩ := (show ∃ t, u = Value.int k t from ry)
  obtain ⟨z, its, n, r, hl, e0⟩ := I.lstM hH
  have hi : IntsAre its ns := intsAre_of r
  have heq := eq_isInt k t hi
  have hnl : ns.length = its.length := by rw [← hl, List.length_map]
  have hsz : its.toArray.size ≤ sizeLine := by rw [List.size_toArray, ← hl]; exact z
  obtain ⟨j, j1, j2, j3, j4⟩ := first_at hk
  have hj : j < its.length := by omega
  refine call_meets PySem.F.slot_list_remove ⟨_, e0, rfl⟩ PySem.F.entry_list_remove (PySem.F.args_list_remove_2 _ _)
    (MeetsSeq.list_remove l its.toArray n (.int k t) (isInt k) (fun y hy => heq y (by simpa using hy)) j (by rw [List.size_toArray]; exact hj) ?hit (fun i hi2 hlt => ?hno) hsz) ⟨e0, ?_⟩
  case hit =>
    show isInt k its[j] = true
    exact (L2.isInt_at k hi j hj).mpr j2
  case hno =>
    have hi3 : i < its.length := by rw [List.size_toArray] at hi2; exact hi2
    show isInt k its[i] = false
    rw [Bool.eq_false_iff]
    intro w
    exact j3 i hlt ((L2.isInt_at k hi i hi3).mp w)
  have r2 : Vals ((ns.erase k).map V.int) (its.eraseIdx j) := by
    have w := r.eraseIdx j
    rw [map_eraseIdx', j4] at w
    exact w
  refine ⟨.non, _, I.lset (its' := its.eraseIdx j) hH e0 ?_ r2 ?_, rfl, qy⟩
  · show its.toArray.eraseIdxIfInBounds j = (its.eraseIdx j).toArray
    rw [List.eraseIdxIfInBounds_toArray]
  · rw [List.length_map]
    have := List.length_erase_le (a := k) (l := ns)
    rw [List.length_map] at z
    omega
theorem g_remI {K : Frag} {F : List (Addr × HO)} {G : List Ft} {H : Hp} {Q : VK} {l : Addr} {ns : List Int} {k : Int} {i : Nat} (S : Sy K F G H) (h : F[i]? = some (l, .lst (ns.map V.int))) (hk : k ∈ ns) (q : ∀ H', Sy K (F.set i (l, .lst ((ns.erase k).map V.int))) G H' → Q .non H') : rRemI (.ref l) [.int k] H Q :=
  ⟨l, ns, k, rfl, rfl, S.at i h, hk, q _ (S.put i h rfl)⟩
theorem RG.hu1 {k : Nat} {A : Around} (g : RG k A) : A.units + 1 < cLine := by
  have := g.hu64
  omega
/-! sorted -/
section
variable {K : Frag} {F : List (Addr × HO)} {G : List Ft} {H : Hp} {Q : VK} {l : Addr} {xs : List V} {ds : List PyData}
theorem g_sortD (S : Sy K F G H) (h : SqL K H l xs) (hd : DpAll K H xs ds) (m : immAll ds = true) (ha : AllAlike ds) (hk : PySem.W.Sortable ds) (hdp : ∀ d ∈ ds, d.depth ≤ 50) (hl : ds.length ≤ 100000)
    (k : ∀ p H' ys, Sy K ((p, .lst ys) :: F) (.dat ys (ds.mergeSort (dataLe false id)) :: G) H' → Q (.ref p) H') : rSortD K [.ref l] H Q := by
  have lx := dps_length hd
  refine ⟨l, xs, ds, rfl, h, hd, ha, hk, hdp, by omega, fun p hp => k p _ (((xs.zip ds).mergeSort (dataLe false Prod.snd)).map Prod.fst) ?_⟩
  have em : (xs.zip ds).map Prod.snd = ds := List.map_snd_zip (by omega)
  have e1 : ((xs.zip ds).mergeSort (dataLe false Prod.snd)).map Prod.snd = ds.mergeSort (dataLe false id) := by
    have := sort_maps (r := dataLe false (Prod.snd : V × PyData → PyData)) (s := dataLe false (id : PyData → PyData)) Prod.snd (l := xs.zip ds) (fun a _ b _ => rfl)
    rw [this, em]
  refine (S.push hp).fact (dps_keep (Tx.new hp) _ _ ?_ ?_) ?_
  · rw [← e1]
    refine immAll_of fun d hd2 => immAll_mem m d ?_
    obtain ⟨b, hb, rfl⟩ := List.mem_map.mp hd2
    rw [← em]
    exact List.mem_map.mpr ⟨b, (List.mergeSort_perm _ _).mem_iff.mp hb, rfl⟩
  · rw [← e1]
    have key : ∀ bs : List (V × PyData), (∀ b ∈ bs, Dp K H b.1 b.2) → DpAll K H (bs.map Prod.fst) (bs.map Prod.snd) := fun bs => by
      induction bs with
      | nil => exact fun _ => .nil
      | cons b bs ih => exact fun hb => .cons (hb b (List.mem_cons_self ..)) (ih fun c hc => hb c (List.mem_cons_of_mem _ hc))
    refine key _ fun b hb => ?_
    have hz : ∀ {xs : List V} {ds : List PyData}, DpAll K H xs ds → ∀ b ∈ xs.zip ds, Dp K H b.1 b.2 := fun {xs} => by
      induction xs with
      | nil => intro ds _ b hb; cases hb
      | cons x xs ih =>
        intro ds hd b hb
        cases hd with
        | cons h1 h2 =>
          rcases List.mem_cons.mp hb with rfl | hb
          · exact h1
          · exact ih h2 b hb
    exact hz hd b ((List.mergeSort_perm _ _).mem_iff.mp hb)
  · rw [← e1]
    refine immAll_of fun d hd2 => immAll_mem m d ?_
    obtain ⟨b, hb, rfl⟩ := List.mem_map.mp hd2
    rw [← em]
    exact List.mem_map.mpr ⟨b, (List.mergeSort_perm _ _).mem_iff.mp hb, rfl⟩
end
end OB

set_option Elab.async false
set_option linter.all false
set_option maxRecDepth 100000
namespace LAW
open PySem PySem.Spec PyProof.Rows L2 PySem.W OB
local macro_rules | `(tactic| walk_at "obc") => `(tactic| first
  | exact Or.inl ⟨by omega, by omega⟩
  | exact Or.inr ⟨by omega, by omega⟩
  | exact cdiv_ok (by omega) (by omega)
  | (show (0 : Int) < _; omega)
  | exact ⟨by omega, by decide⟩
  | exact ⟨by decide, by decide⟩)
local macro_rules | `(tactic| walk_at "obat") => `(tactic| first
  | exact Sy.at (by assumption) 0 rfl | exact Sy.at (by assumption) 1 rfl | exact Sy.at (by assumption) 2 rfl | exact Sy.at (by assumption) 3 rfl
  | exact Sy.at (by assumption) 4 rfl | exact Sy.at (by assumption) 5 rfl | exact Sy.at (by assumption) 6 rfl | exact Sy.at (by assumption) _ (by assumption) | exact Sy.at (by assumption) (_ + 1) (by assumption) | exact Sy.at (by assumption) (_ + 2) (by assumption))
local macro_rules | `(tactic| walk_at "obt") => `(tactic| first
  | exact Sy.tqs (by assumption) 0 rfl | exact Sy.tqs (by assumption) 1 rfl | exact Sy.tqs (by assumption) 2 rfl | exact Sy.tqs (by assumption) 3 rfl | exact Sy.tqs (by assumption) 4 rfl | exact Sy.tqs (by assumption) 5 rfl
  | exact Sy.tqs (by assumption) 6 rfl | exact Sy.tqs (by assumption) 7 rfl | assumption)
local macro_rules | `(tactic| walk_at "obl") => `(tactic| first
  | exact SqL.of (by walk_at "obat")
  | exact Sy.sq (by assumption) 0 rfl | exact Sy.sq (by assumption) 1 rfl | exact Sy.sq (by assumption) 2 rfl | exact Sy.sq (by assumption) 3 rfl | exact Sy.sq (by assumption) _ (by assumption))
local macro_rules | `(tactic| walk_at "obd") => `(tactic| first
  | exact Dp.int _ | exact Dp.bl _ | exact Dp.str _ | exact Dp.non
  | exact Sy.dp (by assumption) 0 rfl | exact Sy.dp (by assumption) 1 rfl | exact Sy.dp (by assumption) 2 rfl | exact Sy.dp (by assumption) 3 rfl
  | exact Sy.dp (by assumption) 4 rfl | exact Sy.dp (by assumption) 5 rfl | exact Sy.dp (by assumption) 6 rfl | exact Sy.dp (by assumption) 7 rfl
  | exact Sy.dp (by assumption) 8 rfl | exact Sy.dp (by assumption) 9 rfl | exact Sy.dp (by assumption) _ (by assumption) | assumption)
local macro_rules | `(tactic| walk_at "obds") => `(tactic| first
  | exact DpAll.nil
  | (refine' DpAll.cons ?ob1 ?ob2; (case ob1 => walk_at "obd"); (case ob2 => walk_at "obds"))
  | exact Sy.dps (by assumption) 0 rfl | exact Sy.dps (by assumption) 1 rfl | exact Sy.dps (by assumption) 2 rfl | exact Sy.dps (by assumption) 3 rfl | assumption)
local macro_rules | `(tactic| walk_at "obsc") => `(tactic| first
  | exact ScL.nil
  | ((first | refine' ScL.int ?obz | refine' ScL.str ?obz | refine' ScL.bl ?obz | refine' ScL.non ?obz); (case obz => walk_at "obsc")))
local macro_rules | `(tactic| walk_at "ob1") => `(tactic| first
  | ((with_reducible refine' g_var ?obh ?_); (case obh => rfl))
  | with_reducible refine g_c ?_
  | with_reducible refine g_nx ?_
  | with_reducible refine g_rt ?_
  | with_reducible refine g_bk ?_
  | with_reducible refine g_ct ?_
  | with_reducible refine g_op ?_
  | with_reducible refine g_I0 ?_
  | with_reducible refine g_test ?_
  | with_reducible refine g_bl ?_
  | with_reducible refine g_blx ?_
  | with_reducible refine g_B ?_
  | with_reducible refine g_seq ?_
  | with_reducible refine g_asg ?_
  | with_reducible refine g_name ?_
  | with_reducible refine g_ifS ?_
  | with_reducible refine g_ret ?_
  | with_reducible refine g_cb ?_
  | with_reducible refine g_cons ?_
  | with_reducible refine g_nil ?_
  | with_reducible refine g_int ?_
  | with_reducible refine g_intB ?_
  | with_reducible refine g_abs ?_
  | with_reducible refine g_max ?_
  | with_reducible refine g_min ?_
  | with_reducible refine g_un ?_
  | with_reducible refine g_U ?_
  | with_reducible refine g_eqI ?_
  | with_reducible refine g_neI ?_
  | with_reducible refine g_eqS ?_
  | with_reducible refine g_neS ?_
  | with_reducible refine g_tt ?_
  | with_reducible refine g_ff ?_
  | with_reducible refine g_next ?_
  | with_reducible refine g_drop ?_
  | with_reducible refine g_if ?_
  | with_reducible refine g_andV ?_
  | with_reducible refine g_orV ?_
  | with_reducible refine g_notV ?_
  | with_reducible refine g_and ?_
  | with_reducible refine g_or ?_
  | with_reducible refine g_not ?_
  | with_reducible refine g_yes ?_
  | with_reducible refine g_chain ?_
  | with_reducible refine g_cg ?_
  | with_reducible refine g_mg ?_
  | with_reducible refine g_kg ?_
  | with_reducible refine g_pg ?_
  | ((with_reducible refine' g_call ?obh ?obj ?_); (case obh => rfl); (case obj => rfl))
  | with_reducible refine g_par ?_
  | with_reducible refine g_par2 ?_
  | with_reducible refine g_par3 ?_
  | with_reducible refine g_par33 ?_
  | with_reducible refine g_gnil ?_
  | with_reducible refine g_gcons ?_
  | with_reducible refine g_gsub ?_
  | with_reducible refine g_ipI ?_
  | with_reducible refine g_rAdd ?_
  | with_reducible refine g_rSub ?_
  | ((with_reducible refine' g_aug ?obh ?_); (case obh => rfl))
  | with_reducible refine g_tup ?_
  | with_reducible refine g_lst ?_
  | with_reducible refine g_bm ?_
  | with_reducible refine g_bm0 ?_
  | with_reducible refine g_sl ?_
  | with_reducible refine g_nopart ?_
  | with_reducible refine g_part ?_
  | with_reducible refine g_pint ?_
  | with_reducible refine isi_int ?_
  | with_reducible refine isi_intB ?_
  | ((with_reducible refine' g_I ?obh ?_); (case obh => walk_at "obc"))
  | ((with_reducible refine' g_tyl ?obh ?_); (case obh => walk_at "obl"))
  | ((with_reducible refine' g_lenL ?obh ?_); (case obh => walk_at "obl"))
  | with_reducible refine g_ne ?_
  | ((with_reducible refine' g_neN' ?obh ?_); (case obh => rfl))
  | with_reducible refine g_ntt ?_
  | with_reducible refine g_nff ?_
  | with_reducible refine g_star ?_
  | with_reducible refine g_att ?_
  | with_reducible refine g_sfld ?_
  | with_reducible refine g_faug ?_
  | with_reducible refine g_fld ?_
  | ((with_reducible refine' g_nF ?obh ?_); (case obh => omega))
  | ((with_reducible refine' g_nT ?obh ?_); (case obh => omega))
  | ((with_reducible refine' g_TD ?obh ?_); (case obh => omega))
  | ((with_reducible refine' g_FD ?obh ?_); (case obh => omega))
  | ((with_reducible refine' g_ixUL ?obh ?obi ?_); (case obh => walk_at "obl"); (case obi => exact atI_nn (by omega) (by rfl)))
  | ((with_reducible refine' g_setLS ?obs ?obh ?obi ?_); (case obs => assumption); (case obh => assumption); (case obi => rfl); intro _ _ _)
  | ((with_reducible refine' g_newT ?obs ?obh ?obi ?obj ?_); (case obs => assumption); (case obh => walk_at "obds"); (case obi => rfl); (case obj => exact Nat.le_of_ble_eq_true rfl); intro _ _ _ _)
  | ((with_reducible refine' g_newL ?obs ?obj ?_); (case obs => assumption); (case obj => exact Nat.le_of_ble_eq_true rfl); intro _ _ _ _)
  | ((with_reducible refine' isi_tup ?obh ?_); (case obh => walk_at "obt"))
  | ((with_reducible refine' g_lenT ?obh ?_); (case obh => walk_at "obt"))
  | ((with_reducible refine' g_unpT ?obh ?obi ?_); (case obh => walk_at "obt"); (case obi => rfl))
  | ((with_reducible refine' g_divmod ?obs ?obh ?_); (case obs => assumption); (case obh => exact cdivp_ok (by omega) (by omega) (by omega)); intro _ _ _ _)
  | ((with_reducible refine' g_unpD ?obh ?obi ?obj ?_); (case obh => walk_at "obd"); (case obi => walk_at "obsc"); (case obj => rfl))
  | with_reducible refine g_att ?_)
def top (i : Nat) : Stmt := PySem.Challenge.pw_oncebooked_k35_whole_two_books_matched.main.body.getD i (.Pass ⟨0, 0, 0, 0⟩)
structure Tx (K : Frag) (mg : Str → Option Value) where
  a_swapped_figures : Addr
  d_swapped_figures : FuncData
  F_swapped_figures : Fun K "swapped_figures" "swapped_figures" (top 28) a_swapped_figures d_swapped_figures
  m_swapped_figures : mg "swapped_figures" = some (.ref a_swapped_figures)
  a_is_digit_slip : Addr
  d_is_digit_slip : FuncData
  F_is_digit_slip : Fun K "is_digit_slip" "is_digit_slip" (top 29) a_is_digit_slip d_is_digit_slip
  m_is_digit_slip : mg "is_digit_slip" = some (.ref a_is_digit_slip)
  a_is_integer : Addr
  d_is_integer : FuncData
  F_is_integer : Fun K "is_integer" "is_integer" (top 5) a_is_integer d_is_integer
  m_is_integer : mg "is_integer" = some (.ref a_is_integer)
  a_numbers_by_note : Addr
  d_numbers_by_note : FuncData
  F_numbers_by_note : Fun K "numbers_by_note" "numbers_by_note" (top 23) a_numbers_by_note d_numbers_by_note
  m_numbers_by_note : mg "numbers_by_note" = some (.ref a_numbers_by_note)
  a_is_note_word : Addr
  d_is_note_word : FuncData
  F_is_note_word : Fun K "is_note_word" "is_note_word" (top 19) a_is_note_word d_is_note_word
  m_is_note_word : mg "is_note_word" = some (.ref a_is_note_word)
  a_law_take : Addr
  d_law_take : FuncData
  F_law_take : Fun K "_law_take" "_law_take" (top 35) a_law_take d_law_take
  m_law_take : mg "_law_take" = some (.ref a_law_take)
  a_law_swapped : Addr
  d_law_swapped : FuncData
  F_law_swapped : Fun K "_law_swapped" "_law_swapped" (top 43) a_law_swapped d_law_swapped
  m_law_swapped : mg "_law_swapped" = some (.ref a_law_swapped)
  a_law_paired : Addr
  d_law_paired : FuncData
  F_law_paired : Fun K "_law_paired" "_law_paired" (top 42) a_law_paired d_law_paired
  m_law_paired : mg "_law_paired" = some (.ref a_law_paired)
  a_law_pot : Addr
  d_law_pot : FuncData
  F_law_pot : Fun K "_law_pot" "_law_pot" (top 34) a_law_pot d_law_pot
  m_law_pot : mg "_law_pot" = some (.ref a_law_pot)
  a_law_cells : Addr
  d_law_cells : FuncData
  F_law_cells : Fun K "_law_cells" "_law_cells" (top 38) a_law_cells d_law_cells
  m_law_cells : mg "_law_cells" = some (.ref a_law_cells)
  a_slips : Addr
  d_slips : FuncData
  F_slips : Fun K "slips" "slips" (top 30) a_slips d_slips
  m_slips : mg "slips" = some (.ref a_slips)
  a_is_within : Addr
  d_is_within : FuncData
  F_is_within : Fun K "is_within" "is_within" (top 6) a_is_within d_is_within
  m_is_within : mg "is_within" = some (.ref a_is_within)
  a_law_slips : Addr
  d_law_slips : FuncData
  F_law_slips : Fun K "_law_slips" "_law_slips" (top 44) a_law_slips d_law_slips
  m_law_slips : mg "_law_slips" = some (.ref a_law_slips)
  a_law_of : Addr
  d_law_of : FuncData
  F_law_of : Fun K "_law_of" "_law_of" (top 36) a_law_of d_law_of
  m_law_of : mg "_law_of" = some (.ref a_law_of)
  a_law_some : Addr
  d_law_some : FuncData
  F_law_some : Fun K "_law_some" "_law_some" (top 37) a_law_some d_law_some
  m_law_some : mg "_law_some" = some (.ref a_law_some)
  a_is_note_amount : Addr
  d_is_note_amount : FuncData
  F_is_note_amount : Fun K "is_note_amount" "is_note_amount" (top 20) a_is_note_amount d_is_note_amount
  m_is_note_amount : mg "is_note_amount" = some (.ref a_is_note_amount)
  a_law_slips_in : Addr
  d_law_slips_in : FuncData
  F_law_slips_in : Fun K "_law_slips_in" "_law_slips_in" (top 45) a_law_slips_in d_law_slips_in
  m_law_slips_in : mg "_law_slips_in" = some (.ref a_law_slips_in)
  a_law_note : Addr
  d_law_note : FuncData
  F_law_note : Fun K "_law_note" "_law_note" (top 39) a_law_note d_law_note
  m_law_note : mg "_law_note" = some (.ref a_law_note)
  a_check_amount : Addr
  d_check_amount : FuncData
  F_check_amount : Fun K "check_amount" "check_amount" (top 27) a_check_amount d_check_amount
  m_check_amount : mg "check_amount" = some (.ref a_check_amount)
  a_is_note : Addr
  d_is_note : FuncData
  F_is_note : Fun K "is_note" "is_note" (top 21) a_is_note d_is_note
  m_is_note : mg "is_note" = some (.ref a_is_note)
  a_law_near_book : Addr
  d_law_near_book : FuncData
  F_law_near_book : Fun K "_law_near_book" "_law_near_book" (top 40) a_law_near_book d_law_near_book
  m_law_near_book : mg "_law_near_book" = some (.ref a_law_near_book)
  a_law_book : Addr
  d_law_book : FuncData
  F_law_book : Fun K "_law_book" "_law_book" (top 41) a_law_book d_law_book
  m_law_book : mg "_law_book" = some (.ref a_law_book)
  a_slips_of : Addr
  d_slips_of : FuncData
  F_slips_of : Fun K "slips_of" "slips_of" (top 31) a_slips_of d_slips_of
  m_slips_of : mg "slips_of" = some (.ref a_slips_of)
  a_check_notes : Addr
  d_check_notes : FuncData
  F_check_notes : Fun K "check_notes" "check_notes" (top 22) a_check_notes d_check_notes
  m_check_notes : mg "check_notes" = some (.ref a_check_notes)
  a_paired : Addr
  d_paired : FuncData
  F_paired : Fun K "paired" "paired" (top 24) a_paired d_paired
  m_paired : mg "paired" = some (.ref a_paired)
  a_repeated : Addr
  d_repeated : FuncData
  F_repeated : Fun K "repeated" "repeated" (top 26) a_repeated d_repeated
  m_repeated : mg "repeated" = some (.ref a_repeated)
  a_difference : Addr
  d_difference : FuncData
  F_difference : Fun K "difference" "difference" (top 25) a_difference d_difference
  m_difference : mg "difference" = some (.ref a_difference)
  a_slips_in : Addr
  d_slips_in : FuncData
  F_slips_in : Fun K "slips_in" "slips_in" (top 32) a_slips_in d_slips_in
  m_slips_in : mg "slips_in" = some (.ref a_slips_in)
  a_law_right : Addr
  d_law_right : FuncData
  F_law_right : Fun K "_law_right" "_law_right" (top 46) a_law_right d_law_right
  m_law_right : mg "_law_right" = some (.ref a_law_right)
  a_law : Addr
  d_law : FuncData
  F_law : Fun K "law" "law" (top 47) a_law d_law
  m_law : mg "law" = some (.ref a_law)
  t_LETTERS : Tok
  g_LETTERS : mg "LETTERS" = some (.str "abcdefghijklmnopqrstuvwxyz" t_LETTERS)
  t_MOST_LETTERS : Tok
  g_MOST_LETTERS : mg "MOST_LETTERS" = some (.int 12 t_MOST_LETTERS)
  t_MOST_AMOUNT : Tok
  g_MOST_AMOUNT : mg "MOST_AMOUNT" = some (.int 1000000000000 t_MOST_AMOUNT)
  t_MOST_NOTES : Tok
  g_MOST_NOTES : mg "MOST_NOTES" = some (.int 200 t_MOST_NOTES)
  t_PAIR : Tok
  g_PAIR : mg "PAIR" = some (.int 2 t_PAIR)
  t_TEN : Tok
  g_TEN : mg "TEN" = some (.int 10 t_TEN)
  t_DIGIT : Tok
  g_DIGIT : mg "DIGIT" = some (.str "digit" t_DIGIT)
  t_SHIFT : Tok
  g_SHIFT : mg "SHIFT" = some (.str "shift" t_SHIFT)
  t_SIGN : Tok
  g_SIGN : mg "SIGN" = some (.str "sign" t_SIGN)
  t_SWAPPED : Tok
  g_SWAPPED : mg "SWAPPED" = some (.str "swapped" t_SWAPPED)
  t_TWICE : Tok
  g_TWICE : mg "TWICE" = some (.str "twice" t_TWICE)
  n_ValueError : mg "ValueError" = none
  n_abs : mg "abs" = none
  n_all : mg "all" = none
  n_bool : mg "bool" = none
  n_enumerate : mg "enumerate" = none
  n_int : mg "int" = none
  n_isinstance : mg "isinstance" = none
  n_len : mg "len" = none
  n_list : mg "list" = none
  n_max : mg "max" = none
  n_min : mg "min" = none
  n_range : mg "range" = none
  n_repr : mg "repr" = none
  n_sorted : mg "sorted" = none
  n_str : mg "str" = none
  n_sum : mg "sum" = none
  n_tuple : mg "tuple" = none
def mkTx {K : Frag} {h : Heap} {mg : Str → Option Value} {a_swapped_figures : Addr} {oc_swapped_figures kV_swapped_figures dc_swapped_figures pm_swapped_figures cd_swapped_figures ct_swapped_figures : Value} {od_swapped_figures an_swapped_figures : Option Addr} {sl_swapped_figures : Array (Option Value)} {a_is_digit_slip : Addr} {oc_is_digit_slip kV_is_digit_slip dc_is_digit_slip pm_is_digit_slip cd_is_digit_slip ct_is_digit_slip : Value} {od_is_digit_slip an_is_digit_slip : Option Addr} {sl_is_digit_slip : Array (Option Value)} {a_is_integer : Addr} {oc_is_integer kV_is_integer dc_is_integer pm_is_integer cd_is_integer ct_is_integer : Value} {od_is_integer an_is_integer : Option Addr} {sl_is_integer : Array (Option Value)} {a_numbers_by_note : Addr} {oc_numbers_by_note kV_numbers_by_note dc_numbers_by_note pm_numbers_by_note cd_numbers_by_note ct_numbers_by_note : Value} {od_numbers_by_note an_numbers_by_note : Option Addr} {sl_numbers_by_note : Array (Option Value)} {a_is_note_word : Addr} {oc_is_note_word kV_is_note_word dc_is_note_word pm_is_note_word cd_is_note_word ct_is_note_word : Value} {od_is_note_word an_is_note_word : Option Addr} {sl_is_note_word : Array (Option Value)} {a_law_take : Addr} {oc_law_take kV_law_take dc_law_take pm_law_take cd_law_take ct_law_take : Value} {od_law_take an_law_take : Option Addr} {sl_law_take : Array (Option Value)} {a_law_swapped : Addr} {oc_law_swapped kV_law_swapped dc_law_swapped pm_law_swapped cd_law_swapped ct_law_swapped : Value} {od_law_swapped an_law_swapped : Option Addr} {sl_law_swapped : Array (Option Value)} {a_law_paired : Addr} {oc_law_paired kV_law_paired dc_law_paired pm_law_paired cd_law_paired ct_law_paired : Value} {od_law_paired an_law_paired : Option Addr} {sl_law_paired : Array (Option Value)} {a_law_pot : Addr} {oc_law_pot kV_law_pot dc_law_pot pm_law_pot cd_law_pot ct_law_pot : Value} {od_law_pot an_law_pot : Option Addr} {sl_law_pot : Array (Option Value)} {a_law_cells : Addr} {oc_law_cells kV_law_cells dc_law_cells pm_law_cells cd_law_cells ct_law_cells : Value} {od_law_cells an_law_cells : Option Addr} {sl_law_cells : Array (Option Value)} {a_slips : Addr} {oc_slips kV_slips dc_slips pm_slips cd_slips ct_slips : Value} {od_slips an_slips : Option Addr} {sl_slips : Array (Option Value)} {a_is_within : Addr} {oc_is_within kV_is_within dc_is_within pm_is_within cd_is_within ct_is_within : Value} {od_is_within an_is_within : Option Addr} {sl_is_within : Array (Option Value)} {a_law_slips : Addr} {oc_law_slips kV_law_slips dc_law_slips pm_law_slips cd_law_slips ct_law_slips : Value} {od_law_slips an_law_slips : Option Addr} {sl_law_slips : Array (Option Value)} {a_law_of : Addr} {oc_law_of kV_law_of dc_law_of pm_law_of cd_law_of ct_law_of : Value} {od_law_of an_law_of : Option Addr} {sl_law_of : Array (Option Value)} {a_law_some : Addr} {oc_law_some kV_law_some dc_law_some pm_law_some cd_law_some ct_law_some : Value} {od_law_some an_law_some : Option Addr} {sl_law_some : Array (Option Value)} {a_is_note_amount : Addr} {oc_is_note_amount kV_is_note_amount dc_is_note_amount pm_is_note_amount cd_is_note_amount ct_is_note_amount : Value} {od_is_note_amount an_is_note_amount : Option Addr} {sl_is_note_amount : Array (Option Value)} {a_law_slips_in : Addr} {oc_law_slips_in kV_law_slips_in dc_law_slips_in pm_law_slips_in cd_law_slips_in ct_law_slips_in : Value} {od_law_slips_in an_law_slips_in : Option Addr} {sl_law_slips_in : Array (Option Value)} {a_law_note : Addr} {oc_law_note kV_law_note dc_law_note pm_law_note cd_law_note ct_law_note : Value} {od_law_note an_law_note : Option Addr} {sl_law_note : Array (Option Value)} {a_check_amount : Addr} {oc_check_amount kV_check_amount dc_check_amount pm_check_amount cd_check_amount ct_check_amount : Value} {od_check_amount an_check_amount : Option Addr} {sl_check_amount : Array (Option Value)} {a_is_note : Addr} {oc_is_note kV_is_note dc_is_note pm_is_note cd_is_note ct_is_note : Value} {od_is_note an_is_note : Option Addr} {sl_is_note : Array (Option Value)} {a_law_near_book : Addr} {oc_law_near_book kV_law_near_book dc_law_near_book pm_law_near_book cd_law_near_book ct_law_near_book : Value} {od_law_near_book an_law_near_book : Option Addr} {sl_law_near_book : Array (Option Value)} {a_law_book : Addr} {oc_law_book kV_law_book dc_law_book pm_law_book cd_law_book ct_law_book : Value} {od_law_book an_law_book : Option Addr} {sl_law_book : Array (Option Value)} {a_slips_of : Addr} {oc_slips_of kV_slips_of dc_slips_of pm_slips_of cd_slips_of ct_slips_of : Value} {od_slips_of an_slips_of : Option Addr} {sl_slips_of : Array (Option Value)} {a_check_notes : Addr} {oc_check_notes kV_check_notes dc_check_notes pm_check_notes cd_check_notes ct_check_notes : Value} {od_check_notes an_check_notes : Option Addr} {sl_check_notes : Array (Option Value)} {a_paired : Addr} {oc_paired kV_paired dc_paired pm_paired cd_paired ct_paired : Value} {od_paired an_paired : Option Addr} {sl_paired : Array (Option Value)} {a_repeated : Addr} {oc_repeated kV_repeated dc_repeated pm_repeated cd_repeated ct_repeated : Value} {od_repeated an_repeated : Option Addr} {sl_repeated : Array (Option Value)} {a_difference : Addr} {oc_difference kV_difference dc_difference pm_difference cd_difference ct_difference : Value} {od_difference an_difference : Option Addr} {sl_difference : Array (Option Value)} {a_slips_in : Addr} {oc_slips_in kV_slips_in dc_slips_in pm_slips_in cd_slips_in ct_slips_in : Value} {od_slips_in an_slips_in : Option Addr} {sl_slips_in : Array (Option Value)} {a_law_right : Addr} {oc_law_right kV_law_right dc_law_right pm_law_right cd_law_right ct_law_right : Value} {od_law_right an_law_right : Option Addr} {sl_law_right : Array (Option Value)} {a_law : Addr} {oc_law kV_law dc_law pm_law cd_law ct_law : Value} {od_law an_law : Option Addr} {sl_law : Array (Option Value)} {t_LETTERS : Tok} {t_MOST_LETTERS : Tok} {t_MOST_AMOUNT : Tok} {t_MOST_NOTES : Tok} {t_PAIR : Tok} {t_TEN : Tok} {t_DIGIT : Tok} {t_SHIFT : Tok} {t_SIGN : Tok} {t_SWAPPED : Tok} {t_TWICE : Tok} (X : K.In h) (G : h.Ns mainGlobals mg)
    (n_swapped_figures : nsIn K mainGlobals "swapped_figures" = some (some (.ref a_swapped_figures)))
    (l_swapped_figures : K.lookup a_swapped_figures = some ⟨oc_swapped_figures, od_swapped_figures, .func (fnOf "swapped_figures" "swapped_figures" (defArgs (top 28)) (defBody (top 28)) (defScope (top 28)) .none kV_swapped_figures dc_swapped_figures pm_swapped_figures an_swapped_figures cd_swapped_figures ct_swapped_figures), sl_swapped_figures⟩)
    (c_swapped_figures : codeIn K cd_swapped_figures "swapped_figures" = true)
    (k_swapped_figures : keepIn K (.ref a_swapped_figures) = true)
    (n_is_digit_slip : nsIn K mainGlobals "is_digit_slip" = some (some (.ref a_is_digit_slip)))
    (l_is_digit_slip : K.lookup a_is_digit_slip = some ⟨oc_is_digit_slip, od_is_digit_slip, .func (fnOf "is_digit_slip" "is_digit_slip" (defArgs (top 29)) (defBody (top 29)) (defScope (top 29)) .none kV_is_digit_slip dc_is_digit_slip pm_is_digit_slip an_is_digit_slip cd_is_digit_slip ct_is_digit_slip), sl_is_digit_slip⟩)
    (c_is_digit_slip : codeIn K cd_is_digit_slip "is_digit_slip" = true)
    (k_is_digit_slip : keepIn K (.ref a_is_digit_slip) = true)
    (n_is_integer : nsIn K mainGlobals "is_integer" = some (some (.ref a_is_integer)))
    (l_is_integer : K.lookup a_is_integer = some ⟨oc_is_integer, od_is_integer, .func (fnOf "is_integer" "is_integer" (defArgs (top 5)) (defBody (top 5)) (defScope (top 5)) .none kV_is_integer dc_is_integer pm_is_integer an_is_integer cd_is_integer ct_is_integer), sl_is_integer⟩)
    (c_is_integer : codeIn K cd_is_integer "is_integer" = true)
    (k_is_integer : keepIn K (.ref a_is_integer) = true)
    (n_numbers_by_note : nsIn K mainGlobals "numbers_by_note" = some (some (.ref a_numbers_by_note)))
    (l_numbers_by_note : K.lookup a_numbers_by_note = some ⟨oc_numbers_by_note, od_numbers_by_note, .func (fnOf "numbers_by_note" "numbers_by_note" (defArgs (top 23)) (defBody (top 23)) (defScope (top 23)) .none kV_numbers_by_note dc_numbers_by_note pm_numbers_by_note an_numbers_by_note cd_numbers_by_note ct_numbers_by_note), sl_numbers_by_note⟩)
    (c_numbers_by_note : codeIn K cd_numbers_by_note "numbers_by_note" = true)
    (k_numbers_by_note : keepIn K (.ref a_numbers_by_note) = true)
    (n_is_note_word : nsIn K mainGlobals "is_note_word" = some (some (.ref a_is_note_word)))
    (l_is_note_word : K.lookup a_is_note_word = some ⟨oc_is_note_word, od_is_note_word, .func (fnOf "is_note_word" "is_note_word" (defArgs (top 19)) (defBody (top 19)) (defScope (top 19)) .none kV_is_note_word dc_is_note_word pm_is_note_word an_is_note_word cd_is_note_word ct_is_note_word), sl_is_note_word⟩)
    (c_is_note_word : codeIn K cd_is_note_word "is_note_word" = true)
    (k_is_note_word : keepIn K (.ref a_is_note_word) = true)
    (n_law_take : nsIn K mainGlobals "_law_take" = some (some (.ref a_law_take)))
    (l_law_take : K.lookup a_law_take = some ⟨oc_law_take, od_law_take, .func (fnOf "_law_take" "_law_take" (defArgs (top 35)) (defBody (top 35)) (defScope (top 35)) .none kV_law_take dc_law_take pm_law_take an_law_take cd_law_take ct_law_take), sl_law_take⟩)
    (c_law_take : codeIn K cd_law_take "_law_take" = true)
    (k_law_take : keepIn K (.ref a_law_take) = true)
    (n_law_swapped : nsIn K mainGlobals "_law_swapped" = some (some (.ref a_law_swapped)))
    (l_law_swapped : K.lookup a_law_swapped = some ⟨oc_law_swapped, od_law_swapped, .func (fnOf "_law_swapped" "_law_swapped" (defArgs (top 43)) (defBody (top 43)) (defScope (top 43)) .none kV_law_swapped dc_law_swapped pm_law_swapped an_law_swapped cd_law_swapped ct_law_swapped), sl_law_swapped⟩)
    (c_law_swapped : codeIn K cd_law_swapped "_law_swapped" = true)
    (k_law_swapped : keepIn K (.ref a_law_swapped) = true)
    (n_law_paired : nsIn K mainGlobals "_law_paired" = some (some (.ref a_law_paired)))
    (l_law_paired : K.lookup a_law_paired = some ⟨oc_law_paired, od_law_paired, .func (fnOf "_law_paired" "_law_paired" (defArgs (top 42)) (defBody (top 42)) (defScope (top 42)) .none kV_law_paired dc_law_paired pm_law_paired an_law_paired cd_law_paired ct_law_paired), sl_law_paired⟩)
    (c_law_paired : codeIn K cd_law_paired "_law_paired" = true)
    (k_law_paired : keepIn K (.ref a_law_paired) = true)
    (n_law_pot : nsIn K mainGlobals "_law_pot" = some (some (.ref a_law_pot)))
    (l_law_pot : K.lookup a_law_pot = some ⟨oc_law_pot, od_law_pot, .func (fnOf "_law_pot" "_law_pot" (defArgs (top 34)) (defBody (top 34)) (defScope (top 34)) .none kV_law_pot dc_law_pot pm_law_pot an_law_pot cd_law_pot ct_law_pot), sl_law_pot⟩)
    (c_law_pot : codeIn K cd_law_pot "_law_pot" = true)
    (k_law_pot : keepIn K (.ref a_law_pot) = true)
    (n_law_cells : nsIn K mainGlobals "_law_cells" = some (some (.ref a_law_cells)))
    (l_law_cells : K.lookup a_law_cells = some ⟨oc_law_cells, od_law_cells, .func (fnOf "_law_cells" "_law_cells" (defArgs (top 38)) (defBody (top 38)) (defScope (top 38)) .none kV_law_cells dc_law_cells pm_law_cells an_law_cells cd_law_cells ct_law_cells), sl_law_cells⟩)
    (c_law_cells : codeIn K cd_law_cells "_law_cells" = true)
    (k_law_cells : keepIn K (.ref a_law_cells) = true)
    (n_slips : nsIn K mainGlobals "slips" = some (some (.ref a_slips)))
    (l_slips : K.lookup a_slips = some ⟨oc_slips, od_slips, .func (fnOf "slips" "slips" (defArgs (top 30)) (defBody (top 30)) (defScope (top 30)) .none kV_slips dc_slips pm_slips an_slips cd_slips ct_slips), sl_slips⟩)
    (c_slips : codeIn K cd_slips "slips" = true)
    (k_slips : keepIn K (.ref a_slips) = true)
    (n_is_within : nsIn K mainGlobals "is_within" = some (some (.ref a_is_within)))
    (l_is_within : K.lookup a_is_within = some ⟨oc_is_within, od_is_within, .func (fnOf "is_within" "is_within" (defArgs (top 6)) (defBody (top 6)) (defScope (top 6)) .none kV_is_within dc_is_within pm_is_within an_is_within cd_is_within ct_is_within), sl_is_within⟩)
    (c_is_within : codeIn K cd_is_within "is_within" = true)
    (k_is_within : keepIn K (.ref a_is_within) = true)
    (n_law_slips : nsIn K mainGlobals "_law_slips" = some (some (.ref a_law_slips)))
    (l_law_slips : K.lookup a_law_slips = some ⟨oc_law_slips, od_law_slips, .func (fnOf "_law_slips" "_law_slips" (defArgs (top 44)) (defBody (top 44)) (defScope (top 44)) .none kV_law_slips dc_law_slips pm_law_slips an_law_slips cd_law_slips ct_law_slips), sl_law_slips⟩)
    (c_law_slips : codeIn K cd_law_slips "_law_slips" = true)
    (k_law_slips : keepIn K (.ref a_law_slips) = true)
    (n_law_of : nsIn K mainGlobals "_law_of" = some (some (.ref a_law_of)))
    (l_law_of : K.lookup a_law_of = some ⟨oc_law_of, od_law_of, .func (fnOf "_law_of" "_law_of" (defArgs (top 36)) (defBody (top 36)) (defScope (top 36)) .none kV_law_of dc_law_of pm_law_of an_law_of cd_law_of ct_law_of), sl_law_of⟩)
    (c_law_of : codeIn K cd_law_of "_law_of" = true)
    (k_law_of : keepIn K (.ref a_law_of) = true)
    (n_law_some : nsIn K mainGlobals "_law_some" = some (some (.ref a_law_some)))
    (l_law_some : K.lookup a_law_some = some ⟨oc_law_some, od_law_some, .func (fnOf "_law_some" "_law_some" (defArgs (top 37)) (defBody (top 37)) (defScope (top 37)) .none kV_law_some dc_law_some pm_law_some an_law_some cd_law_some ct_law_some), sl_law_some⟩)
    (c_law_some : codeIn K cd_law_some "_law_some" = true)
    (k_law_some : keepIn K (.ref a_law_some) = true)
    (n_is_note_amount : nsIn K mainGlobals "is_note_amount" = some (some (.ref a_is_note_amount)))
    (l_is_note_amount : K.lookup a_is_note_amount = some ⟨oc_is_note_amount, od_is_note_amount, .func (fnOf "is_note_amount" "is_note_amount" (defArgs (top 20)) (defBody (top 20)) (defScope (top 20)) .none kV_is_note_amount dc_is_note_amount pm_is_note_amount an_is_note_amount cd_is_note_amount ct_is_note_amount), sl_is_note_amount⟩)
    (c_is_note_amount : codeIn K cd_is_note_amount "is_note_amount" = true)
    (k_is_note_amount : keepIn K (.ref a_is_note_amount) = true)
    (n_law_slips_in : nsIn K mainGlobals "_law_slips_in" = some (some (.ref a_law_slips_in)))
    (l_law_slips_in : K.lookup a_law_slips_in = some ⟨oc_law_slips_in, od_law_slips_in, .func (fnOf "_law_slips_in" "_law_slips_in" (defArgs (top 45)) (defBody (top 45)) (defScope (top 45)) .none kV_law_slips_in dc_law_slips_in pm_law_slips_in an_law_slips_in cd_law_slips_in ct_law_slips_in), sl_law_slips_in⟩)
    (c_law_slips_in : codeIn K cd_law_slips_in "_law_slips_in" = true)
    (k_law_slips_in : keepIn K (.ref a_law_slips_in) = true)
    (n_law_note : nsIn K mainGlobals "_law_note" = some (some (.ref a_law_note)))
    (l_law_note : K.lookup a_law_note = some ⟨oc_law_note, od_law_note, .func (fnOf "_law_note" "_law_note" (defArgs (top 39)) (defBody (top 39)) (defScope (top 39)) .none kV_law_note dc_law_note pm_law_note an_law_note cd_law_note ct_law_note), sl_law_note⟩)
    (c_law_note : codeIn K cd_law_note "_law_note" = true)
    (k_law_note : keepIn K (.ref a_law_note) = true)
    (n_check_amount : nsIn K mainGlobals "check_amount" = some (some (.ref a_check_amount)))
    (l_check_amount : K.lookup a_check_amount = some ⟨oc_check_amount, od_check_amount, .func (fnOf "check_amount" "check_amount" (defArgs (top 27)) (defBody (top 27)) (defScope (top 27)) .none kV_check_amount dc_check_amount pm_check_amount an_check_amount cd_check_amount ct_check_amount), sl_check_amount⟩)
    (c_check_amount : codeIn K cd_check_amount "check_amount" = true)
    (k_check_amount : keepIn K (.ref a_check_amount) = true)
    (n_is_note : nsIn K mainGlobals "is_note" = some (some (.ref a_is_note)))
    (l_is_note : K.lookup a_is_note = some ⟨oc_is_note, od_is_note, .func (fnOf "is_note" "is_note" (defArgs (top 21)) (defBody (top 21)) (defScope (top 21)) .none kV_is_note dc_is_note pm_is_note an_is_note cd_is_note ct_is_note), sl_is_note⟩)
    (c_is_note : codeIn K cd_is_note "is_note" = true)
    (k_is_note : keepIn K (.ref a_is_note) = true)
    (n_law_near_book : nsIn K mainGlobals "_law_near_book" = some (some (.ref a_law_near_book)))
    (l_law_near_book : K.lookup a_law_near_book = some ⟨oc_law_near_book, od_law_near_book, .func (fnOf "_law_near_book" "_law_near_book" (defArgs (top 40)) (defBody (top 40)) (defScope (top 40)) .none kV_law_near_book dc_law_near_book pm_law_near_book an_law_near_book cd_law_near_book ct_law_near_book), sl_law_near_book⟩)
    (c_law_near_book : codeIn K cd_law_near_book "_law_near_book" = true)
    (k_law_near_book : keepIn K (.ref a_law_near_book) = true)
    (n_law_book : nsIn K mainGlobals "_law_book" = some (some (.ref a_law_book)))
    (l_law_book : K.lookup a_law_book = some ⟨oc_law_book, od_law_book, .func (fnOf "_law_book" "_law_book" (defArgs (top 41)) (defBody (top 41)) (defScope (top 41)) .none kV_law_book dc_law_book pm_law_book an_law_book cd_law_book ct_law_book), sl_law_book⟩)
    (c_law_book : codeIn K cd_law_book "_law_book" = true)
    (k_law_book : keepIn K (.ref a_law_book) = true)
    (n_slips_of : nsIn K mainGlobals "slips_of" = some (some (.ref a_slips_of)))
    (l_slips_of : K.lookup a_slips_of = some ⟨oc_slips_of, od_slips_of, .func (fnOf "slips_of" "slips_of" (defArgs (top 31)) (defBody (top 31)) (defScope (top 31)) .none kV_slips_of dc_slips_of pm_slips_of an_slips_of cd_slips_of ct_slips_of), sl_slips_of⟩)
    (c_slips_of : codeIn K cd_slips_of "slips_of" = true)
    (k_slips_of : keepIn K (.ref a_slips_of) = true)
    (n_check_notes : nsIn K mainGlobals "check_notes" = some (some (.ref a_check_notes)))
    (l_check_notes : K.lookup a_check_notes = some ⟨oc_check_notes, od_check_notes, .func (fnOf "check_notes" "check_notes" (defArgs (top 22)) (defBody (top 22)) (defScope (top 22)) .none kV_check_notes dc_check_notes pm_check_notes an_check_notes cd_check_notes ct_check_notes), sl_check_notes⟩)
    (c_check_notes : codeIn K cd_check_notes "check_notes" = true)
    (k_check_notes : keepIn K (.ref a_check_notes) = true)
    (n_paired : nsIn K mainGlobals "paired" = some (some (.ref a_paired)))
    (l_paired : K.lookup a_paired = some ⟨oc_paired, od_paired, .func (fnOf "paired" "paired" (defArgs (top 24)) (defBody (top 24)) (defScope (top 24)) .none kV_paired dc_paired pm_paired an_paired cd_paired ct_paired), sl_paired⟩)
    (c_paired : codeIn K cd_paired "paired" = true)
    (k_paired : keepIn K (.ref a_paired) = true)
    (n_repeated : nsIn K mainGlobals "repeated" = some (some (.ref a_repeated)))
    (l_repeated : K.lookup a_repeated = some ⟨oc_repeated, od_repeated, .func (fnOf "repeated" "repeated" (defArgs (top 26)) (defBody (top 26)) (defScope (top 26)) .none kV_repeated dc_repeated pm_repeated an_repeated cd_repeated ct_repeated), sl_repeated⟩)
    (c_repeated : codeIn K cd_repeated "repeated" = true)
    (k_repeated : keepIn K (.ref a_repeated) = true)
    (n_difference : nsIn K mainGlobals "difference" = some (some (.ref a_difference)))
    (l_difference : K.lookup a_difference = some ⟨oc_difference, od_difference, .func (fnOf "difference" "difference" (defArgs (top 25)) (defBody (top 25)) (defScope (top 25)) .none kV_difference dc_difference pm_difference an_difference cd_difference ct_difference), sl_difference⟩)
    (c_difference : codeIn K cd_difference "difference" = true)
    (k_difference : keepIn K (.ref a_difference) = true)
    (n_slips_in : nsIn K mainGlobals "slips_in" = some (some (.ref a_slips_in)))
    (l_slips_in : K.lookup a_slips_in = some ⟨oc_slips_in, od_slips_in, .func (fnOf "slips_in" "slips_in" (defArgs (top 32)) (defBody (top 32)) (defScope (top 32)) .none kV_slips_in dc_slips_in pm_slips_in an_slips_in cd_slips_in ct_slips_in), sl_slips_in⟩)
    (c_slips_in : codeIn K cd_slips_in "slips_in" = true)
    (k_slips_in : keepIn K (.ref a_slips_in) = true)
    (n_law_right : nsIn K mainGlobals "_law_right" = some (some (.ref a_law_right)))
    (l_law_right : K.lookup a_law_right = some ⟨oc_law_right, od_law_right, .func (fnOf "_law_right" "_law_right" (defArgs (top 46)) (defBody (top 46)) (defScope (top 46)) .none kV_law_right dc_law_right pm_law_right an_law_right cd_law_right ct_law_right), sl_law_right⟩)
    (c_law_right : codeIn K cd_law_right "_law_right" = true)
    (k_law_right : keepIn K (.ref a_law_right) = true)
    (n_law : nsIn K mainGlobals "law" = some (some (.ref a_law)))
    (l_law : K.lookup a_law = some ⟨oc_law, od_law, .func (fnOf "law" "law" (defArgs (top 47)) (defBody (top 47)) (defScope (top 47)) .none kV_law dc_law pm_law an_law cd_law ct_law), sl_law⟩)
    (c_law : codeIn K cd_law "law" = true)
    (k_law : keepIn K (.ref a_law) = true)
    (g_LETTERS : nsIn K mainGlobals "LETTERS" = some (some (.str "abcdefghijklmnopqrstuvwxyz" t_LETTERS)))
    (g_MOST_LETTERS : nsIn K mainGlobals "MOST_LETTERS" = some (some (.int 12 t_MOST_LETTERS)))
    (g_MOST_AMOUNT : nsIn K mainGlobals "MOST_AMOUNT" = some (some (.int 1000000000000 t_MOST_AMOUNT)))
    (g_MOST_NOTES : nsIn K mainGlobals "MOST_NOTES" = some (some (.int 200 t_MOST_NOTES)))
    (g_PAIR : nsIn K mainGlobals "PAIR" = some (some (.int 2 t_PAIR)))
    (g_TEN : nsIn K mainGlobals "TEN" = some (some (.int 10 t_TEN)))
    (g_DIGIT : nsIn K mainGlobals "DIGIT" = some (some (.str "digit" t_DIGIT)))
    (g_SHIFT : nsIn K mainGlobals "SHIFT" = some (some (.str "shift" t_SHIFT)))
    (g_SIGN : nsIn K mainGlobals "SIGN" = some (some (.str "sign" t_SIGN)))
    (g_SWAPPED : nsIn K mainGlobals "SWAPPED" = some (some (.str "swapped" t_SWAPPED)))
    (g_TWICE : nsIn K mainGlobals "TWICE" = some (some (.str "twice" t_TWICE)))
    (n_ValueError : nsIn K mainGlobals "ValueError" = some none)
    (n_abs : nsIn K mainGlobals "abs" = some none)
    (n_all : nsIn K mainGlobals "all" = some none)
    (n_bool : nsIn K mainGlobals "bool" = some none)
    (n_enumerate : nsIn K mainGlobals "enumerate" = some none)
    (n_int : nsIn K mainGlobals "int" = some none)
    (n_isinstance : nsIn K mainGlobals "isinstance" = some none)
    (n_len : nsIn K mainGlobals "len" = some none)
    (n_list : nsIn K mainGlobals "list" = some none)
    (n_max : nsIn K mainGlobals "max" = some none)
    (n_min : nsIn K mainGlobals "min" = some none)
    (n_range : nsIn K mainGlobals "range" = some none)
    (n_repr : nsIn K mainGlobals "repr" = some none)
    (n_sorted : nsIn K mainGlobals "sorted" = some none)
    (n_str : nsIn K mainGlobals "str" = some none)
    (n_sum : nsIn K mainGlobals "sum" = some none)
    (n_tuple : nsIn K mainGlobals "tuple" = some none) : Tx K mg where
  a_swapped_figures := a_swapped_figures
  d_swapped_figures := fnOf "swapped_figures" "swapped_figures" (defArgs (top 28)) (defBody (top 28)) (defScope (top 28)) .none kV_swapped_figures dc_swapped_figures pm_swapped_figures an_swapped_figures cd_swapped_figures ct_swapped_figures
  F_swapped_figures := fun_mk (st := (top 28)) l_swapped_figures c_swapped_figures k_swapped_figures
  m_swapped_figures := mg_of X G n_swapped_figures
  a_is_digit_slip := a_is_digit_slip
  d_is_digit_slip := fnOf "is_digit_slip" "is_digit_slip" (defArgs (top 29)) (defBody (top 29)) (defScope (top 29)) .none kV_is_digit_slip dc_is_digit_slip pm_is_digit_slip an_is_digit_slip cd_is_digit_slip ct_is_digit_slip
  F_is_digit_slip := fun_mk (st := (top 29)) l_is_digit_slip c_is_digit_slip k_is_digit_slip
  m_is_digit_slip := mg_of X G n_is_digit_slip
  a_is_integer := a_is_integer
  d_is_integer := fnOf "is_integer" "is_integer" (defArgs (top 5)) (defBody (top 5)) (defScope (top 5)) .none kV_is_integer dc_is_integer pm_is_integer an_is_integer cd_is_integer ct_is_integer
  F_is_integer := fun_mk (st := (top 5)) l_is_integer c_is_integer k_is_integer
  m_is_integer := mg_of X G n_is_integer
  a_numbers_by_note := a_numbers_by_note
  d_numbers_by_note := fnOf "numbers_by_note" "numbers_by_note" (defArgs (top 23)) (defBody (top 23)) (defScope (top 23)) .none kV_numbers_by_note dc_numbers_by_note pm_numbers_by_note an_numbers_by_note cd_numbers_by_note ct_numbers_by_note
  F_numbers_by_note := fun_mk (st := (top 23)) l_numbers_by_note c_numbers_by_note k_numbers_by_note
  m_numbers_by_note := mg_of X G n_numbers_by_note
  a_is_note_word := a_is_note_word
  d_is_note_word := fnOf "is_note_word" "is_note_word" (defArgs (top 19)) (defBody (top 19)) (defScope (top 19)) .none kV_is_note_word dc_is_note_word pm_is_note_word an_is_note_word cd_is_note_word ct_is_note_word
  F_is_note_word := fun_mk (st := (top 19)) l_is_note_word c_is_note_word k_is_note_word
  m_is_note_word := mg_of X G n_is_note_word
  a_law_take := a_law_take
  d_law_take := fnOf "_law_take" "_law_take" (defArgs (top 35)) (defBody (top 35)) (defScope (top 35)) .none kV_law_take dc_law_take pm_law_take an_law_take cd_law_take ct_law_take
  F_law_take := fun_mk (st := (top 35)) l_law_take c_law_take k_law_take
  m_law_take := mg_of X G n_law_take
  a_law_swapped := a_law_swapped
  d_law_swapped := fnOf "_law_swapped" "_law_swapped" (defArgs (top 43)) (defBody (top 43)) (defScope (top 43)) .none kV_law_swapped dc_law_swapped pm_law_swapped an_law_swapped cd_law_swapped ct_law_swapped
  F_law_swapped := fun_mk (st := (top 43)) l_law_swapped c_law_swapped k_law_swapped
  m_law_swapped := mg_of X G n_law_swapped
  a_law_paired := a_law_paired
  d_law_paired := fnOf "_law_paired" "_law_paired" (defArgs (top 42)) (defBody (top 42)) (defScope (top 42)) .none kV_law_paired dc_law_paired pm_law_paired an_law_paired cd_law_paired ct_law_paired
  F_law_paired := fun_mk (st := (top 42)) l_law_paired c_law_paired k_law_paired
  m_law_paired := mg_of X G n_law_paired
  a_law_pot := a_law_pot
  d_law_pot := fnOf "_law_pot" "_law_pot" (defArgs (top 34)) (defBody (top 34)) (defScope (top 34)) .none kV_law_pot dc_law_pot pm_law_pot an_law_pot cd_law_pot ct_law_pot
  F_law_pot := fun_mk (st := (top 34)) l_law_pot c_law_pot k_law_pot
  m_law_pot := mg_of X G n_law_pot
  a_law_cells := a_law_cells
  d_law_cells := fnOf "_law_cells" "_law_cells" (defArgs (top 38)) (defBody (top 38)) (defScope (top 38)) .none kV_law_cells dc_law_cells pm_law_cells an_law_cells cd_law_cells ct_law_cells
  F_law_cells := fun_mk (st := (top 38)) l_law_cells c_law_cells k_law_cells
  m_law_cells := mg_of X G n_law_cells
  a_slips := a_slips
  d_slips := fnOf "slips" "slips" (defArgs (top 30)) (defBody (top 30)) (defScope (top 30)) .none kV_slips dc_slips pm_slips an_slips cd_slips ct_slips
  F_slips := fun_mk (st := (top 30)) l_slips c_slips k_slips
  m_slips := mg_of X G n_slips
  a_is_within := a_is_within
  d_is_within := fnOf "is_within" "is_within" (defArgs (top 6)) (defBody (top 6)) (defScope (top 6)) .none kV_is_within dc_is_within pm_is_within an_is_within cd_is_within ct_is_within
  F_is_within := fun_mk (st := (top 6)) l_is_within c_is_within k_is_within
  m_is_within := mg_of X G n_is_within
  a_law_slips := a_law_slips
  d_law_slips := fnOf "_law_slips" "_law_slips" (defArgs (top 44)) (defBody (top 44)) (defScope (top 44)) .none kV_law_slips dc_law_slips pm_law_slips an_law_slips cd_law_slips ct_law_slips
  F_law_slips := fun_mk (st := (top 44)) l_law_slips c_law_slips k_law_slips
  m_law_slips := mg_of X G n_law_slips
  a_law_of := a_law_of
  d_law_of := fnOf "_law_of" "_law_of" (defArgs (top 36)) (defBody (top 36)) (defScope (top 36)) .none kV_law_of dc_law_of pm_law_of an_law_of cd_law_of ct_law_of
  F_law_of := fun_mk (st := (top 36)) l_law_of c_law_of k_law_of
  m_law_of := mg_of X G n_law_of
  a_law_some := a_law_some
  d_law_some := fnOf "_law_some" "_law_some" (defArgs (top 37)) (defBody (top 37)) (defScope (top 37)) .none kV_law_some dc_law_some pm_law_some an_law_some cd_law_some ct_law_some
  F_law_some := fun_mk (st := (top 37)) l_law_some c_law_some k_law_some
  m_law_some := mg_of X G n_law_some
  a_is_note_amount := a_is_note_amount
  d_is_note_amount := fnOf "is_note_amount" "is_note_amount" (defArgs (top 20)) (defBody (top 20)) (defScope (top 20)) .none kV_is_note_amount dc_is_note_amount pm_is_note_amount an_is_note_amount cd_is_note_amount ct_is_note_amount
  F_is_note_amount := fun_mk (st := (top 20)) l_is_note_amount c_is_note_amount k_is_note_amount
  m_is_note_amount := mg_of X G n_is_note_amount
  a_law_slips_in := a_law_slips_in
  d_law_slips_in := fnOf "_law_slips_in" "_law_slips_in" (defArgs (top 45)) (defBody (top 45)) (defScope (top 45)) .none kV_law_slips_in dc_law_slips_in pm_law_slips_in an_law_slips_in cd_law_slips_in ct_law_slips_in
  F_law_slips_in := fun_mk (st := (top 45)) l_law_slips_in c_law_slips_in k_law_slips_in
  m_law_slips_in := mg_of X G n_law_slips_in
  a_law_note := a_law_note
  d_law_note := fnOf "_law_note" "_law_note" (defArgs (top 39)) (defBody (top 39)) (defScope (top 39)) .none kV_law_note dc_law_note pm_law_note an_law_note cd_law_note ct_law_note
  F_law_note := fun_mk (st := (top 39)) l_law_note c_law_note k_law_note
  m_law_note := mg_of X G n_law_note
  a_check_amount := a_check_amount
  d_check_amount := fnOf "check_amount" "check_amount" (defArgs (top 27)) (defBody (top 27)) (defScope (top 27)) .none kV_check_amount dc_check_amount pm_check_amount an_check_amount cd_check_amount ct_check_amount
  F_check_amount := fun_mk (st := (top 27)) l_check_amount c_check_amount k_check_amount
  m_check_amount := mg_of X G n_check_amount
  a_is_note := a_is_note
  d_is_note := fnOf "is_note" "is_note" (defArgs (top 21)) (defBody (top 21)) (defScope (top 21)) .none kV_is_note dc_is_note pm_is_note an_is_note cd_is_note ct_is_note
  F_is_note := fun_mk (st := (top 21)) l_is_note c_is_note k_is_note
  m_is_note := mg_of X G n_is_note
  a_law_near_book := a_law_near_book
  d_law_near_book := fnOf "_law_near_book" "_law_near_book" (defArgs (top 40)) (defBody (top 40)) (defScope (top 40)) .none kV_law_near_book dc_law_near_book pm_law_near_book an_law_near_book cd_law_near_book ct_law_near_book
  F_law_near_book := fun_mk (st := (top 40)) l_law_near_book c_law_near_book k_law_near_book
  m_law_near_book := mg_of X G n_law_near_book
  a_law_book := a_law_book
  d_law_book := fnOf "_law_book" "_law_book" (defArgs (top 41)) (defBody (top 41)) (defScope (top 41)) .none kV_law_book dc_law_book pm_law_book an_law_book cd_law_book ct_law_book
  F_law_book := fun_mk (st := (top 41)) l_law_book c_law_book k_law_book
  m_law_book := mg_of X G n_law_book
  a_slips_of := a_slips_of
  d_slips_of := fnOf "slips_of" "slips_of" (defArgs (top 31)) (defBody (top 31)) (defScope (top 31)) .none kV_slips_of dc_slips_of pm_slips_of an_slips_of cd_slips_of ct_slips_of
  F_slips_of := fun_mk (st := (top 31)) l_slips_of c_slips_of k_slips_of
  m_slips_of := mg_of X G n_slips_of
  a_check_notes := a_check_notes
  d_check_notes := fnOf "check_notes" "check_notes" (defArgs (top 22)) (defBody (top 22)) (defScope (top 22)) .none kV_check_notes dc_check_notes pm_check_notes an_check_notes cd_check_notes ct_check_notes
  F_check_notes := fun_mk (st := (top 22)) l_check_notes c_check_notes k_check_notes
  m_check_notes := mg_of X G n_check_notes
  a_paired := a_paired
  d_paired := fnOf "paired" "paired" (defArgs (top 24)) (defBody (top 24)) (defScope (top 24)) .none kV_paired dc_paired pm_paired an_paired cd_paired ct_paired
  F_paired := fun_mk (st := (top 24)) l_paired c_paired k_paired
  m_paired := mg_of X G n_paired
  a_repeated := a_repeated
  d_repeated := fnOf "repeated" "repeated" (defArgs (top 26)) (defBody (top 26)) (defScope (top 26)) .none kV_repeated dc_repeated pm_repeated an_repeated cd_repeated ct_repeated
  F_repeated := fun_mk (st := (top 26)) l_repeated c_repeated k_repeated
  m_repeated := mg_of X G n_repeated
  a_difference := a_difference
  d_difference := fnOf "difference" "difference" (defArgs (top 25)) (defBody (top 25)) (defScope (top 25)) .none kV_difference dc_difference pm_difference an_difference cd_difference ct_difference
  F_difference := fun_mk (st := (top 25)) l_difference c_difference k_difference
  m_difference := mg_of X G n_difference
  a_slips_in := a_slips_in
  d_slips_in := fnOf "slips_in" "slips_in" (defArgs (top 32)) (defBody (top 32)) (defScope (top 32)) .none kV_slips_in dc_slips_in pm_slips_in an_slips_in cd_slips_in ct_slips_in
  F_slips_in := fun_mk (st := (top 32)) l_slips_in c_slips_in k_slips_in
  m_slips_in := mg_of X G n_slips_in
  a_law_right := a_law_right
  d_law_right := fnOf "_law_right" "_law_right" (defArgs (top 46)) (defBody (top 46)) (defScope (top 46)) .none kV_law_right dc_law_right pm_law_right an_law_right cd_law_right ct_law_right
  F_law_right := fun_mk (st := (top 46)) l_law_right c_law_right k_law_right
  m_law_right := mg_of X G n_law_right
  a_law := a_law
  d_law := fnOf "law" "law" (defArgs (top 47)) (defBody (top 47)) (defScope (top 47)) .none kV_law dc_law pm_law an_law cd_law ct_law
  F_law := fun_mk (st := (top 47)) l_law c_law k_law
  m_law := mg_of X G n_law
  t_LETTERS := t_LETTERS
  g_LETTERS := mg_of X G g_LETTERS
  t_MOST_LETTERS := t_MOST_LETTERS
  g_MOST_LETTERS := mg_of X G g_MOST_LETTERS
  t_MOST_AMOUNT := t_MOST_AMOUNT
  g_MOST_AMOUNT := mg_of X G g_MOST_AMOUNT
  t_MOST_NOTES := t_MOST_NOTES
  g_MOST_NOTES := mg_of X G g_MOST_NOTES
  t_PAIR := t_PAIR
  g_PAIR := mg_of X G g_PAIR
  t_TEN := t_TEN
  g_TEN := mg_of X G g_TEN
  t_DIGIT := t_DIGIT
  g_DIGIT := mg_of X G g_DIGIT
  t_SHIFT := t_SHIFT
  g_SHIFT := mg_of X G g_SHIFT
  t_SIGN := t_SIGN
  g_SIGN := mg_of X G g_SIGN
  t_SWAPPED := t_SWAPPED
  g_SWAPPED := mg_of X G g_SWAPPED
  t_TWICE := t_TWICE
  g_TWICE := mg_of X G g_TWICE
  n_ValueError := mg_none_of X G n_ValueError
  n_abs := mg_none_of X G n_abs
  n_all := mg_none_of X G n_all
  n_bool := mg_none_of X G n_bool
  n_enumerate := mg_none_of X G n_enumerate
  n_int := mg_none_of X G n_int
  n_isinstance := mg_none_of X G n_isinstance
  n_len := mg_none_of X G n_len
  n_list := mg_none_of X G n_list
  n_max := mg_none_of X G n_max
  n_min := mg_none_of X G n_min
  n_range := mg_none_of X G n_range
  n_repr := mg_none_of X G n_repr
  n_sorted := mg_none_of X G n_sorted
  n_str := mg_none_of X G n_str
  n_sum := mg_none_of X G n_sum
  n_tuple := mg_none_of X G n_tuple
section
variable {P : Program} {w : World} {K : Frag} {mg : Str → Option Value} {base : Heap}
/-! ### words -/
def inW (v : V) (b c : Int) : Bool := match v with
  | .int a => decide (b ≤ a ∧ a ≤ c)
  | _ => false
def isI (v : V) : Bool := match v with
  | .int _ => true
  | _ => false
/-- a number or a truth value -/
def Nb (v : V) : Prop := (∃ a, v = .int a) ∨ ∃ b, v = .bl b
theorem isi_bl {b : Bool} {H : Hp} {Q : VK} (k : Q (.bl true) H) : rIsi K [.bl b, .ty "int"] H Q := ⟨_, _, _, _, true, rfl, .ty "int", .base (.bl b), kit_ty (by decide +kernel), k⟩
theorem isi_blB {b : Bool} {H : Hp} {Q : VK} (k : Q (.bl true) H) : rIsi K [.bl b, .ty "bool"] H Q := ⟨_, _, _, _, true, rfl, .ty "bool", .base (.bl b), kit_ty (by decide +kernel), k⟩
/-- no number -/
structure NI (K : Frag) (H : Hp) (v : V) : Prop where
  i : isI v = false
  w : ∀ b c, inW v b c = false
  k : ∀ Q : VK, Q (.bl false) H → rIsi K [v, .ty "int"] H Q
/-- a value of which is asked whether it is a number -/
def Nc (K : Frag) (H : Hp) (v : V) : Prop := Nb v ∨ NI K H v
def sp_is_integer (K : Frag) : Sp := fun vs H Q E => vs.length = 1 ∧ ∃ v, vs = [v] ∧ Nc K H v ∧ Q (.bl (isI v)) H
abbrev names_is_integer : List Str := ["value"]
theorem sc_is_integer : FnScope names_is_integer ["value"] (defScope (top 5)) := ⟨rfl, rfl, rfl, by decide +kernel, rfl, by decide +kernel, by decide +kernel⟩
set_option maxHeartbeats 4000000 in
theorem ok_is_integer (T : Tx K mg) : FG P w K mg base CX0 1 T.a_is_integer T.d_is_integer ["value"] (sp_is_integer K) := by
  refine OB.Fun.fg T.F_is_integer sc_is_integer (fun vs H Q E h => h.1) (fun cdv A out s H vs Q E g h => ?_)
  obtain ⟨_, v, rfl, hv, k⟩ := h
  refine ⟨_, (pss_one (ps_ret (pe_and (pe_callB (toK (r := rIsi) (K := K) rfl call_isi) (by rfl) T.n_isinstance (by decide +kernel) (pa_cons (pv 0) (pa_cons (pe_bltn (v := .ty "int") (by rfl) T.n_int (by decide +kernel) rfl) pa_nil))) (pe_one (pe_not (pe_callB (toK (r := rIsi) (K := K) rfl call_isi) (by rfl) T.n_isinstance (by decide +kernel) (pa_cons (pv 0) (pa_cons (pe_bltn (v := .ty "bool") (by rfl) T.n_bool (by decide +kernel) rfl) pa_nil)))))))), ?_⟩
  refine g_start (σ := [some _]) rfl ?_
  rcases hv with (⟨a, rfl⟩ | ⟨b, rfl⟩) | hn
  · repeat walk_at "ob1"
    exact k
  · repeat walk_at "ob1"
    refine isi_bl ?_
    repeat walk_at "ob1"
    refine isi_blB ?_
    repeat walk_at "ob1"
    exact k
  · rw [hn.i] at k
    repeat walk_at "ob1"
    refine hn.k _ ?_
    repeat walk_at "ob1"
    exact k
def sp_is_within (K : Frag) : Sp := fun vs H Q E => vs.length = 3 ∧ ∃ v, ∃ b c : Int, vs = [v, .int b, .int c] ∧ Nc K H v ∧ Q (.bl (inW v b c)) H
abbrev names_is_within : List Str := ["value", "least", "most"]
theorem sc_is_within : FnScope names_is_within ["value", "least", "most"] (defScope (top 6)) := ⟨rfl, rfl, rfl, by decide +kernel, rfl, by decide +kernel, by decide +kernel⟩
set_option maxHeartbeats 4000000 in
theorem ok_is_within (T : Tx K mg) : FG P w K mg base CX0 2 T.a_is_within T.d_is_within ["value", "least", "most"] (sp_is_within K) := by
  refine OB.Fun.fg T.F_is_within sc_is_within (fun vs H Q E h => h.1) (fun cdv A out s H vs Q E g h => ?_)
  obtain ⟨_, v, b, c, rfl, hv, k⟩ := h
  refine ⟨_, (pss_one (ps_ret (pe_and (pe_cg (ok_is_integer T) (g.mono (by decide : 1 ≤ 1)) (by rfl) T.m_is_integer T.F_is_integer.kp (OB.Fun.bd T.F_is_integer (ps := ["value"]) (n := 1) (ks := []) (ix := [0]) (fun _ _ _ _ _ _ us ws h1 h2 => match us, ws, h1, h2 with | [_], [], _, _ => rfl)) pass0 (pa_cons (pv 0) pa_nil) pk_nil) (pe_one (pe_chain op_le op_le (pv 1) (pv 0) (pv 2)))))), ?_⟩
  refine g_start (σ := [some _, some _, some _]) rfl ?_
  rcases hv with (⟨a, rfl⟩ | ⟨x, rfl⟩) | hn
  · repeat walk_at "ob1"
    refine ⟨rfl, .int a, rfl, .inl (.inl ⟨a, rfl⟩), ?_⟩
    unfold isI
    unfold inW at k
    repeat walk_at "ob1"
    refine g_iteD (fun h1 => ?_) (fun h1 => ?_)
    · repeat walk_at "ob1"
      have e : decide (b ≤ a ∧ a ≤ c) = decide (a ≤ c) := by simp [h1]
      rw [← e]
      exact k
    · have e : decide (b ≤ a ∧ a ≤ c) = false := by simp [h1]
      rw [← e]
      exact k
  · repeat walk_at "ob1"
    refine ⟨rfl, .bl x, rfl, .inl (.inr ⟨x, rfl⟩), ?_⟩
    unfold isI
    unfold inW at k
    repeat walk_at "ob1"
    exact k
  · rw [hn.w] at k
    repeat walk_at "ob1"
    refine ⟨rfl, v, rfl, .inr hn, ?_⟩
    rw [hn.i]
    repeat walk_at "ob1"
    exact k
/-! ### draws -/
/-- the pot: n draws were made at most -/
def potO (a b c : Int) : HO := .lst [.int a, .int b, .int c]
structure PotOk (n : Nat) (a b c : Int) : Prop where
  a0 : 0 ≤ a
  a1 : a.natAbs < 2 ^ 1000
  b0 : 0 ≤ b
  b1 : b < 2 ^ 61
  c0 : 0 ≤ c
  c1 : c ≤ n
theorem pot_div {n : Nat} {a b c u : Int} (o : PotOk n a b c) (u0 : 0 < u) : PotOk (n + 1) (a / u) b c := by
  obtain ⟨a0, a1, b0, b1, c0, c1⟩ := o
  have h1 : 0 ≤ a / u := Int.ediv_nonneg a0 (by omega)
  have h2 : a / u ≤ a := Int.ediv_le_self _ a0
  exact ⟨h1, by omega, b0, b1, c0, by omega⟩
def sp_law_take (K : Frag) : Sp := fun vs H Q E => vs.length = 2 ∧ ∃ (F : List (Addr × HO)) (G : List Ft) (i : Nat) (p : Addr) (n : Nat) (u a b c : Int), vs = [.ref p, .int u] ∧ Sy K F G H ∧ F[i]? = some (p, potO a b c) ∧ PotOk n a b c ∧ n < 1000000 ∧ 0 < u ∧ u < 2 ^ 60 ∧
  ∀ (r a' b' c' : Int) (H' : Hp), 0 ≤ r → r < u → PotOk (n + 1) a' b' c' → Sy K (F.set i (p, potO a' b' c')) G H' → Q (.int r) H'
abbrev names_law_take : List Str := ["pot", "upto", "digit", "prime", "blend"]
theorem sc_law_take : FnScope names_law_take ["pot", "upto"] (defScope (top 35)) := ⟨rfl, rfl, rfl, by decide +kernel, rfl, by decide +kernel, by decide +kernel⟩
set_option maxHeartbeats 4000000 in
theorem ok_law_take (T : Tx K mg) : FG P w K mg base CX0 1 T.a_law_take T.d_law_take ["pot", "upto"] (sp_law_take K) := by
  refine OB.Fun.fg T.F_law_take sc_law_take (fun vs H Q E h => h.1) (fun cdv A out s H vs Q E g h => ?_)
  obtain ⟨_, F, G, i, p, n, u, a, b, c, rfl, S, hF, ok, hn, u0, u1, k⟩ := h
  refine ⟨_, (pss_cons (ps_if (pt_cmpR op_gt (pe_ix (ix_UK (K := K) rfl) (pv 0) pe_int (fun _ _ => rfl)) pe_int (nomark _)) (pss_cons (ps_set (i := 2) sc_law_take.nd rfl (by first | exact Or.inl rfl | exact Or.inr rfl) (pe_op op_mod (pe_callTy c_int (by rfl) T.n_int (by decide +kernel) (pa_cons (pe_ix (ix_UK (K := K) rfl) (pv 0) pe_int (fun _ _ => rfl)) pa_nil)) (pv 1)))
      (pss_cons (ps_asg (pe_op op_fdivW (pe_ix (ix_UK (K := K) rfl) (pv 0) pe_int (fun _ _ => rfl)) (pv 1)) (pg_sub (pv 0) pe_int set_list))
      (pss_one (ps_ret (pv 2))))) pss_nil)
      (pss_cons (ps_asg (pe_op op_add (pe_ix (ix_UK (K := K) rfl) (pv 0) pe_int (fun _ _ => rfl)) pe_int) (pg_sub (pv 0) pe_int set_list))
      (pss_cons (ps_set (i := 3) sc_law_take.nd rfl (by first | exact Or.inl rfl | exact Or.inr rfl) (pe_ix (ix_UK (K := K) rfl) (pe_lst (pa_cons pe_int (pa_cons pe_int (pa_cons pe_int (pa_cons pe_int (pa_cons pe_int pa_nil)))))) (pe_op op_mod (pe_callTy c_int (by rfl) T.n_int (by decide +kernel) (pa_cons (pe_ix (ix_UK (K := K) rfl) (pv 0) pe_int (fun _ _ => rfl)) pa_nil)) pe_int) (fun _ _ => rfl)))
      (pss_cons (ps_set (i := 4) sc_law_take.nd rfl (by first | exact Or.inl rfl | exact Or.inr rfl) (pe_op op_mod (pe_callTy c_int (by rfl) T.n_int (by decide +kernel) (pa_cons (pe_op op_powX (pe_callTy c_int (by rfl) T.n_int (by decide +kernel) (pa_cons (pe_op op_add (pe_op op_add (pe_ix (ix_UK (K := K) rfl) (pv 0) pe_int (fun _ _ => rfl)) (pe_op op_mul (pe_op op_mul pe_int (pe_ix (ix_UK (K := K) rfl) (pv 0) pe_int (fun _ _ => rfl))) (pe_ix (ix_UK (K := K) rfl) (pv 0) pe_int (fun _ _ => rfl)))) pe_int) pa_nil)) pe_int) pa_nil)) (pv 3)))
      (pss_cons (ps_set (i := 4) sc_law_take.nd rfl (by first | exact Or.inl rfl | exact Or.inr rfl) (pe_op op_mod (pe_callTy c_int (by rfl) T.n_int (by decide +kernel) (pa_cons (pe_op op_mul (pv 4) (pe_op op_add (pe_op op_mod (pe_callTy c_int (by rfl) T.n_int (by decide +kernel) (pa_cons (pv 4) pa_nil)) pe_int) (pe_op op_mul pe_int (pe_ix (ix_UK (K := K) rfl) (pv 0) pe_int (fun _ _ => rfl))))) pa_nil)) pe_int))
      (pss_one (ps_ret (pe_op op_mod (pe_callTy c_int (by rfl) T.n_int (by decide +kernel) (pa_cons (pe_op op_fdivW (pv 4) pe_int) pa_nil)) (pv 1))))))))), ?_⟩
  refine g_start (σ := [some _, some _, none, none, none]) rfl ?_
  repeat walk_at "ob1"
  refine g_iteD (fun h1 => ?_) (fun h1 => ?_)
  · repeat walk_at "ob1"
    refine k (a % u) (a / u) b c _ ?_ ?_ ?_ (by assumption)
    · exact Int.emod_nonneg _ (by omega)
    · exact Int.emod_lt_of_pos _ u0
    · exact pot_div ok u0
  · obtain ⟨a0, a1, b0, b1, c0, c1⟩ := ok
    repeat walk_at "ob1"
    obtain ⟨pr, hm, hp⟩ := atI_ints (ns := [2147483647, 2147483629, 2147483587, 2147483579, 2147483563]) (i := (c + 1) % 5) (by omega) (by show _ < (5 : Int); omega)
    have hpr : 0 < pr ∧ pr < 2147483648 := (show ∀ n ∈ ([2147483647, 2147483629, 2147483587, 2147483579, 2147483563] : List Int), 0 < n ∧ n < 2147483648 by decide) pr hm
    refine g_ixUL (by walk_at "obl") hp ?_
    repeat walk_at "ob1"
    have hs : (c + 1) * (c + 1) ≤ 1000000 * 1000000 := Int.mul_le_mul (by omega) (by omega) (by omega) (by decide)
    have hs0 : 0 ≤ (c + 1) * (c + 1) := Int.mul_nonneg (by omega) (by omega)
    have hx : 99371 * (c + 1) * (c + 1) = 99371 * ((c + 1) * (c + 1)) := Int.mul_assoc ..
    refine g_I (cpow_ok (a := 64) (by omega) (by decide) (by decide)) ?_
    repeat walk_at "ob1"
    refine k _ a b (c + 1) _ ?_ ?_ ⟨a0, a1, b0, b1, by omega, by omega⟩ (Sy.less (by assumption))
    · exact Int.emod_nonneg _ (by omega)
    · exact Int.emod_lt_of_pos _ u0
theorem use_take {F : List (Addr × HO)} {G : List Ft} {H : Hp} {Q : VK} {E : XK} {i n : Nat} {p : Addr} {u a b c : Int} (S : Sy K F G H) (hF : F[i]? = some (p, potO a b c)) (ok : PotOk n a b c) (hn : n < 1000000) (u0 : 0 < u) (u1 : u < 2 ^ 60)
    (k : ∀ (r a' b' c' : Int) (H' : Hp), 0 ≤ r → r < u → PotOk (n + 1) a' b' c' → Sy K (F.set i (p, potO a' b' c')) G H' → (F.set i (p, potO a' b' c'))[i]? = some (p, potO a' b' c') → Q (.int r) H') : sp_law_take K [.ref p, .int u] H Q E :=
  ⟨rfl, F, G, i, p, n, u, a, b, c, rfl, S, hF, ok, hn, u0, u1, fun r a' b' c' H' h1 h2 h3 h4 => k r a' b' c' H' h1 h2 h3 h4 (List.getElem?_set_self (List.getElem?_eq_some_iff.mp hF).1)⟩
theorem use_is_integer {a : Int} {H : Hp} {Q : VK} {E : XK} (k : Q (.bl true) H) : sp_is_integer K [.int a] H Q E := ⟨rfl, .int a, rfl, .inl (.inl ⟨a, rfl⟩), k⟩
theorem use_is_within {a b c : Int} {H : Hp} {Q : VK} {E : XK} (k : Q (.bl (decide (b ≤ a ∧ a ≤ c))) H) : sp_is_within K [.int a, .int b, .int c] H Q E := ⟨rfl, .int a, b, c, rfl, .inl (.inl ⟨a, rfl⟩), k⟩
local macro_rules | `(tactic| walk_at "ob") => `(tactic| first
  | walk_at "ob1"
  | refine use_is_integer ?_
  | refine use_is_within ?_
  | with_reducible refine g_lstRg ?_
  | with_reducible refine g_rg1 ?_
  | with_reducible refine g_rg2 ?_
  | with_reducible refine g_tTru ?_
  | ((with_reducible refine' g_truL ?obh ?_); (case obh => walk_at "obl"))
  | ((with_reducible refine' g_ixUT ?obh ?obi ?_); (case obh => walk_at "obt"); (case obi => rfl))
  | with_reducible refine g_forZ ?_
  | with_reducible refine g_forR2 ?_
  | with_reducible refine g_forE ?_
  | with_reducible refine g_lcZ ?_)
theorem PotOk.mono {n m : Nat} {a b c : Int} (o : PotOk n a b c) (h : n ≤ m) : PotOk m a b c := ⟨o.a0, o.a1, o.b0, o.b1, o.c0, by have := o.c1; omega⟩
/-- what a draw leaves -/
def PotK (K : Frag) (F : List (Addr × HO)) (G : List Ft) (i : Nat) (p : Addr) (n : Nat) (R : Hp → Prop) : Prop :=
  ∀ (a' b' c' : Int) (H' : Hp), PotOk n a' b' c' → Sy K (F.set i (p, potO a' b' c')) G H' → (F.set i (p, potO a' b' c'))[i]? = some (p, potO a' b' c') → R H'
def sp_law_of (K : Frag) : Sp := fun vs H Q E => vs.length = 2 ∧ ∃ (F : List (Addr × HO)) (G : List Ft) (i j : Nat) (p q : Addr) (n : Nat) (xs : List V) (a b c : Int), vs = [.ref p, .ref q] ∧ Sy K F G H ∧ F[i]? = some (p, potO a b c) ∧ F[j]? = some (q, .lst xs) ∧ i ≠ j ∧ PotOk n a b c ∧ n < 1000000 ∧ 0 < xs.length ∧ xs.length < 2000000 ∧
  ∀ r ∈ xs, PotK K F G i p (n + 1) (Q r)
abbrev names_law_of : List Str := ["pot", "some"]
theorem sc_law_of : FnScope names_law_of ["pot", "some"] (defScope (top 36)) := ⟨rfl, rfl, rfl, by decide +kernel, rfl, by decide +kernel, by decide +kernel⟩
set_option maxHeartbeats 4000000 in
theorem ok_law_of (T : Tx K mg) : FG P w K mg base CX0 2 T.a_law_of T.d_law_of ["pot", "some"] (sp_law_of K) := by
  refine OB.Fun.fg T.F_law_of sc_law_of (fun vs H Q E h => h.1) (fun cdv A out s H vs Q E g h => ?_)
  obtain ⟨_, F, G, i, j, p, q, n, xs, a, b, c, rfl, S, hF, hj, hij, ok, hn, l0, l1, k⟩ := h
  refine ⟨_, (pss_one (ps_ret (pe_ix (ix_UK (K := K) rfl) (pv 1) (pe_cg (ok_law_take T) (g.mono (by decide : 1 ≤ 1)) (by rfl) T.m_law_take T.F_law_take.kp (OB.Fun.bd T.F_law_take (ps := ["pot", "upto"]) (n := 2) (ks := []) (ix := [0, 1]) (fun _ _ _ _ _ _ us ws h1 h2 => match us, ws, h1, h2 with | [_, _], [], _, _ => rfl)) pass0 (pa_cons (pv 0) (pa_cons (pe_callB (toK (r := OB.rLen) (K := K) rfl c_len) (by rfl) T.n_len PySem.boot_len (pa_cons (pv 1) pa_nil)) pa_nil)) pk_nil) (fun _ _ => rfl)))), ?_⟩
  refine g_start (σ := [some _, some _]) rfl ?_
  have hij' : ∀ x, (F.set i x)[j]? = some (q, .lst xs) := fun x => by rw [List.getElem?_set_ne hij]; exact hj
  repeat walk_at "ob"
  refine use_take S hF ok hn (by omega) (by omega) fun r a' b' c' H' h1 h2 o2 S2 hF2 => ?_
  have hl : r.toNat < xs.length := by omega
  refine g_ixUL (v := xs[r.toNat]) (SqL.of (S2.at j (hij' _))) (atI_nn h1 (List.getElem?_eq_getElem hl)) ?_
  repeat walk_at "ob"
  exact k _ (List.getElem_mem hl) a' b' c' H' o2 S2 hF2
theorem pot_less {F : List (Addr × HO)} {G : List Ft} {H : Hp} {i : Nat} {x : Addr × HO} {y z : Addr × HO} (S : Sy K ((x :: F.set i y).set (i + 1) z) G H) : Sy K (F.set i z) G H := by
  have S5 : Sy K (x :: (F.set i y).set i z) G H := S
  have S6 := S5.less
  rw [List.set_set] at S6
  exact S6
theorem set_at {F : List (Addr × HO)} {i : Nat} {x y : Addr × HO} (h : F[i]? = some x) : (F.set i y)[i]? = some y := List.getElem?_set_self (List.getElem?_eq_some_iff.mp h).1
theorem PotK.use {F : List (Addr × HO)} {G : List Ft} {H : Hp} {i n : Nat} {p : Addr} {R : Hp → Prop} {x : Addr × HO} {a b c : Int} (k : PotK K F G i p n R) (hF : F[i]? = some x) (o : PotOk n a b c) (S : Sy K (F.set i (p, potO a b c)) G H) : R H := k a b c H o S (set_at hF)
theorem use_take2 {F : List (Addr × HO)} {G : List Ft} {H : Hp} {Q : VK} {E : XK} {i n : Nat} {p : Addr} {u a b c : Int} {x : Addr × HO} (S : Sy K (F.set i (p, potO a b c)) G H) (hF : F[i]? = some x) (ok : PotOk n a b c) (hn : n < 1000000) (u0 : 0 < u) (u1 : u < 2 ^ 60)
    (k : ∀ (r a' b' c' : Int) (H' : Hp), 0 ≤ r → r < u → PotOk (n + 1) a' b' c' → Sy K (F.set i (p, potO a' b' c')) G H' → Q (.int r) H') : sp_law_take K [.ref p, .int u] H Q E :=
  use_take S (set_at hF) ok hn u0 u1 fun r a' b' c' H' h1 h2 o S' _ => k r a' b' c' H' h1 h2 o (by rw [List.set_set] at S'; exact S')
/-- behind a list that was just made: it falls away -/
theorem use_of2 {F : List (Addr × HO)} {G : List Ft} {H : Hp} {Q : VK} {E : XK} {i n : Nat} {p q : Addr} {ns : List Int} {vs : List V} {a b c : Int} {x : Addr × HO} (S : Sy K ((q, .lst vs) :: F.set i (p, potO a b c)) G H) (e : vs = ns.map V.int) (hF : F[i]? = some x) (ok : PotOk n a b c) (hn : n < 1000000) (l0 : Nat.ble 1 ns.length = true) (l1 : Nat.ble ns.length 99 = true)
    (k : ∀ r ∈ ns, ∀ (a' b' c' : Int) (H' : Hp), PotOk (n + 1) a' b' c' → Sy K (F.set i (p, potO a' b' c')) G H' → Q (.int r) H') : sp_law_of K [.ref p, .ref q] H Q E := by
  subst e
  have l3 := Nat.le_of_ble_eq_true l0
  have l4 := Nat.le_of_ble_eq_true l1
  refine ⟨rfl, _, G, i + 1, 0, p, q, n, ns.map V.int, a, b, c, rfl, S, set_at hF, rfl, by omega, ok, hn, by rw [List.length_map]; omega, by rw [List.length_map]; omega, fun r hr a' b' c' H' o S' _ => ?_⟩
  obtain ⟨m, hm, rfl⟩ := List.mem_map.mp hr
  exact k m hm a' b' c' H' o (pot_less S')
theorem use_of {F : List (Addr × HO)} {G : List Ft} {H : Hp} {Q : VK} {E : XK} {i j n : Nat} {p q : Addr} {ns : List Int} {a b c : Int} (S : Sy K F G H) (hF : F[i]? = some (p, potO a b c)) (hj : F[j]? = some (q, .lst (ns.map V.int))) (hij : i ≠ j) (ok : PotOk n a b c) (hn : n < 1000000) (l0 : 0 < ns.length) (l1 : ns.length < 100)
    (k : ∀ r ∈ ns, PotK K F G i p (n + 1) (Q (.int r))) : sp_law_of K [.ref p, .ref q] H Q E := ⟨rfl, F, G, i, j, p, q, n, ns.map V.int, a, b, c, rfl, S, hF, hj, hij, ok, hn, by rw [List.length_map]; exact l0, by rw [List.length_map]; omega, fun r hr => by
  obtain ⟨m, hm, rfl⟩ := List.mem_map.mp hr
  exact k m hm⟩
theorem pot_under {F : List (Addr × HO)} {G : List Ft} {H : Hp} {i : Nat} {x y z : Addr × HO} (S : Sy K ((x :: F.set i y).set (i + 1) z) G H) : Sy K (x :: F.set i z) G H := by
  have S5 : Sy K (x :: (F.set i y).set i z) G H := S
  rw [List.set_set] at S5
  exact S5
theorem pot_under2 {F : List (Addr × HO)} {G : List Ft} {H : Hp} {i : Nat} {x y u z : Addr × HO} (S : Sy K ((x :: y :: F.set i u).set (i + 2) z) G H) : Sy K (x :: y :: F.set i z) G H := by
  have S5 : Sy K (x :: y :: (F.set i u).set i z) G H := S
  rw [List.set_set] at S5
  exact S5
theorem all_true {n : Nat} : ((List.replicate n true).all id) = true := List.all_eq_true.mpr fun b hb => (List.mem_replicate.mp hb).2
theorem trues {H : Hp} {vs : List V} {n : Nat} (h : DpAll K H vs (List.replicate n (.bool true))) : vs = (List.replicate n true).map V.bl := by
  rw [dps_scal h fun d hd => by rw [(List.mem_replicate.mp hd).2]; rfl, List.map_replicate, List.map_replicate]
  rfl
theorem ints_imm (l : List Int) : immAll (l.map PyData.int) = true := immAll_of fun x hx => by
  obtain ⟨s, _, rfl⟩ := List.mem_map.mp hx
  rfl
theorem dps_intsV {H : Hp} {vs : List V} {ns : List Int} (h : DpAll K H vs (ns.map PyData.int)) : vs = ns.map V.int := by
  rw [dps_scal h fun d hd => by
    obtain ⟨s, _, rfl⟩ := List.mem_map.mp hd
    rfl, List.map_map]
  rfl
theorem sqt_ints {H : Hp} {p : Addr} {es : List Int} (h : L2.Dp K H (.ref p) (.tuple (es.map .int))) : SqT K H p (es.map V.int) := by
  have q := sqt_scal h fun d hd => by
    obtain ⟨s, _, rfl⟩ := List.mem_map.mp hd
    rfl
  rw [List.map_map] at q
  exact q
theorem dat_ints {H : Hp} {p : Addr} {es : List Int} (h : L2.Dp K H (.ref p) (.tuple (es.map .int))) : (Ft.dat [.ref p] [.tuple (es.map .int)]).ok K H := ⟨dps_one h, by show (imm (.tuple (es.map .int)) && true) = true; rw [Bool.and_true]; exact ints_imm es⟩
theorem cut_tail (xs : List V) : cutV xs (some 1) none = xs.drop 1 := by
  unfold cutV
  cases xs with
  | nil => rfl
  | cons x xs =>
    have e1 : HT.sIx (x :: xs).length 0 (some 1) = 1 := by
      unfold HT.sIx
      simp
    have e2 : HT.sIx (x :: xs).length (x :: xs).length none = (x :: xs).length := rfl
    rw [e1, e2]
    exact List.take_of_length_le (by rw [List.length_drop]; omega)
theorem g_slA {F : List (Addr × HO)} {G : List Ft} {H : Hp} {Q : VK} {l : Addr} {vs : List V} (S : Sy K F G H) (h : SqT K H l vs) (k : ∀ p H', Sy K F (.tq p (vs.drop 1) :: G) H' → Q (.ref p) H') : rSlU K (.ref l) (some 1) none H Q := by
  refine .inl ⟨l, vs, rfl, h, fun z => ?_, fun _ p hp => ?_⟩
  · refine k l H (S.add (.tq l (vs.drop 1)) ?_)
    have e : vs.drop 1 = vs := by
      rw [← cut_tail]
      unfold cutV
      rw [z.1, z.2, List.drop_zero, Nat.sub_zero, List.take_length]
    rw [e]
    exact h
  · rw [cut_tail]
    exact k p _ ((S.over hp).add (.tq p _) (.inl (.inl upd_same)))
theorem g_tupC {tl : TE} {σ : L2.St} {H : Hp} {D : Ends} {g : TG} {tb : TS} (k : tl σ H fun x H1 => tFor (iSeq K (tC x)) g tb D σ H1) : tFor (iSeq K tl) g tb D σ H := k
theorem g_lcE2 {σ : L2.St} {H : Hp} {Q : VK} {g : TG} {tl te : TE} {tt : TT} {own : List Nat} (k : tl σ H fun x H1 => tLc (iSeq K (tC x)) g tt te own σ H1 Q) : tLc (iSeq K tl) g tt te own σ H Q := k
theorem small_ints {l : List Int} {n : Nat} (h : ∀ x ∈ l, x.natAbs < 10 ^ 60) (hl : l.length ≤ n) : Small (63 * n + 10) 1 (.tuple (l.map .int)) := by
  have q : SmallL ((61 + 2) * (l.map PyData.int).length) 0 (l.map PyData.int) := SmallL.all fun x hx => by
    obtain ⟨s, hs, rfl⟩ := List.mem_map.mp hx
    exact Small.int (h s hs)
  rw [List.length_map] at q
  exact (Small.tup q).mono (by omega) (by decide)
theorem g_slL {F : List (Addr × HO)} {G : List Ft} {H : Hp} {Q : VK} {l : Addr} {vs : List V} {lo hi : Option Int} (S : Sy K F G H) (h : SqL K H l vs) (k : ∀ p H', Sy K ((p, .lst (cutV vs lo hi)) :: F) G H' → Q (.ref p) H') : rSlU K (.ref l) lo hi H Q :=
  .inr ⟨l, vs, rfl, h, fun p hp => k p _ (S.push hp)⟩
theorem cut_ints (ns : List Int) (lo hi : Option Int) : ∃ ms : List Int, cutV (ns.map V.int) lo hi = ms.map V.int :=
  ⟨(ns.drop (HT.sIx (ns.map V.int).length 0 lo)).take (HT.sIx (ns.map V.int).length (ns.map V.int).length hi - HT.sIx (ns.map V.int).length 0 lo), by
    unfold cutV
    rw [List.map_take, List.map_drop]⟩
theorem big_ok : (((10 : Int) ^ Int.toNat 60) ^ Int.toNat 5).natAbs < 2 ^ 1000 := by decide +kernel
theorem own_ok (x : Int) (t : Bool) : 0 ≤ x % ((10 ^ Int.toNat 60) ^ Int.toNat 5) * (if t = true then 1 else 0) ∧ (x % ((10 ^ Int.toNat 60) ^ Int.toNat 5) * (if t = true then 1 else 0)).natAbs < 2 ^ 1000 := by
  have h0 : (0 : Int) < (10 ^ Int.toNat 60) ^ Int.toNat 5 := by decide +kernel
  have h1 := Int.emod_nonneg x (Int.ne_of_gt h0)
  have h2 := Int.emod_lt_of_pos x h0
  have h3 := big_ok
  generalize ((10 : Int) ^ Int.toNat 60) ^ Int.toNat 5 = m at *
  cases t with
  | true =>
    rw [if_pos rfl, Int.mul_one]
    exact ⟨h1, by omega⟩
  | false =>
    rw [if_neg (by decide), Int.mul_zero]
    exact ⟨Int.le_refl _, by decide⟩
def sp_law_pot (K : Frag) : Sp := fun vs H Q E => vs.length = 2 ∧ ∃ (F : List (Addr × HO)) (G : List Ft) (a : Addr) (ns : List Int) (i : Int), vs = [.ref a, .int i] ∧ Sy K F (.sq a (ns.map V.int) :: G) H ∧ ns.length ≤ 63 ∧ 0 ≤ i ∧ i ≤ 2 ∧
  ∀ (x y z : Int) (p : Addr) H', PotOk 0 x y z → Sy K ((p, potO x y z) :: F) (.sq a (ns.map V.int) :: G) H' → Q (.ref p) H'
abbrev names_law_pot : List Str := ["script", "place", "cell", "own", "small"]
theorem sc_law_pot : FnScope names_law_pot ["script", "place"] (defScope (top 34)) := ⟨rfl, rfl, rfl, by decide +kernel, rfl, by decide +kernel, by decide +kernel⟩
set_option maxHeartbeats 4000000 in
theorem ok_law_pot (T : Tx K mg) : FG P w K mg base CX0 1 T.a_law_pot T.d_law_pot ["script", "place"] (sp_law_pot K) := by
  refine OB.Fun.fg T.F_law_pot sc_law_pot (fun vs H Q E h => h.1) (fun cdv A out s H vs Q E g h => ?_)
  obtain ⟨_, F, G, a, ns, i, rfl, S, hn, i0, i1, k⟩ := h
  refine ⟨_, (pss_cons (ps_set (i := 2) sc_law_pot.nd rfl (by first | exact Or.inl rfl | exact Or.inr rfl) (pe_ifExp (pt_cmpR op_lt (pv 1) (pe_callB (toK (r := OB.rLen) (K := K) rfl c_len) (by rfl) T.n_len PySem.boot_len (pa_cons (pv 0) pa_nil)) (nomark _)) (pe_ix (ix_UK (K := K) rfl) (pv 0) (pv 1) (fun _ _ => rfl)) (pe_op op_add (pe_op op_add (pe_op op_mod (pe_callB (toK (r := rSum) (K := K) rfl (cr_sum rfl)) (by rfl) T.n_sum (by decide +kernel) (pa_cons (pe_slice (sl_UK (K := K) rfl) (pv 0) po_none (po_some pe_int)) pa_nil)) pe_int) (pe_op op_mul pe_int (pv 1))) pe_int)))
      (pss_cons (ps_set (i := 3) sc_law_pot.nd rfl (by first | exact Or.inl rfl | exact Or.inr rfl) (pe_op op_mul (pe_op op_mod (pe_callTy c_int (by rfl) T.n_int (by decide +kernel) (pa_cons (pe_callB c_abs (by rfl) T.n_abs (by decide +kernel) (pa_cons (pv 2) pa_nil)) pa_nil)) (pe_op op_powX (pe_op op_powX pe_int pe_int) pe_int)) (pe_callTy c_int (by rfl) T.n_int (by decide +kernel) (pa_cons (pe_cmpR op_ge (pe_callB c_abs (by rfl) T.n_abs (by decide +kernel) (pa_cons (pv 2) pa_nil)) (pe_op op_powX pe_int pe_int) (nomark _)) pa_nil))))
      (pss_cons (ps_set (i := 4) sc_law_pot.nd rfl (by first | exact Or.inl rfl | exact Or.inr rfl) (pe_op op_mod (pe_callTy c_int (by rfl) T.n_int (by decide +kernel) (pa_cons (pv 2) pa_nil)) pe_int))
      (pss_one (ps_ret (pe_lst (pa_cons (pv 3) (pa_cons (pe_op op_mod (pe_callTy c_int (by rfl) T.n_int (by decide +kernel) (pa_cons (pe_op op_add (pe_op op_add (pe_op op_mul (pv 4) pe_int) (pe_op op_mul (pe_op op_mul pe_int (pv 1)) (pv 1))) pe_int) pa_nil)) pe_int) (pa_cons pe_int pa_nil))))))))), ?_⟩
  refine g_start (σ := [some _, some _, none, none, none]) rfl ?_
  have hl : (((ns.map V.int).length : Nat) : Int) = ns.length := by rw [List.length_map]
  repeat walk_at "ob"
  refine g_iteD (fun h1 => ?_) (fun h1 => ?_)
  · obtain ⟨c, _, hc⟩ := atI_ints (ns := ns) i0 (by omega)
    repeat walk_at "ob"
    refine g_ixUL (by walk_at "obl") hc ?_
    repeat walk_at "ob"
    refine g_I (show (0 : Int) < _ by decide) ?_
    repeat walk_at "ob"
    rename_i q H2 _ S2
    obtain ⟨w1, w2⟩ := own_ok (if c < 0 then -c else c) (decide ((10 : Int) ^ Int.toNat 18 ≤ (if c < 0 then -c else c)))
    exact k _ _ _ q H2 ⟨w1, w2, by omega, by omega, Int.le_refl _, Int.le_refl _⟩ S2
  · repeat walk_at "ob"
    refine g_slL S (by walk_at "obl") fun l H1 S1 => ?_
    obtain ⟨ms, hms⟩ := cut_ints ns none (some 1)
    rw [hms] at S1
    repeat walk_at "ob"
    refine g_sum (ns := ms) (by walk_at "obl") ?_
    repeat walk_at "ob"
    have S3 := S1.less
    clear S1 S
    generalize ms.sum % 1000003 + 1577 * i + 976 = c
    refine g_I (show (0 : Int) < _ by decide) ?_
    repeat walk_at "ob"
    rename_i q H2 _ S2
    obtain ⟨w1, w2⟩ := own_ok (if c < 0 then -c else c) (decide ((10 : Int) ^ Int.toNat 18 ≤ (if c < 0 then -c else c)))
    exact k _ _ _ q H2 ⟨w1, w2, by omega, by omega, Int.le_refl _, Int.le_refl _⟩ S2
def sp_law_cells (K : Frag) : Sp := fun vs H Q E => vs.length = 2 ∧ ∃ (F : List (Addr × HO)) (G : List Ft) (a : Addr) (ns : List Int) (c : Int), vs = [.ref a, .int c] ∧ Sy K F (.sq a (ns.map V.int) :: G) H ∧ ns.length ≤ 63 ∧ 1 ≤ c ∧ c ≤ 3 ∧
  ∀ (ms : List Int) (p : Addr) H', (∀ m ∈ ms, 0 ≤ m ∧ m ≤ 2) → ms.length ≤ 3 → Sy K ((p, .lst (ms.map V.int)) :: F) (.sq a (ns.map V.int) :: G) H' → Q (.ref p) H'
abbrev names_law_cells : List Str := ["script", "most"]
theorem sc_law_cells : FnScope names_law_cells ["script", "most"] (defScope (top 38)) := ⟨rfl, rfl, rfl, by decide +kernel, rfl, by decide +kernel, by decide +kernel⟩
set_option maxHeartbeats 4000000 in
theorem ok_law_cells (T : Tx K mg) : FG P w K mg base CX0 1 T.a_law_cells T.d_law_cells ["script", "most"] (sp_law_cells K) := by
  refine OB.Fun.fg T.F_law_cells sc_law_cells (fun vs H Q E h => h.1) (fun cdv A out s H vs Q E g h => ?_)
  obtain ⟨_, F, G, a, ns, c, rfl, S, hn, c1, c2, k⟩ := h
  refine ⟨_, (pss_one (ps_ret (pe_listRg rfl (by rfl) T.n_list (prg_1 (by rfl) T.n_range (pe_callB (c_max rfl) (by rfl) T.n_max (by decide +kernel) (pa_cons pe_int (pa_cons (pe_callB (c_min rfl) (by rfl) T.n_min (by decide +kernel) (pa_cons (pv 1) (pa_cons (pe_callB (toK (r := OB.rLen) (K := K) rfl c_len) (by rfl) T.n_len PySem.boot_len (pa_cons (pv 0) pa_nil)) pa_nil))) pa_nil))))))), ?_⟩
  refine g_start (σ := [some _, some _]) rfl ?_
  have hl : (((ns.map V.int).length : Nat) : Int) = ns.length := by rw [List.length_map]
  repeat walk_at "ob"
  generalize hm : (if (if ((ns.map V.int).length : Int) < c then ((ns.map V.int).length : Int) else c) > 1 then (if ((ns.map V.int).length : Int) < c then ((ns.map V.int).length : Int) else c) else 1) = M
  have hM : 0 ≤ M ∧ M ≤ 3 := by
    subst hm
    constructor <;> (repeat' split) <;> omega
  refine g_newRg S ⟨by omega, by omega, by omega, by omega, by omega⟩ fun p H1 S1 => ?_
  rw [rgV0] at S1
  refine k _ p H1 (fun m hm => ?_) (by rw [List.length_map, List.length_range]; omega) S1
  obtain ⟨j, hj, rfl⟩ := List.mem_map.mp hm
  have := List.mem_range.mp hj
  omega
end
end LAW

set_option Elab.async false
set_option linter.all false
set_option maxRecDepth 100000
namespace LAW
open PySem PySem.Spec PyProof.Rows L2 PySem.W OB
/-! the plain law -/
abbrev N : Type := Str × Int
def nK (n : N) : List L2.Key := [.inr n.1, .inl n.2]
def nV (n : N) : List V := [.str n.1, .int n.2]
def nD (n : N) : PyData := .tuple [.str n.1, .int n.2]
theorem nV_eq (n : N) : (nK n).map kV = nV n := rfl
theorem nD_eq (n : N) : kDs (nK n) = nD n := rfl
theorem nK_inj {m n : N} (h : nK m = nK n) : m = n := by
  obtain ⟨a, b⟩ := m
  obtain ⟨c, d⟩ := n
  simp only [nK, List.cons.injEq, Sum.inr.injEq, Sum.inl.injEq, and_true] at h
  exact Prod.ext h.1 h.2
theorem nD_eqv (m n : N) : PyData.eqv (nD m) (nD n) = decide (m = n) := by
  obtain ⟨a, b⟩ := m
  obtain ⟨c, d⟩ := n
  by_cases h1 : a = c <;> by_cases h2 : b = d <;> simp [nD, PyData.eqv, PyData.eqvAll, h1, h2]
/-! ### notes paired -/
structure InvP (notes : List N) (rows : List OB.Row) (left : List Nat) : Prop where
  nd : (rows.map (·.1)).Nodup
  row : ∀ r ∈ rows, ∃ n, r.1 = nK n ∧ r.2.2 = (left.filter fun at_ => decide (notes[at_]? = some n)).map fun i : Nat => (i : Int)
  cov : ∀ at_ ∈ left, ∀ n, notes[at_]? = some n → ∃ r ∈ rows, r.1 = nK n
theorem nodup_cast {l : List Nat} (h : l.Nodup) : (l.map fun i : Nat => (i : Int)).Nodup := List.Pairwise.map _ (fun a b (e : a ≠ b) => by omega) h
theorem InvP.nil {notes : List N} : InvP notes [] [] := ⟨List.nodup_nil, fun _ h => (nomatch h), fun _ h => (nomatch h)⟩
theorem nodup_set {rows : List OB.Row} {j : Nat} {k : List L2.Key} {p q : Addr} {l m : List Int} (h : rows[j]? = some (k, p, l)) : (rows.set j (k, q, m)).map (·.1) = rows.map (·.1) := by
  rw [List.map_set]
  refine List.ext_getElem? fun i => ?_
  by_cases c : j = i
  · subst c
    rw [List.getElem?_set_self (by rw [List.length_map]; exact (List.getElem?_eq_some_iff.mp h).1), List.getElem?_map, h]
    rfl
  · rw [List.getElem?_set_ne c]
theorem row_uniq {rows : List OB.Row} (nd : (rows.map (·.1)).Nodup) {i j : Nat} {r s : OB.Row} (hi : rows[i]? = some r) (hj : rows[j]? = some s) (e : r.1 = s.1) : i = j := by
  have h1 : (rows.map (·.1))[i]? = some r.1 := by rw [List.getElem?_map, hi]; rfl
  have h2 : (rows.map (·.1))[j]? = some r.1 := by rw [List.getElem?_map, hj, e]; rfl
  have l1 := (List.getElem?_eq_some_iff.mp h1).1
  exact (List.getElem?_inj l1 nd).mp (h1.trans h2.symm)
theorem mem_set_row {rows : List OB.Row} {j : Nat} {x r : OB.Row} (h : r ∈ rows.set j x) : r = x ∨ ∃ i, i ≠ j ∧ rows[i]? = some r := by
  obtain ⟨i, hi⟩ := List.mem_iff_getElem?.mp h
  by_cases c : j = i
  · subst c
    rw [List.getElem?_set] at hi
    rw [if_pos rfl] at hi
    split at hi
    · exact .inl (Option.some.inj hi).symm
    · cases hi
  · rw [List.getElem?_set_ne c] at hi
    exact .inr ⟨i, fun e => c e.symm, hi⟩
/-- a number more of a note that has a row -/
theorem InvP.more {notes : List N} {rows : List OB.Row} {i j : Nat} {n : N} {p : Addr} {l : List Int} (I : InvP notes rows (List.range i)) (hn : notes[i]? = some n) (hj : rows[j]? = some (nK n, p, l)) : InvP notes (rows.set j (nK n, p, l ++ [(i : Int)])) (List.range (i + 1)) := by
  refine ⟨by rw [nodup_set hj]; exact I.nd, fun r hr => ?_, fun at_ ha m hm => ?_⟩
  · rcases mem_set_row hr with rfl | ⟨k, hk, hr⟩
    · obtain ⟨m, e1, e2⟩ := I.row _ (List.mem_of_getElem? hj)
      cases nK_inj e1
      refine ⟨n, rfl, ?_⟩
      rw [List.range_succ, List.filter_append, List.map_append, ← e2]
      simp [hn]
    · obtain ⟨m, e1, e2⟩ := I.row _ (List.mem_of_getElem? hr)
      refine ⟨m, e1, ?_⟩
      have hne : notes[i]? ≠ some m := fun e => by
        rw [hn] at e
        cases e
        exact hk (row_uniq I.nd hr hj e1)
      rw [List.range_succ, List.filter_append, List.map_append, ← e2]
      simp [hne]
  · rw [List.range_succ] at ha
    rcases List.mem_append.mp ha with ha | ha
    · obtain ⟨r, hr, e⟩ := I.cov at_ ha m hm
      have : m ∈ rows.map (fun r => m) := List.mem_map.mpr ⟨r, hr, rfl⟩
      have h3 : nK m ∈ (rows.set j (nK n, p, l ++ [(i : Int)])).map (·.1) := by rw [nodup_set hj, ← e]; exact List.mem_map.mpr ⟨r, hr, rfl⟩
      obtain ⟨r2, hr2, e2⟩ := List.mem_map.mp h3
      exact ⟨r2, hr2, e2⟩
    · rw [List.mem_singleton.mp ha, hn] at hm
      cases hm
      exact ⟨_, List.mem_set (List.getElem?_eq_some_iff.mp hj).1 _, rfl⟩
/-- a note that has no row yet -/
theorem InvP.new {notes : List N} {rows : List OB.Row} {i : Nat} {n : N} {q : Addr} (I : InvP notes rows (List.range i)) (hn : notes[i]? = some n) (hj : ∀ r ∈ rows, r.1 ≠ nK n) : InvP notes (rows ++ [(nK n, q, [(i : Int)])]) (List.range (i + 1)) := by
  have no : ∀ at_ ∈ List.range i, notes[at_]? ≠ some n := fun at_ ha e => by
    obtain ⟨r, hr, er⟩ := I.cov at_ ha n e
    exact hj r hr er
  refine ⟨?_, fun r hr => ?_, fun at_ ha m hm => ?_⟩
  · rw [List.map_append, List.nodup_append]
    refine ⟨I.nd, by simp, fun a ha b hb => ?_⟩
    obtain ⟨r, hr, rfl⟩ := List.mem_map.mp ha
    have e : b = nK n := by simpa using hb
    rw [e]
    exact hj r hr
  · rcases List.mem_append.mp hr with hr | hr
    · obtain ⟨m, e1, e2⟩ := I.row _ hr
      refine ⟨m, e1, ?_⟩
      have hne : notes[i]? ≠ some m := fun e => by
        rw [hn] at e
        cases e
        exact hj r hr e1
      rw [List.range_succ, List.filter_append, List.map_append, ← e2]
      simp [hne]
    · rw [List.mem_singleton.mp hr]
      refine ⟨n, rfl, ?_⟩
      rw [List.range_succ, List.filter_append, List.filter_eq_nil_iff.mpr fun a ha => by simpa using no a ha]
      simp [hn]
  · rw [List.range_succ] at ha
    rcases List.mem_append.mp ha with ha | ha
    · obtain ⟨r, hr, e⟩ := I.cov at_ ha m hm
      exact ⟨r, List.mem_append_left _ hr, e⟩
    · rw [List.mem_singleton.mp ha, hn] at hm
      cases hm
      exact ⟨_, List.mem_append_right _ (List.mem_singleton.mpr rfl), rfl⟩
/-- how the law finds the partner of a note -/
def partF (notes : List N) (left : List Nat) (n : N) : List Nat := left.filter fun at_ => decide (notes[at_]? = some n)
/-- a partner is taken -/
theorem InvP.pop {notes : List N} {rows : List OB.Row} {left : List Nat} {j x : Nat} {xs : List Nat} {n : N} {p : Addr} {l : List Int} (hl : left.Nodup) (I : InvP notes rows left) (hj : rows[j]? = some (nK n, p, l)) (hp : partF notes left n = x :: xs) :
    l = (x :: xs).map (fun i : Nat => (i : Int)) ∧ InvP notes (rows.set j (nK n, p, xs.map fun i : Nat => (i : Int))) (left.erase x) := by
  obtain ⟨m, e1, e2⟩ := I.row _ (List.mem_of_getElem? hj)
  cases nK_inj e1
  have hx : x ∈ left ∧ notes[x]? = some n := by
    have : x ∈ partF notes left n := by rw [hp]; exact List.mem_cons_self ..
    simpa [partF] using this
  have e3 : l = (partF notes left n).map fun i : Nat => (i : Int) := e2
  refine ⟨by rw [e3, hp], by rw [nodup_set hj]; exact I.nd, fun r hr => ?_, fun at_ ha m hm => ?_⟩
  · have er : left.erase x = left.filter (· != x) := hl.erase_eq_filter x
    rcases mem_set_row hr with rfl | ⟨k, hk, hr⟩
    · refine ⟨n, rfl, ?_⟩
      congr 1
      have h2 : (partF notes left n).erase x = xs := by rw [hp]; simp
      have h3 : (partF notes left n).erase x = (partF notes left n).filter (· != x) := List.Nodup.erase_eq_filter (hl.filter _) x
      rw [← h2, h3, er]
      unfold partF
      rw [List.filter_filter, List.filter_filter]
      show (left.filter fun a => a != x && decide (notes[a]? = some n)).map (fun i : Nat => (i : Int)) = _
      congr 1
      refine List.filter_congr fun a _ => ?_
      rw [Bool.and_comm]
    · obtain ⟨m, e4, e5⟩ := I.row _ (List.mem_of_getElem? hr)
      refine ⟨m, e4, ?_⟩
      rw [e5, er, List.filter_filter]
      congr 1
      refine List.filter_congr fun a ha => ?_
      by_cases c : notes[a]? = some m
      · have : a ≠ x := fun e => by
          rw [e, hx.2] at c
          cases c
          exact hk (row_uniq I.nd hr hj e4)
        simp [c, this]
      · simp [c]
  · obtain ⟨r, hr, e⟩ := I.cov at_ (List.mem_of_mem_erase ha) m hm
    have h3 : nK m ∈ (rows.set j (nK n, p, xs.map fun i : Nat => (i : Int))).map (·.1) := by rw [nodup_set hj, ← e]; exact List.mem_map.mpr ⟨r, hr, rfl⟩
    obtain ⟨r2, hr2, e2⟩ := List.mem_map.mp h3
    exact ⟨r2, hr2, e2⟩
theorem InvP.none {notes : List N} {rows : List OB.Row} {left : List Nat} {n : N} (I : InvP notes rows left) (hj : ∀ r ∈ rows, r.1 ≠ nK n) : partF notes left n = [] := by
  refine List.filter_eq_nil_iff.mpr fun a ha e => ?_
  obtain ⟨r, hr, er⟩ := I.cov a ha n (by simpa using e)
  exact hj r hr er
theorem InvP.row_eq {notes : List N} {rows : List OB.Row} {left : List Nat} {n : N} {j : Nat} {p : Addr} {l : List Int} (I : InvP notes rows left) (hj : rows[j]? = some (nK n, p, l)) : l = (partF notes left n).map fun i : Nat => (i : Int) := by
  obtain ⟨m, e1, e2⟩ := I.row _ (List.mem_of_getElem? hj)
  cases nK_inj e1
  exact e2
/-- all that is left, in order -/
theorem InvP.all {notes : List N} {rows : List OB.Row} {left : List Nat} (I : InvP notes rows left) (hb : ∀ a ∈ left, a < notes.length) (ha : left.Pairwise (· < ·)) : (rows.flatMap fun r => r.2.2).mergeSort (fun a b => decide (a ≤ b)) = left.map fun i : Nat => (i : Int) := by
  have nl : left.Nodup := ha.imp (fun h => Nat.ne_of_lt h)
  have key : (rows.flatMap fun r => r.2.2).Perm (left.map fun i : Nat => (i : Int)) := by
    refine (List.perm_ext_iff_of_nodup ?_ (nodup_cast nl)).mpr fun z => ?_
    · have h1 : ∀ rs : List OB.Row, (∀ r ∈ rs, r ∈ rows) → (rs.map (·.1)).Nodup → (rs.flatMap fun r => r.2.2).Nodup := fun rs => by
        induction rs with
        | nil => intro _ _; exact List.nodup_nil
        | cons r rs ih =>
          intro hm nd
          rw [List.map_cons, List.nodup_cons] at nd
          rw [List.flatMap_cons, List.nodup_append]
          obtain ⟨n, e1, e2⟩ := I.row r (hm r (List.mem_cons_self ..))
          refine ⟨?_, ih (fun s hs => hm s (List.mem_cons_of_mem _ hs)) nd.2, fun a ha b hb e => ?_⟩
          · rw [e2]
            exact nodup_cast (nl.filter _)
          · subst e
            obtain ⟨s, hs, hs2⟩ := List.mem_flatMap.mp hb
            obtain ⟨m, e3, e4⟩ := I.row s (hm s (List.mem_cons_of_mem _ hs))
            rw [e2] at ha
            rw [e4] at hs2
            obtain ⟨i, hi, rfl⟩ := List.mem_map.mp ha
            obtain ⟨k, hk, e5⟩ := List.mem_map.mp hs2
            have e6 : k = i := by omega
            subst e6
            have a1 : notes[k]? = some n := by simpa using (List.mem_filter.mp hi).2
            have a2 : notes[k]? = some m := by simpa using (List.mem_filter.mp hk).2
            rw [a1] at a2
            cases a2
            exact nd.1 (by rw [e1, ← e3]; exact List.mem_map.mpr ⟨s, hs, rfl⟩)
      exact h1 rows (fun _ h => h) I.nd
    · constructor
      · intro hz
        obtain ⟨r, hr, hz⟩ := List.mem_flatMap.mp hz
        obtain ⟨n, e1, e2⟩ := I.row r hr
        rw [e2] at hz
        obtain ⟨i, hi, rfl⟩ := List.mem_map.mp hz
        exact List.mem_map.mpr ⟨i, (List.mem_filter.mp hi).1, rfl⟩
      · intro hz
        obtain ⟨i, hi, rfl⟩ := List.mem_map.mp hz
        have hlt := hb i hi
        have hn : notes[i]? = some notes[i] := List.getElem?_eq_getElem hlt
        obtain ⟨r, hr, e⟩ := I.cov i hi _ hn
        obtain ⟨n, e1, e2⟩ := I.row r hr
        cases nK_inj (e.symm.trans e1)
        refine List.mem_flatMap.mpr ⟨r, hr, ?_⟩
        rw [e2]
        exact List.mem_map.mpr ⟨i, List.mem_filter.mpr ⟨hi, by simp [hn]⟩, rfl⟩
  refine List.Perm.eq_of_pairwise (le := fun a b => (a : Int) ≤ b) (fun a b _ _ h1 h2 => Int.le_antisymm h1 h2) ?_ ?_ ((List.mergeSort_perm _ _).trans key)
  · have := List.pairwise_mergeSort (le := fun a b : Int => decide (a ≤ b)) (fun a b c h1 h2 => by simp at h1 h2 ⊢; omega) (fun a b => by simp; omega) (rows.flatMap fun r => r.2.2)
    exact this.imp fun h => by simpa using h
  · exact List.Pairwise.map _ (fun a b h => by omega) ha
/-- numbers paired, numbers without partner, what is left -/
abbrev PR : Type := List (Nat × Nat) × List Nat × List Nat
def pairS (other : List N) (s : PR) (i : Nat) (n : N) : PR := match partF other s.2.2 n with
  | [] => (s.1, s.2.1 ++ [i], s.2.2)
  | x :: _ => (s.1 ++ [(i, x)], s.2.1, s.2.2.erase x)
def pairG (other one : List N) : Nat → PR
  | 0 => ([], [], List.range other.length)
  | i + 1 => match one[i]? with
    | some n => pairS other (pairG other one i) i n
    | none => pairG other one i
def pairF (one other : List N) : PR := pairG other one one.length
theorem pairG_left {other one : List N} : ∀ i, (pairG other one i).2.2.Pairwise (· < ·) ∧ ∀ a ∈ (pairG other one i).2.2, a < other.length
  | 0 => ⟨List.pairwise_lt_range, fun a ha => List.mem_range.mp ha⟩
  | i + 1 => by
    obtain ⟨h1, h2⟩ := pairG_left (other := other) (one := one) i
    unfold pairG
    split
    · unfold pairS
      split
      · exact ⟨h1, h2⟩
      · rename_i x xs _
        exact ⟨h1.sublist (List.erase_sublist ..), fun a ha => h2 a (List.mem_of_mem_erase ha)⟩
    · exact ⟨h1, h2⟩
theorem pairG_llen {other one : List N} : ∀ i, (pairG other one i).2.2.length ≤ other.length
  | 0 => by show (List.range other.length).length ≤ _; rw [List.length_range]; exact Nat.le_refl _
  | i + 1 => by
    have ih := pairG_llen (other := other) (one := one) i
    unfold pairG
    split
    · unfold pairS
      split
      · exact ih
      · exact Nat.le_trans (List.erase_sublist ..).length_le ih
    · exact ih
theorem pairG_mine {other one : List N} : ∀ i, ∀ a ∈ (pairG other one i).2.1, a < one.length
  | 0 => fun _ h => (nomatch h)
  | i + 1 => fun a ha => by
    have ih := pairG_mine (other := other) (one := one) i
    unfold pairG at ha
    split at ha
    · rename_i n hn
      have hi := (List.getElem?_eq_some_iff.mp hn).1
      unfold pairS at ha
      split at ha
      · rcases List.mem_append.mp ha with ha | ha
        · exact ih a ha
        · rw [List.mem_singleton.mp ha]
          exact hi
      · exact ih a ha
    · exact ih a ha
theorem pairG_len {other one : List N} : ∀ i, (pairG other one i).1.length + (pairG other one i).2.1.length ≤ i
  | 0 => Nat.le_refl _
  | i + 1 => by
    have ih := pairG_len (other := other) (one := one) i
    unfold pairG
    split
    · unfold pairS
      split
      · simp only [List.length_append, List.length_singleton]
        omega
      · simp only [List.length_append, List.length_singleton]
        omega
    · omega
theorem pairG_pairs {other one : List N} : ∀ i, ∀ q ∈ (pairG other one i).1, q.1 < i ∧ q.2 < other.length
  | 0 => fun _ h => (nomatch h)
  | i + 1 => fun q hq => by
    have ih := pairG_pairs (other := other) (one := one) i
    have hl := (pairG_left (other := other) (one := one) i).2
    unfold pairG at hq
    split at hq
    · rename_i n hn
      unfold pairS at hq
      split at hq
      · have := ih q hq
        omega
      · rename_i x xs hp
        rcases List.mem_append.mp hq with hq | hq
        · have := ih q hq
          omega
        · rw [List.mem_singleton.mp hq]
          have hx : x ∈ partF other (pairG other one i).2.2 n := by rw [hp]; exact List.mem_cons_self ..
          exact ⟨Nat.lt_succ_self i, hl x (List.mem_filter.mp hx).1⟩
    · have := ih q hq
      omega
end LAW

set_option Elab.async false
set_option linter.all false
set_option maxRecDepth 100000
namespace LAW
open PySem PySem.Spec PyProof.Rows L2 PySem.W OB
local macro_rules | `(tactic| walk_at "obc") => `(tactic| first
  | exact Or.inl ⟨by omega, by omega⟩
  | exact Or.inr ⟨by omega, by omega⟩
  | exact cdiv_ok (by omega) (by omega)
  | (show (0 : Int) < _; omega)
  | exact ⟨by omega, by decide⟩
  | exact ⟨by decide, by decide⟩)
local macro_rules | `(tactic| walk_at "obat") => `(tactic| first
  | exact Sy.at (by assumption) 0 rfl | exact Sy.at (by assumption) 1 rfl | exact Sy.at (by assumption) 2 rfl | exact Sy.at (by assumption) 3 rfl
  | exact Sy.at (by assumption) 4 rfl | exact Sy.at (by assumption) 5 rfl | exact Sy.at (by assumption) 6 rfl | exact Sy.at (by assumption) _ (by assumption) | exact Sy.at (by assumption) (_ + 1) (by assumption) | exact Sy.at (by assumption) (_ + 2) (by assumption))
local macro_rules | `(tactic| walk_at "obt") => `(tactic| first
  | exact Sy.tqs (by assumption) 0 rfl | exact Sy.tqs (by assumption) 1 rfl | exact Sy.tqs (by assumption) 2 rfl | exact Sy.tqs (by assumption) 3 rfl | exact Sy.tqs (by assumption) 4 rfl | exact Sy.tqs (by assumption) 5 rfl
  | exact Sy.tqs (by assumption) 6 rfl | exact Sy.tqs (by assumption) 7 rfl | assumption)
local macro_rules | `(tactic| walk_at "obl") => `(tactic| first
  | exact SqL.of (by walk_at "obat")
  | exact Sy.sq (by assumption) 0 rfl | exact Sy.sq (by assumption) 1 rfl | exact Sy.sq (by assumption) 2 rfl | exact Sy.sq (by assumption) 3 rfl | exact Sy.sq (by assumption) _ (by assumption))
local macro_rules | `(tactic| walk_at "obd") => `(tactic| first
  | exact Dp.int _ | exact Dp.bl _ | exact Dp.str _ | exact Dp.non
  | exact Sy.dp (by assumption) 0 rfl | exact Sy.dp (by assumption) 1 rfl | exact Sy.dp (by assumption) 2 rfl | exact Sy.dp (by assumption) 3 rfl
  | exact Sy.dp (by assumption) 4 rfl | exact Sy.dp (by assumption) 5 rfl | exact Sy.dp (by assumption) 6 rfl | exact Sy.dp (by assumption) 7 rfl
  | exact Sy.dp (by assumption) 8 rfl | exact Sy.dp (by assumption) 9 rfl | exact Sy.dp (by assumption) _ (by assumption) | assumption)
local macro_rules | `(tactic| walk_at "obds") => `(tactic| first
  | exact DpAll.nil
  | (refine' DpAll.cons ?ob1 ?ob2; (case ob1 => walk_at "obd"); (case ob2 => walk_at "obds"))
  | exact Sy.dps (by assumption) 0 rfl | exact Sy.dps (by assumption) 1 rfl | exact Sy.dps (by assumption) 2 rfl | exact Sy.dps (by assumption) 3 rfl | assumption)
local macro_rules | `(tactic| walk_at "obsc") => `(tactic| first
  | exact ScL.nil
  | ((first | refine' ScL.int ?obz | refine' ScL.str ?obz | refine' ScL.bl ?obz | refine' ScL.non ?obz); (case obz => walk_at "obsc")))
local macro_rules | `(tactic| walk_at "ob1") => `(tactic| first
  | ((with_reducible refine' g_var ?obh ?_); (case obh => rfl))
  | with_reducible refine g_c ?_
  | with_reducible refine g_nx ?_
  | with_reducible refine g_rt ?_
  | with_reducible refine g_bk ?_
  | with_reducible refine g_ct ?_
  | with_reducible refine g_op ?_
  | with_reducible refine g_I0 ?_
  | with_reducible refine g_test ?_
  | with_reducible refine g_bl ?_
  | with_reducible refine g_blx ?_
  | with_reducible refine g_B ?_
  | with_reducible refine g_seq ?_
  | with_reducible refine g_asg ?_
  | with_reducible refine g_name ?_
  | with_reducible refine g_ifS ?_
  | with_reducible refine g_ret ?_
  | with_reducible refine g_cb ?_
  | with_reducible refine g_cons ?_
  | with_reducible refine g_nil ?_
  | with_reducible refine g_int ?_
  | with_reducible refine g_intB ?_
  | with_reducible refine g_abs ?_
  | with_reducible refine g_max ?_
  | with_reducible refine g_min ?_
  | with_reducible refine g_un ?_
  | with_reducible refine g_U ?_
  | with_reducible refine g_eqI ?_
  | with_reducible refine g_neI ?_
  | with_reducible refine g_eqS ?_
  | with_reducible refine g_neS ?_
  | with_reducible refine g_tt ?_
  | with_reducible refine g_ff ?_
  | with_reducible refine g_next ?_
  | with_reducible refine g_drop ?_
  | with_reducible refine g_if ?_
  | with_reducible refine g_andV ?_
  | with_reducible refine g_orV ?_
  | with_reducible refine g_notV ?_
  | with_reducible refine g_and ?_
  | with_reducible refine g_or ?_
  | with_reducible refine g_not ?_
  | with_reducible refine g_yes ?_
  | with_reducible refine g_chain ?_
  | with_reducible refine g_cg ?_
  | with_reducible refine g_mg ?_
  | with_reducible refine g_kg ?_
  | with_reducible refine g_pg ?_
  | ((with_reducible refine' g_call ?obh ?obj ?_); (case obh => rfl); (case obj => rfl))
  | with_reducible refine g_par ?_
  | with_reducible refine g_par2 ?_
  | with_reducible refine g_par3 ?_
  | with_reducible refine g_par33 ?_
  | with_reducible refine g_gnil ?_
  | with_reducible refine g_gcons ?_
  | with_reducible refine g_gsub ?_
  | with_reducible refine g_ipI ?_
  | with_reducible refine g_rAdd ?_
  | with_reducible refine g_rSub ?_
  | ((with_reducible refine' g_aug ?obh ?_); (case obh => rfl))
  | with_reducible refine g_tup ?_
  | with_reducible refine g_lst ?_
  | with_reducible refine g_bm ?_
  | with_reducible refine g_bm0 ?_
  | with_reducible refine g_sl ?_
  | with_reducible refine g_nopart ?_
  | with_reducible refine g_part ?_
  | with_reducible refine g_pint ?_
  | with_reducible refine isi_int ?_
  | with_reducible refine isi_intB ?_
  | ((with_reducible refine' g_I ?obh ?_); (case obh => walk_at "obc"))
  | ((with_reducible refine' g_tyl ?obh ?_); (case obh => walk_at "obl"))
  | ((with_reducible refine' g_lenL ?obh ?_); (case obh => walk_at "obl"))
  | with_reducible refine g_ne ?_
  | ((with_reducible refine' g_neN' ?obh ?_); (case obh => rfl))
  | with_reducible refine g_ntt ?_
  | with_reducible refine g_nff ?_
  | with_reducible refine g_star ?_
  | with_reducible refine g_att ?_
  | with_reducible refine g_sfld ?_
  | with_reducible refine g_faug ?_
  | with_reducible refine g_fld ?_
  | ((with_reducible refine' g_nF ?obh ?_); (case obh => omega))
  | ((with_reducible refine' g_nT ?obh ?_); (case obh => omega))
  | ((with_reducible refine' g_TD ?obh ?_); (case obh => omega))
  | ((with_reducible refine' g_FD ?obh ?_); (case obh => omega))
  | ((with_reducible refine' g_ixUL ?obh ?obi ?_); (case obh => walk_at "obl"); (case obi => exact atI_nn (by omega) (by rfl)))
  | ((with_reducible refine' g_setLS ?obs ?obh ?obi ?_); (case obs => assumption); (case obh => assumption); (case obi => rfl); intro _ _ _)
  | ((with_reducible refine' g_newT ?obs ?obh ?obi ?obj ?_); (case obs => assumption); (case obh => walk_at "obds"); (case obi => rfl); (case obj => exact Nat.le_of_ble_eq_true rfl); intro _ _ _ _)
  | ((with_reducible refine' g_newL ?obs ?obj ?_); (case obs => assumption); (case obj => exact Nat.le_of_ble_eq_true rfl); intro _ _ _ _)
  | ((with_reducible refine' isi_tup ?obh ?_); (case obh => walk_at "obt"))
  | ((with_reducible refine' g_lenT ?obh ?_); (case obh => walk_at "obt"))
  | ((with_reducible refine' g_unpT ?obh ?obi ?_); (case obh => walk_at "obt"); (case obi => rfl))
  | ((with_reducible refine' g_divmod ?obs ?obh ?_); (case obs => assumption); (case obh => exact cdivp_ok (by omega) (by omega) (by omega)); intro _ _ _ _)
  | ((with_reducible refine' g_unpD ?obh ?obi ?obj ?_); (case obh => walk_at "obd"); (case obi => walk_at "obsc"); (case obj => rfl))
  | with_reducible refine g_att ?_)
local macro_rules | `(tactic| walk_at "ob") => `(tactic| first
  | walk_at "ob1"
  | refine use_is_integer ?_
  | refine use_is_within ?_
  | with_reducible refine g_lstRg ?_
  | with_reducible refine g_rg1 ?_
  | with_reducible refine g_rg2 ?_
  | with_reducible refine g_tTru ?_
  | ((with_reducible refine' g_truL ?obh ?_); (case obh => walk_at "obl"))
  | ((with_reducible refine' g_ixUT ?obh ?obi ?_); (case obh => walk_at "obt"); (case obi => rfl))
  | with_reducible refine g_forZ ?_
  | with_reducible refine g_forR2 ?_
  | with_reducible refine g_forE ?_
  | with_reducible refine g_lcZ ?_)
section
variable {P : Program} {w : World} {K : Frag} {mg : Str → Option Value} {base : Heap}
theorem isi_strT {H : Hp} {Q : VK} {z : Str} (k : Q (.bl true) H) : rIsi K [.str z, .ty "str"] H Q := ⟨_, _, _, _, true, rfl, .ty "str", .base (.str z), kit_ty (by decide +kernel), k⟩
def rLnS : List V → Hp → VK → Prop := fun xs H Q => ∃ z, xs = [.str z] ∧ z.length ≤ sizeLine ∧ Q (.int z.length) H
theorem c_lenS {X : Cx} : CallR X (.builtin "len") rLnS := call_len_str
theorem g_lnS {H : Hp} {Q : VK} {l : List Nat} (h : l.length ≤ 100000) (k : Q (.int (l.length : Nat)) H) : rLnS [.str (tx l)] H Q := ⟨tx l, rfl, by rw [tx_len]; exact Nat.le_trans h (by decide), by rw [tx_len]; exact k⟩
/-- a word of notes -/
def WOk (l : List Nat) : Prop := 1 ≤ l.length ∧ l.length ≤ 12 ∧ ∀ c ∈ l, 97 ≤ c ∧ c ≤ 122
/-- a note that may stand -/
def NOk (n : N) : Prop := WOk n.1.cps.toList ∧ n.2 ≠ 0 ∧ -1000000000000 ≤ n.2 ∧ n.2 ≤ 1000000000000
theorem in_letters {c : Nat} (h0 : 97 ≤ c) (h1 : c ≤ 122) : decide (c ∈ ("abcdefghijklmnopqrstuvwxyz" : Str).cps.toList) = true := by
  have : ∀ d, d < 26 → decide ((97 + d) ∈ ("abcdefghijklmnopqrstuvwxyz" : Str).cps.toList) = true := by decide +kernel
  have h := this (c - 97) (by omega)
  rw [show 97 + (c - 97) = c by omega] at h
  exact h
def sp_is_note_word (K : Frag) : Sp := fun vs H Q E => vs.length = 1 ∧ ∃ (F : List (Addr × HO)) (G : List Ft) (l : List Nat), vs = [.str (tx l)] ∧ Sy K F G H ∧ WOk l ∧ ∀ H', Sy K F G H' → Q (.bl true) H'
abbrev names_is_note_word : List Str := ["value", "letter"]
theorem sc_is_note_word : FnScope names_is_note_word ["value"] (defScope (top 19)) := ⟨rfl, rfl, rfl, by decide +kernel, rfl, by decide +kernel, by decide +kernel⟩
set_option maxHeartbeats 4000000 in
theorem ok_is_note_word (T : Tx K mg) : FG P w K mg base CX0 1 T.a_is_note_word T.d_is_note_word ["value"] (sp_is_note_word K) := by
  refine OB.Fun.fg T.F_is_note_word sc_is_note_word (fun vs H Q E h => h.1) (fun cdv A out s H vs Q E g h => ?_)
  obtain ⟨_, F, G, l, rfl, S, ⟨l1, l2, lc⟩, k⟩ := h
  refine ⟨_, (pss_cons (ps_if (PW.pt (pw_or (pt_not (pt_val (pe_callB (toK (r := rIsi) (K := K) rfl call_isi) (by rfl) T.n_isinstance (by decide +kernel) (pa_cons (pv 0) (pa_cons (pe_bltn (v := .ty "str") (by rfl) T.n_str (by decide +kernel) rfl) pa_nil))))) (pw_or1 (pt_not (pt_chain op_le op_le pe_int (pe_callB c_lenS (by rfl) T.n_len PySem.boot_len (pa_cons (pv 0) pa_nil)) (pe_glob (v := .int 12) (by rfl) T.g_MOST_LETTERS ⟨_, rfl⟩)))))) (pss_one (ps_ret pe_bl)) pss_nil)
      (pss_one (ps_ret (pe_callB (toK (r := rAll) (K := K) rfl (cr_all rfl)) (by rfl) T.n_all (by decide +kernel) (pa_cons (pe_lc (own := [("letter", 1)]) (tt := tYes) rfl sc_is_note_word.nd (pi_str (pv 0)) (blkOk_by (N := names_is_note_word) (sc := defScope (top 19)) (own := [("letter", 1)]) (by decide +kernel)) (fun _ _ _ _ _ => (pg_name (i := 1) sc_is_note_word.nd rfl (by first | exact Or.inl rfl | exact Or.inr rfl))) (fun _ _ _ _ _ => pts_nil) (fun _ _ _ _ _ => (pe_cmpR op_inS (pv 1) (pe_glob (v := .str "abcdefghijklmnopqrstuvwxyz") (by rfl) T.g_LETTERS ⟨_, rfl⟩) (by rfl)))) pa_nil))))), ?_⟩
  refine g_start (σ := [some _, none]) rfl ?_
  have hl : (tx l).length = l.length := tx_len l
  repeat walk_at "ob"
  refine isi_strT ?_
  repeat walk_at "ob"
  refine g_lnS (by omega) ?_
  repeat walk_at "ob"
  refine g_lcStr (l := l) (fun i F' ds => F' = F ∧ ds = List.replicate i (.bool true) ∧ i ≤ l.length) S (fun Q' q => by repeat walk_at "ob"; exact q) ⟨rfl, rfl, Nat.zero_le _⟩ (fun i F' ds hi => by
      rw [hi.2.1, List.length_replicate]
      omega) ?_ ?_
  · intro i c hc Dp H2 F2 vs ds QE QR hi S3 kE kR
    obtain ⟨rfl, rfl, hi2⟩ := hi
    obtain ⟨c0, c1⟩ := lc c (List.mem_of_getElem? hc)
    have hi3 := (List.getElem?_eq_some_iff.mp hc).1
    repeat walk_at "ob"
    refine ⟨rfl, ?_⟩
    repeat walk_at "ob"
    refine ⟨c, _, rfl, rfl, ?_⟩
    rw [in_letters c0 c1]
    exact kE _ (.bool true) _ _ ⟨rfl, by rw [List.replicate_succ'], hi3⟩ (S3.fact (dps_one (L2.Dp.bl true)) rfl)
  · rintro Dp H2 F2 vs ds hD ⟨rfl, rfl, _⟩ S3
    have hv : vs = (List.replicate l.length true).map V.bl := by
      rw [dps_scal (S3.dps 0 rfl) fun d hd => by rw [(List.mem_replicate.mp hd).2]; rfl, List.map_replicate, List.map_replicate]
      rfl
    subst hv
    repeat walk_at "ob"
    refine g_all (by walk_at "obl") ?_
    have e : ((List.replicate l.length true).all id) = true := List.all_eq_true.mpr fun b hb => (List.mem_replicate.mp hb).2
    rw [e]
    exact k _ S3.drop.less
theorem nok_amount {n : N} (h : NOk n) : decide (-1000000000000 ≤ n.2 ∧ n.2 ≤ 1000000000000) = true := decide_eq_true ⟨h.2.2.1, h.2.2.2⟩
def sp_is_note_amount (K : Frag) : Sp := fun vs H Q E => vs.length = 1 ∧ ∃ (a : Int), vs = [.int a] ∧ a ≠ 0 ∧ -1000000000000 ≤ a ∧ a ≤ 1000000000000 ∧ Q (.bl true) H
abbrev names_is_note_amount : List Str := ["value"]
theorem sc_is_note_amount : FnScope names_is_note_amount ["value"] (defScope (top 20)) := ⟨rfl, rfl, rfl, by decide +kernel, rfl, by decide +kernel, by decide +kernel⟩
set_option maxHeartbeats 4000000 in
theorem ok_is_note_amount (T : Tx K mg) : FG P w K mg base CX0 3 T.a_is_note_amount T.d_is_note_amount ["value"] (sp_is_note_amount K) := by
  refine OB.Fun.fg T.F_is_note_amount sc_is_note_amount (fun vs H Q E h => h.1) (fun cdv A out s H vs Q E g h => ?_)
  obtain ⟨_, a, rfl, a0, a1, a2, k⟩ := h
  refine ⟨_, (pss_one (ps_ret (pe_and (pe_cg (ok_is_within T) (g.mono (by decide : 2 ≤ 2)) (by rfl) T.m_is_within T.F_is_within.kp (OB.Fun.bd T.F_is_within (ps := ["value", "least", "most"]) (n := 3) (ks := []) (ix := [0, 1, 2]) (fun _ _ _ _ _ _ us ws h1 h2 => match us, ws, h1, h2 with | [_, _, _], [], _, _ => rfl)) pass0 (pa_cons (pv 0) (pa_cons (pe_un un_neg (pe_glob (v := .int 1000000000000) (by rfl) T.g_MOST_AMOUNT ⟨_, rfl⟩)) (pa_cons (pe_glob (v := .int 1000000000000) (by rfl) T.g_MOST_AMOUNT ⟨_, rfl⟩) pa_nil))) pk_nil) (pe_one (pe_cmpR op_ne (pv 0) pe_int (nomark _)))))), ?_⟩
  refine g_start (σ := [some _]) rfl ?_
  repeat walk_at "ob"
  rw [decide_eq_true a0]
  exact k
theorem use_amount {a : Int} {H : Hp} {Q : VK} {E : XK} (a0 : a ≠ 0) (a1 : -1000000000000 ≤ a) (a2 : a ≤ 1000000000000) (k : Q (.bl true) H) : sp_is_note_amount K [.int a] H Q E := ⟨rfl, a, rfl, a0, a1, a2, k⟩
def sp_check_amount (K : Frag) : Sp := fun vs H Q E => vs.length = 1 ∧ ∃ (a : Int), vs = [.int a] ∧ a ≠ 0 ∧ -1000000000000 ≤ a ∧ a ≤ 1000000000000 ∧ Q .non H
abbrev names_check_amount : List Str := ["amount"]
theorem sc_check_amount : FnScope names_check_amount ["amount"] (defScope (top 27)) := ⟨rfl, rfl, rfl, by decide +kernel, rfl, by decide +kernel, by decide +kernel⟩
set_option maxHeartbeats 4000000 in
theorem ok_check_amount (T : Tx K mg) : FG P w K mg base CX0 4 T.a_check_amount T.d_check_amount ["amount"] (sp_check_amount K) := by
  refine OB.Fun.fg T.F_check_amount sc_check_amount (fun vs H Q E h => h.1) (fun cdv A out s H vs Q E g h => ?_)
  obtain ⟨_, a, rfl, a0, a1, a2, k⟩ := h
  refine ⟨_, (pss_one (ps_if (pt_not (pt_val (pe_cg (ok_is_note_amount T) (g.mono (by decide : 3 ≤ 3)) (by rfl) T.m_is_note_amount T.F_is_note_amount.kp (OB.Fun.bd T.F_is_note_amount (ps := ["value"]) (n := 1) (ks := []) (ix := [0]) (fun _ _ _ _ _ _ us ws h1 h2 => match us, ws, h1, h2 with | [_], [], _, _ => rfl)) pass0 (pa_cons (pv 0) pa_nil) pk_nil))) (pss_one ps_never) pss_nil)), ?_⟩
  refine g_start (σ := [some _]) rfl ?_
  repeat walk_at "ob"
  refine use_amount a0 a1 a2 ?_
  repeat walk_at "ob"
  exact k
/-- notes and where they stand -/
abbrev NS : Type := List (Addr × N)
def NR (rs : NS) : List V := rs.map fun r => V.ref r.1
def NT (rs : NS) : List (Addr × List V) := rs.map fun r => (r.1, nV r.2)
def NG (rs : NS) : Prop := ∀ r ∈ rs, NOk r.2
theorem nt_at {G : List Ft} {F : List (Addr × HO)} {H : Hp} {rs : NS} {i : Nat} {r : Addr × N} (S : Sy K F G H) (h : G[i]? = some (.tt (NT rs))) (hr : r ∈ rs) : H r.1 = some (.tup (nV r.2)) := S.tts i h (r.1, nV r.2) (List.mem_map.mpr ⟨r, hr, rfl⟩)
theorem dp_nV {H : Hp} (n : N) : DpAll K H (nV n) [.str n.1, .int n.2] := .cons (.str _) (.cons (.int _) .nil)
theorem dp_note {H : Hp} {p : Addr} {n : N} (h : H p = some (.tup (nV n))) : L2.Dp K H (.ref p) (nD n) := .tup (.inl (.inl h)) (dp_nV n)
theorem sqt_note {H : Hp} {p : Addr} {n : N} (h : H p = some (.tup (nV n))) : SqT K H p (nV n) := .inl (.inl h)
theorem nr_get {rs : NS} {i : Nat} {x : V} (h : (NR rs)[i]? = some x) : ∃ r, rs[i]? = some r ∧ x = .ref r.1 := by
  unfold NR at h
  rw [List.getElem?_map] at h
  obtain ⟨r, h1, h2⟩ := Option.map_eq_some_iff.mp h
  exact ⟨r, h1, h2.symm⟩
def sp_is_note (K : Frag) : Sp := fun vs H Q E => vs.length = 1 ∧ ∃ (F : List (Addr × HO)) (G : List Ft) (p : Addr) (n : N), vs = [.ref p] ∧ Sy K F G H ∧ H p = some (.tup (nV n)) ∧ NOk n ∧ ∀ H', Sy K F G H' → Q (.bl true) H'
abbrev names_is_note : List Str := ["value"]
theorem sc_is_note : FnScope names_is_note ["value"] (defScope (top 21)) := ⟨rfl, rfl, rfl, by decide +kernel, rfl, by decide +kernel, by decide +kernel⟩
set_option maxHeartbeats 4000000 in
theorem ok_is_note (T : Tx K mg) : FG P w K mg base CX0 4 T.a_is_note T.d_is_note ["value"] (sp_is_note K) := by
  refine OB.Fun.fg T.F_is_note sc_is_note (fun vs H Q E h => h.1) (fun cdv A out s H vs Q E g h => ?_)
  obtain ⟨_, F, G, p, n, rfl, S, hp, ⟨ok, a0, a1, a2⟩, k⟩ := h
  refine ⟨_, (pss_cons (ps_if (PW.pt (pw_or (pt_not (pt_val (pe_callB (toK (r := rIsi) (K := K) rfl call_isi) (by rfl) T.n_isinstance (by decide +kernel) (pa_cons (pv 0) (pa_cons (pe_bltn (v := .ty "tuple") (by rfl) T.n_tuple (by decide +kernel) rfl) pa_nil))))) (pw_or1 (pt_cmpR op_ne (pe_callB (toK (r := OB.rLen) (K := K) rfl c_len) (by rfl) T.n_len PySem.boot_len (pa_cons (pv 0) pa_nil)) (pe_glob (v := .int 2) (by rfl) T.g_PAIR ⟨_, rfl⟩) (nomark _))))) (pss_one (ps_ret pe_bl)) pss_nil)
      (pss_one (ps_ret (pe_and (pe_cg (ok_is_note_word T) (g.mono (by decide : 1 ≤ 3)) (by rfl) T.m_is_note_word T.F_is_note_word.kp (OB.Fun.bd T.F_is_note_word (ps := ["value"]) (n := 1) (ks := []) (ix := [0]) (fun _ _ _ _ _ _ us ws h1 h2 => match us, ws, h1, h2 with | [_], [], _, _ => rfl)) pass0 (pa_cons (pe_ix (ix_UK (K := K) rfl) (pv 0) pe_int (fun _ _ => rfl)) pa_nil) pk_nil) (pe_one (pe_cg (ok_is_note_amount T) (g.mono (by decide : 3 ≤ 3)) (by rfl) T.m_is_note_amount T.F_is_note_amount.kp (OB.Fun.bd T.F_is_note_amount (ps := ["value"]) (n := 1) (ks := []) (ix := [0]) (fun _ _ _ _ _ _ us ws h1 h2 => match us, ws, h1, h2 with | [_], [], _, _ => rfl)) pass0 (pa_cons (pe_ix (ix_UK (K := K) rfl) (pv 0) pe_int (fun _ _ => rfl)) pa_nil) pk_nil)))))), ?_⟩
  refine g_start (σ := [some _]) rfl ?_
  have S1 := S.add (.tt [(p, nV n)]) (fun q hq => by rw [List.mem_singleton.mp hq]; exact hp)
  have S2 := S1.add (.tq p (nV n)) (sqt_note hp)
  clear S S1
  repeat walk_at "ob"
  refine ⟨rfl, F, _, n.1.cps.toList, by rw [tx_of]; rfl, S2, ok, fun H1 S3 => ?_⟩
  repeat walk_at "ob"
  refine use_amount a0 a1 a2 ?_
  exact k _ S3.drop.drop
def sp_check_notes (K : Frag) : Sp := fun vs H Q E => vs.length = 1 ∧ ∃ (F : List (Addr × HO)) (G : List Ft) (p : Addr) (rs : NS), vs = [.ref p] ∧ Sy K F (.tq p (NR rs) :: .tt (NT rs) :: G) H ∧ NG rs ∧ rs.length ≤ 200 ∧ ∀ H', Sy K F (.tq p (NR rs) :: .tt (NT rs) :: G) H' → Q .non H'
abbrev names_check_notes : List Str := ["notes", "note"]
theorem sc_check_notes : FnScope names_check_notes ["notes"] (defScope (top 22)) := ⟨rfl, rfl, rfl, by decide +kernel, rfl, by decide +kernel, by decide +kernel⟩
set_option maxHeartbeats 4000000 in
theorem ok_check_notes (T : Tx K mg) : FG P w K mg base CX0 5 T.a_check_notes T.d_check_notes ["notes"] (sp_check_notes K) := by
  refine OB.Fun.fg T.F_check_notes sc_check_notes (fun vs H Q E h => h.1) (fun cdv A out s H vs Q E g h => ?_)
  obtain ⟨_, F, G, p, rs, rfl, S, ng, hl, k⟩ := h
  refine ⟨_, (pss_one (ps_if (PW.pt (pw_or (pt_not (pt_val (pe_callB (toK (r := rIsi) (K := K) rfl call_isi) (by rfl) T.n_isinstance (by decide +kernel) (pa_cons (pv 0) (pa_cons (pe_bltn (v := .ty "tuple") (by rfl) T.n_tuple (by decide +kernel) rfl) pa_nil))))) (pw_or (pt_cmpR op_gt (pe_callB (toK (r := OB.rLen) (K := K) rfl c_len) (by rfl) T.n_len PySem.boot_len (pa_cons (pv 0) pa_nil)) (pe_glob (v := .int 200) (by rfl) T.g_MOST_NOTES ⟨_, rfl⟩) (nomark _)) (pw_or1 (pt_not (pt_val (pe_callB (toK (r := rAll) (K := K) rfl (cr_all rfl)) (by rfl) T.n_all (by decide +kernel) (pa_cons (pe_lc (own := [("note", 1)]) (tt := tYes) rfl sc_check_notes.nd (pi_seq (pv 0)) (blkOk_by (N := names_check_notes) (sc := defScope (top 22)) (own := [("note", 1)]) (by decide +kernel)) (fun _ _ _ _ _ => (pg_name (i := 1) sc_check_notes.nd rfl (by first | exact Or.inl rfl | exact Or.inr rfl))) (fun _ _ _ _ _ => pts_nil) (fun _ _ _ _ _ => (pe_cg (ok_is_note T) (g.mono (by decide : 4 ≤ 4)) (by rfl) T.m_is_note T.F_is_note.kp (OB.Fun.bd T.F_is_note (ps := ["value"]) (n := 1) (ks := []) (ix := [0]) (fun _ _ _ _ _ _ us ws h1 h2 => match us, ws, h1, h2 with | [_], [], _, _ => rfl)) pass0 (pa_cons (pv 1) pa_nil) pk_nil))) pa_nil)))))))) (pss_one ps_never) pss_nil)), ?_⟩
  refine g_start (σ := [some _, none]) rfl ?_
  have hn : (NR rs).length = rs.length := List.length_map ..
  repeat walk_at "ob"
  refine g_lcS (a := p) (xs := NR rs) false (fun i F' ds => F' = F ∧ ds = List.replicate i (.bool true) ∧ i ≤ rs.length) S (fun Q' q => by repeat walk_at "ob"; exact q) ⟨rfl, rfl, Nat.zero_le _⟩ (fun i F' ds H' hi S3 => S3.tqs 0 rfl) (fun i F' ds hi => by
      rw [hi.2.1, List.length_replicate]
      omega) ?_ ?_
  · intro i x hx Dp H2 F2 vs ds QE QR hi S3 kE kR
    obtain ⟨rfl, rfl, hi2⟩ := hi
    obtain ⟨r, hr, rfl⟩ := nr_get hx
    have hi3 := (List.getElem?_eq_some_iff.mp hr).1
    have hrm := List.mem_of_getElem? hr
    repeat walk_at "ob"
    refine ⟨rfl, ?_⟩
    repeat walk_at "ob"
    refine ⟨rfl, _, _, r.1, r.2, rfl, S3, nt_at S3 (i := 2) rfl hrm, ng r hrm, fun H3 S4 => ?_⟩
    exact kE _ (.bool true) _ _ ⟨rfl, by rw [List.replicate_succ'], hi3⟩ (S4.fact (dps_one (L2.Dp.bl true)) rfl)
  · rintro Dp H2 F2 vs ds hD ⟨rfl, rfl, _⟩ S3
    have hv : vs = (List.replicate (NR rs).length true).map V.bl := by
      rw [dps_scal (S3.dps 0 rfl) fun d hd => by rw [(List.mem_replicate.mp hd).2]; rfl, List.map_replicate, List.map_replicate]
      rfl
    subst hv
    repeat walk_at "ob"
    refine g_all (by walk_at "obl") ?_
    have e : ((List.replicate (NR rs).length true).all id) = true := List.all_eq_true.mpr fun b hb => (List.mem_replicate.mp hb).2
    rw [e]
    repeat walk_at "ob"
    exact k _ S3.drop.less
end
end LAW

set_option Elab.async false
set_option linter.all false
set_option maxRecDepth 100000
namespace LAW
open PySem PySem.Spec PyProof.Rows L2 PySem.W OB
local macro_rules | `(tactic| walk_at "obc") => `(tactic| first
  | exact Or.inl ⟨by omega, by omega⟩
  | exact Or.inr ⟨by omega, by omega⟩
  | exact cdiv_ok (by omega) (by omega)
  | (show (0 : Int) < _; omega)
  | exact ⟨by omega, by decide⟩
  | exact ⟨by decide, by decide⟩)
local macro_rules | `(tactic| walk_at "obat") => `(tactic| first
  | exact Sy.at (by assumption) 0 rfl | exact Sy.at (by assumption) 1 rfl | exact Sy.at (by assumption) 2 rfl | exact Sy.at (by assumption) 3 rfl
  | exact Sy.at (by assumption) 4 rfl | exact Sy.at (by assumption) 5 rfl | exact Sy.at (by assumption) 6 rfl | exact Sy.at (by assumption) _ (by assumption) | exact Sy.at (by assumption) (_ + 1) (by assumption) | exact Sy.at (by assumption) (_ + 2) (by assumption))
local macro_rules | `(tactic| walk_at "obt") => `(tactic| first
  | exact Sy.tqs (by assumption) 0 rfl | exact Sy.tqs (by assumption) 1 rfl | exact Sy.tqs (by assumption) 2 rfl | exact Sy.tqs (by assumption) 3 rfl | exact Sy.tqs (by assumption) 4 rfl | exact Sy.tqs (by assumption) 5 rfl
  | exact Sy.tqs (by assumption) 6 rfl | exact Sy.tqs (by assumption) 7 rfl | assumption)
local macro_rules | `(tactic| walk_at "obl") => `(tactic| first
  | exact SqL.of (by walk_at "obat")
  | exact Sy.sq (by assumption) 0 rfl | exact Sy.sq (by assumption) 1 rfl | exact Sy.sq (by assumption) 2 rfl | exact Sy.sq (by assumption) 3 rfl | exact Sy.sq (by assumption) _ (by assumption))
local macro_rules | `(tactic| walk_at "obd") => `(tactic| first
  | exact Dp.int _ | exact Dp.bl _ | exact Dp.str _ | exact Dp.non
  | exact Sy.dp (by assumption) 0 rfl | exact Sy.dp (by assumption) 1 rfl | exact Sy.dp (by assumption) 2 rfl | exact Sy.dp (by assumption) 3 rfl
  | exact Sy.dp (by assumption) 4 rfl | exact Sy.dp (by assumption) 5 rfl | exact Sy.dp (by assumption) 6 rfl | exact Sy.dp (by assumption) 7 rfl
  | exact Sy.dp (by assumption) 8 rfl | exact Sy.dp (by assumption) 9 rfl | exact Sy.dp (by assumption) _ (by assumption) | assumption)
local macro_rules | `(tactic| walk_at "obds") => `(tactic| first
  | exact DpAll.nil
  | (refine' DpAll.cons ?ob1 ?ob2; (case ob1 => walk_at "obd"); (case ob2 => walk_at "obds"))
  | exact Sy.dps (by assumption) 0 rfl | exact Sy.dps (by assumption) 1 rfl | exact Sy.dps (by assumption) 2 rfl | exact Sy.dps (by assumption) 3 rfl | assumption)
local macro_rules | `(tactic| walk_at "obsc") => `(tactic| first
  | exact ScL.nil
  | ((first | refine' ScL.int ?obz | refine' ScL.str ?obz | refine' ScL.bl ?obz | refine' ScL.non ?obz); (case obz => walk_at "obsc")))
local macro_rules | `(tactic| walk_at "ob1") => `(tactic| first
  | ((with_reducible refine' g_var ?obh ?_); (case obh => rfl))
  | with_reducible refine g_c ?_
  | with_reducible refine g_nx ?_
  | with_reducible refine g_rt ?_
  | with_reducible refine g_bk ?_
  | with_reducible refine g_ct ?_
  | with_reducible refine g_op ?_
  | with_reducible refine g_I0 ?_
  | with_reducible refine g_test ?_
  | with_reducible refine g_bl ?_
  | with_reducible refine g_blx ?_
  | with_reducible refine g_B ?_
  | with_reducible refine g_seq ?_
  | with_reducible refine g_asg ?_
  | with_reducible refine g_name ?_
  | with_reducible refine g_ifS ?_
  | with_reducible refine g_ret ?_
  | with_reducible refine g_cb ?_
  | with_reducible refine g_cons ?_
  | with_reducible refine g_nil ?_
  | with_reducible refine g_int ?_
  | with_reducible refine g_intB ?_
  | with_reducible refine g_abs ?_
  | with_reducible refine g_max ?_
  | with_reducible refine g_min ?_
  | with_reducible refine g_un ?_
  | with_reducible refine g_U ?_
  | with_reducible refine g_eqI ?_
  | with_reducible refine g_neI ?_
  | with_reducible refine g_eqS ?_
  | with_reducible refine g_neS ?_
  | with_reducible refine g_tt ?_
  | with_reducible refine g_ff ?_
  | with_reducible refine g_next ?_
  | with_reducible refine g_drop ?_
  | with_reducible refine g_if ?_
  | with_reducible refine g_andV ?_
  | with_reducible refine g_orV ?_
  | with_reducible refine g_notV ?_
  | with_reducible refine g_and ?_
  | with_reducible refine g_or ?_
  | with_reducible refine g_not ?_
  | with_reducible refine g_yes ?_
  | with_reducible refine g_chain ?_
  | with_reducible refine g_cg ?_
  | with_reducible refine g_mg ?_
  | with_reducible refine g_kg ?_
  | with_reducible refine g_pg ?_
  | ((with_reducible refine' g_call ?obh ?obj ?_); (case obh => rfl); (case obj => rfl))
  | with_reducible refine g_par ?_
  | with_reducible refine g_par2 ?_
  | with_reducible refine g_par3 ?_
  | with_reducible refine g_par33 ?_
  | with_reducible refine g_gnil ?_
  | with_reducible refine g_gcons ?_
  | with_reducible refine g_gsub ?_
  | with_reducible refine g_ipI ?_
  | with_reducible refine g_rAdd ?_
  | with_reducible refine g_rSub ?_
  | ((with_reducible refine' g_aug ?obh ?_); (case obh => rfl))
  | with_reducible refine g_tup ?_
  | with_reducible refine g_lst ?_
  | with_reducible refine g_bm ?_
  | with_reducible refine g_bm0 ?_
  | with_reducible refine g_sl ?_
  | with_reducible refine g_nopart ?_
  | with_reducible refine g_part ?_
  | with_reducible refine g_pint ?_
  | with_reducible refine isi_int ?_
  | with_reducible refine isi_intB ?_
  | ((with_reducible refine' g_I ?obh ?_); (case obh => walk_at "obc"))
  | ((with_reducible refine' g_tyl ?obh ?_); (case obh => walk_at "obl"))
  | ((with_reducible refine' g_lenL ?obh ?_); (case obh => walk_at "obl"))
  | with_reducible refine g_ne ?_
  | ((with_reducible refine' g_neN' ?obh ?_); (case obh => rfl))
  | with_reducible refine g_ntt ?_
  | with_reducible refine g_nff ?_
  | with_reducible refine g_star ?_
  | with_reducible refine g_att ?_
  | with_reducible refine g_sfld ?_
  | with_reducible refine g_faug ?_
  | with_reducible refine g_fld ?_
  | ((with_reducible refine' g_nF ?obh ?_); (case obh => omega))
  | ((with_reducible refine' g_nT ?obh ?_); (case obh => omega))
  | ((with_reducible refine' g_TD ?obh ?_); (case obh => omega))
  | ((with_reducible refine' g_FD ?obh ?_); (case obh => omega))
  | ((with_reducible refine' g_ixUL ?obh ?obi ?_); (case obh => walk_at "obl"); (case obi => exact atI_nn (by omega) (by rfl)))
  | ((with_reducible refine' g_setLS ?obs ?obh ?obi ?_); (case obs => assumption); (case obh => assumption); (case obi => rfl); intro _ _ _)
  | ((with_reducible refine' g_newT ?obs ?obh ?obi ?obj ?_); (case obs => assumption); (case obh => walk_at "obds"); (case obi => rfl); (case obj => exact Nat.le_of_ble_eq_true rfl); intro _ _ _ _)
  | ((with_reducible refine' g_newL ?obs ?obj ?_); (case obs => assumption); (case obj => exact Nat.le_of_ble_eq_true rfl); intro _ _ _ _)
  | ((with_reducible refine' isi_tup ?obh ?_); (case obh => walk_at "obt"))
  | ((with_reducible refine' g_lenT ?obh ?_); (case obh => walk_at "obt"))
  | ((with_reducible refine' g_unpT ?obh ?obi ?_); (case obh => walk_at "obt"); (case obi => rfl))
  | ((with_reducible refine' g_divmod ?obs ?obh ?_); (case obs => assumption); (case obh => exact cdivp_ok (by omega) (by omega) (by omega)); intro _ _ _ _)
  | ((with_reducible refine' g_unpD ?obh ?obi ?obj ?_); (case obh => walk_at "obd"); (case obi => walk_at "obsc"); (case obj => rfl))
  | with_reducible refine g_att ?_)
local macro_rules | `(tactic| walk_at "ob") => `(tactic| first
  | walk_at "ob1"
  | refine use_is_integer ?_
  | refine use_is_within ?_
  | with_reducible refine g_lstRg ?_
  | with_reducible refine g_rg1 ?_
  | with_reducible refine g_rg2 ?_
  | with_reducible refine g_tTru ?_
  | ((with_reducible refine' g_truL ?obh ?_); (case obh => walk_at "obl"))
  | ((with_reducible refine' g_ixUT ?obh ?obi ?_); (case obh => walk_at "obt"); (case obi => rfl))
  | with_reducible refine g_forZ ?_
  | with_reducible refine g_forR2 ?_
  | with_reducible refine g_forE ?_
  | with_reducible refine g_lcZ ?_)
section
variable {P : Program} {w : World} {K : Frag} {mg : Str → Option Value} {base : Heap}
theorem use_check_notes {F : List (Addr × HO)} {G : List Ft} {H : Hp} {Q : VK} {E : XK} {p : Addr} {rs : NS} (S : Sy K F G H) (h1 : SqT K H p (NR rs)) (h2 : ∀ q ∈ NT rs, H q.1 = some (.tup q.2)) (ng : NG rs) (hl : rs.length ≤ 200) (k : ∀ H', Sy K F G H' → Q .non H') : sp_check_notes K [.ref p] H Q E :=
  ⟨rfl, F, G, p, rs, rfl, (S.add (.tt (NT rs)) h2).add (.tq p (NR rs)) h1, ng, hl, fun H1 S1 => k H1 S1.drop.drop⟩
theorem g_tydT {P : Prop} {H : Hp} {d : Addr} {kvs : List (List L2.Key × V)} (h : H d = some (.dT kvs)) (k : P) : tyV K "dict" (.ref d) H ∧ P := ⟨.inr (.inr (.inl ⟨rfl, .inr ⟨_, h⟩⟩)), k⟩
/-! ### rows of a dict of lists -/
theorem valV_some {rows : List OB.Row} {k : List L2.Key} {v : V} (h : valV (rows.map fun r => (r.1, V.ref r.2.1)) k = some v) : ∃ (j : Nat) (p : Addr) (l : List Int), rows[j]? = some (k, p, l) ∧ v = .ref p := by
  induction rows with
  | nil => cases h
  | cons r rows ih =>
    rw [List.map_cons] at h
    by_cases c : r.1 = k
    · rw [valV_pos c] at h
      exact ⟨0, r.2.1, r.2.2, by rw [← c]; rfl, (Option.some.inj h).symm⟩
    · rw [valV_neg c] at h
      obtain ⟨j, p, l, h1, h2⟩ := ih h
      exact ⟨j + 1, p, l, h1, h2⟩
theorem valV_none {rows : List OB.Row} {k : List L2.Key} (h : valV (rows.map fun r => (r.1, V.ref r.2.1)) k = none) : ∀ r ∈ rows, r.1 ≠ k := by
  induction rows with
  | nil => exact fun _ h => (nomatch h)
  | cons r rows ih =>
    rw [List.map_cons] at h
    by_cases c : r.1 = k
    · rw [valV_pos c] at h
      cases h
    · rw [valV_neg c] at h
      intro s hs
      rcases List.mem_cons.mp hs with rfl | hs
      · exact c
      · exact ih h s hs
theorem rowL_at {rows : List OB.Row} {F : List (Addr × HO)} {j : Nat} {k : List L2.Key} {p : Addr} {l : List Int} (h : rows[j]? = some (k, p, l)) : (rowL rows ++ F)[j]? = some (p, .lst (l.map V.int)) := by
  have hj := (List.getElem?_eq_some_iff.mp h).1
  rw [List.getElem?_append_left (by unfold rowL; rw [List.length_map]; exact hj)]
  unfold rowL
  rw [List.getElem?_map, h]
  rfl
theorem rowL_set {rows : List OB.Row} {F : List (Addr × HO)} {j : Nat} {k : List L2.Key} {p : Addr} {l m : List Int} (h : rows[j]? = some (k, p, l)) : (rowL rows ++ F).set j (p, .lst (m.map V.int)) = rowL (rows.set j (k, p, m)) ++ F := by
  have hj := (List.getElem?_eq_some_iff.mp h).1
  rw [List.set_append_left _ _ (by unfold rowL; rw [List.length_map]; exact hj)]
  unfold rowL
  rw [List.map_set]
theorem rowD_set {rows : List OB.Row} {j : Nat} {k : List L2.Key} {p : Addr} {l m : List Int} (h : rows[j]? = some (k, p, l)) : rowD (rows.set j (k, p, m)) = rowD rows := by
  unfold rowD
  congr 1
  rw [List.map_set]
  refine List.ext_getElem? fun i => ?_
  by_cases c : j = i
  · subst c
    rw [List.getElem?_set_self (by rw [List.length_map]; exact (List.getElem?_eq_some_iff.mp h).1), List.getElem?_map, h]
    rfl
  · rw [List.getElem?_set_ne c]
theorem rowD_app {rows : List OB.Row} {r : OB.Row} : rowD (rows ++ [r]) = .dT (rows.map (fun r => (r.1, V.ref r.2.1)) ++ [(r.1, V.ref r.2.1)]) := by
  unfold rowD
  rw [List.map_append]
  rfl
def sp_numbers_by_note (K : Frag) : Sp := fun vs H Q E => vs.length = 1 ∧ ∃ (F : List (Addr × HO)) (G : List Ft) (p : Addr) (rs : NS), vs = [.ref p] ∧ Sy K F G H ∧ SqT K H p (NR rs) ∧ (∀ q ∈ NT rs, H q.1 = some (.tup q.2)) ∧ rs.length ≤ 200 ∧
  ∀ d rows H', InvP (rs.map (·.2)) rows (List.range rs.length) → rows.length ≤ rs.length → Sy K ((d, rowD rows) :: (rowL rows ++ F)) G H' → Q (.ref d) H'
abbrev names_numbers_by_note : List Str := ["notes", "found", "number", "note"]
theorem sc_numbers_by_note : FnScope names_numbers_by_note ["notes"] (defScope (top 23)) := ⟨rfl, rfl, rfl, by decide +kernel, rfl, by decide +kernel, by decide +kernel⟩
set_option maxHeartbeats 4000000 in
theorem ok_numbers_by_note (T : Tx K mg) : FG P w K mg base CX0 1 T.a_numbers_by_note T.d_numbers_by_note ["notes"] (sp_numbers_by_note K) := by
  refine OB.Fun.fg T.F_numbers_by_note sc_numbers_by_note (fun vs H Q E h => h.1) (fun cdv A out s H vs Q E g h => ?_)
  obtain ⟨_, F, G, p, rs, rfl, S0, hp, ht, hl, k⟩ := h
  refine ⟨_, (pss_cons (ps_set (i := 1) sc_numbers_by_note.nd rfl (by first | exact Or.inl rfl | exact Or.inr rfl) pe_dnewT)
      (pss_cons (ps_for PassesOwn.never rfl (pi_enumK (by rfl) T.n_enumerate (pa_cons (pv 0) pa_nil)) (pg_tupK (K := K) rfl (n := 2) rfl (pgs_cons (pg_name (i := 2) sc_numbers_by_note.nd rfl (by first | exact Or.inl rfl | exact Or.inr rfl)) (pgs_cons (pg_name (i := 3) sc_numbers_by_note.nd rfl (by first | exact Or.inl rfl | exact Or.inr rfl)) pgs_nil)))
      (pss_one (ps_expr (pe_bm PySem.F.plainAttrs_list PySem.F.slot_list_append PySem.F.type_list_append mt_append (pe_bm PySem.F.plainAttrs_dict PySem.F.slot_dict_setdefault PySem.F.type_dict_setdefault (mt_setdT g.hu1) (pv 1) (pa_cons (pv 3) (pa_cons (pe_lst pa_nil) pa_nil))) (pa_cons (pv 2) pa_nil)))))
      (pss_one (ps_ret (pv 1))))), ?_⟩
  refine g_start (σ := [some _, none, none, none]) rfl ?_
  have S := (S0.add (.tt (NT rs)) ht).add (.tq p (NR rs)) hp
  clear S0
  have hn : (NR rs).length = rs.length := List.length_map ..
  repeat walk_at "ob"
  intro d hd
  have S1 := S.push (o := .dT []) hd
  repeat walk_at "ob"
  refine ⟨false, p, _, rfl, S1.tqs 0 rfl, ?_⟩
  refine for_enumK (xs := NR rs) (fun i σ' H' => ∃ v2 v3 rows, σ' = [some (.ref p), some (.ref d), v2, v3] ∧ i ≤ rs.length ∧ InvP (rs.map (·.2)) rows (List.range i) ∧ rows.length ≤ i ∧ Sy K ((d, rowD rows) :: (rowL rows ++ F)) (.tq p (NR rs) :: .tt (NT rs) :: G) H') ⟨none, none, [], rfl, Nat.zero_le _, InvP.nil, Nat.le_refl _, S1⟩ (fun i σ' H' ⟨_, _, _, _, _, _, _, S4⟩ => S4.tqs 0 rfl) ?_ ?_
  · rintro i x Tn σ' H' hx ⟨v2, v3, rows, rfl, hi, I, hr, S4⟩ hT
    refine g_pair S4 hT fun H2 S5 => ?_
    clear S S1 S4
    obtain ⟨r, hri, rfl⟩ := nr_get hx
    have hrm := List.mem_of_getElem? hri
    have hi1 := (List.getElem?_eq_some_iff.mp hri).1
    have hno : (rs.map (·.2))[i]? = some r.2 := by rw [List.getElem?_map, hri]; rfl
    have S6 := S5.drop
    clear S5
    repeat walk_at "ob"
    refine g_tydT (S6.at 0 rfl) ?_
    repeat walk_at "ob"
    rename_i q H3 _ S7
    have hb : H3 r.1 = some (.tup ((nK r.2).map kV)) := nt_at S7 (i := 1) rfl hrm
    refine g_setdT (k := nK r.2) (kvs := rows.map fun r => (r.1, V.ref r.2.1)) S7 (i := 1) rfl hb (by rw [List.length_map]; omega) (fun v hv => ?_) (fun H4 hv S8 => ?_)
    · obtain ⟨j, a, l, hj, rfl⟩ := valV_some hv
      have hF := rowL_at (F := F) hj
      have S8 := S7.less
      clear S6 S7
      refine g_tyl (SqL.of (S8.at (j + 1) hF)) ?_
      repeat walk_at "ob"
      have hll : l.length ≤ i := by
        rw [I.row_eq hj, List.length_map]
        exact Nat.le_trans (List.length_filter_le _ _) (by rw [List.length_range]; exact Nat.le_refl _)
      refine g_appS S8 (f := j + 1) hF (by rw [List.length_map]; omega) fun H5 S9 => ?_
      repeat walk_at "ob"
      refine ⟨_, _, rows.set j (nK r.2, a, l ++ [(i : Int)]), rfl, hi1, I.more hno hj, by rw [List.length_set]; omega, ?_⟩
      rw [rowD_set hj, ← rowL_set hj, List.map_append]
      exact S9
    · have hv := valV_none hv
      clear S6 S7
      refine g_tyl (SqL.of (S8.at 0 rfl)) ?_
      repeat walk_at "ob"
      refine g_appS S8 (f := 0) rfl (by show 0 < 100000; decide) fun H5 S9 => ?_
      repeat walk_at "ob"
      refine ⟨_, _, rows ++ [(nK r.2, q, [(i : Int)])], rfl, hi1, I.new hno hv, by rw [List.length_append, List.length_singleton]; omega, ?_⟩
      rw [rowD_app]
      refine S9.perm ?_
      unfold rowL
      rw [List.map_append]
      rw [List.append_assoc]
      exact (List.Perm.cons _ List.perm_middle).trans (List.Perm.swap ..)
  · rintro σ' H' ⟨v2, v3, rows, rfl, hi, I, hr, S4⟩
    rw [hn] at I
    repeat walk_at "ob"
    exact k d rows H' I (by omega) S4.drop.drop
theorem use_numbers {F : List (Addr × HO)} {G : List Ft} {H : Hp} {Q : VK} {E : XK} {p : Addr} {rs : NS} (S : Sy K F G H) (hp : SqT K H p (NR rs)) (ht : ∀ q ∈ NT rs, H q.1 = some (.tup q.2)) (hl : rs.length ≤ 200)
    (k : ∀ d rows H', InvP (rs.map (·.2)) rows (List.range rs.length) → rows.length ≤ rs.length → Sy K ((d, rowD rows) :: (rowL rows ++ F)) G H' → Q (.ref d) H') : sp_numbers_by_note K [.ref p] H Q E := ⟨rfl, F, G, p, rs, rfl, S, hp, ht, hl, k⟩
/-! ### paired -/
def iiD (l : List (Nat × Nat)) : List PyData := l.map fun q => .tuple [.int q.1, .int q.2]
def nsD (l : List Nat) : List PyData := l.map fun i : Nat => .int (i : Int)
def pairD (r : PR) : PyData := .tuple [.tuple (iiD r.1), .tuple (nsD r.2.1), .tuple (nsD r.2.2)]
def nI (l : List Nat) : List V := l.map fun i : Nat => V.int (i : Int)
theorem nI_eq (l : List Nat) : nI l = (l.map fun i : Nat => (i : Int)).map V.int := by unfold nI; rw [List.map_map]; rfl
theorem iiD_imm (l : List (Nat × Nat)) : immAll (iiD l) = true := immAll_of fun d hd => by
  obtain ⟨q, _, rfl⟩ := List.mem_map.mp hd
  rfl
theorem nsD_imm (l : List Nat) : immAll (nsD l) = true := immAll_of fun d hd => by
  obtain ⟨q, _, rfl⟩ := List.mem_map.mp hd
  rfl
theorem dp_nI {H : Hp} (l : List Nat) : DpAll K H (nI l) (nsD l) := by
  unfold nI nsD
  induction l with
  | nil => exact .nil
  | cons i l ih => exact .cons (.int _) ih
theorem imm3 {a b c : List PyData} (h1 : immAll a = true) (h2 : immAll b = true) (h3 : immAll c = true) : immAll [.tuple a, .tuple b, .tuple c] = true := by
  show (immAll a && (immAll b && (immAll c && true))) = true
  rw [h1, h2, h3]
  rfl
theorem Sy.cut {F : List (Addr × HO)} {x : Ft} {L G : List Ft} {H : Hp} (S : Sy K F (x :: (L ++ G)) H) : Sy K F (x :: G) H := Sy.facts S fun g hg => by
  rcases List.mem_cons.mp hg with rfl | hg
  · exact List.mem_cons_self ..
  · exact List.mem_cons_of_mem _ (List.mem_append_right _ hg)
theorem alike_ints (l : List Int) : AllAlike (l.map PyData.int) := fun d hd e he => by
  obtain ⟨x, _, rfl⟩ := List.mem_map.mp hd
  obtain ⟨y, _, rfl⟩ := List.mem_map.mp he
  rfl
theorem sortable_ints (l : List Int) : PySem.W.Sortable (l.map PyData.int) := Sortable.others (enc := PyData.int) (bs := l) fun b => ⟨fun z => PyData.noConfusion z, fun xs z => PyData.noConfusion z⟩
theorem dataLe_int (a b : Int) : dataLe false id (PyData.int a) (PyData.int b) = decide (a ≤ b) := by
  show (!dataLt (.int b) (.int a)) = _
  rw [show dataLt (.int b) (.int a) = decide (b < a) from by rw [show dataLt (.int b) (.int a) = itemLt (.inl b) (.inl a) from lex_one _ _]; rfl]
  by_cases h : b < a
  · rw [decide_eq_true h, decide_eq_false (by omega)]
    rfl
  · rw [decide_eq_false h, decide_eq_true (by omega)]
    rfl
theorem sort_ints (l : List Int) : (l.map PyData.int).mergeSort (dataLe false id) = (l.mergeSort fun a b => decide (a ≤ b)).map PyData.int :=
  (sort_maps PyData.int fun a _ b _ => (dataLe_int a b).symm).symm
def sp_paired (K : Frag) : Sp := fun vs H Q E => vs.length = 2 ∧ ∃ (F : List (Addr × HO)) (G : List Ft) (a b : Addr) (rs ts : NS), vs = [.ref a, .ref b] ∧ Sy K F G H ∧ SqT K H a (NR rs) ∧ (∀ q ∈ NT rs, H q.1 = some (.tup q.2)) ∧ SqT K H b (NR ts) ∧ (∀ q ∈ NT ts, H q.1 = some (.tup q.2)) ∧ NG rs ∧ NG ts ∧ rs.length ≤ 200 ∧ ts.length ≤ 200 ∧
  ∀ t H', Sy K F (.dat [.ref t] [pairD (pairF (rs.map (·.2)) (ts.map (·.2)))] :: G) H' → Q (.ref t) H'
abbrev names_paired : List Str := ["one", "other", "there", "pairs", "mine", "number", "note", "some", "its"]
theorem sc_paired : FnScope names_paired ["one", "other"] (defScope (top 24)) := ⟨rfl, rfl, rfl, by decide +kernel, rfl, by decide +kernel, by decide +kernel⟩
set_option maxHeartbeats 4000000 in
theorem ok_paired (T : Tx K mg) : FG P w K mg base CX0 6 T.a_paired T.d_paired ["one", "other"] (sp_paired K) := by
  refine OB.Fun.fg T.F_paired sc_paired (fun vs H Q E h => h.1) (fun cdv A out s H vs Q E g h => ?_)
  obtain ⟨_, F, G0, a, b, rs, ts, rfl, S0, ha, hta, hb, htb, ng, nt, hl, hm, k⟩ := h
  refine ⟨_, (pss_cons (ps_expr (pe_cg (ok_check_notes T) (g.mono (by decide : 5 ≤ 5)) (by rfl) T.m_check_notes T.F_check_notes.kp (OB.Fun.bd T.F_check_notes (ps := ["notes"]) (n := 1) (ks := []) (ix := [0]) (fun _ _ _ _ _ _ us ws h1 h2 => match us, ws, h1, h2 with | [_], [], _, _ => rfl)) pass0 (pa_cons (pv 0) pa_nil) pk_nil))
      (pss_cons (ps_expr (pe_cg (ok_check_notes T) (g.mono (by decide : 5 ≤ 5)) (by rfl) T.m_check_notes T.F_check_notes.kp (OB.Fun.bd T.F_check_notes (ps := ["notes"]) (n := 1) (ks := []) (ix := [0]) (fun _ _ _ _ _ _ us ws h1 h2 => match us, ws, h1, h2 with | [_], [], _, _ => rfl)) pass0 (pa_cons (pv 1) pa_nil) pk_nil))
      (pss_cons (ps_asg (pe_tup (pa_cons (pe_cg (ok_numbers_by_note T) (g.mono (by decide : 1 ≤ 5)) (by rfl) T.m_numbers_by_note T.F_numbers_by_note.kp (OB.Fun.bd T.F_numbers_by_note (ps := ["notes"]) (n := 1) (ks := []) (ix := [0]) (fun _ _ _ _ _ _ us ws h1 h2 => match us, ws, h1, h2 with | [_], [], _, _ => rfl)) pass0 (pa_cons (pv 1) pa_nil) pk_nil) (pa_cons (pe_lst pa_nil) (pa_cons (pe_lst pa_nil) pa_nil)))) (pg_tupK (K := K) rfl (n := 3) rfl (pgs_cons (pg_name (i := 2) sc_paired.nd rfl (by first | exact Or.inl rfl | exact Or.inr rfl)) (pgs_cons (pg_name (i := 3) sc_paired.nd rfl (by first | exact Or.inl rfl | exact Or.inr rfl)) (pgs_cons (pg_name (i := 4) sc_paired.nd rfl (by first | exact Or.inl rfl | exact Or.inr rfl)) pgs_nil)))))
      (pss_cons (ps_for PassesOwn.never rfl (pi_enumK (by rfl) T.n_enumerate (pa_cons (pv 0) pa_nil)) (pg_tupK (K := K) rfl (n := 2) rfl (pgs_cons (pg_name (i := 5) sc_paired.nd rfl (by first | exact Or.inl rfl | exact Or.inr rfl)) (pgs_cons (pg_name (i := 6) sc_paired.nd rfl (by first | exact Or.inl rfl | exact Or.inr rfl)) pgs_nil)))
      (pss_cons (ps_set (i := 7) sc_paired.nd rfl (by first | exact Or.inl rfl | exact Or.inr rfl) (pe_bm PySem.F.plainAttrs_dict PySem.F.slot_dict_get PySem.F.type_dict_get (mt_getT g.hu1) (pv 2) (pa_cons (pv 6) (pa_cons (pe_lst pa_nil) pa_nil))))
      (pss_one (ps_if (pt_tru (K := K) rfl (pv 7) (fun _ => rfl)) (pss_one (ps_expr (pe_bm PySem.F.plainAttrs_list PySem.F.slot_list_append PySem.F.type_list_append mt_append (pv 3) (pa_cons (pe_tup (pa_cons (pv 5) (pa_cons (pe_bm PySem.F.plainAttrs_list PySem.F.slot_list_pop PySem.F.type_list_pop mt_popAt (pv 7) (pa_cons pe_int pa_nil)) pa_nil))) pa_nil)))) (pss_one (ps_expr (pe_bm PySem.F.plainAttrs_list PySem.F.slot_list_append PySem.F.type_list_append mt_append (pv 4) (pa_cons (pv 5) pa_nil))))))))
      (pss_cons (ps_set (i := 8) sc_paired.nd rfl (by first | exact Or.inl rfl | exact Or.inr rfl) (pe_callB (toK (r := rSortD) (K := K) rfl (c_sortD g.hu64)) (by rfl) T.n_sorted (by decide +kernel) (pa_cons (pe_lock (pe_lc2 (own := [("note", 6), ("number", 5)]) (vs1 := [5]) (tt := tYes) (tt1 := tYes) rfl sc_paired.nd (pi_keys (pv 2)) (blkOk_by (N := names_paired) (sc := defScope (top 24)) (own := [("note", 6), ("number", 5)]) (by decide +kernel)) (by decide) (fun _ _ _ _ _ => (pg_name (i := 6) sc_paired.nd rfl (by first | exact Or.inl rfl | exact Or.inr rfl))) (fun _ _ _ _ _ => pts_nil) (fun _ _ _ _ _ => (pi_seqK (K := K) rfl (pe_dget g.hu1 (pv 2) (pv 6) (fun _ _ => rfl)))) (fun _ _ _ _ _ => (pg_name (i := 5) sc_paired.nd rfl (by first | exact Or.inl rfl | exact Or.inr rfl))) (fun _ _ _ _ _ => pts_nil) (fun _ _ _ _ _ => (pv 5)))) pa_nil)))
      (pss_one (ps_ret (pe_tup (pa_cons (pe_callTy (toK (r := rTuple) (K := K) rfl c_tuple) (by rfl) T.n_tuple (by decide +kernel) (pa_cons (pv 3) pa_nil)) (pa_cons (pe_callTy (toK (r := rTuple) (K := K) rfl c_tuple) (by rfl) T.n_tuple (by decide +kernel) (pa_cons (pv 4) pa_nil)) (pa_cons (pe_callTy (toK (r := rTuple) (K := K) rfl c_tuple) (by rfl) T.n_tuple (by decide +kernel) (pa_cons (pv 8) pa_nil)) pa_nil))))))))))), ?_⟩
  refine g_start (σ := [some _, some _, none, none, none, none, none, none, none]) rfl ?_
  have S := (((S0.add (.tt (NT rs)) hta).add (.tq a (NR rs)) ha).add (.tt (NT ts)) htb).add (.tq b (NR ts)) hb
  clear S0 ha hta hb htb
  have hn : (NR rs).length = rs.length := List.length_map ..
  repeat walk_at "ob"
  refine use_check_notes S (S.tqs 2 rfl) (S.tts 3 rfl) ng hl fun H1 S1 => ?_
  clear S
  repeat walk_at "ob"
  refine use_check_notes S1 (S1.tqs 0 rfl) (S1.tts 1 rfl) nt hm fun H2 S2 => ?_
  clear S1
  repeat walk_at "ob"
  refine use_numbers S2 (S2.tqs 0 rfl) (S2.tts 1 rfl) hm fun d rows H3 I0 _ S3 => ?_
  clear S2
  repeat walk_at "ob"
  rename_i pr _ _ _ mi H5 _ S5
  clear S3
  refine g_newTq S5 (Nat.le_of_ble_eq_true rfl) fun tp H6 _ S6 => ?_
  clear S5
  refine g_unpT (S6.tqs 0 rfl) rfl ?_
  repeat walk_at "ob"
  have lns : (rs.map (·.2)).length = rs.length := List.length_map ..
  have lms : (ts.map (·.2)).length = ts.length := List.length_map ..
  have S7 := S6.drop
  clear S6
  refine ⟨false, a, _, rfl, S7.tqs 2 rfl, ?_⟩
  refine for_enumK (xs := NR rs) (fun i σ' H' => ∃ v5 v6 v7 rows pvs, σ' = [some (.ref a), some (.ref b), some (.ref d), some (.ref pr), some (.ref mi), v5, v6, v7, none] ∧ i ≤ rs.length ∧ InvP (ts.map (·.2)) rows (pairG (ts.map (·.2)) (rs.map (·.2)) i).2.2 ∧
      Sy K ((mi, .lst (nI (pairG (ts.map (·.2)) (rs.map (·.2)) i).2.1)) :: (pr, .lst pvs) :: (d, rowD rows) :: (rowL rows ++ F)) (.dat pvs (iiD (pairG (ts.map (·.2)) (rs.map (·.2)) i).1) :: .tq b (NR ts) :: .tt (NT ts) :: .tq a (NR rs) :: .tt (NT rs) :: G0) H')
    ⟨none, none, none, rows, [], rfl, Nat.zero_le _, by rw [← lms] at I0; exact I0, S7.fact .nil rfl⟩ (fun i σ' H' ⟨_, _, _, _, _, _, _, _, S4⟩ => S4.tqs 3 rfl) ?_ ?_
  · rintro i x Tn σ' H' hx ⟨v5, v6, v7, rows, pvs, rfl, hi, I, S8⟩ hT
    refine g_pair S8 hT fun H2 S9 => ?_
    obtain ⟨r, hri, rfl⟩ := nr_get hx
    have hrm := List.mem_of_getElem? hri
    have hi1 := (List.getElem?_eq_some_iff.mp hri).1
    have hno : (rs.map (·.2))[i]? = some r.2 := by rw [List.getElem?_map, hri]; rfl
    have S10 := S9.drop
    clear S7 S8 S9
    have step : pairG (ts.map (·.2)) (rs.map (·.2)) (i + 1) = pairS (ts.map (·.2)) (pairG (ts.map (·.2)) (rs.map (·.2)) i) i r.2 := by
      rw [pairG, hno]
    have hlen := pairG_len (other := ts.map (·.2)) (one := rs.map (·.2)) i
    have hleft := pairG_left (other := ts.map (·.2)) (one := rs.map (·.2)) i
    rw [step]
    generalize pairG (ts.map (·.2)) (rs.map (·.2)) i = st at I S10 hlen hleft ⊢
    obtain ⟨pp, mm, left⟩ := st
    have hlp : pvs.length = pp.length := by
      rw [dps_length (S10.dps 0 rfl)]
      exact List.length_map ..
    have hlm : (nI mm).length = mm.length := List.length_map ..
    dsimp only at hlen I S10 hleft
    repeat walk_at "ob"
    refine g_tydT (S10.at 2 rfl) ?_
    repeat walk_at "ob"
    rename_i q H7 _ S11
    have hb : H7 r.1 = some (.tup ((nK r.2).map kV)) := nt_at S11 (i := 4) rfl hrm
    refine g_getT (k := nK r.2) (kvs := rows.map fun r => (r.1, V.ref r.2.1)) (.inl (S11.at 3 rfl)) hb ?_
    have els : ∀ (x : V) (H8 : Hp), partF (ts.map (·.2)) left r.2 = [] → Sy K ((mi, .lst (nI mm ++ [V.int (i : Int)])) :: (pr, .lst pvs) :: (d, rowD rows) :: (rowL rows ++ F)) (.dat pvs (iiD pp) :: .tq b (NR ts) :: .tt (NT ts) :: .tq a (NR rs) :: .tt (NT rs) :: G0) H8 →
        ∃ v5 v6 v7 rows pvs, [some (.ref a), some (.ref b), some (.ref d), some (.ref pr), some (.ref mi), some (.int (i : Int)), some (.ref r.1), some x, none] = [some (.ref a), some (.ref b), some (.ref d), some (.ref pr), some (.ref mi), v5, v6, v7, none] ∧ i + 1 ≤ rs.length ∧ InvP (ts.map (·.2)) rows (pairS (ts.map (·.2)) (pp, mm, left) i r.2).2.2 ∧
          Sy K ((mi, .lst (nI (pairS (ts.map (·.2)) (pp, mm, left) i r.2).2.1)) :: (pr, .lst pvs) :: (d, rowD rows) :: (rowL rows ++ F)) (.dat pvs (iiD (pairS (ts.map (·.2)) (pp, mm, left) i r.2).1) :: .tq b (NR ts) :: .tt (NT ts) :: .tq a (NR rs) :: .tt (NT rs) :: G0) H8 := fun x H8 hp S => by
      have e : pairS (ts.map (·.2)) (pp, mm, left) i r.2 = (pp, mm ++ [i], left) := by
        unfold pairS
        simp only
        rw [hp]
      rw [e]
      refine ⟨_, _, _, rows, pvs, rfl, hi1, I, ?_⟩
      show Sy K ((mi, .lst (nI (mm ++ [i]))) :: _) _ _
      rw [show nI (mm ++ [i]) = nI mm ++ [V.int (i : Int)] by unfold nI; rw [List.map_append]; rfl]
      exact S
    cases hv : valV (rows.map fun r => (r.1, V.ref r.2.1)) (nK r.2) with
    | none =>
      have hp := I.none (valV_none hv)
      rw [show (Option.none : Option V).getD (V.ref q) = V.ref q from rfl]
      repeat walk_at "ob"
      refine g_F rfl ?_
      repeat walk_at "ob"
      refine g_appS S11 (f := 1) rfl (by omega) fun H8 S12 => ?_
      repeat walk_at "ob"
      exact els _ _ hp S12.less
    | some v =>
      obtain ⟨j, p, l, hj, rfl⟩ := valV_some hv
      have S12 := S11.less
      clear S10 S11
      have hF := rowL_at (F := F) hj
      have el := I.row_eq hj
      repeat walk_at "ob"
      refine g_truL (SqL.of (S12.at (j + 3) hF)) ?_
      cases hp : partF (ts.map (·.2)) left r.2 with
      | nil =>
        rw [el, hp]
        refine g_F rfl ?_
        repeat walk_at "ob"
        refine g_appS S12 (f := 0) rfl (by omega) fun H8 S13 => ?_
        repeat walk_at "ob"
        exact els _ _ hp S13
      | cons x xs =>
        rw [el, hp]
        refine g_T rfl ?_
        repeat walk_at "ob"
        have hnl : left.Nodup := hleft.1.imp (fun h => Nat.ne_of_lt h)
        obtain ⟨el2, I2⟩ := I.pop hnl hj hp
        have hF2 : ((mi, HO.lst (nI mm)) :: (pr, HO.lst pvs) :: (d, rowD rows) :: (rowL rows ++ F))[j + 3]? = some (p, .lst (V.int (x : Int) :: (xs.map fun i : Nat => (i : Int)).map V.int)) := by
          show (rowL rows ++ F)[j]? = _
          rw [hF, el2]
          rfl
        refine g_tyl (SqL.of (S12.at (j + 3) hF2)) ?_
        repeat walk_at "ob"
        refine g_pop0 S12 (f := j + 3) hF2 fun H8 S13 => ?_
        have S14 : Sy K ((mi, HO.lst (nI mm)) :: (pr, HO.lst pvs) :: (d, rowD (rows.set j (nK r.2, p, xs.map fun i : Nat => (i : Int)))) :: (rowL (rows.set j (nK r.2, p, xs.map fun i : Nat => (i : Int))) ++ F)) (.dat pvs (iiD pp) :: .tq b (NR ts) :: .tt (NT ts) :: .tq a (NR rs) :: .tt (NT rs) :: G0) H8 := by
          rw [rowD_set hj, ← rowL_set hj]
          exact S13
        clear S12 S13
        repeat walk_at "ob"
        rename_i T9 H9 _ S15
        refine g_appS S15 (f := 1) rfl (by omega) fun H10 S16 => ?_
        repeat walk_at "ob"
        have e : pairS (ts.map (·.2)) (pp, mm, left) i r.2 = (pp ++ [(i, x)], mm, left.erase x) := by
          unfold pairS
          simp only
          rw [hp]
        rw [e]
        refine ⟨_, _, _, _, pvs ++ [.ref T9], rfl, hi1, I2, ?_⟩
        have S17 := S16.drop.drop.fact (dps_append (S16.dps 1 rfl) (S16.dps 0 rfl)) (by rw [immAll_append, S16.dpi 1 rfl, S16.dpi 0 rfl]; rfl)
        rw [show iiD (pp ++ [(i, x)]) = iiD pp ++ [.tuple [.int (i : Int), .int (x : Int)]] by unfold iiD; rw [List.map_append]; rfl]
        exact S17
  · rintro σ' H' ⟨v5, v6, v7, rows, pvs, rfl, hi, I, S8⟩
    rw [show (NR rs).length = (rs.map (·.2)).length by rw [hn, lns]] at I S8
    have hb := pairG_left (other := ts.map (·.2)) (one := rs.map (·.2)) (rs.map (·.2)).length
    have hlen := pairG_len (other := ts.map (·.2)) (one := rs.map (·.2)) (rs.map (·.2)).length
    have eF : pairG (ts.map (·.2)) (rs.map (·.2)) (rs.map (·.2)).length = pairF (rs.map (·.2)) (ts.map (·.2)) := rfl
    have hll := pairG_llen (other := ts.map (·.2)) (one := rs.map (·.2)) (rs.map (·.2)).length
    rw [eF] at I S8 hb hlen hll
    generalize pairF (rs.map (·.2)) (ts.map (·.2)) = st at I S8 hb hlen hll k
    obtain ⟨pp, mm, left⟩ := st
    dsimp only at hlen I S8 hb
    have hall := I.all hb.2 hb.1
    rw [lms] at hll
    dsimp only at hll
    have hlp : pvs.length = pp.length := by
      rw [dps_length (S8.dps 0 rfl)]
      exact List.length_map ..
    have hfl : (rows.flatMap fun r => r.2.2).length = left.length := by
      have := congrArg List.length hall
      rw [List.length_mergeSort, List.length_map] at this
      exact this
    repeat walk_at "ob"
    refine g_lc2R (a := 6) (b := 5) (c := 2) (rs := rows) (by decide) (by decide) (by decide) (show 6 < 9 by decide) (show 5 < 9 by decide) S8 (i := 2) rfl (fun r hr => ?_) I.nd (by omega) rfl fun p1 H9 S9 => ?_
    · exact List.mem_cons_of_mem _ (List.mem_cons_of_mem _ (List.mem_cons_of_mem _ (List.mem_append_left _ (List.mem_map.mpr ⟨r, hr, rfl⟩))))
    repeat walk_at "ob"
    refine g_sortD (ds := (rows.flatMap fun r => r.2.2).map PyData.int) S9 (SqL.of (S9.at 0 rfl)) (dps_ints _) (ints_imm _) (alike_ints _) (sortable_ints _) (fun d hd => ?_) (by rw [List.length_map]; omega) fun p2 H10 ys S10 => ?_
    · obtain ⟨x, _, rfl⟩ := List.mem_map.mp hd
      exact Nat.le_of_ble_eq_true rfl
    rw [sort_ints, hall] at S10
    have hy := dps_intsV (S10.dps 0 rfl)
    subst hy
    repeat walk_at "ob"
    refine g_tup0 S10 (SqL.of (S10.at 3 rfl)) (S10.dps 1 rfl) (S10.dpi 1 rfl) fun t1 H11 _ S11 => ?_
    repeat walk_at "ob"
    refine g_tup0 S11 (SqL.of (S11.at 2 rfl)) (dp_nI mm) (nsD_imm mm) fun t2 H12 _ S12 => ?_
    repeat walk_at "ob"
    refine g_tup0 S12 (SqL.of (S12.at 0 rfl)) (dps_ints _) (ints_imm _) fun t3 H13 _ S13 => ?_
    repeat walk_at "ob"
    refine g_newT S13 (.cons (S13.dp 2 rfl) (.cons (S13.dp 1 rfl) (.cons (S13.dp 0 rfl) .nil))) (imm3 (iiD_imm pp) (nsD_imm mm) (ints_imm _)) (Nat.le_of_ble_eq_true rfl) fun T14 H14 _ S14 => ?_
    refine k T14 H14 ?_
    rw [show (left.map fun i : Nat => (i : Int)).map PyData.int = nsD left by rw [List.map_map]; rfl] at S14
    exact Sy.cut (L := [_, _, _, _, _, _, _, _, _]) (Sy.tail (A := rowL rows) S14.less.less.less.less.less)
end
end LAW

set_option Elab.async false
set_option linter.all false
set_option maxRecDepth 100000
namespace LAW
open PySem PySem.Spec PyProof.Rows L2 PySem.W OB
local macro_rules | `(tactic| walk_at "obc") => `(tactic| first
  | exact Or.inl ⟨by omega, by omega⟩
  | exact Or.inr ⟨by omega, by omega⟩
  | exact cdiv_ok (by omega) (by omega)
  | (show (0 : Int) < _; omega)
  | exact ⟨by omega, by decide⟩
  | exact ⟨by decide, by decide⟩)
local macro_rules | `(tactic| walk_at "obat") => `(tactic| first
  | exact Sy.at (by assumption) 0 rfl | exact Sy.at (by assumption) 1 rfl | exact Sy.at (by assumption) 2 rfl | exact Sy.at (by assumption) 3 rfl
  | exact Sy.at (by assumption) 4 rfl | exact Sy.at (by assumption) 5 rfl | exact Sy.at (by assumption) 6 rfl | exact Sy.at (by assumption) _ (by assumption) | exact Sy.at (by assumption) (_ + 1) (by assumption) | exact Sy.at (by assumption) (_ + 2) (by assumption))
local macro_rules | `(tactic| walk_at "obt") => `(tactic| first
  | exact Sy.tqs (by assumption) 0 rfl | exact Sy.tqs (by assumption) 1 rfl | exact Sy.tqs (by assumption) 2 rfl | exact Sy.tqs (by assumption) 3 rfl | exact Sy.tqs (by assumption) 4 rfl | exact Sy.tqs (by assumption) 5 rfl
  | exact Sy.tqs (by assumption) 6 rfl | exact Sy.tqs (by assumption) 7 rfl | assumption)
local macro_rules | `(tactic| walk_at "obl") => `(tactic| first
  | exact SqL.of (by walk_at "obat")
  | exact Sy.sq (by assumption) 0 rfl | exact Sy.sq (by assumption) 1 rfl | exact Sy.sq (by assumption) 2 rfl | exact Sy.sq (by assumption) 3 rfl | exact Sy.sq (by assumption) _ (by assumption))
local macro_rules | `(tactic| walk_at "obd") => `(tactic| first
  | exact Dp.int _ | exact Dp.bl _ | exact Dp.str _ | exact Dp.non
  | exact Sy.dp (by assumption) 0 rfl | exact Sy.dp (by assumption) 1 rfl | exact Sy.dp (by assumption) 2 rfl | exact Sy.dp (by assumption) 3 rfl
  | exact Sy.dp (by assumption) 4 rfl | exact Sy.dp (by assumption) 5 rfl | exact Sy.dp (by assumption) 6 rfl | exact Sy.dp (by assumption) 7 rfl
  | exact Sy.dp (by assumption) 8 rfl | exact Sy.dp (by assumption) 9 rfl | exact Sy.dp (by assumption) _ (by assumption) | assumption)
local macro_rules | `(tactic| walk_at "obds") => `(tactic| first
  | exact DpAll.nil
  | (refine' DpAll.cons ?ob1 ?ob2; (case ob1 => walk_at "obd"); (case ob2 => walk_at "obds"))
  | exact Sy.dps (by assumption) 0 rfl | exact Sy.dps (by assumption) 1 rfl | exact Sy.dps (by assumption) 2 rfl | exact Sy.dps (by assumption) 3 rfl | assumption)
local macro_rules | `(tactic| walk_at "obsc") => `(tactic| first
  | exact ScL.nil
  | ((first | refine' ScL.int ?obz | refine' ScL.str ?obz | refine' ScL.bl ?obz | refine' ScL.non ?obz); (case obz => walk_at "obsc")))
local macro_rules | `(tactic| walk_at "ob1") => `(tactic| first
  | ((with_reducible refine' g_var ?obh ?_); (case obh => rfl))
  | with_reducible refine g_c ?_
  | with_reducible refine g_nx ?_
  | with_reducible refine g_rt ?_
  | with_reducible refine g_bk ?_
  | with_reducible refine g_ct ?_
  | with_reducible refine g_op ?_
  | with_reducible refine g_I0 ?_
  | with_reducible refine g_test ?_
  | with_reducible refine g_bl ?_
  | with_reducible refine g_blx ?_
  | with_reducible refine g_B ?_
  | with_reducible refine g_seq ?_
  | with_reducible refine g_asg ?_
  | with_reducible refine g_name ?_
  | with_reducible refine g_ifS ?_
  | with_reducible refine g_ret ?_
  | with_reducible refine g_cb ?_
  | with_reducible refine g_cons ?_
  | with_reducible refine g_nil ?_
  | with_reducible refine g_int ?_
  | with_reducible refine g_intB ?_
  | with_reducible refine g_abs ?_
  | with_reducible refine g_max ?_
  | with_reducible refine g_min ?_
  | with_reducible refine g_un ?_
  | with_reducible refine g_U ?_
  | with_reducible refine g_eqI ?_
  | with_reducible refine g_neI ?_
  | with_reducible refine g_eqS ?_
  | with_reducible refine g_neS ?_
  | with_reducible refine g_tt ?_
  | with_reducible refine g_ff ?_
  | with_reducible refine g_next ?_
  | with_reducible refine g_drop ?_
  | with_reducible refine g_if ?_
  | with_reducible refine g_andV ?_
  | with_reducible refine g_orV ?_
  | with_reducible refine g_notV ?_
  | with_reducible refine g_and ?_
  | with_reducible refine g_or ?_
  | with_reducible refine g_not ?_
  | with_reducible refine g_yes ?_
  | with_reducible refine g_chain ?_
  | with_reducible refine g_cg ?_
  | with_reducible refine g_mg ?_
  | with_reducible refine g_kg ?_
  | with_reducible refine g_pg ?_
  | ((with_reducible refine' g_call ?obh ?obj ?_); (case obh => rfl); (case obj => rfl))
  | with_reducible refine g_par ?_
  | with_reducible refine g_par2 ?_
  | with_reducible refine g_par3 ?_
  | with_reducible refine g_par33 ?_
  | with_reducible refine g_gnil ?_
  | with_reducible refine g_gcons ?_
  | with_reducible refine g_gsub ?_
  | with_reducible refine g_ipI ?_
  | with_reducible refine g_rAdd ?_
  | with_reducible refine g_rSub ?_
  | ((with_reducible refine' g_aug ?obh ?_); (case obh => rfl))
  | with_reducible refine g_tup ?_
  | with_reducible refine g_lst ?_
  | with_reducible refine g_bm ?_
  | with_reducible refine g_bm0 ?_
  | with_reducible refine g_sl ?_
  | with_reducible refine g_nopart ?_
  | with_reducible refine g_part ?_
  | with_reducible refine g_pint ?_
  | with_reducible refine isi_int ?_
  | with_reducible refine isi_intB ?_
  | ((with_reducible refine' g_I ?obh ?_); (case obh => walk_at "obc"))
  | ((with_reducible refine' g_tyl ?obh ?_); (case obh => walk_at "obl"))
  | ((with_reducible refine' g_lenL ?obh ?_); (case obh => walk_at "obl"))
  | with_reducible refine g_ne ?_
  | ((with_reducible refine' g_neN' ?obh ?_); (case obh => rfl))
  | with_reducible refine g_ntt ?_
  | with_reducible refine g_nff ?_
  | with_reducible refine g_star ?_
  | with_reducible refine g_att ?_
  | with_reducible refine g_sfld ?_
  | with_reducible refine g_faug ?_
  | with_reducible refine g_fld ?_
  | ((with_reducible refine' g_nF ?obh ?_); (case obh => omega))
  | ((with_reducible refine' g_nT ?obh ?_); (case obh => omega))
  | ((with_reducible refine' g_TD ?obh ?_); (case obh => omega))
  | ((with_reducible refine' g_FD ?obh ?_); (case obh => omega))
  | ((with_reducible refine' g_ixUL ?obh ?obi ?_); (case obh => walk_at "obl"); (case obi => exact atI_nn (by omega) (by rfl)))
  | ((with_reducible refine' g_setLS ?obs ?obh ?obi ?_); (case obs => assumption); (case obh => assumption); (case obi => rfl); intro _ _ _)
  | ((with_reducible refine' g_newT ?obs ?obh ?obi ?obj ?_); (case obs => assumption); (case obh => walk_at "obds"); (case obi => rfl); (case obj => exact Nat.le_of_ble_eq_true rfl); intro _ _ _ _)
  | ((with_reducible refine' g_newL ?obs ?obj ?_); (case obs => assumption); (case obj => exact Nat.le_of_ble_eq_true rfl); intro _ _ _ _)
  | ((with_reducible refine' isi_tup ?obh ?_); (case obh => walk_at "obt"))
  | ((with_reducible refine' g_lenT ?obh ?_); (case obh => walk_at "obt"))
  | ((with_reducible refine' g_unpT ?obh ?obi ?_); (case obh => walk_at "obt"); (case obi => rfl))
  | ((with_reducible refine' g_divmod ?obs ?obh ?_); (case obs => assumption); (case obh => exact cdivp_ok (by omega) (by omega) (by omega)); intro _ _ _ _)
  | ((with_reducible refine' g_unpD ?obh ?obi ?obj ?_); (case obh => walk_at "obd"); (case obi => walk_at "obsc"); (case obj => rfl))
  | with_reducible refine g_att ?_)
local macro_rules | `(tactic| walk_at "ob") => `(tactic| first
  | walk_at "ob1"
  | refine use_is_integer ?_
  | refine use_is_within ?_
  | with_reducible refine g_lstRg ?_
  | with_reducible refine g_rg1 ?_
  | with_reducible refine g_rg2 ?_
  | with_reducible refine g_tTru ?_
  | ((with_reducible refine' g_truL ?obh ?_); (case obh => walk_at "obl"))
  | ((with_reducible refine' g_ixUT ?obh ?obi ?_); (case obh => walk_at "obt"); (case obi => rfl))
  | with_reducible refine g_forZ ?_
  | with_reducible refine g_forR2 ?_
  | with_reducible refine g_forE ?_
  | with_reducible refine g_lcZ ?_)
section
variable {P : Program} {w : World} {K : Frag} {mg : Str → Option Value} {base : Heap}
/-- the sum of a book -/
def amt (l : List N) : Int := (l.map (·.2)).sum
theorem g_amounts {σ : L2.St} {H : Hp} {Q : VK} {F : List (Addr × HO)} {G : List Ft} {tl : TE} {a : Addr} {rs : NS} {i j : Nat} {own : List Nat} (S : Sy K F G H) (ht : ∀ Q' : VK, Q' (.ref a) H → tl σ H Q') (ha : SqT K H a (NR rs)) (hta : ∀ q ∈ NT rs, H q.1 = some (.tup q.2)) (hl : rs.length ≤ 200)
    (hw : ∀ u v, wipe (((wipe σ own).set i (some u)).set j (some v)) own = wipe σ own) (hj : ∀ u v, (((wipe σ own).set i (some u)).set j (some v))[j]? = some (some v))
    (k : ∀ p H', Sy K ((p, .lst (((rs.map (·.2)).map (·.2)).map V.int)) :: F) G H' → Q (.ref p) H') : tLc (iSeq K tl) (gTup K 2 (gCons (gName i) (gCons (gName j) gNil))) tYes (tVar j) own σ H Q := by
  have S1 := (S.add (.tt (NT rs)) hta).add (.tq a (NR rs)) ha
  have hn : (NR rs).length = rs.length := List.length_map ..
  refine g_lcS (a := a) (xs := NR rs) false (fun i F' ds => F' = F ∧ ds = ((((rs.map (·.2)).map (·.2)).take i).map PyData.int) ∧ i ≤ rs.length) S1 ht ⟨rfl, rfl, Nat.zero_le _⟩ (fun i F' ds H' hi S3 => S3.tqs 0 rfl) (fun i F' ds hi => by
      rw [hi.2.1, List.length_map, List.length_take]
      omega) ?_ ?_
  · intro i x hx Dp H2 F2 vs ds QE QR hi S3 kE kR
    obtain ⟨rfl, rfl, hi2⟩ := hi
    obtain ⟨r, hr, rfl⟩ := nr_get hx
    have hi3 := (List.getElem?_eq_some_iff.mp hr).1
    have hrm := List.mem_of_getElem? hr
    refine g_unpT (sqt_note (nt_at S3 (i := 2) rfl hrm)) rfl ?_
    refine g_gcons (g_name (g_gcons (g_name (g_gnil ?_))))
    refine ⟨hw _ _, ?_⟩
    refine g_yes (g_T rfl ?_)
    refine g_var (hj _ _) ?_
    refine kE _ (.int r.2.2) _ _ ⟨rfl, ?_, hi3⟩ (S3.fact (dps_one (.int _)) rfl)
    rw [List.take_succ, List.map_append]
    congr 1
    rw [List.getElem?_map, List.getElem?_map, hr]
    rfl
  · rintro Dp H2 F2 vs ds hD ⟨rfl, rfl, _⟩ S3
    have hv := dps_intsV (S3.dps 0 rfl)
    rw [List.take_of_length_le (by rw [List.length_map, List.length_map, hn]; exact Nat.le_refl _)] at hv
    subst hv
    exact k _ _ S3.drop.drop.drop
def sp_difference (K : Frag) : Sp := fun vs H Q E => vs.length = 2 ∧ ∃ (F : List (Addr × HO)) (G : List Ft) (a b : Addr) (rs ts : NS), vs = [.ref a, .ref b] ∧ Sy K F G H ∧ SqT K H a (NR rs) ∧ (∀ q ∈ NT rs, H q.1 = some (.tup q.2)) ∧ SqT K H b (NR ts) ∧ (∀ q ∈ NT ts, H q.1 = some (.tup q.2)) ∧ NG rs ∧ NG ts ∧ rs.length ≤ 200 ∧ ts.length ≤ 200 ∧
  ∀ H', Sy K F G H' → Q (.int (amt (rs.map (·.2)) - amt (ts.map (·.2)))) H'
abbrev names_difference : List Str := ["one", "other", "word", "amount"]
theorem sc_difference : FnScope names_difference ["one", "other"] (defScope (top 25)) := ⟨rfl, rfl, rfl, by decide +kernel, rfl, by decide +kernel, by decide +kernel⟩
set_option maxHeartbeats 4000000 in
theorem ok_difference (T : Tx K mg) : FG P w K mg base CX0 6 T.a_difference T.d_difference ["one", "other"] (sp_difference K) := by
  refine OB.Fun.fg T.F_difference sc_difference (fun vs H Q E h => h.1) (fun cdv A out s H vs Q E g h => ?_)
  obtain ⟨_, F, G0, a, b, rs, ts, rfl, S0, ha, hta, hb, htb, ng, nt, hl, hm, k⟩ := h
  refine ⟨_, (pss_cons (ps_expr (pe_cg (ok_check_notes T) (g.mono (by decide : 5 ≤ 5)) (by rfl) T.m_check_notes T.F_check_notes.kp (OB.Fun.bd T.F_check_notes (ps := ["notes"]) (n := 1) (ks := []) (ix := [0]) (fun _ _ _ _ _ _ us ws h1 h2 => match us, ws, h1, h2 with | [_], [], _, _ => rfl)) pass0 (pa_cons (pv 0) pa_nil) pk_nil))
      (pss_cons (ps_expr (pe_cg (ok_check_notes T) (g.mono (by decide : 5 ≤ 5)) (by rfl) T.m_check_notes T.F_check_notes.kp (OB.Fun.bd T.F_check_notes (ps := ["notes"]) (n := 1) (ks := []) (ix := [0]) (fun _ _ _ _ _ _ us ws h1 h2 => match us, ws, h1, h2 with | [_], [], _, _ => rfl)) pass0 (pa_cons (pv 1) pa_nil) pk_nil))
      (pss_one (ps_ret (pe_op op_sub (pe_callB (toK (r := rSum) (K := K) rfl (cr_sum rfl)) (by rfl) T.n_sum (by decide +kernel) (pa_cons (pe_lc (own := [("word", 2), ("amount", 3)]) (tt := tYes) rfl sc_difference.nd (pi_seq (pv 0)) (blkOk_by (N := names_difference) (sc := defScope (top 25)) (own := [("word", 2), ("amount", 3)]) (by decide +kernel)) (fun _ _ _ _ _ => (pg_tupK (K := K) rfl (n := 2) rfl (pgs_cons (pg_name (i := 2) sc_difference.nd rfl (by first | exact Or.inl rfl | exact Or.inr rfl)) (pgs_cons (pg_name (i := 3) sc_difference.nd rfl (by first | exact Or.inl rfl | exact Or.inr rfl)) pgs_nil)))) (fun _ _ _ _ _ => pts_nil) (fun _ _ _ _ _ => (pv 3))) pa_nil)) (pe_callB (toK (r := rSum) (K := K) rfl (cr_sum rfl)) (by rfl) T.n_sum (by decide +kernel) (pa_cons (pe_lc (own := [("word", 2), ("amount", 3)]) (tt := tYes) rfl sc_difference.nd (pi_seq (pv 1)) (blkOk_by (N := names_difference) (sc := defScope (top 25)) (own := [("word", 2), ("amount", 3)]) (by decide +kernel)) (fun _ _ _ _ _ => (pg_tupK (K := K) rfl (n := 2) rfl (pgs_cons (pg_name (i := 2) sc_difference.nd rfl (by first | exact Or.inl rfl | exact Or.inr rfl)) (pgs_cons (pg_name (i := 3) sc_difference.nd rfl (by first | exact Or.inl rfl | exact Or.inr rfl)) pgs_nil)))) (fun _ _ _ _ _ => pts_nil) (fun _ _ _ _ _ => (pv 3))) pa_nil))))))), ?_⟩
  refine g_start (σ := [some _, some _, none, none]) rfl ?_
  have S := (((S0.add (.tt (NT rs)) hta).add (.tq a (NR rs)) ha).add (.tt (NT ts)) htb).add (.tq b (NR ts)) hb
  clear S0 ha hta hb htb
  repeat walk_at "ob"
  refine use_check_notes S (S.tqs 2 rfl) (S.tts 3 rfl) ng hl fun H1 S1 => ?_
  clear S
  repeat walk_at "ob"
  refine use_check_notes S1 (S1.tqs 0 rfl) (S1.tts 1 rfl) nt hm fun H2 S2 => ?_
  clear S1
  repeat walk_at "ob"
  refine g_amounts (i := 2) (j := 3) S2 (fun Q' q => by repeat walk_at "ob"; exact q) (S2.tqs 2 rfl) (S2.tts 3 rfl) hl (fun _ _ => rfl) (fun _ _ => rfl) fun p1 H3 S3 => ?_
  repeat walk_at "ob"
  refine g_sum (SqL.of (S3.at 0 rfl)) ?_
  repeat walk_at "ob"
  refine g_amounts (i := 2) (j := 3) S3 (fun Q' q => by repeat walk_at "ob"; exact q) (S3.tqs 0 rfl) (S3.tts 1 rfl) hm (fun _ _ => rfl) (fun _ _ => rfl) fun p2 H4 S4 => ?_
  repeat walk_at "ob"
  refine g_sum (SqL.of (S4.at 0 rfl)) ?_
  repeat walk_at "ob"
  exact k _ S4.less.less.drop.drop.drop.drop
end
end LAW

set_option Elab.async false
set_option linter.all false
set_option maxRecDepth 100000
namespace LAW
open PySem PySem.Spec PyProof.Rows L2 PySem.W OB
/-! ### notes counted, plainly -/
def cntN (notes : List N) (n : N) : Nat := (partF notes (List.range notes.length) n).length
def rowN (notes : List N) (n : N) : PyData := .tuple [nD n, .int (cntN notes n : Int)]
abbrev leN : N → N → Bool := dataLe false nD
theorem leN_total : TotalLe leN := sortLe_total _ _ _
theorem leN_anti {a b : N} (h1 : leN a b = true) (h2 : leN b a = true) : a = b := by
  have e1 : dataLt (nD b) (nD a) = false := by
    have : (!dataLt (nD b) (nD a)) = true := h1
    simpa using this
  have e2 : dataLt (nD a) (nD b) = false := by
    have : (!dataLt (nD a) (nD b)) = true := h2
    simpa using this
  have e3 := lex_total (O := itemOrd) _ _ e1 e2
  obtain ⟨x, i⟩ := a
  obtain ⟨y, j⟩ := b
  simp [nD, keyToks, keyToksAll] at e3
  obtain ⟨e4, e5⟩ := e3
  rw [e5, str_of_cps (x := y) (y := x) (by simpa using e4)]
/-- notes that stand more than once, in order -/
structure RepOk (notes L : List N) : Prop where
  nd : L.Nodup
  mem : ∀ n, n ∈ L ↔ 1 < cntN notes n
  so : L.Pairwise fun a b => leN a b = true
theorem RepOk.uniq {notes L M : List N} (a : RepOk notes L) (b : RepOk notes M) : L = M :=
  List.Perm.eq_of_pairwise (le := fun a b => leN a b = true) (fun _ _ _ _ h1 h2 => leN_anti h1 h2) a.so b.so ((List.perm_ext_iff_of_nodup a.nd b.nd).mpr fun n => (a.mem n).trans (b.mem n).symm)
theorem rowN_le {notes : List N} (a b : N) : leN a b = dataLe false id (rowN notes a) (rowN notes b) := by
  show (!dataLt (nD b) (nD a)) = !dataLt (rowN notes b) (rowN notes a)
  have e : dataLt (rowN notes b) (rowN notes a) = PyProof.Rows.lexLt itemOrd (keyToksAll [nD b, .int (cntN notes b : Int)]) (keyToksAll [nD a, .int (cntN notes a : Int)]) := by
    unfold dataLt rowN
    simp only [keyToks]
  rw [e, dataLt_cons (show alike (nD b) (nD a) = true from rfl), nD_eqv]
  by_cases h : b = a
  · subst h
    rw [if_pos (by simp), lex_irrefl]
    show (!lexLt itemOrd _ _) = _
    rw [lex_irrefl]
  · rw [if_neg (by simp [h])]
theorem rows_sort {notes ms : List N} : (ms.map (rowN notes)).mergeSort (dataLe false id) = (ms.mergeSort leN).map (rowN notes) := (sort_maps (rowN notes) fun a _ b _ => rowN_le a b).symm
/-- keys of which each note that stands more than once is one -/
theorem RepOk.of {notes ms : List N} (nd : ms.Nodup) (cov : ∀ n, 1 < cntN notes n → n ∈ ms) : RepOk notes ((ms.mergeSort leN).filter fun n => decide (1 < cntN notes n)) := by
  refine ⟨((List.mergeSort_perm _ _).nodup_iff.mpr nd).filter _, fun n => ?_, (sort_pairwise leN_total ms).filter _⟩
  rw [List.mem_filter, (List.mergeSort_perm _ _).mem_iff]
  constructor
  · intro h
    simpa using h.2
  · intro h
    exact ⟨cov n h, by simpa using h⟩
theorem RepOk.of2 {notes ms : List N} (nd : ms.Nodup) (cov : ∀ n, 1 < cntN notes n → n ∈ ms) : RepOk notes ((ms.filter fun n => decide (1 < cntN notes n)).mergeSort leN) := by
  refine ⟨(List.mergeSort_perm _ _).nodup_iff.mpr (nd.filter _), fun n => ?_, sort_pairwise leN_total _⟩
  rw [(List.mergeSort_perm _ _).mem_iff, List.mem_filter]
  constructor
  · intro h
    simpa using h.2
  · intro h
    exact ⟨cov n h, by simpa using h⟩
theorem cnt_mem {notes : List N} {n : N} (h : 1 < cntN notes n) : ∃ a ∈ List.range notes.length, notes[a]? = some n := by
  unfold cntN at h
  cases e : partF notes (List.range notes.length) n with
  | nil => rw [e] at h; simp at h
  | cons x xs =>
    have : x ∈ partF notes (List.range notes.length) n := by rw [e]; exact List.mem_cons_self ..
    unfold partF at this
    rw [List.mem_filter] at this
    exact ⟨x, this.1, by simpa using this.2⟩
theorem InvP.keys {notes : List N} {rows : List OB.Row} (I : InvP notes rows (List.range notes.length)) : ∃ ms : List N, ms.Nodup ∧ (∀ n, 1 < cntN notes n → n ∈ ms) ∧ ms.length = rows.length ∧
    ∀ (i : Nat) k (p : Addr) (l : List Int), rows[i]? = some (k, p, l) → ∃ n, ms[i]? = some n ∧ k = nK n ∧ l.length = cntN notes n := by
  have key : ∀ rs : List OB.Row, (∀ r ∈ rs, r ∈ rows) → ∃ ms : List N, ms.map nK = rs.map (·.1) ∧ ∀ (i : Nat) k (p : Addr) (l : List Int), rs[i]? = some (k, p, l) → ∃ n, ms[i]? = some n ∧ k = nK n ∧ l.length = cntN notes n := fun rs => by
    induction rs with
    | nil => exact fun _ => ⟨[], rfl, fun i k p l h => by simp at h⟩
    | cons r rs ih =>
      intro hm
      obtain ⟨ms, e1, e2⟩ := ih fun s hs => hm s (List.mem_cons_of_mem _ hs)
      obtain ⟨n, e3, e4⟩ := I.row r (hm r (List.mem_cons_self ..))
      refine ⟨n :: ms, by rw [List.map_cons, List.map_cons, e1, e3], fun i k p l h => ?_⟩
      cases i with
      | zero =>
        rw [List.getElem?_cons_zero] at h
        cases h
        exact ⟨n, rfl, e3, by rw [show l = _ from e4, List.length_map]; rfl⟩
      | succ i =>
        rw [List.getElem?_cons_succ] at h
        exact e2 i k p l h
  obtain ⟨ms, e1, e2⟩ := key rows fun _ h => h
  refine ⟨ms, ?_, fun n hn => ?_, by rw [← List.length_map (f := nK), e1, List.length_map], e2⟩
  · have := I.nd
    rw [← e1] at this
    exact List.Pairwise.of_map nK (fun a b h e => h (by rw [e])) this
  · obtain ⟨a, ha, hna⟩ := cnt_mem hn
    obtain ⟨r, hr, e⟩ := I.cov a ha n hna
    have : nK n ∈ ms.map nK := by rw [e1, ← e]; exact List.mem_map.mpr ⟨r, hr, rfl⟩
    obtain ⟨m, hm, em⟩ := List.mem_map.mp this
    rw [← nK_inj em]
    exact hm
end LAW

set_option Elab.async false
set_option linter.all false
set_option maxRecDepth 100000
namespace LAW
open PySem PySem.Spec PyProof.Rows L2 PySem.W OB
local macro_rules | `(tactic| walk_at "obc") => `(tactic| first
  | exact Or.inl ⟨by omega, by omega⟩
  | exact Or.inr ⟨by omega, by omega⟩
  | exact cdiv_ok (by omega) (by omega)
  | (show (0 : Int) < _; omega)
  | exact ⟨by omega, by decide⟩
  | exact ⟨by decide, by decide⟩)
local macro_rules | `(tactic| walk_at "obat") => `(tactic| first
  | exact Sy.at (by assumption) 0 rfl | exact Sy.at (by assumption) 1 rfl | exact Sy.at (by assumption) 2 rfl | exact Sy.at (by assumption) 3 rfl
  | exact Sy.at (by assumption) 4 rfl | exact Sy.at (by assumption) 5 rfl | exact Sy.at (by assumption) 6 rfl | exact Sy.at (by assumption) _ (by assumption) | exact Sy.at (by assumption) (_ + 1) (by assumption) | exact Sy.at (by assumption) (_ + 2) (by assumption))
local macro_rules | `(tactic| walk_at "obt") => `(tactic| first
  | exact Sy.tqs (by assumption) 0 rfl | exact Sy.tqs (by assumption) 1 rfl | exact Sy.tqs (by assumption) 2 rfl | exact Sy.tqs (by assumption) 3 rfl | exact Sy.tqs (by assumption) 4 rfl | exact Sy.tqs (by assumption) 5 rfl
  | exact Sy.tqs (by assumption) 6 rfl | exact Sy.tqs (by assumption) 7 rfl | assumption)
local macro_rules | `(tactic| walk_at "obl") => `(tactic| first
  | exact SqL.of (by walk_at "obat")
  | exact Sy.sq (by assumption) 0 rfl | exact Sy.sq (by assumption) 1 rfl | exact Sy.sq (by assumption) 2 rfl | exact Sy.sq (by assumption) 3 rfl | exact Sy.sq (by assumption) _ (by assumption))
local macro_rules | `(tactic| walk_at "obd") => `(tactic| first
  | exact Dp.int _ | exact Dp.bl _ | exact Dp.str _ | exact Dp.non
  | exact Sy.dp (by assumption) 0 rfl | exact Sy.dp (by assumption) 1 rfl | exact Sy.dp (by assumption) 2 rfl | exact Sy.dp (by assumption) 3 rfl
  | exact Sy.dp (by assumption) 4 rfl | exact Sy.dp (by assumption) 5 rfl | exact Sy.dp (by assumption) 6 rfl | exact Sy.dp (by assumption) 7 rfl
  | exact Sy.dp (by assumption) 8 rfl | exact Sy.dp (by assumption) 9 rfl | exact Sy.dp (by assumption) _ (by assumption) | assumption)
local macro_rules | `(tactic| walk_at "obds") => `(tactic| first
  | exact DpAll.nil
  | (refine' DpAll.cons ?ob1 ?ob2; (case ob1 => walk_at "obd"); (case ob2 => walk_at "obds"))
  | exact Sy.dps (by assumption) 0 rfl | exact Sy.dps (by assumption) 1 rfl | exact Sy.dps (by assumption) 2 rfl | exact Sy.dps (by assumption) 3 rfl | assumption)
local macro_rules | `(tactic| walk_at "obsc") => `(tactic| first
  | exact ScL.nil
  | ((first | refine' ScL.int ?obz | refine' ScL.str ?obz | refine' ScL.bl ?obz | refine' ScL.non ?obz); (case obz => walk_at "obsc")))
local macro_rules | `(tactic| walk_at "ob1") => `(tactic| first
  | ((with_reducible refine' g_var ?obh ?_); (case obh => rfl))
  | with_reducible refine g_c ?_
  | with_reducible refine g_nx ?_
  | with_reducible refine g_rt ?_
  | with_reducible refine g_bk ?_
  | with_reducible refine g_ct ?_
  | with_reducible refine g_op ?_
  | with_reducible refine g_I0 ?_
  | with_reducible refine g_test ?_
  | with_reducible refine g_bl ?_
  | with_reducible refine g_blx ?_
  | with_reducible refine g_B ?_
  | with_reducible refine g_seq ?_
  | with_reducible refine g_asg ?_
  | with_reducible refine g_name ?_
  | with_reducible refine g_ifS ?_
  | with_reducible refine g_ret ?_
  | with_reducible refine g_cb ?_
  | with_reducible refine g_cons ?_
  | with_reducible refine g_nil ?_
  | with_reducible refine g_int ?_
  | with_reducible refine g_intB ?_
  | with_reducible refine g_abs ?_
  | with_reducible refine g_max ?_
  | with_reducible refine g_min ?_
  | with_reducible refine g_un ?_
  | with_reducible refine g_U ?_
  | with_reducible refine g_eqI ?_
  | with_reducible refine g_neI ?_
  | with_reducible refine g_eqS ?_
  | with_reducible refine g_neS ?_
  | with_reducible refine g_tt ?_
  | with_reducible refine g_ff ?_
  | with_reducible refine g_next ?_
  | with_reducible refine g_drop ?_
  | with_reducible refine g_if ?_
  | with_reducible refine g_andV ?_
  | with_reducible refine g_orV ?_
  | with_reducible refine g_notV ?_
  | with_reducible refine g_and ?_
  | with_reducible refine g_or ?_
  | with_reducible refine g_not ?_
  | with_reducible refine g_yes ?_
  | with_reducible refine g_chain ?_
  | with_reducible refine g_cg ?_
  | with_reducible refine g_mg ?_
  | with_reducible refine g_kg ?_
  | with_reducible refine g_pg ?_
  | ((with_reducible refine' g_call ?obh ?obj ?_); (case obh => rfl); (case obj => rfl))
  | with_reducible refine g_par ?_
  | with_reducible refine g_par2 ?_
  | with_reducible refine g_par3 ?_
  | with_reducible refine g_par33 ?_
  | with_reducible refine g_gnil ?_
  | with_reducible refine g_gcons ?_
  | with_reducible refine g_gsub ?_
  | with_reducible refine g_ipI ?_
  | with_reducible refine g_rAdd ?_
  | with_reducible refine g_rSub ?_
  | ((with_reducible refine' g_aug ?obh ?_); (case obh => rfl))
  | with_reducible refine g_tup ?_
  | with_reducible refine g_lst ?_
  | with_reducible refine g_bm ?_
  | with_reducible refine g_bm0 ?_
  | with_reducible refine g_sl ?_
  | with_reducible refine g_nopart ?_
  | with_reducible refine g_part ?_
  | with_reducible refine g_pint ?_
  | with_reducible refine isi_int ?_
  | with_reducible refine isi_intB ?_
  | ((with_reducible refine' g_I ?obh ?_); (case obh => walk_at "obc"))
  | ((with_reducible refine' g_tyl ?obh ?_); (case obh => walk_at "obl"))
  | ((with_reducible refine' g_lenL ?obh ?_); (case obh => walk_at "obl"))
  | with_reducible refine g_ne ?_
  | ((with_reducible refine' g_neN' ?obh ?_); (case obh => rfl))
  | with_reducible refine g_ntt ?_
  | with_reducible refine g_nff ?_
  | with_reducible refine g_star ?_
  | with_reducible refine g_att ?_
  | with_reducible refine g_sfld ?_
  | with_reducible refine g_faug ?_
  | with_reducible refine g_fld ?_
  | ((with_reducible refine' g_nF ?obh ?_); (case obh => omega))
  | ((with_reducible refine' g_nT ?obh ?_); (case obh => omega))
  | ((with_reducible refine' g_TD ?obh ?_); (case obh => omega))
  | ((with_reducible refine' g_FD ?obh ?_); (case obh => omega))
  | ((with_reducible refine' g_ixUL ?obh ?obi ?_); (case obh => walk_at "obl"); (case obi => exact atI_nn (by omega) (by rfl)))
  | ((with_reducible refine' g_setLS ?obs ?obh ?obi ?_); (case obs => assumption); (case obh => assumption); (case obi => rfl); intro _ _ _)
  | ((with_reducible refine' g_newT ?obs ?obh ?obi ?obj ?_); (case obs => assumption); (case obh => walk_at "obds"); (case obi => rfl); (case obj => exact Nat.le_of_ble_eq_true rfl); intro _ _ _ _)
  | ((with_reducible refine' g_newL ?obs ?obj ?_); (case obs => assumption); (case obj => exact Nat.le_of_ble_eq_true rfl); intro _ _ _ _)
  | ((with_reducible refine' isi_tup ?obh ?_); (case obh => walk_at "obt"))
  | ((with_reducible refine' g_lenT ?obh ?_); (case obh => walk_at "obt"))
  | ((with_reducible refine' g_unpT ?obh ?obi ?_); (case obh => walk_at "obt"); (case obi => rfl))
  | ((with_reducible refine' g_divmod ?obs ?obh ?_); (case obs => assumption); (case obh => exact cdivp_ok (by omega) (by omega) (by omega)); intro _ _ _ _)
  | ((with_reducible refine' g_unpD ?obh ?obi ?obj ?_); (case obh => walk_at "obd"); (case obi => walk_at "obsc"); (case obj => rfl))
  | with_reducible refine g_att ?_)
local macro_rules | `(tactic| walk_at "ob") => `(tactic| first
  | walk_at "ob1"
  | refine use_is_integer ?_
  | refine use_is_within ?_
  | with_reducible refine g_lstRg ?_
  | with_reducible refine g_rg1 ?_
  | with_reducible refine g_rg2 ?_
  | with_reducible refine g_tTru ?_
  | ((with_reducible refine' g_truL ?obh ?_); (case obh => walk_at "obl"))
  | ((with_reducible refine' g_ixUT ?obh ?obi ?_); (case obh => walk_at "obt"); (case obi => rfl))
  | with_reducible refine g_forZ ?_
  | with_reducible refine g_forR2 ?_
  | with_reducible refine g_forE ?_
  | with_reducible refine g_lcZ ?_)
section
variable {P : Program} {w : World} {K : Frag} {mg : Str → Option Value} {base : Heap}
theorem g_lcIC {σ : L2.St} {H : Hp} {Q : VK} {g : TG} {td te : TE} {tt : TT} {own : List Nat} (k : td σ H fun x H1 => tLc (iItemsT (tFrz (tC x))) g tt te own σ H1 Q) : tLc (iItemsT (tFrz td)) g tt te own σ H Q := k
def sp_repeated (K : Frag) : Sp := fun vs H Q E => vs.length = 1 ∧ ∃ (F : List (Addr × HO)) (G : List Ft) (a : Addr) (rs : NS), vs = [.ref a] ∧ Sy K F G H ∧ SqT K H a (NR rs) ∧ (∀ q ∈ NT rs, H q.1 = some (.tup q.2)) ∧ NG rs ∧ rs.length ≤ 200 ∧
  ∀ L t H', RepOk (rs.map (·.2)) L → Sy K F (.dat [.ref t] [.tuple (L.map (rowN (rs.map (·.2))))] :: G) H' → Q (.ref t) H'
abbrev names_repeated : List Str := ["notes", "rows", "note", "numbers", "many"]
theorem sc_repeated : FnScope names_repeated ["notes"] (defScope (top 26)) := ⟨rfl, rfl, rfl, by decide +kernel, rfl, by decide +kernel, by decide +kernel⟩
set_option maxHeartbeats 4000000 in
theorem ok_repeated (T : Tx K mg) : FG P w K mg base CX0 6 T.a_repeated T.d_repeated ["notes"] (sp_repeated K) := by
  refine OB.Fun.fg T.F_repeated sc_repeated (fun vs H Q E h => h.1) (fun cdv A out s H vs Q E g h => ?_)
  obtain ⟨_, F, G0, a, rs, rfl, S0, ha, hta, ng, hl, k⟩ := h
  refine ⟨_, (pss_cons (ps_expr (pe_cg (ok_check_notes T) (g.mono (by decide : 5 ≤ 5)) (by rfl) T.m_check_notes T.F_check_notes.kp (OB.Fun.bd T.F_check_notes (ps := ["notes"]) (n := 1) (ks := []) (ix := [0]) (fun _ _ _ _ _ _ us ws h1 h2 => match us, ws, h1, h2 with | [_], [], _, _ => rfl)) pass0 (pa_cons (pv 0) pa_nil) pk_nil))
      (pss_cons (ps_setLc (i := 1) (own := [("note", 2), ("numbers", 3)]) (tt := tYes) rfl sc_repeated.nd rfl rfl (sw_true rfl rfl rfl (by decide +kernel)) (pi_itemsT (pe_frz (pe_cg (ok_numbers_by_note T) (g.mono (by decide : 1 ≤ 5)) (by rfl) T.m_numbers_by_note T.F_numbers_by_note.kp (OB.Fun.bd T.F_numbers_by_note (ps := ["notes"]) (n := 1) (ks := []) (ix := [0]) (fun _ _ _ _ _ _ us ws h1 h2 => match us, ws, h1, h2 with | [_], [], _, _ => rfl)) pass0 (pa_cons (pv 0) pa_nil) pk_nil))) (blkOk_by (N := names_repeated) (sc := defScope (top 26)) (own := [("note", 2), ("numbers", 3)]) (by decide +kernel)) (fun _ _ _ _ _ => (pg_tupK (K := K) rfl (n := 2) rfl (pgs_cons (pg_name (i := 2) sc_repeated.nd rfl (by first | exact Or.inl rfl | exact Or.inr rfl)) (pgs_cons (pg_name (i := 3) sc_repeated.nd rfl (by first | exact Or.inl rfl | exact Or.inr rfl)) pgs_nil)))) (fun _ _ _ _ _ => pts_nil) (fun _ _ _ _ _ => (pe_tup (pa_cons (pv 2) (pa_cons (pe_callB (toK (r := OB.rLen) (K := K) rfl c_len) (by rfl) T.n_len PySem.boot_len (pa_cons (pv 3) pa_nil)) pa_nil)))))
      (pss_one (ps_ret (pe_callTy (toK (r := rTuple) (K := K) rfl c_tuple) (by rfl) T.n_tuple (by decide +kernel) (pa_cons (pe_callB (toK (r := rSortD) (K := K) rfl (c_sortD g.hu64)) (by rfl) T.n_sorted (by decide +kernel) (pa_cons (pe_lc (own := [("note", 2), ("many", 4)]) rfl sc_repeated.nd (pi_seq (pv 1)) (blkOk_by (N := names_repeated) (sc := defScope (top 26)) (own := [("note", 2), ("many", 4)]) (by decide +kernel)) (fun _ _ _ _ _ => (pg_tupK (K := K) rfl (n := 2) rfl (pgs_cons (pg_name (i := 2) sc_repeated.nd rfl (by first | exact Or.inl rfl | exact Or.inr rfl)) (pgs_cons (pg_name (i := 4) sc_repeated.nd rfl (by first | exact Or.inl rfl | exact Or.inr rfl)) pgs_nil)))) (fun _ _ _ _ _ => pts_one (pt_cmpR op_gt (pv 4) pe_int (nomark _))) (fun _ _ _ _ _ => (pe_tup (pa_cons (pv 2) (pa_cons (pv 4) pa_nil))))) pa_nil)) pa_nil)))))), ?_⟩
  refine g_start (σ := [some _, none, none, none, none]) rfl ?_
  have S := (S0.add (.tt (NT rs)) hta).add (.tq a (NR rs)) ha
  clear S0 ha hta
  repeat walk_at "ob"
  refine use_check_notes S (S.tqs 0 rfl) (S.tts 1 rfl) ng hl fun H1 S1 => ?_
  clear S
  repeat walk_at "ob"
  refine g_lcIC ?_
  repeat walk_at "ob"
  refine use_numbers S1 (S1.tqs 0 rfl) (S1.tts 1 rfl) hl fun d rows H2 I0 hrl S2 => ?_
  clear S1
  have lns : (rs.map (·.2)).length = rs.length := List.length_map ..
  rw [← lns] at I0
  obtain ⟨ms, nd, cov, lms, hms⟩ := I0.keys
  have hml : ms.length ≤ 200 := by omega
  refine g_lcIT (kvs := rows.map fun r => (r.1, V.ref r.2.1)) (G := .tq a (NR rs) :: .tt (NT rs) :: G0) (fun od i F' ds => F' = (d, .frz od (rowD rows)) :: (rowL rows ++ F) ∧ ds = (ms.take i).map (rowN (rs.map (·.2))) ∧ i ≤ ms.length)
    ⟨d, _, _, rfl, rfl, S2.at 0 rfl, 0, rfl, S2, fun od => ⟨⟨rfl, rfl, Nat.zero_le _⟩, fun i F' ds H' ⟨h1, _, _⟩ S3 => ?_, fun i F' ds ⟨_, h2, _⟩ => ?_, fun i kk v hk => ?_, fun Dp H' F' vs ds ⟨h1, h2, h3⟩ S3 => ?_⟩⟩ (fun _ _ _ h q => h _ _ q)
  · subst h1
    exact S3.at 0 rfl
  · rw [h2, List.length_map, List.length_take]
    omega
  · intro Da T q H3 F2 vs ds QE QR ⟨h1, h2, h3⟩ hT hq S3 kE kR
    subst h1 h2
    rw [List.getElem?_map] at hk
    obtain ⟨⟨k1, p1, l1⟩, hr1, hr2⟩ := Option.map_eq_some_iff.mp hk
    obtain ⟨rfl, rfl⟩ := Prod.mk.inj hr2
    obtain ⟨n, hmn, en, hcn⟩ := hms i _ _ _ hr1
    have en : k1 = nK n := en
    subst en
    have S4 := S3.add (.tt [(q, nV n)]) (fun z hz => by rw [List.mem_singleton.mp hz]; exact hq)
    clear S3 S2
    refine g_pair S4 hT fun H4 S5 => ?_
    clear S4
    have S6 := S5.drop
    clear S5
    repeat walk_at "ob"
    refine ⟨rfl, ?_⟩
    repeat walk_at "ob"
    have hF := rowL_at (F := F) hr1
    refine g_lenL (SqL.of (S6.at (i + 2) hF)) ?_
    repeat walk_at "ob"
    refine g_newT S6 (.cons (dp_note (S6.tts 0 rfl _ (List.mem_singleton.mpr rfl))) (.cons (.int _) .nil)) rfl (Nat.le_of_ble_eq_true rfl) fun T2 H5 _ S7 => ?_
    refine kE _ (rowN (rs.map (·.2)) n) _ _ ⟨rfl, ?_, ?_⟩ ?_
    · rw [List.take_succ, List.map_append, hmn]
      rfl
    · have := (List.getElem?_eq_some_iff.mp hr1).1
      omega
    · rw [List.length_map, hcn] at S7
      exact S7.drop2
  · subst h1
    rw [List.length_map, ← lms, List.take_of_length_le (Nat.le_refl _)] at h2
    subst h2
    clear S2
    repeat walk_at "ob"
    have hvl : vs.length = ms.length := by
      rw [dps_length (S3.dps 0 rfl)]
      exact List.length_map ..
    refine g_lcS (a := Dp) (xs := vs) true (fun i F' ds => F' = (Dp, .lst vs) :: (d, .frz od (rowD rows)) :: (rowL rows ++ F) ∧ ds = ((ms.take i).filter fun n => decide (1 < cntN (rs.map (·.2)) n)).map (rowN (rs.map (·.2))) ∧ i ≤ ms.length) S3 (fun Q' q => by repeat walk_at "ob"; exact q) ⟨rfl, rfl, Nat.zero_le _⟩ (fun i F' ds H' hi S4 => by
        rw [hi.1] at S4
        exact SqL.of (S4.at 0 rfl)) (fun i F' ds hi => by
        rw [hi.2.1, List.length_map]
        refine Nat.lt_of_le_of_lt (List.length_filter_le _ _) ?_
        rw [List.length_take]
        omega) ?_ ?_
    · intro i x hx Dq H4 F2 us ds QE QR hi S4 kE kR
      obtain ⟨rfl, rfl, hi2⟩ := hi
      obtain ⟨n, hn, hdx⟩ := dps_map (S4.dps 1 rfl) hx
      have hi3 := (List.getElem?_eq_some_iff.mp hn).1
      obtain ⟨p2, zs, rfl, hp2, hzs⟩ := dp_tuple (show L2.Dp K H4 x (.tuple [nD n, .int (cntN (rs.map (·.2)) n : Int)]) from hdx)
      cases hzs with
      | cons d1 hzs =>
      cases hzs with
      | cons d2 hzs =>
      cases hzs
      obtain rfl := dp_int d2
      refine g_unpT hp2 rfl ?_
      have S5 := S4.fact (dps_one d1) rfl
      clear S4 S3
      repeat walk_at "ob"
      refine ⟨rfl, ?_⟩
      repeat walk_at "ob"
      refine g_iteD (fun hc => ?_) (fun hc => ?_)
      · repeat walk_at "ob"
        rename_i T3 H5 _ S6
        refine kE _ (rowN (rs.map (fun r : Addr × N => r.2)) n) _ _ ⟨rfl, ?_, hi3⟩ S6.drop2
        rw [List.take_succ, List.filter_append, List.map_append, hn]
        simp [show 1 < cntN (rs.map (·.2)) n by omega]
      · refine kR _ _ ⟨rfl, ?_, hi3⟩ S5.drop
        rw [List.take_succ, List.filter_append, List.map_append, hn]
        simp [show ¬ 1 < cntN (rs.map (·.2)) n by omega]
    · rintro Dq H4 F2 us ds hD ⟨rfl, rfl, _⟩ S4
      rw [hvl, List.take_of_length_le (Nat.le_refl _)] at S4
      repeat walk_at "ob"
      refine g_sortD S4 (SqL.of (S4.at 0 rfl)) (S4.dps 0 rfl) (S4.dpi 0 rfl) (AllAlike.of fun a b => rfl) (Sortable.tuples fun b => ⟨_, _, rfl⟩) (fun d hd => ?_) (by
        rw [List.length_map]
        have := List.length_filter_le (fun n => decide (1 < cntN (rs.map (·.2)) n)) ms
        omega) fun p2 H5 ys S5 => ?_
      · obtain ⟨n, _, rfl⟩ := List.mem_map.mp hd
        exact Nat.le_of_ble_eq_true rfl
      rw [rows_sort] at S5
      repeat walk_at "ob"
      refine g_tup0 S5 (SqL.of (S5.at 0 rfl)) (S5.dps 0 rfl) (S5.dpi 0 rfl) fun t1 H6 _ S6 => ?_
      refine k _ t1 H6 (RepOk.of2 nd cov) ?_
      exact Sy.cut (L := [_, _, _, _, _]) (Sy.tail (A := rowL rows) S6.less.less.less.less)
end
end LAW

set_option Elab.async false
set_option linter.all false
set_option maxRecDepth 100000
namespace LAW
open PySem PySem.Spec PyProof.Rows L2 PySem.W OB
local macro_rules | `(tactic| walk_at "obc") => `(tactic| first
  | exact Or.inl ⟨by omega, by omega⟩
  | exact Or.inr ⟨by omega, by omega⟩
  | exact cdiv_ok (by omega) (by omega)
  | (show (0 : Int) < _; omega)
  | exact ⟨by omega, by decide⟩
  | exact ⟨by decide, by decide⟩)
local macro_rules | `(tactic| walk_at "obat") => `(tactic| first
  | exact Sy.at (by assumption) 0 rfl | exact Sy.at (by assumption) 1 rfl | exact Sy.at (by assumption) 2 rfl | exact Sy.at (by assumption) 3 rfl
  | exact Sy.at (by assumption) 4 rfl | exact Sy.at (by assumption) 5 rfl | exact Sy.at (by assumption) 6 rfl | exact Sy.at (by assumption) _ (by assumption) | exact Sy.at (by assumption) (_ + 1) (by assumption) | exact Sy.at (by assumption) (_ + 2) (by assumption))
local macro_rules | `(tactic| walk_at "obt") => `(tactic| first
  | exact Sy.tqs (by assumption) 0 rfl | exact Sy.tqs (by assumption) 1 rfl | exact Sy.tqs (by assumption) 2 rfl | exact Sy.tqs (by assumption) 3 rfl | exact Sy.tqs (by assumption) 4 rfl | exact Sy.tqs (by assumption) 5 rfl
  | exact Sy.tqs (by assumption) 6 rfl | exact Sy.tqs (by assumption) 7 rfl | assumption)
local macro_rules | `(tactic| walk_at "obl") => `(tactic| first
  | exact SqL.of (by walk_at "obat")
  | exact Sy.sq (by assumption) 0 rfl | exact Sy.sq (by assumption) 1 rfl | exact Sy.sq (by assumption) 2 rfl | exact Sy.sq (by assumption) 3 rfl | exact Sy.sq (by assumption) _ (by assumption))
local macro_rules | `(tactic| walk_at "obd") => `(tactic| first
  | exact Dp.int _ | exact Dp.bl _ | exact Dp.str _ | exact Dp.non
  | exact Sy.dp (by assumption) 0 rfl | exact Sy.dp (by assumption) 1 rfl | exact Sy.dp (by assumption) 2 rfl | exact Sy.dp (by assumption) 3 rfl
  | exact Sy.dp (by assumption) 4 rfl | exact Sy.dp (by assumption) 5 rfl | exact Sy.dp (by assumption) 6 rfl | exact Sy.dp (by assumption) 7 rfl
  | exact Sy.dp (by assumption) 8 rfl | exact Sy.dp (by assumption) 9 rfl | exact Sy.dp (by assumption) _ (by assumption) | assumption)
local macro_rules | `(tactic| walk_at "obds") => `(tactic| first
  | exact DpAll.nil
  | (refine' DpAll.cons ?ob1 ?ob2; (case ob1 => walk_at "obd"); (case ob2 => walk_at "obds"))
  | exact Sy.dps (by assumption) 0 rfl | exact Sy.dps (by assumption) 1 rfl | exact Sy.dps (by assumption) 2 rfl | exact Sy.dps (by assumption) 3 rfl | assumption)
local macro_rules | `(tactic| walk_at "obsc") => `(tactic| first
  | exact ScL.nil
  | ((first | refine' ScL.int ?obz | refine' ScL.str ?obz | refine' ScL.bl ?obz | refine' ScL.non ?obz); (case obz => walk_at "obsc")))
local macro_rules | `(tactic| walk_at "ob1") => `(tactic| first
  | ((with_reducible refine' g_var ?obh ?_); (case obh => rfl))
  | with_reducible refine g_c ?_
  | with_reducible refine g_nx ?_
  | with_reducible refine g_rt ?_
  | with_reducible refine g_bk ?_
  | with_reducible refine g_ct ?_
  | with_reducible refine g_op ?_
  | with_reducible refine g_I0 ?_
  | with_reducible refine g_test ?_
  | with_reducible refine g_bl ?_
  | with_reducible refine g_blx ?_
  | with_reducible refine g_B ?_
  | with_reducible refine g_seq ?_
  | with_reducible refine g_asg ?_
  | with_reducible refine g_name ?_
  | with_reducible refine g_ifS ?_
  | with_reducible refine g_ret ?_
  | with_reducible refine g_cb ?_
  | with_reducible refine g_cons ?_
  | with_reducible refine g_nil ?_
  | with_reducible refine g_int ?_
  | with_reducible refine g_intB ?_
  | with_reducible refine g_abs ?_
  | with_reducible refine g_max ?_
  | with_reducible refine g_min ?_
  | with_reducible refine g_un ?_
  | with_reducible refine g_U ?_
  | with_reducible refine g_eqI ?_
  | with_reducible refine g_neI ?_
  | with_reducible refine g_eqS ?_
  | with_reducible refine g_neS ?_
  | with_reducible refine g_tt ?_
  | with_reducible refine g_ff ?_
  | with_reducible refine g_next ?_
  | with_reducible refine g_drop ?_
  | with_reducible refine g_if ?_
  | with_reducible refine g_andV ?_
  | with_reducible refine g_orV ?_
  | with_reducible refine g_notV ?_
  | with_reducible refine g_and ?_
  | with_reducible refine g_or ?_
  | with_reducible refine g_not ?_
  | with_reducible refine g_yes ?_
  | with_reducible refine g_chain ?_
  | with_reducible refine g_cg ?_
  | with_reducible refine g_mg ?_
  | with_reducible refine g_kg ?_
  | with_reducible refine g_pg ?_
  | ((with_reducible refine' g_call ?obh ?obj ?_); (case obh => rfl); (case obj => rfl))
  | with_reducible refine g_par ?_
  | with_reducible refine g_par2 ?_
  | with_reducible refine g_par3 ?_
  | with_reducible refine g_par33 ?_
  | with_reducible refine g_gnil ?_
  | with_reducible refine g_gcons ?_
  | with_reducible refine g_gsub ?_
  | with_reducible refine g_ipI ?_
  | with_reducible refine g_rAdd ?_
  | with_reducible refine g_rSub ?_
  | ((with_reducible refine' g_aug ?obh ?_); (case obh => rfl))
  | with_reducible refine g_tup ?_
  | with_reducible refine g_lst ?_
  | with_reducible refine g_bm ?_
  | with_reducible refine g_bm0 ?_
  | with_reducible refine g_sl ?_
  | with_reducible refine g_nopart ?_
  | with_reducible refine g_part ?_
  | with_reducible refine g_pint ?_
  | with_reducible refine isi_int ?_
  | with_reducible refine isi_intB ?_
  | ((with_reducible refine' g_I ?obh ?_); (case obh => walk_at "obc"))
  | ((with_reducible refine' g_tyl ?obh ?_); (case obh => walk_at "obl"))
  | ((with_reducible refine' g_lenL ?obh ?_); (case obh => walk_at "obl"))
  | with_reducible refine g_ne ?_
  | ((with_reducible refine' g_neN' ?obh ?_); (case obh => rfl))
  | with_reducible refine g_ntt ?_
  | with_reducible refine g_nff ?_
  | with_reducible refine g_star ?_
  | with_reducible refine g_att ?_
  | with_reducible refine g_sfld ?_
  | with_reducible refine g_faug ?_
  | with_reducible refine g_fld ?_
  | ((with_reducible refine' g_nF ?obh ?_); (case obh => omega))
  | ((with_reducible refine' g_nT ?obh ?_); (case obh => omega))
  | ((with_reducible refine' g_TD ?obh ?_); (case obh => omega))
  | ((with_reducible refine' g_FD ?obh ?_); (case obh => omega))
  | ((with_reducible refine' g_ixUL ?obh ?obi ?_); (case obh => walk_at "obl"); (case obi => exact atI_nn (by omega) (by rfl)))
  | ((with_reducible refine' g_setLS ?obs ?obh ?obi ?_); (case obs => assumption); (case obh => assumption); (case obi => rfl); intro _ _ _)
  | ((with_reducible refine' g_newT ?obs ?obh ?obi ?obj ?_); (case obs => assumption); (case obh => walk_at "obds"); (case obi => rfl); (case obj => exact Nat.le_of_ble_eq_true rfl); intro _ _ _ _)
  | ((with_reducible refine' g_newL ?obs ?obj ?_); (case obs => assumption); (case obj => exact Nat.le_of_ble_eq_true rfl); intro _ _ _ _)
  | ((with_reducible refine' isi_tup ?obh ?_); (case obh => walk_at "obt"))
  | ((with_reducible refine' g_lenT ?obh ?_); (case obh => walk_at "obt"))
  | ((with_reducible refine' g_unpT ?obh ?obi ?_); (case obh => walk_at "obt"); (case obi => rfl))
  | ((with_reducible refine' g_divmod ?obs ?obh ?_); (case obs => assumption); (case obh => exact cdivp_ok (by omega) (by omega) (by omega)); intro _ _ _ _)
  | ((with_reducible refine' g_unpD ?obh ?obi ?obj ?_); (case obh => walk_at "obd"); (case obi => walk_at "obsc"); (case obj => rfl))
  | with_reducible refine g_att ?_)
local macro_rules | `(tactic| walk_at "ob") => `(tactic| first
  | walk_at "ob1"
  | refine use_is_integer ?_
  | refine use_is_within ?_
  | with_reducible refine g_lstRg ?_
  | with_reducible refine g_rg1 ?_
  | with_reducible refine g_rg2 ?_
  | with_reducible refine g_tTru ?_
  | ((with_reducible refine' g_truL ?obh ?_); (case obh => walk_at "obl"))
  | ((with_reducible refine' g_ixUT ?obh ?obi ?_); (case obh => walk_at "obt"); (case obi => rfl))
  | with_reducible refine g_forZ ?_
  | with_reducible refine g_forR2 ?_
  | with_reducible refine g_forE ?_
  | with_reducible refine g_lcZ ?_)
section
variable {P : Program} {w : World} {K : Frag} {mg : Str → Option Value} {base : Heap}
theorem op_eqDK {X : Cx} {K : Frag} (h : X.K = K) (hu : X.A.units + 64 < cLine) : OpR X (compareOp .Eq) (rEqD K) := h ▸ op_eqD hu
theorem erase_cast (l : List Nat) (x : Nat) : (l.map fun i : Nat => (i : Int)).erase (x : Int) = (l.erase x).map fun i : Nat => (i : Int) := by
  induction l with
  | nil => rfl
  | cons y l ih =>
    by_cases h : y = x
    · subst h
      rw [List.map_cons, List.erase_cons_head, List.erase_cons_head]
    · rw [List.map_cons, List.erase_cons_tail (by simp; omega), ih, List.erase_cons_tail (by simp [h]), List.map_cons]
theorem partF_take {notes : List N} {left : List Nat} {n : N} {j x : Nat} (h : left[j]? = some x) : partF notes (left.take (j + 1)) n = partF notes (left.take j) n ++ if notes[x]? = some n then [x] else [] := by
  unfold partF
  rw [List.take_succ, List.filter_append, h]
  by_cases c : notes[x]? = some n <;> simp [c]
theorem dps_nsV {H : Hp} {vs : List V} {l : List Nat} (h : DpAll K H vs (nsD l)) : vs = nI l := by
  rw [dps_scal h fun d hd => by
    obtain ⟨s, _, rfl⟩ := List.mem_map.mp hd
    rfl]
  unfold nsD nI
  rw [List.map_map]
  rfl
theorem nI_get {l : List Nat} {i : Nat} {x : V} (h : (nI l)[i]? = some x) : ∃ n, l[i]? = some n ∧ x = .int (n : Int) := by
  unfold nI at h
  rw [List.getElem?_map] at h
  obtain ⟨r, h1, h2⟩ := Option.map_eq_some_iff.mp h
  exact ⟨r, h1, h2.symm⟩
theorem nr_at {rs : NS} {i : Nat} {r : Addr × N} (h : rs[i]? = some r) : (NR rs)[i]? = some (.ref r.1) := by
  unfold NR
  rw [List.getElem?_map, h]
  rfl
theorem strOk_w {z : Str} (h : WOk z.cps.toList) : PyData.canLay0 (.str z) = true := by
  show z.cps.all (· < 0x110000) = true
  rw [Array.all_eq_true']
  intro c hc
  have := h.2.2 c (by simpa using hc)
  simp
  omega
theorem shaped_nD {n : N} (h : NOk n) : SeqAt.shaped (nD n) = true := by
  show (PyData.canLay0 (nD n) && decide ((nD n).depth ≤ 64)) = true
  have : PyData.canLay0 (nD n) = true := by
    show (PyData.canLay0 (.str n.1) && (true && true)) = true
    rw [strOk_w h.1]
    rfl
  rw [this]
  rfl
theorem shaped_nsD (l : List Nat) : SeqAt.shaped (.list (nsD l)) = true := by
  show (PyData.canLay0 (.list (nsD l)) && decide ((PyData.list (nsD l)).depth ≤ 64)) = true
  have h1 : PyData.canLayAll0 (nsD l) = true ∧ PyData.depthAll (nsD l) = 0 := by
    induction l with
    | nil => exact ⟨rfl, rfl⟩
    | cons x l ih =>
      refine ⟨?_, ?_⟩
      · show (true && PyData.canLayAll0 (nsD l)) = true
        rw [ih.1]
        rfl
      · show max 0 (PyData.depthAll (nsD l)) = 0
        rw [ih.2]
        rfl
  rw [show PyData.canLay0 (.list (nsD l)) = true from h1.1, show (PyData.list (nsD l)).depth = 1 from by show PyData.depthAll (nsD l) + 1 = 1; rw [h1.2]]
  rfl
def sp_law_paired (K : Frag) : Sp := fun vs H Q E => vs.length = 2 ∧ ∃ (F : List (Addr × HO)) (G : List Ft) (a b : Addr) (rs ts : NS), vs = [.ref a, .ref b] ∧ Sy K F G H ∧ SqT K H a (NR rs) ∧ (∀ q ∈ NT rs, H q.1 = some (.tup q.2)) ∧ SqT K H b (NR ts) ∧ (∀ q ∈ NT ts, H q.1 = some (.tup q.2)) ∧ NG rs ∧ NG ts ∧ rs.length ≤ 200 ∧ ts.length ≤ 200 ∧
  ∀ t H', Sy K F (.dat [.ref t] [pairD (pairF (rs.map (·.2)) (ts.map (·.2)))] :: G) H' → Q (.ref t) H'
abbrev names_law_paired : List Str := ["one", "other", "left", "pairs", "mine", "number", "note", "some", "at"]
theorem sc_law_paired : FnScope names_law_paired ["one", "other"] (defScope (top 42)) := ⟨rfl, rfl, rfl, by decide +kernel, rfl, by decide +kernel, by decide +kernel⟩
set_option maxHeartbeats 4000000 in
theorem ok_law_paired (T : Tx K mg) : FG P w K mg base CX0 1 T.a_law_paired T.d_law_paired ["one", "other"] (sp_law_paired K) := by
  refine OB.Fun.fg T.F_law_paired sc_law_paired (fun vs H Q E h => h.1) (fun cdv A out s H vs Q E g h => ?_)
  obtain ⟨_, F, G0, a, b, rs, ts, rfl, S0, ha, hta, hb, htb, ng, nt, hl, hm, k⟩ := h
  refine ⟨_, (pss_cons (ps_par3 (i := 2) (j := 3) (l := 4) rfl sc_law_paired.nd rfl rfl rfl (by decide) (by decide) (by decide) rfl rfl rfl (pa_cons (pe_listRg rfl (by rfl) T.n_list (prg_1 (by rfl) T.n_range (pe_callB (toK (r := OB.rLen) (K := K) rfl c_len) (by rfl) T.n_len PySem.boot_len (pa_cons (pv 1) pa_nil)))) (pa_cons (pe_lst pa_nil) (pa_cons (pe_lst pa_nil) pa_nil))) (by rfl))
      (pss_cons (ps_for PassesOwn.never rfl (pi_enumK (by rfl) T.n_enumerate (pa_cons (pv 0) pa_nil)) (pg_tupK (K := K) rfl (n := 2) rfl (pgs_cons (pg_name (i := 5) sc_law_paired.nd rfl (by first | exact Or.inl rfl | exact Or.inr rfl)) (pgs_cons (pg_name (i := 6) sc_law_paired.nd rfl (by first | exact Or.inl rfl | exact Or.inr rfl)) pgs_nil)))
      (pss_cons (ps_setLc (i := 7) (own := [("at", 8)]) rfl sc_law_paired.nd rfl rfl (sw_true rfl rfl rfl (by decide +kernel)) (pi_seq (pv 2)) (blkOk_by (N := names_law_paired) (sc := defScope (top 42)) (own := [("at", 8)]) (by decide +kernel)) (fun _ _ _ _ _ => (pg_name (i := 8) sc_law_paired.nd rfl (by first | exact Or.inl rfl | exact Or.inr rfl))) (fun _ _ _ _ _ => pts_one (pt_cmpR (op_eqDK (K := K) rfl g.hu64) (pe_ix (ix_UK (K := K) rfl) (pv 1) (pv 8) (fun _ _ => rfl)) (pv 6) (nomark _))) (fun _ _ _ _ _ => (pv 8)))
      (pss_one (ps_if (pt_cmpR (op_neD g.hu64) (pv 7) (pe_lst pa_nil) (nomark _)) (pss_cons (ps_expr (pe_bm PySem.F.plainAttrs_list PySem.F.slot_list_remove PySem.F.type_list_remove mt_remI (pv 2) (pa_cons (pe_ix (ix_UK (K := K) rfl) (pv 7) pe_int (fun _ _ => rfl)) pa_nil)))
      (pss_one (ps_expr (pe_bm PySem.F.plainAttrs_list PySem.F.slot_list_append PySem.F.type_list_append mt_append (pv 3) (pa_cons (pe_tup (pa_cons (pe_callTy c_int (by rfl) T.n_int (by decide +kernel) (pa_cons (pv 5) pa_nil)) (pa_cons (pe_callTy c_int (by rfl) T.n_int (by decide +kernel) (pa_cons (pe_ix (ix_UK (K := K) rfl) (pv 7) pe_int (fun _ _ => rfl)) pa_nil)) pa_nil))) pa_nil))))) (pss_one (ps_expr (pe_bm PySem.F.plainAttrs_list PySem.F.slot_list_append PySem.F.type_list_append mt_append (pv 4) (pa_cons (pe_callTy c_int (by rfl) T.n_int (by decide +kernel) (pa_cons (pv 5) pa_nil)) pa_nil))))))))
      (pss_one (ps_ret (pe_tup (pa_cons (pe_callTy (toK (r := rTuple) (K := K) rfl c_tuple) (by rfl) T.n_tuple (by decide +kernel) (pa_cons (pv 3) pa_nil)) (pa_cons (pe_callTy (toK (r := rTuple) (K := K) rfl c_tuple) (by rfl) T.n_tuple (by decide +kernel) (pa_cons (pv 4) pa_nil)) (pa_cons (pe_callTy (toK (r := rTuple) (K := K) rfl c_tuple) (by rfl) T.n_tuple (by decide +kernel) (pa_cons (pe_lc (own := [("at", 8)]) (tt := tYes) rfl sc_law_paired.nd (pi_seq (pv 2)) (blkOk_by (N := names_law_paired) (sc := defScope (top 42)) (own := [("at", 8)]) (by decide +kernel)) (fun _ _ _ _ _ => (pg_name (i := 8) sc_law_paired.nd rfl (by first | exact Or.inl rfl | exact Or.inr rfl))) (fun _ _ _ _ _ => pts_nil) (fun _ _ _ _ _ => (pe_callTy c_int (by rfl) T.n_int (by decide +kernel) (pa_cons (pv 8) pa_nil)))) pa_nil)) pa_nil)))))))), ?_⟩
  refine g_start (σ := [some _, some _, none, none, none, none, none, none, none]) rfl ?_
  have S := (((S0.add (.tt (NT rs)) hta).add (.tq a (NR rs)) ha).add (.tt (NT ts)) htb).add (.tq b (NR ts)) hb
  clear S0 ha hta hb htb
  have hn : (NR rs).length = rs.length := List.length_map ..
  have hnt : (NR ts).length = ts.length := List.length_map ..
  have lns : (rs.map (·.2)).length = rs.length := List.length_map ..
  have lms : (ts.map (·.2)).length = ts.length := List.length_map ..
  repeat walk_at "ob"
  refine g_newRg S ⟨by omega, by omega, by omega, by omega, by omega⟩ fun le H1 S1 => ?_
  clear S
  repeat walk_at "ob"
  rename_i pr H2 _ S2 mi H3 _ S3
  rw [show (mi, HO.lst []) = (mi, HO.lst (nI [])) from rfl, rgV0, hnt, show ((ts.length : Nat) : Int).toNat = (ts.map (·.2)).length by rw [lms]; rfl, ← nI_eq] at S3
  refine ⟨false, a, _, rfl, S3.tqs 2 rfl, ?_⟩
  refine for_enumK (xs := NR rs) (fun i σ' H' => ∃ v5 v6 v7 pvs, σ' = [some (.ref a), some (.ref b), some (.ref le), some (.ref pr), some (.ref mi), v5, v6, v7, none] ∧ i ≤ rs.length ∧
      Sy K ((mi, .lst (nI (pairG (ts.map (fun r : Addr × N => r.2)) (rs.map (fun r : Addr × N => r.2)) i).2.1)) :: (pr, .lst pvs) :: (le, .lst (nI (pairG (ts.map (fun r : Addr × N => r.2)) (rs.map (fun r : Addr × N => r.2)) i).2.2)) :: F) (.dat pvs (iiD (pairG (ts.map (fun r : Addr × N => r.2)) (rs.map (fun r : Addr × N => r.2)) i).1) :: .tq b (NR ts) :: .tt (NT ts) :: .tq a (NR rs) :: .tt (NT rs) :: G0) H')
    ⟨none, none, none, [], rfl, Nat.zero_le _, S3.fact .nil rfl⟩ (fun i σ' H' ⟨_, _, _, _, _, _, S4⟩ => S4.tqs 3 rfl) ?_ ?_
  · rintro i x Tn σ' H' hx ⟨v5, v6, v7, pvs, rfl, hi, S8⟩ hT
    refine g_pair S8 hT fun H2 S9 => ?_
    obtain ⟨r, hri, rfl⟩ := nr_get hx
    have hrm := List.mem_of_getElem? hri
    have hi1 := (List.getElem?_eq_some_iff.mp hri).1
    have hno : (rs.map (·.2))[i]? = some r.2 := by rw [List.getElem?_map, hri]; rfl
    have S10 := S9.drop
    clear S3 S8 S9
    have step : pairG (ts.map (·.2)) (rs.map (·.2)) (i + 1) = pairS (ts.map (·.2)) (pairG (ts.map (·.2)) (rs.map (·.2)) i) i r.2 := by
      rw [pairG, hno]
    have hlen := pairG_len (other := ts.map (·.2)) (one := rs.map (·.2)) i
    have hleft := pairG_left (other := ts.map (·.2)) (one := rs.map (·.2)) i
    have hll := pairG_llen (other := ts.map (·.2)) (one := rs.map (·.2)) i
    rw [step]
    generalize pairG (ts.map (·.2)) (rs.map (·.2)) i = st at S10 hlen hleft hll ⊢
    obtain ⟨pp, mm, left⟩ := st
    have hlp : pvs.length = pp.length := by
      rw [dps_length (S10.dps 0 rfl)]
      exact List.length_map ..
    have hlm : (nI mm).length = mm.length := List.length_map ..
    have hlf : (nI left).length = left.length := List.length_map ..
    dsimp only at hlen S10 hleft hll
    rw [lms] at hll
    repeat walk_at "ob"
    refine g_lcS (a := le) (xs := nI left) true (fun j F' ds => F' = (mi, .lst (nI mm)) :: (pr, .lst pvs) :: (le, .lst (nI left)) :: F ∧ ds = nsD (partF (ts.map (·.2)) (left.take j) r.2) ∧ j ≤ left.length) S10 (fun Q' q => by repeat walk_at "ob"; exact q) ⟨rfl, rfl, Nat.zero_le _⟩ (fun i F' ds H' hi S4 => by
        rw [hi.1] at S4
        exact SqL.of (S4.at 2 rfl)) (fun i F' ds hi => by
        rw [hi.2.1, show (nsD _).length = _ from List.length_map ..]
        refine Nat.lt_of_le_of_lt (List.length_filter_le _ _) ?_
        rw [List.length_take]
        omega) ?_ ?_
    · intro j x hx Dq H4 F2 us ds QE QR hi S4 kE kR
      obtain ⟨rfl, rfl, hj⟩ := hi
      obtain ⟨z, hz, rfl⟩ := nI_get hx
      have hj3 := (List.getElem?_eq_some_iff.mp hz).1
      have hzl := hleft.2 z (List.mem_of_getElem? hz)
      rw [lms] at hzl
      have hzt : ts[z]? = some ts[z] := List.getElem?_eq_getElem hzl
      have htm := List.mem_of_getElem? hzt
      generalize ts[z] = tz at hzt htm
      have hzn : (ts.map (·.2))[z]? = some tz.2 := by rw [List.getElem?_map, hzt]; rfl
      have hp := partF_take (notes := ts.map (·.2)) (n := r.2) hz
      rw [hzn] at hp
      repeat walk_at "ob"
      refine ⟨rfl, ?_⟩
      repeat walk_at "ob"
      refine g_ixUT (S4.tqs 2 rfl) (atI_nn (by omega) (nr_at hzt)) ?_
      repeat walk_at "ob"
      refine g_eqD (dp_note (nt_at S4 (i := 3) rfl htm)) (dp_note (nt_at S4 (i := 5) rfl hrm)) (shaped_nD (nt _ htm)) (shaped_nD (ng _ hrm)) ?_
      rw [nD_eqv]
      repeat walk_at "ob"
      refine g_iteD (fun hc => ?_) (fun hc => ?_)
      · repeat walk_at "ob"
        refine kE _ (.int (z : Int)) _ _ ⟨rfl, ?_, hj3⟩ (S4.fact (dps_one (.int _)) rfl)
        rw [hp, if_pos (by rw [hc])]
        unfold nsD
        rw [List.map_append]
        rfl
      · refine kR _ _ ⟨rfl, ?_, hj3⟩ S4
        rw [hp, if_neg (fun e => hc (Option.some.inj e)), List.append_nil]
    · rintro Dq H4 F2 us ds hD ⟨rfl, rfl, _⟩ S4
      rw [hlf, List.take_of_length_le (Nat.le_refl _)] at S4
      have hv := dps_nsV (S4.dps 0 rfl)
      subst hv
      repeat walk_at "ob"
      rename_i nl H5 _ S5
      refine g_neD (.lst (SqL.of (S5.at 1 rfl)) (S5.dps 0 rfl)) (.lst (SqL.of (S5.at 0 rfl)) .nil) ?_ rfl ?_
      · exact shaped_nsD _
      clear S4 S10
      have hleft2 := hleft.2
      clear step hleft
      cases hp : partF (ts.map (·.2)) left r.2 with
      | nil =>
        rw [hp] at S5
        have e : pairS (ts.map (·.2)) (pp, mm, left) i r.2 = (pp, mm ++ [i], left) := by
          unfold pairS
          simp only
          rw [hp]
        rw [e]
        repeat walk_at "ob"
        refine g_F rfl ?_
        repeat walk_at "ob"
        refine g_appS S5 (f := 2) rfl (by omega) fun H8 S6 => ?_
        repeat walk_at "ob"
        refine ⟨_, _, _, pvs, rfl, hi1, ?_⟩
        show Sy K ((mi, .lst (nI (mm ++ [i]))) :: _) _ _
        rw [show nI (mm ++ [i]) = nI mm ++ [V.int (i : Int)] by unfold nI; rw [List.map_append]; rfl]
        exact S6.less.less.drop
      | cons x xs =>
        rw [hp] at S5
        have e : pairS (ts.map (·.2)) (pp, mm, left) i r.2 = (pp ++ [(i, x)], mm, left.erase x) := by
          unfold pairS
          simp only
          rw [hp]
        rw [e]
        have hxm : x ∈ left := by
          have : x ∈ partF (ts.map (·.2)) left r.2 := by rw [hp]; exact List.mem_cons_self ..
          exact (List.mem_filter.mp this).1
        repeat walk_at "ob"
        refine g_T rfl ?_
        repeat walk_at "ob"
        have S6 := S5.less
        clear S5
        rw [nI_eq left] at S6
        refine g_remI (k := (x : Int)) S6 (i := 3) rfl (List.mem_map.mpr ⟨x, hxm, rfl⟩) fun H8 S7 => ?_
        rw [erase_cast, ← nI_eq] at S7
        clear S6
        repeat walk_at "ob"
        rename_i T9 H9 _ S15
        refine g_appS S15 (f := 2) rfl (by omega) fun H10 S16 => ?_
        repeat walk_at "ob"
        refine ⟨_, _, _, pvs ++ [.ref T9], rfl, hi1, ?_⟩
        have S17 := S16.drop.drop.less.fact (dps_append (S16.dps 2 rfl) (S16.dps 0 rfl)) (by rw [immAll_append, S16.dpi 2 rfl, S16.dpi 0 rfl]; rfl)
        rw [show iiD (pp ++ [(i, x)]) = iiD pp ++ [.tuple [.int (i : Int), .int (x : Int)]] by unfold iiD; rw [List.map_append]; rfl, nI_eq (left.erase x)]
        exact S17.drop2
  · rintro σ' H' ⟨v5, v6, v7, pvs, rfl, hi, S8⟩
    rw [hn, ← lns] at S8
    have hb := pairG_left (other := ts.map (·.2)) (one := rs.map (·.2)) (rs.map (·.2)).length
    have hll := pairG_llen (other := ts.map (·.2)) (one := rs.map (·.2)) (rs.map (·.2)).length
    have eF : pairG (ts.map (·.2)) (rs.map (·.2)) (rs.map (·.2)).length = pairF (rs.map (·.2)) (ts.map (·.2)) := rfl
    rw [eF] at S8 hb hll
    generalize pairF (rs.map (·.2)) (ts.map (·.2)) = st at S8 hb hll k
    obtain ⟨pp, mm, left⟩ := st
    dsimp only at S8 hb hll
    rw [lms] at hll
    repeat walk_at "ob"
    refine g_tup0 S8 (SqL.of (S8.at 1 rfl)) (S8.dps 0 rfl) (S8.dpi 0 rfl) fun t1 H11 _ S11 => ?_
    repeat walk_at "ob"
    refine g_tup0 S11 (SqL.of (S11.at 0 rfl)) (dp_nI mm) (nsD_imm mm) fun t2 H12 _ S12 => ?_
    repeat walk_at "ob"
    refine g_lcS (a := le) (xs := nI left) true (fun j F' ds => F' = (mi, .lst (nI mm)) :: (pr, .lst pvs) :: (le, .lst (nI left)) :: F ∧ ds = nsD (left.take j) ∧ j ≤ left.length) S12 (fun Q' q => by repeat walk_at "ob"; exact q) ⟨rfl, rfl, Nat.zero_le _⟩ (fun i F' ds H' hi S4 => by
        rw [hi.1] at S4
        exact SqL.of (S4.at 2 rfl)) (fun i F' ds hi => by
        rw [hi.2.1, show (nsD _).length = _ from List.length_map .., List.length_take]
        omega) ?_ ?_
    · intro j x hx Dq H4 F2 us ds QE QR hi S4 kE kR
      obtain ⟨rfl, rfl, hj⟩ := hi
      obtain ⟨z, hz, rfl⟩ := nI_get hx
      have hj3 := (List.getElem?_eq_some_iff.mp hz).1
      repeat walk_at "ob"
      refine ⟨rfl, ?_⟩
      repeat walk_at "ob"
      refine kE _ (.int (z : Int)) _ _ ⟨rfl, ?_, hj3⟩ (S4.fact (dps_one (.int _)) rfl)
      rw [List.take_succ, hz]
      unfold nsD
      rw [List.map_append]
      rfl
    · rintro Dq H4 F2 us ds hD ⟨rfl, rfl, _⟩ S4
      rw [show (nI left).length = left.length from List.length_map .., List.take_of_length_le (Nat.le_refl _)] at S4
      repeat walk_at "ob"
      refine g_tup0 S4 (SqL.of (S4.at 0 rfl)) (S4.dps 0 rfl) (S4.dpi 0 rfl) fun t3 H13 _ S13 => ?_
      repeat walk_at "ob"
      refine g_newT S13 (.cons (S13.dp 3 rfl) (.cons (S13.dp 2 rfl) (.cons (S13.dp 0 rfl) .nil))) (imm3 (iiD_imm pp) (nsD_imm mm) (nsD_imm _)) (Nat.le_of_ble_eq_true rfl) fun T14 H14 _ S14 => ?_
      refine k T14 H14 ?_
      exact Sy.cut (L := [_, _, _, _, _, _, _, _, _]) S14.less.less.less.less
end
end LAW

set_option Elab.async false
set_option linter.all false
set_option maxRecDepth 100000
namespace LAW
open PySem PySem.Spec PyProof.Rows L2 PySem.W OB
/-! ### figures, plainly -/
def fig (a : Int) : List Nat := TL.numL a.natAbs
theorem abs_nat (a : Int) : (if a < 0 then -a else a) = (a.natAbs : Int) := by
  split <;> omega
theorem str_fig (a : Int) : Str.ofString (toString (if a < 0 then -a else a)) = tx (fig a) := by
  rw [abs_nat]
  exact TL.ext_tl (TL.tl_num _)
theorem fig_len {a : Int} (h : a.natAbs ≤ 10000000000000) : (fig a).length ≤ 14 := TL.numL_len (by decide) (by omega)
theorem fig_pos (a : Int) : 0 < (fig a).length := List.length_pos_iff.mpr (TL.numL_ne _)
theorem fig_dig (a : Int) : ∀ c ∈ fig a, 48 ≤ c ∧ c ≤ 57 := fun c hc => TL.numL_digits _ c hc
/-- two unlike figures side by side change places -/
def swS (l : List Nat) (i : Nat) : List Int := match l[i]?, l[i + 1]? with
  | some c, some d => if c = d then [] else [((NumText.digitsVal (l.take i ++ [d] ++ [c] ++ l.drop (i + 2)) : Nat) : Int)]
  | _, _ => []
def swG (l : List Nat) : Nat → List Int
  | 0 => []
  | i + 1 => swG l i ++ swS l i
def swF (l : List Nat) : List Int := swG l (l.length - 1)
theorem swG_len (l : List Nat) : ∀ i, (swG l i).length ≤ i
  | 0 => Nat.le_refl _
  | i + 1 => by
    have ih := swG_len l i
    unfold swG
    rw [List.length_append]
    have : (swS l i).length ≤ 1 := by
      unfold swS
      split
      · split <;> simp
      · simp
    omega
theorem swS_int {l : List Nat} (hd : ∀ c ∈ l, 48 ≤ c ∧ c ≤ 57) {i c d : Nat} (h1 : l[i]? = some c) (h2 : l[i + 1]? = some d) : ∀ e ∈ l.take i ++ [d] ++ [c] ++ l.drop (i + 2), 48 ≤ e ∧ e ≤ 57 := fun e he => by
  rcases List.mem_append.mp he with he | he
  · rcases List.mem_append.mp he with he | he
    · rcases List.mem_append.mp he with he | he
      · exact hd e (List.mem_of_mem_take he)
      · rw [List.mem_singleton.mp he]
        exact hd d (List.mem_of_getElem? h2)
    · rw [List.mem_singleton.mp he]
      exact hd c (List.mem_of_getElem? h1)
  · exact hd e (List.mem_of_mem_drop he)
theorem tx_int {l : List Nat} (hd : ∀ c ∈ l, 48 ≤ c ∧ c ≤ 57) (hne : l ≠ []) (hl : l.length ≤ 4300) : PySem.intText? (tx l) = some ((NumText.digitsVal l : Nat) : Int) :=
  intText_digits (x := tx l) hd hne (by rw [tx_len]; exact hl)
/-- figures that are unlike -/
def unF (l m : List Nat) : List Nat := (List.range l.length).filter fun i => decide (l[i]? ≠ m[i]?)
def digS (a b : Int) : Bool := decide ((fig a).length = (fig b).length) && decide ((unF (fig a) (fig b)).length = 1)
def sameF (a b : Int) : Bool := decide (decide (0 < a) = decide (0 < b))
def looksF (a b : Int) : List (Str × Bool) := [("digit", sameF a b && digS a b), ("shift", decide (b = 10 * a) || decide (a = 10 * b)), ("sign", decide (b = -a)), ("swapped", sameF a b && decide ((b.natAbs : Int) ∈ swF (fig a))), ("twice", decide (b = 2 * a) || decide (a = 2 * b))]
def slipF (a b : Int) : List Str := ((looksF a b).filter (·.2)).map (·.1)
end LAW

set_option Elab.async false
set_option linter.all false
set_option maxRecDepth 100000
namespace LAW
open PySem PySem.Spec PyProof.Rows L2 PySem.W OB
local macro_rules | `(tactic| walk_at "obc") => `(tactic| first
  | exact Or.inl ⟨by omega, by omega⟩
  | exact Or.inr ⟨by omega, by omega⟩
  | exact cdiv_ok (by omega) (by omega)
  | (show (0 : Int) < _; omega)
  | exact ⟨by omega, by decide⟩
  | exact ⟨by decide, by decide⟩)
local macro_rules | `(tactic| walk_at "obat") => `(tactic| first
  | exact Sy.at (by assumption) 0 rfl | exact Sy.at (by assumption) 1 rfl | exact Sy.at (by assumption) 2 rfl | exact Sy.at (by assumption) 3 rfl
  | exact Sy.at (by assumption) 4 rfl | exact Sy.at (by assumption) 5 rfl | exact Sy.at (by assumption) 6 rfl | exact Sy.at (by assumption) _ (by assumption) | exact Sy.at (by assumption) (_ + 1) (by assumption) | exact Sy.at (by assumption) (_ + 2) (by assumption))
local macro_rules | `(tactic| walk_at "obt") => `(tactic| first
  | exact Sy.tqs (by assumption) 0 rfl | exact Sy.tqs (by assumption) 1 rfl | exact Sy.tqs (by assumption) 2 rfl | exact Sy.tqs (by assumption) 3 rfl | exact Sy.tqs (by assumption) 4 rfl | exact Sy.tqs (by assumption) 5 rfl
  | exact Sy.tqs (by assumption) 6 rfl | exact Sy.tqs (by assumption) 7 rfl | assumption)
local macro_rules | `(tactic| walk_at "obl") => `(tactic| first
  | exact SqL.of (by walk_at "obat")
  | exact Sy.sq (by assumption) 0 rfl | exact Sy.sq (by assumption) 1 rfl | exact Sy.sq (by assumption) 2 rfl | exact Sy.sq (by assumption) 3 rfl | exact Sy.sq (by assumption) _ (by assumption))
local macro_rules | `(tactic| walk_at "obd") => `(tactic| first
  | exact Dp.int _ | exact Dp.bl _ | exact Dp.str _ | exact Dp.non
  | exact Sy.dp (by assumption) 0 rfl | exact Sy.dp (by assumption) 1 rfl | exact Sy.dp (by assumption) 2 rfl | exact Sy.dp (by assumption) 3 rfl
  | exact Sy.dp (by assumption) 4 rfl | exact Sy.dp (by assumption) 5 rfl | exact Sy.dp (by assumption) 6 rfl | exact Sy.dp (by assumption) 7 rfl
  | exact Sy.dp (by assumption) 8 rfl | exact Sy.dp (by assumption) 9 rfl | exact Sy.dp (by assumption) _ (by assumption) | assumption)
local macro_rules | `(tactic| walk_at "obds") => `(tactic| first
  | exact DpAll.nil
  | (refine' DpAll.cons ?ob1 ?ob2; (case ob1 => walk_at "obd"); (case ob2 => walk_at "obds"))
  | exact Sy.dps (by assumption) 0 rfl | exact Sy.dps (by assumption) 1 rfl | exact Sy.dps (by assumption) 2 rfl | exact Sy.dps (by assumption) 3 rfl | assumption)
local macro_rules | `(tactic| walk_at "obsc") => `(tactic| first
  | exact ScL.nil
  | ((first | refine' ScL.int ?obz | refine' ScL.str ?obz | refine' ScL.bl ?obz | refine' ScL.non ?obz); (case obz => walk_at "obsc")))
local macro_rules | `(tactic| walk_at "ob1") => `(tactic| first
  | ((with_reducible refine' g_var ?obh ?_); (case obh => rfl))
  | with_reducible refine g_c ?_
  | with_reducible refine g_nx ?_
  | with_reducible refine g_rt ?_
  | with_reducible refine g_bk ?_
  | with_reducible refine g_ct ?_
  | with_reducible refine g_op ?_
  | with_reducible refine g_I0 ?_
  | with_reducible refine g_test ?_
  | with_reducible refine g_bl ?_
  | with_reducible refine g_blx ?_
  | with_reducible refine g_B ?_
  | with_reducible refine g_seq ?_
  | with_reducible refine g_asg ?_
  | with_reducible refine g_name ?_
  | with_reducible refine g_ifS ?_
  | with_reducible refine g_ret ?_
  | with_reducible refine g_cb ?_
  | with_reducible refine g_cons ?_
  | with_reducible refine g_nil ?_
  | with_reducible refine g_int ?_
  | with_reducible refine g_intB ?_
  | with_reducible refine g_abs ?_
  | with_reducible refine g_max ?_
  | with_reducible refine g_min ?_
  | with_reducible refine g_un ?_
  | with_reducible refine g_U ?_
  | with_reducible refine g_eqI ?_
  | with_reducible refine g_neI ?_
  | with_reducible refine g_eqS ?_
  | with_reducible refine g_neS ?_
  | with_reducible refine g_tt ?_
  | with_reducible refine g_ff ?_
  | with_reducible refine g_next ?_
  | with_reducible refine g_drop ?_
  | with_reducible refine g_if ?_
  | with_reducible refine g_andV ?_
  | with_reducible refine g_orV ?_
  | with_reducible refine g_notV ?_
  | with_reducible refine g_and ?_
  | with_reducible refine g_or ?_
  | with_reducible refine g_not ?_
  | with_reducible refine g_yes ?_
  | with_reducible refine g_chain ?_
  | with_reducible refine g_cg ?_
  | with_reducible refine g_mg ?_
  | with_reducible refine g_kg ?_
  | with_reducible refine g_pg ?_
  | ((with_reducible refine' g_call ?obh ?obj ?_); (case obh => rfl); (case obj => rfl))
  | with_reducible refine g_par ?_
  | with_reducible refine g_par2 ?_
  | with_reducible refine g_par3 ?_
  | with_reducible refine g_par33 ?_
  | with_reducible refine g_gnil ?_
  | with_reducible refine g_gcons ?_
  | with_reducible refine g_gsub ?_
  | with_reducible refine g_ipI ?_
  | with_reducible refine g_rAdd ?_
  | with_reducible refine g_rSub ?_
  | ((with_reducible refine' g_aug ?obh ?_); (case obh => rfl))
  | with_reducible refine g_tup ?_
  | with_reducible refine g_lst ?_
  | with_reducible refine g_bm ?_
  | with_reducible refine g_bm0 ?_
  | with_reducible refine g_sl ?_
  | with_reducible refine g_nopart ?_
  | with_reducible refine g_part ?_
  | with_reducible refine g_pint ?_
  | with_reducible refine isi_int ?_
  | with_reducible refine isi_intB ?_
  | ((with_reducible refine' g_I ?obh ?_); (case obh => walk_at "obc"))
  | ((with_reducible refine' g_tyl ?obh ?_); (case obh => walk_at "obl"))
  | ((with_reducible refine' g_lenL ?obh ?_); (case obh => walk_at "obl"))
  | with_reducible refine g_ne ?_
  | ((with_reducible refine' g_neN' ?obh ?_); (case obh => rfl))
  | with_reducible refine g_ntt ?_
  | with_reducible refine g_nff ?_
  | with_reducible refine g_star ?_
  | with_reducible refine g_att ?_
  | with_reducible refine g_sfld ?_
  | with_reducible refine g_faug ?_
  | with_reducible refine g_fld ?_
  | ((with_reducible refine' g_nF ?obh ?_); (case obh => omega))
  | ((with_reducible refine' g_nT ?obh ?_); (case obh => omega))
  | ((with_reducible refine' g_TD ?obh ?_); (case obh => omega))
  | ((with_reducible refine' g_FD ?obh ?_); (case obh => omega))
  | ((with_reducible refine' g_ixUL ?obh ?obi ?_); (case obh => walk_at "obl"); (case obi => exact atI_nn (by omega) (by rfl)))
  | ((with_reducible refine' g_setLS ?obs ?obh ?obi ?_); (case obs => assumption); (case obh => assumption); (case obi => rfl); intro _ _ _)
  | ((with_reducible refine' g_newT ?obs ?obh ?obi ?obj ?_); (case obs => assumption); (case obh => walk_at "obds"); (case obi => rfl); (case obj => exact Nat.le_of_ble_eq_true rfl); intro _ _ _ _)
  | ((with_reducible refine' g_newL ?obs ?obj ?_); (case obs => assumption); (case obj => exact Nat.le_of_ble_eq_true rfl); intro _ _ _ _)
  | ((with_reducible refine' isi_tup ?obh ?_); (case obh => walk_at "obt"))
  | ((with_reducible refine' g_lenT ?obh ?_); (case obh => walk_at "obt"))
  | ((with_reducible refine' g_unpT ?obh ?obi ?_); (case obh => walk_at "obt"); (case obi => rfl))
  | ((with_reducible refine' g_divmod ?obs ?obh ?_); (case obs => assumption); (case obh => exact cdivp_ok (by omega) (by omega) (by omega)); intro _ _ _ _)
  | ((with_reducible refine' g_unpD ?obh ?obi ?obj ?_); (case obh => walk_at "obd"); (case obi => walk_at "obsc"); (case obj => rfl))
  | with_reducible refine g_att ?_)
local macro_rules | `(tactic| walk_at "ob") => `(tactic| first
  | walk_at "ob1"
  | refine use_is_integer ?_
  | refine use_is_within ?_
  | with_reducible refine g_lstRg ?_
  | with_reducible refine g_rg1 ?_
  | with_reducible refine g_rg2 ?_
  | with_reducible refine g_tTru ?_
  | ((with_reducible refine' g_truL ?obh ?_); (case obh => walk_at "obl"))
  | ((with_reducible refine' g_ixUT ?obh ?obi ?_); (case obh => walk_at "obt"); (case obi => rfl))
  | with_reducible refine g_forZ ?_
  | with_reducible refine g_forR2 ?_
  | with_reducible refine g_forE ?_
  | with_reducible refine g_lcZ ?_)
local macro_rules | `(tactic| walk_at "ob") => `(tactic| first
  | ((with_reducible refine' g_slS ?obh ?_); (case obh => omega))
  | ((with_reducible refine' g_catS ?obh ?_); (case obh => omega)))
section
variable {P : Program} {w : World} {K : Frag} {mg : Str → Option Value} {base : Heap}
theorem op_catS {X : Cx} : OpR X (binaryOp .Add) rCatS := op_add_str
theorem tx_ne {c d : Nat} : decide (tx [c] ≠ tx [d]) = !decide (c = d) := by
  by_cases h : c = d
  · subst h
    simp
  · have : tx [c] ≠ tx [d] := fun e => h (by simpa using tx_inj e)
    simp [this, h]
theorem log2_small {n : Nat} (h : n < 18446744073709551616) : n.log2 < 1920 := by
  by_cases h0 : n = 0
  · subst h0
    decide
  · exact Nat.lt_trans ((Nat.log2_lt h0).mpr (show n < 2 ^ 64 from h)) (by decide)
theorem g_swIns {l : List Nat} {H : Hp} {Q : VK} (hd : ∀ c ∈ l, 48 ≤ c ∧ c ≤ 57) (hl : l.length ≤ 14) {i c d : Nat} (h1 : l[i]? = some c) (h2 : l[i + 1]? = some d)
    (k : Q (.int ((NumText.digitsVal (l.take i ++ [d] ++ [c] ++ l.drop (i + 2)) : Nat) : Int)) H) : rIntS [.str (tx (l.take i ++ [d] ++ [c] ++ l.drop (i + 2)))] H Q :=
  ⟨_, _, rfl, tx_int (swS_int hd h1 h2) (by simp) (by simp; omega), by rw [tx_len]; simp; omega, k⟩
def sp_swapped_figures (K : Frag) : Sp := fun vs H Q E => vs.length = 1 ∧ ∃ (F : List (Addr × HO)) (G : List Ft) (a : Int), vs = [.int a] ∧ Sy K F G H ∧ a.natAbs ≤ 10000000000000 ∧ ∀ p H', Sy K ((p, .lst ((swF (fig a)).map V.int)) :: F) G H' → Q (.ref p) H'
abbrev names_swapped_figures : List Str := ["amount", "figures", "found", "at"]
theorem sc_swapped_figures : FnScope names_swapped_figures ["amount"] (defScope (top 28)) := ⟨rfl, rfl, rfl, by decide +kernel, rfl, by decide +kernel, by decide +kernel⟩
set_option maxHeartbeats 4000000 in
theorem ok_swapped_figures (T : Tx K mg) : FG P w K mg base CX0 1 T.a_swapped_figures T.d_swapped_figures ["amount"] (sp_swapped_figures K) := by
  refine OB.Fun.fg T.F_swapped_figures sc_swapped_figures (fun vs H Q E h => h.1) (fun cdv A out s H vs Q E g h => ?_)
  obtain ⟨_, F, G, a, rfl, S, ha, k⟩ := h
  refine ⟨_, (pss_cons (ps_set (i := 1) sc_swapped_figures.nd rfl (by first | exact Or.inl rfl | exact Or.inr rfl) (pe_callTy call_str_int (by rfl) T.n_str (by decide +kernel) (pa_cons (pe_callB c_abs (by rfl) T.n_abs (by decide +kernel) (pa_cons (pv 0) pa_nil)) pa_nil)))
      (pss_cons (ps_set (i := 2) sc_swapped_figures.nd rfl (by first | exact Or.inl rfl | exact Or.inr rfl) (pe_lst pa_nil))
      (pss_cons (ps_for PassesOwn.never rfl (pi_range1 rfl T.n_range (pa_cons (pe_op op_sub (pe_callB c_lenS (by rfl) T.n_len PySem.boot_len (pa_cons (pv 1) pa_nil)) pe_int) pa_nil)) (pg_name (i := 3) sc_swapped_figures.nd rfl (by first | exact Or.inl rfl | exact Or.inr rfl))
      (pss_one (ps_if (pt_cmpR op_ne (pe_ix (ix_UK (K := K) rfl) (pv 1) (pv 3) (fun _ _ => rfl)) (pe_ix (ix_UK (K := K) rfl) (pv 1) (pe_op op_add (pv 3) pe_int) (fun _ _ => rfl)) (nomark _)) (pss_one (ps_expr (pe_bm PySem.F.plainAttrs_list PySem.F.slot_list_append PySem.F.type_list_append mt_append (pv 2) (pa_cons (pe_callTy c_intS (by rfl) T.n_int (by decide +kernel) (pa_cons (pe_op op_catS (pe_op op_catS (pe_op op_catS (pe_slice sl_str (pv 1) po_none (po_some (pv 3))) (pe_ix (ix_UK (K := K) rfl) (pv 1) (pe_op op_add (pv 3) pe_int) (fun _ _ => rfl))) (pe_ix (ix_UK (K := K) rfl) (pv 1) (pv 3) (fun _ _ => rfl))) (pe_slice sl_str (pv 1) (po_some (pe_op op_add (pv 3) (pe_glob (v := .int 2) (by rfl) T.g_PAIR ⟨_, rfl⟩))) po_none)) pa_nil)) pa_nil)))) pss_nil)))
      (pss_one (ps_ret (pv 2)))))), ?_⟩
  refine g_start (σ := [some _, none, none, none]) rfl ?_
  repeat walk_at "ob"
  refine ⟨_, rfl, by rw [abs_nat, Int.natAbs_natCast]; exact log2_small (by omega), ?_⟩
  rw [str_fig]
  have hl := fig_len ha
  have hp := fig_pos a
  have hd := fig_dig a
  unfold swF at k
  generalize fig a = l at *
  repeat walk_at "ob"
  rename_i q H1 _ S1
  refine g_forR ?_
  repeat walk_at "ob"
  refine g_lnS (by omega) ?_
  repeat walk_at "ob"
  refine g_rgJ (by omega) (by omega) ?_
  rw [show ((l.length : Int) - 1).toNat = l.length - 1 by omega]
  refine rgfor_of (fun i σ' H' => ∃ v3, σ' = [some (.int a), some (.str (tx l)), some (.ref q), v3] ∧ Sy K ((q, .lst ((swG l i).map V.int)) :: F) G H') ⟨none, rfl, S1⟩ ?_ ?_
  · rintro i σ' H' hi ⟨v3, rfl, S2⟩
    rw [Int.zero_add]
    obtain ⟨c, hc⟩ : ∃ c, l[i]? = some c := ⟨_, List.getElem?_eq_getElem (by omega)⟩
    obtain ⟨d, hd2⟩ : ∃ d, l[i + 1]? = some d := ⟨_, List.getElem?_eq_getElem (by omega)⟩
    have hsw : swS l i = if c = d then [] else [((NumText.digitsVal (l.take i ++ [d] ++ [c] ++ l.drop (i + 2)) : Nat) : Int)] := by
      unfold swS
      rw [hc, hd2]
    have hsl := swG_len l i
    have s1 : swG l (i + 1) = swG l i ++ swS l i := rfl
    rw [s1, hsw]
    repeat walk_at "ob"
    refine g_ixS (c := c) (atI_nn (by omega) (by simpa using hc)) (by omega) ?_
    repeat walk_at "ob"
    refine g_ixS (c := d) (atI_nn (by omega) (by rw [show ((i : Int) + 1).toNat = i + 1 by omega]; exact hd2)) (by omega) ?_
    repeat walk_at "ob"
    rw [tx_ne]
    by_cases h : c = d
    · rw [if_pos h, decide_eq_true h, List.append_nil]
      repeat walk_at "ob"
      exact ⟨_, rfl, S2⟩
    · rw [if_neg h, decide_eq_false h]
      repeat walk_at "ob"
      refine g_ixS (c := d) (atI_nn (by omega) (by rw [show ((i : Int) + 1).toNat = i + 1 by omega]; exact hd2)) (by omega) ?_
      rw [cut_take l i (by omega)]
      refine g_catS (by simp; omega) ?_
      repeat walk_at "ob"
      refine g_ixS (c := c) (atI_nn (by omega) (by simpa using hc)) (by omega) ?_
      refine g_catS (by simp; omega) ?_
      repeat walk_at "ob"
      rw [show ((i : Int) + 2) = ((i + 2 : Nat) : Int) by omega, cut_drop l (i + 2) (by omega)]
      refine g_catS (by simp; omega) ?_
      repeat walk_at "ob"
      refine g_swIns hd hl hc hd2 ?_
      repeat walk_at "ob"
      refine g_appS S2 (f := 0) rfl (by rw [List.length_map]; omega) fun H3 S3 => ?_
      repeat walk_at "ob"
      refine ⟨_, rfl, ?_⟩
      rw [List.map_append]
      exact S3
  · rintro σ' H' ⟨v3, rfl, S2⟩
    repeat walk_at "ob"
    exact k _ _ S2
def sp_law_swapped (K : Frag) : Sp := fun vs H Q E => vs.length = 1 ∧ ∃ (F : List (Addr × HO)) (G : List Ft) (l : List Nat), vs = [.str (tx l)] ∧ Sy K F G H ∧ 0 < l.length ∧ l.length ≤ 14 ∧ (∀ c ∈ l, 48 ≤ c ∧ c ≤ 57) ∧ ∀ p H', Sy K ((p, .lst ((swF l).map V.int)) :: F) G H' → Q (.ref p) H'
abbrev names_law_swapped : List Str := ["figures", "found", "at", "ahead", "one", "two", "rest"]
theorem sc_law_swapped : FnScope names_law_swapped ["figures"] (defScope (top 43)) := ⟨rfl, rfl, rfl, by decide +kernel, rfl, by decide +kernel, by decide +kernel⟩
set_option maxHeartbeats 4000000 in
theorem ok_law_swapped (T : Tx K mg) : FG P w K mg base CX0 1 T.a_law_swapped T.d_law_swapped ["figures"] (sp_law_swapped K) := by
  refine OB.Fun.fg T.F_law_swapped sc_law_swapped (fun vs H Q E h => h.1) (fun cdv A out s H vs Q E g h => ?_)
  obtain ⟨_, F, G, l, rfl, S, hp, hl, hd, k⟩ := h
  refine ⟨_, (pss_cons (ps_set (i := 1) sc_law_swapped.nd rfl (by first | exact Or.inl rfl | exact Or.inr rfl) (pe_lst pa_nil))
      (pss_cons (ps_for PassesOwn.never rfl (pi_range1 rfl T.n_range (pa_cons (pe_op op_sub (pe_callB c_lenS (by rfl) T.n_len PySem.boot_len (pa_cons (pv 0) pa_nil)) pe_int) pa_nil)) (pg_name (i := 2) sc_law_swapped.nd rfl (by first | exact Or.inl rfl | exact Or.inr rfl))
      (pss_cons (ps_asg (pe_tup (pa_cons (pe_slice sl_str (pv 0) po_none (po_some (pv 2))) (pa_cons (pe_ix (ix_UK (K := K) rfl) (pv 0) (pv 2) (fun _ _ => rfl)) (pa_cons (pe_ix (ix_UK (K := K) rfl) (pv 0) (pe_op op_add (pv 2) pe_int) (fun _ _ => rfl)) (pa_cons (pe_slice sl_str (pv 0) (po_some (pe_op op_add (pv 2) pe_int)) po_none) pa_nil))))) (pg_tupK (K := K) rfl (n := 4) rfl (pgs_cons (pg_name (i := 3) sc_law_swapped.nd rfl (by first | exact Or.inl rfl | exact Or.inr rfl)) (pgs_cons (pg_name (i := 4) sc_law_swapped.nd rfl (by first | exact Or.inl rfl | exact Or.inr rfl)) (pgs_cons (pg_name (i := 5) sc_law_swapped.nd rfl (by first | exact Or.inl rfl | exact Or.inr rfl)) (pgs_cons (pg_name (i := 6) sc_law_swapped.nd rfl (by first | exact Or.inl rfl | exact Or.inr rfl)) pgs_nil))))))
      (pss_one (ps_if (pt_cmpR op_ne (pv 4) (pv 5) (nomark _)) (pss_one (ps_expr (pe_bm PySem.F.plainAttrs_list PySem.F.slot_list_append PySem.F.type_list_append mt_append (pv 1) (pa_cons (pe_callTy c_intS (by rfl) T.n_int (by decide +kernel) (pa_cons (pe_op op_catS (pe_op op_catS (pe_op op_catS (pv 3) (pv 5)) (pv 4)) (pv 6)) pa_nil)) pa_nil)))) pss_nil))))
      (pss_one (ps_ret (pv 1))))), ?_⟩
  refine g_start (σ := [some _, none, none, none, none, none, none]) rfl ?_
  unfold swF at k
  repeat walk_at "ob"
  rename_i q H1 _ S1
  refine g_forR ?_
  repeat walk_at "ob"
  refine g_lnS (by omega) ?_
  repeat walk_at "ob"
  refine g_rgJ (by omega) (by omega) ?_
  rw [show ((l.length : Int) - 1).toNat = l.length - 1 by omega]
  refine rgfor_of (fun i σ' H' => ∃ v2 v3 v4 v5 v6, σ' = [some (.str (tx l)), some (.ref q), v2, v3, v4, v5, v6] ∧ Sy K ((q, .lst ((swG l i).map V.int)) :: F) G H') ⟨none, none, none, none, none, rfl, S1⟩ ?_ ?_
  · rintro i σ' H' hi ⟨v2, v3, v4, v5, v6, rfl, S2⟩
    rw [Int.zero_add]
    obtain ⟨c, hc⟩ : ∃ c, l[i]? = some c := ⟨_, List.getElem?_eq_getElem (by omega)⟩
    obtain ⟨d, hd2⟩ : ∃ d, l[i + 1]? = some d := ⟨_, List.getElem?_eq_getElem (by omega)⟩
    have hsw : swS l i = if c = d then [] else [((NumText.digitsVal (l.take i ++ [d] ++ [c] ++ l.drop (i + 2)) : Nat) : Int)] := by
      unfold swS
      rw [hc, hd2]
    have hsl := swG_len l i
    have s1 : swG l (i + 1) = swG l i ++ swS l i := rfl
    rw [s1, hsw]
    repeat walk_at "ob"
    refine g_ixS (c := c) (atI_nn (by omega) (by simpa using hc)) (by omega) ?_
    repeat walk_at "ob"
    refine g_ixS (c := d) (atI_nn (by omega) (by rw [show ((i : Int) + 1).toNat = i + 1 by omega]; exact hd2)) (by omega) ?_
    repeat walk_at "ob"
    rw [cut_take l i (by omega), show ((i : Int) + 2) = ((i + 2 : Nat) : Int) by omega, cut_drop l (i + 2) (by omega)]
    repeat walk_at "ob"
    rename_i tp H6 _ S6
    rw [tx_ne]
    by_cases h : c = d
    · rw [if_pos h, decide_eq_true h, List.append_nil]
      repeat walk_at "ob"
      exact ⟨_, _, _, _, _, rfl, S6.drop⟩
    · rw [if_neg h, decide_eq_false h]
      repeat walk_at "ob"
      refine g_catS (by simp; omega) ?_
      repeat walk_at "ob"
      refine g_catS (by simp; omega) ?_
      repeat walk_at "ob"
      refine g_catS (by simp; omega) ?_
      repeat walk_at "ob"
      refine g_swIns hd hl hc hd2 ?_
      repeat walk_at "ob"
      refine g_appS S6 (f := 0) rfl (by rw [List.length_map]; omega) fun H3 S3 => ?_
      repeat walk_at "ob"
      refine ⟨_, _, _, _, _, rfl, ?_⟩
      rw [List.map_append]
      exact S3.drop
  · rintro σ' H' ⟨v2, v3, v4, v5, v6, rfl, S2⟩
    repeat walk_at "ob"
    exact k _ _ S2
def sp_is_digit_slip (K : Frag) : Sp := fun vs H Q E => vs.length = 2 ∧ ∃ (F : List (Addr × HO)) (G : List Ft) (a b : Int), vs = [.int a, .int b] ∧ Sy K F G H ∧ a.natAbs ≤ 10000000000000 ∧ b.natAbs ≤ 10000000000000 ∧ ∀ H', Sy K F G H' → Q (.bl (digS a b)) H'
abbrev names_is_digit_slip : List Str := ["amount", "its", "mine", "other", "at"]
theorem sc_is_digit_slip : FnScope names_is_digit_slip ["amount", "its"] (defScope (top 29)) := ⟨rfl, rfl, rfl, by decide +kernel, rfl, by decide +kernel, by decide +kernel⟩
set_option maxHeartbeats 4000000 in
theorem ok_is_digit_slip (T : Tx K mg) : FG P w K mg base CX0 1 T.a_is_digit_slip T.d_is_digit_slip ["amount", "its"] (sp_is_digit_slip K) := by
  refine OB.Fun.fg T.F_is_digit_slip sc_is_digit_slip (fun vs H Q E h => h.1) (fun cdv A out s H vs Q E g h => ?_)
  obtain ⟨_, F, G, a, b, rfl, S, ha, hb, k⟩ := h
  refine ⟨_, (pss_cons (ps_asg (pe_tup (pa_cons (pe_callTy call_str_int (by rfl) T.n_str (by decide +kernel) (pa_cons (pe_callB c_abs (by rfl) T.n_abs (by decide +kernel) (pa_cons (pv 0) pa_nil)) pa_nil)) (pa_cons (pe_callTy call_str_int (by rfl) T.n_str (by decide +kernel) (pa_cons (pe_callB c_abs (by rfl) T.n_abs (by decide +kernel) (pa_cons (pv 1) pa_nil)) pa_nil)) pa_nil))) (pg_tupK (K := K) rfl (n := 2) rfl (pgs_cons (pg_name (i := 2) sc_is_digit_slip.nd rfl (by first | exact Or.inl rfl | exact Or.inr rfl)) (pgs_cons (pg_name (i := 3) sc_is_digit_slip.nd rfl (by first | exact Or.inl rfl | exact Or.inr rfl)) pgs_nil))))
      (pss_one (ps_ret (pe_and (pe_cmpR op_eq (pe_callB c_lenS (by rfl) T.n_len PySem.boot_len (pa_cons (pv 2) pa_nil)) (pe_callB c_lenS (by rfl) T.n_len PySem.boot_len (pa_cons (pv 3) pa_nil)) (nomark _)) (pe_one (pe_cmpR op_eq (pe_callB (toK (r := OB.rLen) (K := K) rfl c_len) (by rfl) T.n_len PySem.boot_len (pa_cons (pe_lc (own := [("at", 4)]) rfl sc_is_digit_slip.nd (pi_range1 rfl T.n_range (pa_cons (pe_callB c_lenS (by rfl) T.n_len PySem.boot_len (pa_cons (pv 2) pa_nil)) pa_nil)) (blkOk_by (N := names_is_digit_slip) (sc := defScope (top 29)) (own := [("at", 4)]) (by decide +kernel)) (fun _ _ _ _ _ => (pg_name (i := 4) sc_is_digit_slip.nd rfl (by first | exact Or.inl rfl | exact Or.inr rfl))) (fun _ _ _ _ _ => pts_one (pt_cmpR op_ne (pe_ix (ix_UK (K := K) rfl) (pv 2) (pv 4) (fun _ _ => rfl)) (pe_ix (ix_UK (K := K) rfl) (pv 3) (pv 4) (fun _ _ => rfl)) (nomark _))) (fun _ _ _ _ _ => (pv 4))) pa_nil)) pe_int (nomark _))))))), ?_⟩
  refine g_start (σ := [some _, some _, none, none, none]) rfl ?_
  repeat walk_at "ob"
  refine ⟨_, rfl, by rw [abs_nat, Int.natAbs_natCast]; exact log2_small (by omega), ?_⟩
  repeat walk_at "ob"
  refine ⟨_, rfl, by rw [abs_nat, Int.natAbs_natCast]; exact log2_small (by omega), ?_⟩
  rw [str_fig, str_fig]
  have hl := fig_len ha
  have hm := fig_len hb
  unfold digS at k
  generalize fig a = l at *
  generalize fig b = m at *
  repeat walk_at "ob"
  rename_i tp H6 _ S6
  refine g_lnS (by omega) ?_
  repeat walk_at "ob"
  refine g_lnS (by omega) ?_
  repeat walk_at "ob"
  by_cases hlm : l.length = m.length
  · rw [decide_eq_true hlm] at k
    refine g_T (by simp [hlm]) ?_
    repeat walk_at "ob"
    refine g_lcR (K := K) ?_
    repeat walk_at "ob"
    refine g_lnS (by omega) ?_
    repeat walk_at "ob"
    refine g_rgJ (by omega) (by omega) ?_
    refine rglc_of (fun i F' ds => F' = F ∧ ds = nsD ((List.range i).filter fun i => decide (l[i]? ≠ m[i]?)) ∧ i ≤ l.length) S6 ⟨rfl, rfl, Nat.zero_le _⟩ (fun i F' ds hi => by
      rw [hi.2.1, show (nsD _).length = _ from List.length_map ..]
      refine Nat.lt_of_le_of_lt (List.length_filter_le _ _) ?_
      rw [List.length_range]
      omega) ?_ ?_
    · intro i hi Dq H4 F2 us ds QE QR hI S4 kE kR
      obtain ⟨rfl, rfl, hj⟩ := hI
      have hi : i < l.length := by omega
      rw [Int.zero_add]
      obtain ⟨c, hc⟩ : ∃ c, l[i]? = some c := ⟨_, List.getElem?_eq_getElem (by omega)⟩
      obtain ⟨d, hd2⟩ : ∃ d, m[i]? = some d := ⟨_, List.getElem?_eq_getElem (by omega)⟩
      have st : (List.range (i + 1)).filter (fun i => decide (l[i]? ≠ m[i]?)) = (List.range i).filter (fun i => decide (l[i]? ≠ m[i]?)) ++ if c = d then [] else [i] := by
        rw [List.range_succ, List.filter_append]
        congr 1
        by_cases h : c = d <;> simp [hc, hd2, h]
      repeat walk_at "ob"
      refine ⟨rfl, ?_⟩
      repeat walk_at "ob"
      refine g_ixS (c := c) (atI_nn (by omega) (by simpa using hc)) (by omega) ?_
      repeat walk_at "ob"
      refine g_ixS (c := d) (atI_nn (by omega) (by simpa using hd2)) (by omega) ?_
      repeat walk_at "ob"
      rw [tx_ne]
      by_cases h : c = d
      · rw [decide_eq_true h]
        rw [if_pos h, List.append_nil] at st
        repeat walk_at "ob"
        exact kR _ _ ⟨rfl, by rw [st], hi⟩ S4
      · rw [decide_eq_false h]
        rw [if_neg h] at st
        repeat walk_at "ob"
        refine kE _ (.int (i : Int)) _ _ ⟨rfl, ?_, hi⟩ (S4.fact (dps_one (.int _)) rfl)
        rw [st]
        unfold nsD
        rw [List.map_append]
        rfl
    · rintro Dq H4 F2 us ds hD ⟨rfl, rfl, _⟩ S4
      have hv := dps_nsV (S4.dps 0 rfl)
      rw [show ((l.length : Nat) : Int).toNat = l.length from rfl] at hv
      rw [show (List.range l.length).filter (fun i => decide (l[i]? ≠ m[i]?)) = unF l m from rfl] at hv
      subst hv
      repeat walk_at "ob"
      rw [show (nI (unF l m)).length = (unF l m).length from List.length_map ..]
      rw [show decide (((unF l m).length : Int) = 1) = (true && decide ((unF l m).length = 1)) by rw [Bool.true_and]; by_cases h : (unF l m).length = 1 <;> simp [h]; omega]
      exact k _ S4.less.drop.drop
  · rw [decide_eq_false hlm] at k
    refine g_F (by simp; omega) ?_
    repeat walk_at "ob"
    exact k _ S6.drop
end
end LAW

set_option Elab.async false
set_option linter.all false
set_option maxRecDepth 100000
namespace LAW
open PySem PySem.Spec PyProof.Rows L2 PySem.W OB
local macro_rules | `(tactic| walk_at "obc") => `(tactic| first
  | exact Or.inl ⟨by omega, by omega⟩
  | exact Or.inr ⟨by omega, by omega⟩
  | exact cdiv_ok (by omega) (by omega)
  | (show (0 : Int) < _; omega)
  | exact ⟨by omega, by decide⟩
  | exact ⟨by decide, by decide⟩)
local macro_rules | `(tactic| walk_at "obat") => `(tactic| first
  | exact Sy.at (by assumption) 0 rfl | exact Sy.at (by assumption) 1 rfl | exact Sy.at (by assumption) 2 rfl | exact Sy.at (by assumption) 3 rfl
  | exact Sy.at (by assumption) 4 rfl | exact Sy.at (by assumption) 5 rfl | exact Sy.at (by assumption) 6 rfl | exact Sy.at (by assumption) _ (by assumption) | exact Sy.at (by assumption) (_ + 1) (by assumption) | exact Sy.at (by assumption) (_ + 2) (by assumption))
local macro_rules | `(tactic| walk_at "obt") => `(tactic| first
  | exact Sy.tqs (by assumption) 0 rfl | exact Sy.tqs (by assumption) 1 rfl | exact Sy.tqs (by assumption) 2 rfl | exact Sy.tqs (by assumption) 3 rfl | exact Sy.tqs (by assumption) 4 rfl | exact Sy.tqs (by assumption) 5 rfl
  | exact Sy.tqs (by assumption) 6 rfl | exact Sy.tqs (by assumption) 7 rfl | assumption)
local macro_rules | `(tactic| walk_at "obl") => `(tactic| first
  | exact SqL.of (by walk_at "obat")
  | exact Sy.sq (by assumption) 0 rfl | exact Sy.sq (by assumption) 1 rfl | exact Sy.sq (by assumption) 2 rfl | exact Sy.sq (by assumption) 3 rfl | exact Sy.sq (by assumption) _ (by assumption))
local macro_rules | `(tactic| walk_at "obd") => `(tactic| first
  | exact Dp.int _ | exact Dp.bl _ | exact Dp.str _ | exact Dp.non
  | exact Sy.dp (by assumption) 0 rfl | exact Sy.dp (by assumption) 1 rfl | exact Sy.dp (by assumption) 2 rfl | exact Sy.dp (by assumption) 3 rfl
  | exact Sy.dp (by assumption) 4 rfl | exact Sy.dp (by assumption) 5 rfl | exact Sy.dp (by assumption) 6 rfl | exact Sy.dp (by assumption) 7 rfl
  | exact Sy.dp (by assumption) 8 rfl | exact Sy.dp (by assumption) 9 rfl | exact Sy.dp (by assumption) _ (by assumption) | assumption)
local macro_rules | `(tactic| walk_at "obds") => `(tactic| first
  | exact DpAll.nil
  | (refine' DpAll.cons ?ob1 ?ob2; (case ob1 => walk_at "obd"); (case ob2 => walk_at "obds"))
  | exact Sy.dps (by assumption) 0 rfl | exact Sy.dps (by assumption) 1 rfl | exact Sy.dps (by assumption) 2 rfl | exact Sy.dps (by assumption) 3 rfl | assumption)
local macro_rules | `(tactic| walk_at "obsc") => `(tactic| first
  | exact ScL.nil
  | ((first | refine' ScL.int ?obz | refine' ScL.str ?obz | refine' ScL.bl ?obz | refine' ScL.non ?obz); (case obz => walk_at "obsc")))
local macro_rules | `(tactic| walk_at "ob1") => `(tactic| first
  | ((with_reducible refine' g_var ?obh ?_); (case obh => rfl))
  | with_reducible refine g_c ?_
  | with_reducible refine g_nx ?_
  | with_reducible refine g_rt ?_
  | with_reducible refine g_bk ?_
  | with_reducible refine g_ct ?_
  | with_reducible refine g_op ?_
  | with_reducible refine g_I0 ?_
  | with_reducible refine g_test ?_
  | with_reducible refine g_bl ?_
  | with_reducible refine g_blx ?_
  | with_reducible refine g_B ?_
  | with_reducible refine g_seq ?_
  | with_reducible refine g_asg ?_
  | with_reducible refine g_name ?_
  | with_reducible refine g_ifS ?_
  | with_reducible refine g_ret ?_
  | with_reducible refine g_cb ?_
  | with_reducible refine g_cons ?_
  | with_reducible refine g_nil ?_
  | with_reducible refine g_int ?_
  | with_reducible refine g_intB ?_
  | with_reducible refine g_abs ?_
  | with_reducible refine g_max ?_
  | with_reducible refine g_min ?_
  | with_reducible refine g_un ?_
  | with_reducible refine g_U ?_
  | with_reducible refine g_eqI ?_
  | with_reducible refine g_neI ?_
  | with_reducible refine g_eqS ?_
  | with_reducible refine g_neS ?_
  | with_reducible refine g_tt ?_
  | with_reducible refine g_ff ?_
  | with_reducible refine g_next ?_
  | with_reducible refine g_drop ?_
  | with_reducible refine g_if ?_
  | with_reducible refine g_andV ?_
  | with_reducible refine g_orV ?_
  | with_reducible refine g_notV ?_
  | with_reducible refine g_and ?_
  | with_reducible refine g_or ?_
  | with_reducible refine g_not ?_
  | with_reducible refine g_yes ?_
  | with_reducible refine g_chain ?_
  | with_reducible refine g_cg ?_
  | with_reducible refine g_mg ?_
  | with_reducible refine g_kg ?_
  | with_reducible refine g_pg ?_
  | ((with_reducible refine' g_call ?obh ?obj ?_); (case obh => rfl); (case obj => rfl))
  | with_reducible refine g_par ?_
  | with_reducible refine g_par2 ?_
  | with_reducible refine g_par3 ?_
  | with_reducible refine g_par33 ?_
  | with_reducible refine g_gnil ?_
  | with_reducible refine g_gcons ?_
  | with_reducible refine g_gsub ?_
  | with_reducible refine g_ipI ?_
  | with_reducible refine g_rAdd ?_
  | with_reducible refine g_rSub ?_
  | ((with_reducible refine' g_aug ?obh ?_); (case obh => rfl))
  | with_reducible refine g_tup ?_
  | with_reducible refine g_lst ?_
  | with_reducible refine g_bm ?_
  | with_reducible refine g_bm0 ?_
  | with_reducible refine g_sl ?_
  | with_reducible refine g_nopart ?_
  | with_reducible refine g_part ?_
  | with_reducible refine g_pint ?_
  | with_reducible refine isi_int ?_
  | with_reducible refine isi_intB ?_
  | ((with_reducible refine' g_I ?obh ?_); (case obh => walk_at "obc"))
  | ((with_reducible refine' g_tyl ?obh ?_); (case obh => walk_at "obl"))
  | ((with_reducible refine' g_lenL ?obh ?_); (case obh => walk_at "obl"))
  | with_reducible refine g_ne ?_
  | ((with_reducible refine' g_neN' ?obh ?_); (case obh => rfl))
  | with_reducible refine g_ntt ?_
  | with_reducible refine g_nff ?_
  | with_reducible refine g_star ?_
  | with_reducible refine g_att ?_
  | with_reducible refine g_sfld ?_
  | with_reducible refine g_faug ?_
  | with_reducible refine g_fld ?_
  | ((with_reducible refine' g_nF ?obh ?_); (case obh => omega))
  | ((with_reducible refine' g_nT ?obh ?_); (case obh => omega))
  | ((with_reducible refine' g_TD ?obh ?_); (case obh => omega))
  | ((with_reducible refine' g_FD ?obh ?_); (case obh => omega))
  | ((with_reducible refine' g_ixUL ?obh ?obi ?_); (case obh => walk_at "obl"); (case obi => exact atI_nn (by omega) (by rfl)))
  | ((with_reducible refine' g_setLS ?obs ?obh ?obi ?_); (case obs => assumption); (case obh => assumption); (case obi => rfl); intro _ _ _)
  | ((with_reducible refine' g_newT ?obs ?obh ?obi ?obj ?_); (case obs => assumption); (case obh => walk_at "obds"); (case obi => rfl); (case obj => exact Nat.le_of_ble_eq_true rfl); intro _ _ _ _)
  | ((with_reducible refine' g_newL ?obs ?obj ?_); (case obs => assumption); (case obj => exact Nat.le_of_ble_eq_true rfl); intro _ _ _ _)
  | ((with_reducible refine' isi_tup ?obh ?_); (case obh => walk_at "obt"))
  | ((with_reducible refine' g_lenT ?obh ?_); (case obh => walk_at "obt"))
  | ((with_reducible refine' g_unpT ?obh ?obi ?_); (case obh => walk_at "obt"); (case obi => rfl))
  | ((with_reducible refine' g_divmod ?obs ?obh ?_); (case obs => assumption); (case obh => exact cdivp_ok (by omega) (by omega) (by omega)); intro _ _ _ _)
  | ((with_reducible refine' g_unpD ?obh ?obi ?obj ?_); (case obh => walk_at "obd"); (case obi => walk_at "obsc"); (case obj => rfl))
  | with_reducible refine g_att ?_)
local macro_rules | `(tactic| walk_at "ob") => `(tactic| first
  | walk_at "ob1"
  | refine use_is_integer ?_
  | refine use_is_within ?_
  | with_reducible refine g_lstRg ?_
  | with_reducible refine g_rg1 ?_
  | with_reducible refine g_rg2 ?_
  | with_reducible refine g_tTru ?_
  | ((with_reducible refine' g_truL ?obh ?_); (case obh => walk_at "obl"))
  | ((with_reducible refine' g_ixUT ?obh ?obi ?_); (case obh => walk_at "obt"); (case obi => rfl))
  | with_reducible refine g_forZ ?_
  | with_reducible refine g_forR2 ?_
  | with_reducible refine g_forE ?_
  | with_reducible refine g_lcZ ?_)
local macro_rules | `(tactic| walk_at "ob") => `(tactic| first
  | ((with_reducible refine' g_slS ?obh ?_); (case obh => omega))
  | ((with_reducible refine' g_catS ?obh ?_); (case obh => omega)))
section
variable {P : Program} {w : World} {K : Frag} {mg : Str → Option Value} {base : Heap}
theorem g_eqB {b c : Bool} {H : Hp} {Q : VK} (k : Q (.bl (decide (b = c))) H) : rEq (.bl b) (.bl c) H Q := ⟨rfl, by
  have e : decide (V.bl b = V.bl c) = decide (b = c) := by simp
  rw [e]
  exact k⟩
theorem use_swapped {F : List (Addr × HO)} {G : List Ft} {H : Hp} {Q : VK} {E : XK} {a : Int} (S : Sy K F G H) (ha : a.natAbs ≤ 10000000000000) (k : ∀ p H', Sy K ((p, .lst ((swF (fig a)).map V.int)) :: F) G H' → Q (.ref p) H') : sp_swapped_figures K [.int a] H Q E := ⟨rfl, F, G, a, rfl, S, ha, k⟩
theorem use_digslip {F : List (Addr × HO)} {G : List Ft} {H : Hp} {Q : VK} {E : XK} {a b : Int} (S : Sy K F G H) (ha : a.natAbs ≤ 10000000000000) (hb : b.natAbs ≤ 10000000000000) (k : ∀ H', Sy K F G H' → Q (.bl (digS a b)) H') : sp_is_digit_slip K [.int a, .int b] H Q E := ⟨rfl, F, G, a, b, rfl, S, ha, hb, k⟩
theorem _root_.L2.DpAll.append' {K : Frag} {H : Hp} {vs ws : List V} {ds es : List PyData} (h : DpAll K H vs ds) (h2 : DpAll K H ws es) : DpAll K H (vs ++ ws) (ds ++ es) := dps_append h h2
theorem g_andS {F : List (Addr × HO)} {G : List Ft} {σ : L2.St} {H : Hp} {Q : VK} {sm d : Bool} {t : TE} (S : Sy K F G H) (ht : ∀ Q' : VK, (∀ H', Sy K F G H' → Q' (.bl d) H') → t σ H Q') (k : ∀ H', Sy K F G H' → Q (.bl (sm && d)) H') : if sm = true then t σ H Q else Q (.bl false) H := by
  cases sm with
  | true =>
    rw [if_pos rfl]
    exact ht _ fun H' S' => by have := k H' S'; rwa [Bool.true_and] at this
  | false =>
    rw [if_neg (by decide)]
    exact k H S
theorem g_orS {F : List (Addr × HO)} {G : List Ft} {σ : L2.St} {H : Hp} {Q : VK} {sm d : Bool} {t : TE} (S : Sy K F G H) (ht : ∀ Q' : VK, (∀ H', Sy K F G H' → Q' (.bl d) H') → t σ H Q') (k : ∀ H', Sy K F G H' → Q (.bl (sm || d)) H') : if sm = true then Q (.bl true) H else t σ H Q := by
  cases sm with
  | true =>
    rw [if_pos rfl]
    exact k H S
  | false =>
    rw [if_neg (by decide)]
    exact ht _ fun H' S' => by have := k H' S'; rwa [Bool.false_or] at this
def sD (l : List Str) : List PyData := l.map PyData.str
def lkD (l : List (Str × Bool)) : List PyData := l.map fun p => .tuple [.str p.1, .bool p.2]
theorem lkD_imm (l : List (Str × Bool)) : immAll (lkD l) = true := immAll_of fun d hd => by
  obtain ⟨q, _, rfl⟩ := List.mem_map.mp hd
  rfl
def lk5 (a b c d e : Bool) : List (Str × Bool) := [("digit", a), ("shift", b), ("sign", c), ("swapped", d), ("twice", e)]
def sp_slips (K : Frag) : Sp := fun vs H Q E => vs.length = 2 ∧ ∃ (F : List (Addr × HO)) (G : List Ft) (a b : Int), vs = [.int a, .int b] ∧ Sy K F G H ∧ a.natAbs ≤ 10000000000000 ∧ b.natAbs ≤ 10000000000000 ∧ ∀ p H', Sy K F (.dat [.ref p] [.tuple (sD (slipF a b))] :: G) H' → Q (.ref p) H'
abbrev names_slips : List Str := ["amount", "its", "is_same", "looks", "word", "is_so"]
theorem sc_slips : FnScope names_slips ["amount", "its"] (defScope (top 30)) := ⟨rfl, rfl, rfl, by decide +kernel, rfl, by decide +kernel, by decide +kernel⟩
set_option maxHeartbeats 4000000 in
theorem ok_slips (T : Tx K mg) : FG P w K mg base CX0 2 T.a_slips T.d_slips ["amount", "its"] (sp_slips K) := by
  refine OB.Fun.fg T.F_slips sc_slips (fun vs H Q E h => h.1) (fun cdv A out s H vs Q E g h => ?_)
  obtain ⟨_, F, G, a, b, rfl, S, ha, hb, k⟩ := h
  refine ⟨_, (pss_cons (ps_set (i := 2) sc_slips.nd rfl (by first | exact Or.inl rfl | exact Or.inr rfl) (pe_cmpR op_eq (pe_cmpR op_gt (pv 0) pe_int (nomark _)) (pe_cmpR op_gt (pv 1) pe_int (nomark _)) (nomark _)))
      (pss_cons (ps_set (i := 3) sc_slips.nd rfl (by first | exact Or.inl rfl | exact Or.inr rfl) (pe_lst (pa_cons (pe_tup (pa_cons (pe_glob (v := .str "digit") (by rfl) T.g_DIGIT ⟨_, rfl⟩) (pa_cons (pe_and (pv 2) (pe_one (pe_cg (ok_is_digit_slip T) (g.mono (by decide : 1 ≤ 1)) (by rfl) T.m_is_digit_slip T.F_is_digit_slip.kp (OB.Fun.bd T.F_is_digit_slip (ps := ["amount", "its"]) (n := 2) (ks := []) (ix := [0, 1]) (fun _ _ _ _ _ _ us ws h1 h2 => match us, ws, h1, h2 with | [_, _], [], _, _ => rfl)) pass0 (pa_cons (pv 0) (pa_cons (pv 1) pa_nil)) pk_nil))) pa_nil))) (pa_cons (pe_tup (pa_cons (pe_glob (v := .str "shift") (by rfl) T.g_SHIFT ⟨_, rfl⟩) (pa_cons (pe_or (pe_cmpR op_eq (pv 1) (pe_op op_mul (pe_glob (v := .int 10) (by rfl) T.g_TEN ⟨_, rfl⟩) (pv 0)) (nomark _)) (pe_one (pe_cmpR op_eq (pv 0) (pe_op op_mul (pe_glob (v := .int 10) (by rfl) T.g_TEN ⟨_, rfl⟩) (pv 1)) (nomark _)))) pa_nil))) pa_nil))))
      (pss_cons (ps_expr (pe_bm PySem.F.plainAttrs_list PySem.F.slot_list_extend PySem.F.type_list_extend mt_extend (pv 3) (pa_cons (pe_lst (pa_cons (pe_tup (pa_cons (pe_glob (v := .str "sign") (by rfl) T.g_SIGN ⟨_, rfl⟩) (pa_cons (pe_cmpR op_eq (pv 1) (pe_un un_neg (pv 0)) (nomark _)) pa_nil))) (pa_cons (pe_tup (pa_cons (pe_glob (v := .str "swapped") (by rfl) T.g_SWAPPED ⟨_, rfl⟩) (pa_cons (pe_and (pv 2) (pe_one (pe_cmpR (op_inK (K := K) rfl) (pe_callB c_abs (by rfl) T.n_abs (by decide +kernel) (pa_cons (pv 1) pa_nil)) (pe_cg (ok_swapped_figures T) (g.mono (by decide : 1 ≤ 1)) (by rfl) T.m_swapped_figures T.F_swapped_figures.kp (OB.Fun.bd T.F_swapped_figures (ps := ["amount"]) (n := 1) (ks := []) (ix := [0]) (fun _ _ _ _ _ _ us ws h1 h2 => match us, ws, h1, h2 with | [_], [], _, _ => rfl)) pass0 (pa_cons (pv 0) pa_nil) pk_nil) (by rfl)))) pa_nil))) pa_nil))) pa_nil)))
      (pss_cons (ps_expr (pe_bm PySem.F.plainAttrs_list PySem.F.slot_list_append PySem.F.type_list_append mt_append (pv 3) (pa_cons (pe_tup (pa_cons (pe_glob (v := .str "twice") (by rfl) T.g_TWICE ⟨_, rfl⟩) (pa_cons (pe_or (pe_cmpR op_eq (pv 1) (pe_op op_mul (pe_glob (v := .int 2) (by rfl) T.g_PAIR ⟨_, rfl⟩) (pv 0)) (nomark _)) (pe_one (pe_cmpR op_eq (pv 0) (pe_op op_mul (pe_glob (v := .int 2) (by rfl) T.g_PAIR ⟨_, rfl⟩) (pv 1)) (nomark _)))) pa_nil))) pa_nil)))
      (pss_one (ps_ret (pe_callTy (toK (r := rTuple) (K := K) rfl c_tuple) (by rfl) T.n_tuple (by decide +kernel) (pa_cons (pe_lc (own := [("word", 4), ("is_so", 5)]) rfl sc_slips.nd (pi_seq (pv 3)) (blkOk_by (N := names_slips) (sc := defScope (top 30)) (own := [("word", 4), ("is_so", 5)]) (by decide +kernel)) (fun _ _ _ _ _ => (pg_tupK (K := K) rfl (n := 2) rfl (pgs_cons (pg_name (i := 4) sc_slips.nd rfl (by first | exact Or.inl rfl | exact Or.inr rfl)) (pgs_cons (pg_name (i := 5) sc_slips.nd rfl (by first | exact Or.inl rfl | exact Or.inr rfl)) pgs_nil)))) (fun _ _ _ _ _ => pts_one (pt_val (pv 5))) (fun _ _ _ _ _ => (pv 4))) pa_nil)))))))), ?_⟩
  refine g_start (σ := [some _, some _, none, none, none, none]) rfl ?_
  repeat walk_at "ob"
  refine g_eqB ?_
  repeat walk_at "ob"
  unfold slipF looksF at k
  rw [show decide (decide (a > 0) = decide (b > 0)) = sameF a b from rfl]
  generalize sameF a b = sm at *
  refine g_andS (d := digS a b) S (fun Q' q => ?_) fun H1 S1 => ?_
  · repeat walk_at "ob"
    exact use_digslip S ha hb q
  clear S
  generalize digS a b = ds at *
  repeat walk_at "ob"
  rename_i p1 H2 _ S2
  clear S1
  refine g_orS (d := decide (a = 10 * b)) S2 (fun Q' q => ?_) fun H3 S3 => ?_
  · repeat walk_at "ob"
    exact q _ S2
  clear S2
  repeat walk_at "ob"
  rename_i p3 H4 _ S4 p4 H5 _ S5 p5 H6 _ S6
  clear S3 S4 S5
  refine g_andS (d := decide ((b.natAbs : Int) ∈ swF (fig a))) S6 (fun Q' q => ?_) fun H7 S7 => ?_
  · repeat walk_at "ob"
    refine use_swapped S6 ha fun p6 H7 S7 => ?_
    rw [abs_nat]
    refine g_inL (SqL.of (S7.at 0 rfl)) ?_
    exact q _ S7.less
  clear S6
  generalize decide ((b.natAbs : Int) ∈ swF (fig a)) = dw at *
  repeat walk_at "ob"
  rename_i p8 H8 _ S8 p9 H9 _ S9
  clear S7 S8
  refine g_extS S9 (f := 1) rfl (S9.at 0 rfl) (show 4 ≤ 100000 by decide) fun H10 S10 => ?_
  have S11 := S10.less
  clear S9 S10
  repeat walk_at "ob"
  refine g_orS (d := decide (a = 2 * b)) S11 (fun Q' q => ?_) fun H12 S12 => ?_
  · repeat walk_at "ob"
    exact q _ S11
  clear S11
  repeat walk_at "ob"
  rename_i p13 H13 _ S13
  clear S12
  refine g_appS S13 (f := 0) rfl (show 4 < 100000 by decide) fun H14 S14 => ?_
  clear S13
  have S15 : Sy K ((p4, HO.lst [.ref p1, .ref p3, .ref p5, .ref p8, .ref p13]) :: F) _ H14 := S14
  clear S14
  have hds := (((S15.dps 4 rfl).append' (S15.dps 3 rfl)).append' (S15.dps 2 rfl)).append' ((S15.dps 1 rfl).append' (S15.dps 0 rfl))
  have hds2 : DpAll K H14 [.ref p1, .ref p3, .ref p5, .ref p8, .ref p13] (lkD (lk5 (sm && ds) (decide (b = 10 * a) || decide (a = 10 * b)) (decide (b = -a)) (sm && dw) (decide (b = 2 * a) || decide (a = 2 * b)))) := hds
  change ∀ (p : Addr) (H' : Hp), Sy K F (.dat [.ref p] [.tuple (sD (((lk5 (sm && ds) (decide (b = 10 * a) || decide (a = 10 * b)) (decide (b = -a)) (sm && dw) (decide (b = 2 * a) || decide (a = 2 * b))).filter (·.2)).map (·.1)))] :: G) H' → Q (V.ref p) H' at k
  have hll : [V.ref p1, .ref p3, .ref p5, .ref p8, .ref p13].length = (lk5 (sm && ds) (decide (b = 10 * a) || decide (a = 10 * b)) (decide (b = -a)) (sm && dw) (decide (b = 2 * a) || decide (a = 2 * b))).length := rfl
  have S16 := S15.drop.drop.drop.drop.drop.fact hds2 (lkD_imm _)
  have hl5 : (lk5 (sm && ds) (decide (b = 10 * a) || decide (a = 10 * b)) (decide (b = -a)) (sm && dw) (decide (b = 2 * a) || decide (a = 2 * b))).length = 5 := rfl
  clear hds S15 hds2
  generalize (lk5 (sm && ds) (decide (b = 10 * a) || decide (a = 10 * b)) (decide (b = -a)) (sm && dw) (decide (b = 2 * a) || decide (a = 2 * b))) = lk at *
  generalize [V.ref p1, .ref p3, .ref p5, .ref p8, .ref p13] = us at *
  repeat walk_at "ob"
  refine g_lcS (a := p4) (xs := us) true (fun i F' ds => F' = (p4, .lst us) :: F ∧ ds = sD (((lk.take i).filter (·.2)).map (·.1)) ∧ i ≤ lk.length) S16 (fun Q' q => by repeat walk_at "ob"; exact q) ⟨rfl, rfl, Nat.zero_le _⟩ (fun i F' ds H' hi S4 => by
      rw [hi.1] at S4
      exact SqL.of (S4.at 0 rfl)) (fun i F' ds hi => by
      rw [hi.2.1, show (sD _).length = _ from List.length_map .., List.length_map]
      refine Nat.lt_of_le_of_lt (List.length_filter_le _ _) ?_
      rw [List.length_take]
      omega) ?_ ?_
  · intro j x hx Dq H4 F2 ws es QE QR hi S4 kE kR
    obtain ⟨rfl, rfl, hj⟩ := hi
    obtain ⟨z, hz, hdx⟩ := dps_map (S4.dps 1 rfl) hx
    have hj3 := (List.getElem?_eq_some_iff.mp hz).1
    obtain ⟨p2, zs, rfl, hp2, hzs⟩ := dp_tuple hdx
    cases hzs with
    | cons d1 hzs =>
    cases hzs with
    | cons d2 hzs =>
    cases hzs
    cases d1
    cases d2
    refine g_unpT hp2 rfl ?_
    repeat walk_at "ob"
    refine ⟨rfl, ?_⟩
    obtain ⟨z1, z2⟩ := z
    have st : (lk.take (j + 1)).filter (·.2) = (lk.take j).filter (·.2) ++ if z2 = true then [(z1, z2)] else [] := by
      rw [List.take_succ, List.filter_append, hz]
      cases z2 <;> rfl
    cases z2 with
    | true =>
      repeat walk_at "ob"
      refine kE _ (.str z1) _ _ ⟨rfl, ?_, hj3⟩ (S4.fact (dps_one (.str _)) rfl)
      rw [st, List.map_append]
      unfold sD
      rw [List.map_append]
      rfl
    | false =>
      repeat walk_at "ob"
      refine kR _ _ ⟨rfl, ?_, hj3⟩ S4
      rw [st]
      simp
  · rintro Dq H4 F2 ws es hD ⟨rfl, rfl, _⟩ S4
    rw [hll, List.take_of_length_le (Nat.le_refl _)] at S4
    repeat walk_at "ob"
    refine g_tup0 S4 (SqL.of (S4.at 0 rfl)) (S4.dps 0 rfl) (S4.dpi 0 rfl) fun t1 H11 _ S11 => ?_
    exact k _ _ (Sy.cut (L := [_, _]) S11.less.less)
end
end LAW

set_option Elab.async false
set_option linter.all false
set_option maxRecDepth 100000
namespace LAW
open PySem PySem.Spec PyProof.Rows L2 PySem.W OB
local macro_rules | `(tactic| walk_at "obc") => `(tactic| first
  | exact Or.inl ⟨by omega, by omega⟩
  | exact Or.inr ⟨by omega, by omega⟩
  | exact cdiv_ok (by omega) (by omega)
  | (show (0 : Int) < _; omega)
  | exact ⟨by omega, by decide⟩
  | exact ⟨by decide, by decide⟩)
local macro_rules | `(tactic| walk_at "obat") => `(tactic| first
  | exact Sy.at (by assumption) 0 rfl | exact Sy.at (by assumption) 1 rfl | exact Sy.at (by assumption) 2 rfl | exact Sy.at (by assumption) 3 rfl
  | exact Sy.at (by assumption) 4 rfl | exact Sy.at (by assumption) 5 rfl | exact Sy.at (by assumption) 6 rfl | exact Sy.at (by assumption) _ (by assumption) | exact Sy.at (by assumption) (_ + 1) (by assumption) | exact Sy.at (by assumption) (_ + 2) (by assumption))
local macro_rules | `(tactic| walk_at "obt") => `(tactic| first
  | exact Sy.tqs (by assumption) 0 rfl | exact Sy.tqs (by assumption) 1 rfl | exact Sy.tqs (by assumption) 2 rfl | exact Sy.tqs (by assumption) 3 rfl | exact Sy.tqs (by assumption) 4 rfl | exact Sy.tqs (by assumption) 5 rfl
  | exact Sy.tqs (by assumption) 6 rfl | exact Sy.tqs (by assumption) 7 rfl | assumption)
local macro_rules | `(tactic| walk_at "obl") => `(tactic| first
  | exact SqL.of (by walk_at "obat")
  | exact Sy.sq (by assumption) 0 rfl | exact Sy.sq (by assumption) 1 rfl | exact Sy.sq (by assumption) 2 rfl | exact Sy.sq (by assumption) 3 rfl | exact Sy.sq (by assumption) _ (by assumption))
local macro_rules | `(tactic| walk_at "obd") => `(tactic| first
  | exact Dp.int _ | exact Dp.bl _ | exact Dp.str _ | exact Dp.non
  | exact Sy.dp (by assumption) 0 rfl | exact Sy.dp (by assumption) 1 rfl | exact Sy.dp (by assumption) 2 rfl | exact Sy.dp (by assumption) 3 rfl
  | exact Sy.dp (by assumption) 4 rfl | exact Sy.dp (by assumption) 5 rfl | exact Sy.dp (by assumption) 6 rfl | exact Sy.dp (by assumption) 7 rfl
  | exact Sy.dp (by assumption) 8 rfl | exact Sy.dp (by assumption) 9 rfl | exact Sy.dp (by assumption) _ (by assumption) | assumption)
local macro_rules | `(tactic| walk_at "obds") => `(tactic| first
  | exact DpAll.nil
  | (refine' DpAll.cons ?ob1 ?ob2; (case ob1 => walk_at "obd"); (case ob2 => walk_at "obds"))
  | exact Sy.dps (by assumption) 0 rfl | exact Sy.dps (by assumption) 1 rfl | exact Sy.dps (by assumption) 2 rfl | exact Sy.dps (by assumption) 3 rfl | assumption)
local macro_rules | `(tactic| walk_at "obsc") => `(tactic| first
  | exact ScL.nil
  | ((first | refine' ScL.int ?obz | refine' ScL.str ?obz | refine' ScL.bl ?obz | refine' ScL.non ?obz); (case obz => walk_at "obsc")))
local macro_rules | `(tactic| walk_at "ob1") => `(tactic| first
  | ((with_reducible refine' g_var ?obh ?_); (case obh => rfl))
  | with_reducible refine g_c ?_
  | with_reducible refine g_nx ?_
  | with_reducible refine g_rt ?_
  | with_reducible refine g_bk ?_
  | with_reducible refine g_ct ?_
  | with_reducible refine g_op ?_
  | with_reducible refine g_I0 ?_
  | with_reducible refine g_test ?_
  | with_reducible refine g_bl ?_
  | with_reducible refine g_blx ?_
  | with_reducible refine g_B ?_
  | with_reducible refine g_seq ?_
  | with_reducible refine g_asg ?_
  | with_reducible refine g_name ?_
  | with_reducible refine g_ifS ?_
  | with_reducible refine g_ret ?_
  | with_reducible refine g_cb ?_
  | with_reducible refine g_cons ?_
  | with_reducible refine g_nil ?_
  | with_reducible refine g_int ?_
  | with_reducible refine g_intB ?_
  | with_reducible refine g_abs ?_
  | with_reducible refine g_max ?_
  | with_reducible refine g_min ?_
  | with_reducible refine g_un ?_
  | with_reducible refine g_U ?_
  | with_reducible refine g_eqI ?_
  | with_reducible refine g_neI ?_
  | with_reducible refine g_eqS ?_
  | with_reducible refine g_neS ?_
  | with_reducible refine g_tt ?_
  | with_reducible refine g_ff ?_
  | with_reducible refine g_next ?_
  | with_reducible refine g_drop ?_
  | with_reducible refine g_if ?_
  | with_reducible refine g_andV ?_
  | with_reducible refine g_orV ?_
  | with_reducible refine g_notV ?_
  | with_reducible refine g_and ?_
  | with_reducible refine g_or ?_
  | with_reducible refine g_not ?_
  | with_reducible refine g_yes ?_
  | with_reducible refine g_chain ?_
  | with_reducible refine g_cg ?_
  | with_reducible refine g_mg ?_
  | with_reducible refine g_kg ?_
  | with_reducible refine g_pg ?_
  | ((with_reducible refine' g_call ?obh ?obj ?_); (case obh => rfl); (case obj => rfl))
  | with_reducible refine g_par ?_
  | with_reducible refine g_par2 ?_
  | with_reducible refine g_par3 ?_
  | with_reducible refine g_par33 ?_
  | with_reducible refine g_gnil ?_
  | with_reducible refine g_gcons ?_
  | with_reducible refine g_gsub ?_
  | with_reducible refine g_ipI ?_
  | with_reducible refine g_rAdd ?_
  | with_reducible refine g_rSub ?_
  | ((with_reducible refine' g_aug ?obh ?_); (case obh => rfl))
  | with_reducible refine g_tup ?_
  | with_reducible refine g_lst ?_
  | with_reducible refine g_bm ?_
  | with_reducible refine g_bm0 ?_
  | with_reducible refine g_sl ?_
  | with_reducible refine g_nopart ?_
  | with_reducible refine g_part ?_
  | with_reducible refine g_pint ?_
  | with_reducible refine isi_int ?_
  | with_reducible refine isi_intB ?_
  | ((with_reducible refine' g_I ?obh ?_); (case obh => walk_at "obc"))
  | ((with_reducible refine' g_tyl ?obh ?_); (case obh => walk_at "obl"))
  | ((with_reducible refine' g_lenL ?obh ?_); (case obh => walk_at "obl"))
  | with_reducible refine g_ne ?_
  | ((with_reducible refine' g_neN' ?obh ?_); (case obh => rfl))
  | with_reducible refine g_ntt ?_
  | with_reducible refine g_nff ?_
  | with_reducible refine g_star ?_
  | with_reducible refine g_att ?_
  | with_reducible refine g_sfld ?_
  | with_reducible refine g_faug ?_
  | with_reducible refine g_fld ?_
  | ((with_reducible refine' g_nF ?obh ?_); (case obh => omega))
  | ((with_reducible refine' g_nT ?obh ?_); (case obh => omega))
  | ((with_reducible refine' g_TD ?obh ?_); (case obh => omega))
  | ((with_reducible refine' g_FD ?obh ?_); (case obh => omega))
  | ((with_reducible refine' g_ixUL ?obh ?obi ?_); (case obh => walk_at "obl"); (case obi => exact atI_nn (by omega) (by rfl)))
  | ((with_reducible refine' g_setLS ?obs ?obh ?obi ?_); (case obs => assumption); (case obh => assumption); (case obi => rfl); intro _ _ _)
  | ((with_reducible refine' g_newT ?obs ?obh ?obi ?obj ?_); (case obs => assumption); (case obh => walk_at "obds"); (case obi => rfl); (case obj => exact Nat.le_of_ble_eq_true rfl); intro _ _ _ _)
  | ((with_reducible refine' g_newL ?obs ?obj ?_); (case obs => assumption); (case obj => exact Nat.le_of_ble_eq_true rfl); intro _ _ _ _)
  | ((with_reducible refine' isi_tup ?obh ?_); (case obh => walk_at "obt"))
  | ((with_reducible refine' g_lenT ?obh ?_); (case obh => walk_at "obt"))
  | ((with_reducible refine' g_unpT ?obh ?obi ?_); (case obh => walk_at "obt"); (case obi => rfl))
  | ((with_reducible refine' g_divmod ?obs ?obh ?_); (case obs => assumption); (case obh => exact cdivp_ok (by omega) (by omega) (by omega)); intro _ _ _ _)
  | ((with_reducible refine' g_unpD ?obh ?obi ?obj ?_); (case obh => walk_at "obd"); (case obi => walk_at "obsc"); (case obj => rfl))
  | with_reducible refine g_att ?_)
local macro_rules | `(tactic| walk_at "ob") => `(tactic| first
  | walk_at "ob1"
  | refine use_is_integer ?_
  | refine use_is_within ?_
  | with_reducible refine g_lstRg ?_
  | with_reducible refine g_rg1 ?_
  | with_reducible refine g_rg2 ?_
  | with_reducible refine g_tTru ?_
  | ((with_reducible refine' g_truL ?obh ?_); (case obh => walk_at "obl"))
  | ((with_reducible refine' g_ixUT ?obh ?obi ?_); (case obh => walk_at "obt"); (case obi => rfl))
  | with_reducible refine g_forZ ?_
  | with_reducible refine g_forR2 ?_
  | with_reducible refine g_forE ?_
  | with_reducible refine g_lcZ ?_)
local macro_rules | `(tactic| walk_at "ob") => `(tactic| first
  | ((with_reducible refine' g_slS ?obh ?_); (case obh => omega))
  | ((with_reducible refine' g_catS ?obh ?_); (case obh => omega)))
section
variable {P : Program} {w : World} {K : Frag} {mg : Str → Option Value} {base : Heap}
theorem use_slips {F : List (Addr × HO)} {G : List Ft} {H : Hp} {Q : VK} {E : XK} {a b : Int} (S : Sy K F G H) (ha : a.natAbs ≤ 10000000000000) (hb : b.natAbs ≤ 10000000000000) (k : ∀ p H', Sy K F (.dat [.ref p] [.tuple (sD (slipF a b))] :: G) H' → Q (.ref p) H') : sp_slips K [.int a, .int b] H Q E := ⟨rfl, F, G, a, b, rfl, S, ha, hb, k⟩
theorem use_check_amount {H : Hp} {Q : VK} {E : XK} {a : Int} (a0 : a ≠ 0) (a1 : a.natAbs ≤ 1000000000000) (k : Q .non H) : sp_check_amount K [.int a] H Q E := ⟨rfl, a, rfl, a0, by omega, by omega, k⟩
def sp_slips_of (K : Frag) : Sp := fun vs H Q E => vs.length = 2 ∧ ∃ (F : List (Addr × HO)) (G : List Ft) (a b : Int), vs = [.int a, .int b] ∧ Sy K F G H ∧ a ≠ 0 ∧ b ≠ 0 ∧ a.natAbs ≤ 1000000000000 ∧ b.natAbs ≤ 1000000000000 ∧ ∀ p H', Sy K F (.dat [.ref p] [.tuple (sD (slipF a b))] :: G) H' → Q (.ref p) H'
abbrev names_slips_of : List Str := ["amount", "its"]
theorem sc_slips_of : FnScope names_slips_of ["amount", "its"] (defScope (top 31)) := ⟨rfl, rfl, rfl, by decide +kernel, rfl, by decide +kernel, by decide +kernel⟩
set_option maxHeartbeats 4000000 in
theorem ok_slips_of (T : Tx K mg) : FG P w K mg base CX0 5 T.a_slips_of T.d_slips_of ["amount", "its"] (sp_slips_of K) := by
  refine OB.Fun.fg T.F_slips_of sc_slips_of (fun vs H Q E h => h.1) (fun cdv A out s H vs Q E g h => ?_)
  obtain ⟨_, F, G, a, b, rfl, S, a0, b0, ha, hb, k⟩ := h
  refine ⟨_, (pss_cons (ps_expr (pe_cg (ok_check_amount T) (g.mono (by decide : 4 ≤ 4)) (by rfl) T.m_check_amount T.F_check_amount.kp (OB.Fun.bd T.F_check_amount (ps := ["amount"]) (n := 1) (ks := []) (ix := [0]) (fun _ _ _ _ _ _ us ws h1 h2 => match us, ws, h1, h2 with | [_], [], _, _ => rfl)) pass0 (pa_cons (pv 0) pa_nil) pk_nil))
      (pss_cons (ps_expr (pe_cg (ok_check_amount T) (g.mono (by decide : 4 ≤ 4)) (by rfl) T.m_check_amount T.F_check_amount.kp (OB.Fun.bd T.F_check_amount (ps := ["amount"]) (n := 1) (ks := []) (ix := [0]) (fun _ _ _ _ _ _ us ws h1 h2 => match us, ws, h1, h2 with | [_], [], _, _ => rfl)) pass0 (pa_cons (pv 1) pa_nil) pk_nil))
      (pss_one (ps_ret (pe_cg (ok_slips T) (g.mono (by decide : 2 ≤ 4)) (by rfl) T.m_slips T.F_slips.kp (OB.Fun.bd T.F_slips (ps := ["amount", "its"]) (n := 2) (ks := []) (ix := [0, 1]) (fun _ _ _ _ _ _ us ws h1 h2 => match us, ws, h1, h2 with | [_, _], [], _, _ => rfl)) pass0 (pa_cons (pv 0) (pa_cons (pv 1) pa_nil)) pk_nil))))), ?_⟩
  refine g_start (σ := [some _, some _]) rfl ?_
  repeat walk_at "ob"
  refine use_check_amount a0 ha ?_
  repeat walk_at "ob"
  refine use_check_amount b0 hb ?_
  repeat walk_at "ob"
  exact use_slips S (by omega) (by omega) k
/-! ### slips of two books -/
def slS (one other : List N) (i j : Nat) : List PyData := match one[i]?, other[j]? with
  | some m, some n => if m.1 = n.1 then (if slipF m.2 n.2 = [] then [] else [.tuple [.int (i : Int), .int (j : Int), .tuple (sD (slipF m.2 n.2))]]) else []
  | _, _ => []
def slI (one other : List N) (its : List Nat) (i : Nat) : List PyData := its.flatMap (slS one other i)
def slIn (one other : List N) : List PyData := (pairF one other).2.1.flatMap (slI one other (pairF one other).2.2)
theorem slS_one (one other : List N) (i j : Nat) : (slS one other i j).length ≤ 1 := by
  unfold slS
  split
  · split
    · split <;> simp
    · simp
  · simp
theorem slS_imm (one other : List N) (i j : Nat) : immAll (slS one other i j) = true := by
  unfold slS
  split
  · split
    · split
      · rfl
      · rename_i m n _ _ _ _
        show ((true && (true && (immAll (sD (slipF m.2 n.2)) && true))) && true) = true
        rw [show immAll (sD (slipF m.2 n.2)) = true from immAll_of fun d hd => by
          obtain ⟨q, _, rfl⟩ := List.mem_map.mp hd
          rfl]
        rfl
    · rfl
  · rfl
theorem slI_len (one other : List N) (its : List Nat) (i : Nat) : (slI one other its i).length ≤ its.length := by
  unfold slI
  induction its with
  | nil => exact Nat.le_refl _
  | cons j its ih =>
    rw [List.flatMap_cons, List.length_append, List.length_cons]
    have := slS_one one other i j
    omega
theorem sD_imm (l : List Str) : immAll (sD l) = true := immAll_of fun d hd => by
  obtain ⟨q, _, rfl⟩ := List.mem_map.mp hd
  rfl
theorem g_truD {H : Hp} {p : Addr} {ds : List PyData} {QB : Bool → Hp → Prop} (h : L2.Dp K H (.ref p) (.tuple ds)) (k : QB (!ds.isEmpty) H) : rTruK K (.ref p) H QB := by
  obtain ⟨a, xs, e, h1, h2⟩ := dp_tuple h
  cases e
  refine ⟨_, .inr (.inl ⟨xs, h1, rfl⟩), ?_⟩
  have e : xs.isEmpty = ds.isEmpty := by
    cases h2 <;> rfl
  rw [e]
  exact k
def sp_slips_in (K : Frag) : Sp := fun vs H Q E => vs.length = 2 ∧ ∃ (F : List (Addr × HO)) (G : List Ft) (a b : Addr) (rs ts : NS), vs = [.ref a, .ref b] ∧ Sy K F G H ∧ SqT K H a (NR rs) ∧ (∀ q ∈ NT rs, H q.1 = some (.tup q.2)) ∧ SqT K H b (NR ts) ∧ (∀ q ∈ NT ts, H q.1 = some (.tup q.2)) ∧ NG rs ∧ NG ts ∧ rs.length ≤ 200 ∧ ts.length ≤ 200 ∧
  ∀ t H', Sy K F (.dat [.ref t] [.tuple (slIn (rs.map (·.2)) (ts.map (·.2)))] :: G) H' → Q (.ref t) H'
theorem use_paired {F : List (Addr × HO)} {G : List Ft} {H : Hp} {Q : VK} {E : XK} {a b : Addr} {rs ts : NS} (S : Sy K F G H) (h1 : SqT K H a (NR rs)) (h2 : ∀ q ∈ NT rs, H q.1 = some (.tup q.2)) (h3 : SqT K H b (NR ts)) (h4 : ∀ q ∈ NT ts, H q.1 = some (.tup q.2)) (ng : NG rs) (nt : NG ts) (hl : rs.length ≤ 200) (hm : ts.length ≤ 200)
    (k : ∀ t H', Sy K F (.dat [.ref t] [pairD (pairF (rs.map (·.2)) (ts.map (·.2)))] :: G) H' → Q (.ref t) H') : sp_paired K [.ref a, .ref b] H Q E := ⟨rfl, F, G, a, b, rs, ts, rfl, S, h1, h2, h3, h4, ng, nt, hl, hm, k⟩
abbrev names_slips_in : List Str := ["one", "other", "pairs", "mine", "its", "found", "number", "at", "words"]
theorem sc_slips_in : FnScope names_slips_in ["one", "other"] (defScope (top 32)) := ⟨rfl, rfl, rfl, by decide +kernel, rfl, by decide +kernel, by decide +kernel⟩
set_option maxHeartbeats 4000000 in
theorem ok_slips_in (T : Tx K mg) : FG P w K mg base CX0 7 T.a_slips_in T.d_slips_in ["one", "other"] (sp_slips_in K) := by
  refine OB.Fun.fg T.F_slips_in sc_slips_in (fun vs H Q E h => h.1) (fun cdv A out s H vs Q E g h => ?_)
  obtain ⟨_, F, G0, a, b, rs, ts, rfl, S0, ha, hta, hb, htb, ng, nt, hl, hm, k⟩ := h
  refine ⟨_, (pss_cons (ps_asg (pe_cg (ok_paired T) (g.mono (by decide : 6 ≤ 6)) (by rfl) T.m_paired T.F_paired.kp (OB.Fun.bd T.F_paired (ps := ["one", "other"]) (n := 2) (ks := []) (ix := [0, 1]) (fun _ _ _ _ _ _ us ws h1 h2 => match us, ws, h1, h2 with | [_, _], [], _, _ => rfl)) pass0 (pa_cons (pv 0) (pa_cons (pv 1) pa_nil)) pk_nil) (pg_tupK (K := K) rfl (n := 3) rfl (pgs_cons (pg_name (i := 2) sc_slips_in.nd rfl (by first | exact Or.inl rfl | exact Or.inr rfl)) (pgs_cons (pg_name (i := 3) sc_slips_in.nd rfl (by first | exact Or.inl rfl | exact Or.inr rfl)) (pgs_cons (pg_name (i := 4) sc_slips_in.nd rfl (by first | exact Or.inl rfl | exact Or.inr rfl)) pgs_nil)))))
      (pss_cons (ps_set (i := 5) sc_slips_in.nd rfl (by first | exact Or.inl rfl | exact Or.inr rfl) (pe_lst pa_nil))
      (pss_cons (ps_for PassesOwn.never rfl (pi_seq (pv 3)) (pg_name (i := 6) sc_slips_in.nd rfl (by first | exact Or.inl rfl | exact Or.inr rfl))
      (pss_one (ps_for PassesOwn.never rfl (pi_seq (pv 4)) (pg_name (i := 7) sc_slips_in.nd rfl (by first | exact Or.inl rfl | exact Or.inr rfl))
      (pss_cons (ps_set (i := 8) sc_slips_in.nd rfl (by first | exact Or.inl rfl | exact Or.inr rfl) (pe_ifExp (pt_cmpR op_eq (pe_ix (ix_UK (K := K) rfl) (pe_ix (ix_UK (K := K) rfl) (pv 0) (pv 6) (fun _ _ => rfl)) pe_int (fun _ _ => rfl)) (pe_ix (ix_UK (K := K) rfl) (pe_ix (ix_UK (K := K) rfl) (pv 1) (pv 7) (fun _ _ => rfl)) pe_int (fun _ _ => rfl)) (nomark _)) (pe_cg (ok_slips T) (g.mono (by decide : 2 ≤ 6)) (by rfl) T.m_slips T.F_slips.kp (OB.Fun.bd T.F_slips (ps := ["amount", "its"]) (n := 2) (ks := []) (ix := [0, 1]) (fun _ _ _ _ _ _ us ws h1 h2 => match us, ws, h1, h2 with | [_, _], [], _, _ => rfl)) pass0 (pa_cons (pe_ix (ix_UK (K := K) rfl) (pe_ix (ix_UK (K := K) rfl) (pv 0) (pv 6) (fun _ _ => rfl)) pe_int (fun _ _ => rfl)) (pa_cons (pe_ix (ix_UK (K := K) rfl) (pe_ix (ix_UK (K := K) rfl) (pv 1) (pv 7) (fun _ _ => rfl)) pe_int (fun _ _ => rfl)) pa_nil)) pk_nil) (pe_tup pa_nil)))
      (pss_one (ps_if (pt_tru (K := K) rfl (pv 8) (fun _ => rfl)) (pss_one (ps_expr (pe_bm PySem.F.plainAttrs_list PySem.F.slot_list_append PySem.F.type_list_append mt_append (pv 5) (pa_cons (pe_tup (pa_cons (pv 6) (pa_cons (pv 7) (pa_cons (pv 8) pa_nil)))) pa_nil)))) pss_nil))))))
      (pss_one (ps_ret (pe_callTy (toK (r := rTuple) (K := K) rfl c_tuple) (by rfl) T.n_tuple (by decide +kernel) (pa_cons (pv 5) pa_nil))))))), ?_⟩
  refine g_start (σ := [some _, some _, none, none, none, none, none, none, none]) rfl ?_
  have S := (((S0.add (.tt (NT rs)) hta).add (.tq a (NR rs)) ha).add (.tt (NT ts)) htb).add (.tq b (NR ts)) hb
  clear S0 ha hta hb htb
  have lns : (rs.map (·.2)).length = rs.length := List.length_map ..
  have lms : (ts.map (·.2)).length = ts.length := List.length_map ..
  repeat walk_at "ob"
  refine use_paired S (S.tqs 2 rfl) (S.tts 3 rfl) (S.tqs 0 rfl) (S.tts 1 rfl) ng nt hl hm fun t H1 S1 => ?_
  clear S
  have hlf := pairG_left (other := ts.map (·.2)) (one := rs.map (·.2)) (rs.map (·.2)).length
  have hlm := pairG_mine (other := ts.map (·.2)) (one := rs.map (·.2)) (rs.map (·.2)).length
  have hll := pairG_llen (other := ts.map (·.2)) (one := rs.map (·.2)) (rs.map (·.2)).length
  have hpl := pairG_len (other := ts.map (·.2)) (one := rs.map (·.2)) (rs.map (·.2)).length
  have eF : pairG (ts.map (·.2)) (rs.map (·.2)) (rs.map (·.2)).length = pairF (rs.map (·.2)) (ts.map (·.2)) := rfl
  rw [eF] at hlf hlm hll hpl
  unfold slIn at k
  generalize pairF (rs.map (·.2)) (ts.map (·.2)) = st at *
  obtain ⟨pp, mm, left⟩ := st
  dsimp only at hlf hlm hll hpl k
  rw [lms] at hll
  rw [lns] at hpl
  obtain ⟨t1, xs, et, ht1, hxs⟩ := dp_tuple (show L2.Dp K H1 (.ref t) (.tuple [.tuple (iiD pp), .tuple (nsD mm), .tuple (nsD left)]) from S1.dp 0 rfl)
  cases et
  cases hxs with
  | cons d1 hxs =>
  cases hxs with
  | cons d2 hxs =>
  cases hxs with
  | cons d3 hxs =>
  cases hxs
  obtain ⟨q1, xs1, rfl, hq1, hxs1⟩ := dp_tuple d1
  obtain ⟨q2, xs2, rfl, hq2, hxs2⟩ := dp_tuple d2
  obtain ⟨q3, xs3, rfl, hq3, hxs3⟩ := dp_tuple d3
  have hv2 := dps_nsV hxs2
  have hv3 := dps_nsV hxs3
  subst hv2 hv3
  have S2 := ((S1.drop.add (.tq q2 (nI mm)) hq2).add (.tq q3 (nI left)) hq3)
  refine g_unpT ht1 rfl ?_
  clear S1
  repeat walk_at "ob"
  rename_i fo H3 _ S3
  clear S2
  have flen : ∀ l : List Nat, (l.flatMap (slI (rs.map (·.2)) (ts.map (·.2)) left)).length ≤ l.length * 200 := fun l => by
    induction l with
    | nil => exact Nat.zero_le _
    | cons x l ih =>
      rw [List.flatMap_cons, List.length_append, List.length_cons]
      have := slI_len (rs.map (·.2)) (ts.map (·.2)) left x
      omega
  refine g_forS (a := q2) (xs := nI mm) false (fun i σ' H' => ∃ v6 v7 v8 fv, σ' = [some (.ref a), some (.ref b), some (.ref q1), some (.ref q2), some (.ref q3), some (.ref fo), v6, v7, v8] ∧
      Sy K ((fo, .lst fv) :: F) (.dat fv ((mm.take i).flatMap (slI (rs.map (fun r : Addr × N => r.2)) (ts.map (fun r : Addr × N => r.2)) left)) :: .tq q3 (nI left) :: .tq q2 (nI mm) :: .tq b (NR ts) :: .tt (NT ts) :: .tq a (NR rs) :: .tt (NT rs) :: G0) H') (fun Q' q => by repeat walk_at "ob"; exact q) ⟨none, none, none, [], rfl, S3.fact .nil rfl⟩ (fun i σ' H' ⟨_, _, _, _, _, S4⟩ => S4.tqs 2 rfl) ?_ ?_
  · rintro i x σ' H' hx ⟨v6, v7, v8, fv, rfl, S4⟩
    obtain ⟨u, hu, rfl⟩ := nI_get hx
    have hu3 := (List.getElem?_eq_some_iff.mp hu).1
    have hul := hlm u (List.mem_of_getElem? hu)
    rw [lns] at hul
    obtain ⟨r, hr⟩ : ∃ r, rs[u]? = some r := ⟨_, List.getElem?_eq_getElem hul⟩
    have hrm := List.mem_of_getElem? hr
    have hrn : (rs.map (·.2))[u]? = some r.2 := by rw [List.getElem?_map, hr]; rfl
    have fi := flen (mm.take i)
    rw [List.length_take] at fi
    clear S3
    repeat walk_at "ob"
    refine g_forS (a := q3) (xs := nI left) false (fun j σ' H' => ∃ v7 v8 fv, σ' = [some (.ref a), some (.ref b), some (.ref q1), some (.ref q2), some (.ref q3), some (.ref fo), some (.int (u : Int)), v7, v8] ∧
        Sy K ((fo, .lst fv) :: F) (.dat fv ((mm.take i).flatMap (slI (rs.map (fun r : Addr × N => r.2)) (ts.map (fun r : Addr × N => r.2)) left) ++ slI (rs.map (fun r : Addr × N => r.2)) (ts.map (fun r : Addr × N => r.2)) (left.take j) u) :: .tq q3 (nI left) :: .tq q2 (nI mm) :: .tq b (NR ts) :: .tt (NT ts) :: .tq a (NR rs) :: .tt (NT rs) :: G0) H') (fun Q' q => by repeat walk_at "ob"; exact q) ⟨v7, v8, fv, rfl, by rw [List.take_zero]; show Sy K _ (.dat fv (_ ++ []) :: _) _; rw [List.append_nil]; exact S4⟩ (fun i σ' H' ⟨_, _, _, _, S4⟩ => S4.tqs 1 rfl) ?_ ?_
    · rintro j x σ' H' hx ⟨v7, v8, fv, rfl, S5⟩
      obtain ⟨z, hz, rfl⟩ := nI_get hx
      have hz3 := (List.getElem?_eq_some_iff.mp hz).1
      have hzl := hlf.2 z (List.mem_of_getElem? hz)
      rw [lms] at hzl
      obtain ⟨y, hy⟩ : ∃ y, ts[z]? = some y := ⟨_, List.getElem?_eq_getElem hzl⟩
      have hym := List.mem_of_getElem? hy
      have hyn : (ts.map (·.2))[z]? = some y.2 := by rw [List.getElem?_map, hy]; rfl
      have st : slI (rs.map (·.2)) (ts.map (·.2)) (left.take (j + 1)) u = slI (rs.map (·.2)) (ts.map (·.2)) (left.take j) u ++ slS (rs.map (·.2)) (ts.map (·.2)) u z := by
        unfold slI
        rw [List.take_succ, List.flatMap_append, hz]
        simp
      have se : slS (rs.map (·.2)) (ts.map (·.2)) u z = if r.2.1 = y.2.1 then (if slipF r.2.2 y.2.2 = [] then [] else [.tuple [.int (u : Int), .int (z : Int), .tuple (sD (slipF r.2.2 y.2.2))]]) else [] := by
        unfold slS
        rw [hrn, hyn]
      have fj := slI_len (rs.map (·.2)) (ts.map (·.2)) (left.take j) u
      rw [List.length_take] at fj
      have fvl : fv.length < 100000 := by
        rw [dps_length (S5.dps 0 rfl), List.length_append]
        omega
      rw [st, se]
      have hr1 := ng _ hrm
      have hy1 := nt _ hym
      repeat walk_at "ob"
      refine g_ixUT (S5.tqs 5 rfl) (atI_nn (by omega) (nr_at hr)) ?_
      repeat walk_at "ob"
      refine g_ixUT (sqt_note (nt_at S5 (i := 6) rfl hrm)) (v := .str r.2.1) (atI_nn (by decide) rfl) ?_
      repeat walk_at "ob"
      refine g_ixUT (S5.tqs 3 rfl) (atI_nn (by omega) (nr_at hy)) ?_
      repeat walk_at "ob"
      refine g_ixUT (sqt_note (nt_at S5 (i := 4) rfl hym)) (v := .str y.2.1) (atI_nn (by decide) rfl) ?_
      repeat walk_at "ob"
      by_cases hw : r.2.1 = y.2.1
      · rw [if_pos hw]
        refine g_TD hw ?_
        repeat walk_at "ob"
        refine g_ixUT (S5.tqs 5 rfl) (atI_nn (by omega) (nr_at hr)) ?_
        repeat walk_at "ob"
        refine g_ixUT (sqt_note (nt_at S5 (i := 6) rfl hrm)) (v := .int r.2.2) (atI_nn (by decide) rfl) ?_
        repeat walk_at "ob"
        refine g_ixUT (S5.tqs 3 rfl) (atI_nn (by omega) (nr_at hy)) ?_
        repeat walk_at "ob"
        refine g_ixUT (sqt_note (nt_at S5 (i := 4) rfl hym)) (v := .int y.2.2) (atI_nn (by decide) rfl) ?_
        repeat walk_at "ob"
        refine use_slips S5 (by have := hr1.2.2; omega) (by have := hy1.2.2; omega) fun p H6 S6 => ?_
        repeat walk_at "ob"
        generalize slipF r.2.2 y.2.2 = sl at *
        refine g_truD (S6.dp 0 rfl) ?_
        cases sl with
        | nil =>
          rw [if_pos rfl, List.append_nil]
          refine g_F rfl ?_
          repeat walk_at "ob"
          exact ⟨_, _, fv, rfl, S6.drop⟩
        | cons s1 sl =>
          rw [if_neg (List.cons_ne_nil _ _)]
          refine g_T rfl ?_
          repeat walk_at "ob"
          refine g_newT S6 (.cons (.int _) (.cons (.int _) (.cons (S6.dp 0 rfl) .nil))) (by show (true && (true && (immAll (sD (s1 :: sl)) && true))) = true; rw [sD_imm]; rfl) (Nat.le_of_ble_eq_true rfl) fun T7 H7 _ S7 => ?_
          repeat walk_at "ob"
          refine g_appS S7 (f := 0) rfl fvl fun H8 S8 => ?_
          repeat walk_at "ob"
          refine ⟨_, _, fv ++ [.ref T7], rfl, ?_⟩
          have S9 := S8.drop.drop.fact (dps_append (S8.dps 2 rfl) (S8.dps 0 rfl)) (by rw [immAll_append, S8.dpi 2 rfl, S8.dpi 0 rfl]; rfl)
          rw [← List.append_assoc]
          exact S9.drop2
      · rw [if_neg hw, List.append_nil]
        refine g_FD hw ?_
        repeat walk_at "ob"
        rename_i p H6 _ S6
        refine g_truD (S6.dp 0 rfl) ?_
        refine g_F rfl ?_
        repeat walk_at "ob"
        exact ⟨_, _, fv, rfl, S6.drop⟩
    · rintro σ' H' ⟨v7, v8, fv, rfl, S5⟩
      repeat walk_at "ob"
      refine ⟨_, _, _, fv, rfl, ?_⟩
      rw [show (nI left).length = left.length from List.length_map .., List.take_of_length_le (Nat.le_refl _)] at S5
      rw [List.take_succ, hu, List.flatMap_append]
      rw [show (some u).toList.flatMap (slI (rs.map (·.2)) (ts.map (·.2)) left) = slI (rs.map (·.2)) (ts.map (·.2)) left u by simp]
      exact S5
  · rintro σ' H' ⟨v6, v7, v8, fv, rfl, S4⟩
    rw [show (nI mm).length = mm.length from List.length_map .., List.take_of_length_le (Nat.le_refl _)] at S4
    repeat walk_at "ob"
    refine g_tup0 S4 (SqL.of (S4.at 0 rfl)) (S4.dps 0 rfl) (S4.dpi 0 rfl) fun t9 H11 _ S11 => ?_
    exact k _ _ (Sy.cut (L := [_, _, _, _, _, _, _]) S11.less)
end
end LAW

set_option Elab.async false
set_option linter.all false
set_option maxRecDepth 100000
namespace LAW
open PySem PySem.Spec PyProof.Rows L2 PySem.W OB
local macro_rules | `(tactic| walk_at "obc") => `(tactic| first
  | exact Or.inl ⟨by omega, by omega⟩
  | exact Or.inr ⟨by omega, by omega⟩
  | exact cdiv_ok (by omega) (by omega)
  | (show (0 : Int) < _; omega)
  | exact ⟨by omega, by decide⟩
  | exact ⟨by decide, by decide⟩)
local macro_rules | `(tactic| walk_at "obat") => `(tactic| first
  | exact Sy.at (by assumption) 0 rfl | exact Sy.at (by assumption) 1 rfl | exact Sy.at (by assumption) 2 rfl | exact Sy.at (by assumption) 3 rfl
  | exact Sy.at (by assumption) 4 rfl | exact Sy.at (by assumption) 5 rfl | exact Sy.at (by assumption) 6 rfl | exact Sy.at (by assumption) _ (by assumption) | exact Sy.at (by assumption) (_ + 1) (by assumption) | exact Sy.at (by assumption) (_ + 2) (by assumption))
local macro_rules | `(tactic| walk_at "obt") => `(tactic| first
  | exact Sy.tqs (by assumption) 0 rfl | exact Sy.tqs (by assumption) 1 rfl | exact Sy.tqs (by assumption) 2 rfl | exact Sy.tqs (by assumption) 3 rfl | exact Sy.tqs (by assumption) 4 rfl | exact Sy.tqs (by assumption) 5 rfl
  | exact Sy.tqs (by assumption) 6 rfl | exact Sy.tqs (by assumption) 7 rfl | assumption)
local macro_rules | `(tactic| walk_at "obl") => `(tactic| first
  | exact SqL.of (by walk_at "obat")
  | exact Sy.sq (by assumption) 0 rfl | exact Sy.sq (by assumption) 1 rfl | exact Sy.sq (by assumption) 2 rfl | exact Sy.sq (by assumption) 3 rfl | exact Sy.sq (by assumption) _ (by assumption))
local macro_rules | `(tactic| walk_at "obd") => `(tactic| first
  | exact Dp.int _ | exact Dp.bl _ | exact Dp.str _ | exact Dp.non
  | exact Sy.dp (by assumption) 0 rfl | exact Sy.dp (by assumption) 1 rfl | exact Sy.dp (by assumption) 2 rfl | exact Sy.dp (by assumption) 3 rfl
  | exact Sy.dp (by assumption) 4 rfl | exact Sy.dp (by assumption) 5 rfl | exact Sy.dp (by assumption) 6 rfl | exact Sy.dp (by assumption) 7 rfl
  | exact Sy.dp (by assumption) 8 rfl | exact Sy.dp (by assumption) 9 rfl | exact Sy.dp (by assumption) _ (by assumption) | assumption)
local macro_rules | `(tactic| walk_at "obds") => `(tactic| first
  | exact DpAll.nil
  | (refine' DpAll.cons ?ob1 ?ob2; (case ob1 => walk_at "obd"); (case ob2 => walk_at "obds"))
  | exact Sy.dps (by assumption) 0 rfl | exact Sy.dps (by assumption) 1 rfl | exact Sy.dps (by assumption) 2 rfl | exact Sy.dps (by assumption) 3 rfl | assumption)
local macro_rules | `(tactic| walk_at "obsc") => `(tactic| first
  | exact ScL.nil
  | ((first | refine' ScL.int ?obz | refine' ScL.str ?obz | refine' ScL.bl ?obz | refine' ScL.non ?obz); (case obz => walk_at "obsc")))
local macro_rules | `(tactic| walk_at "ob1") => `(tactic| first
  | ((with_reducible refine' g_var ?obh ?_); (case obh => rfl))
  | with_reducible refine g_c ?_
  | with_reducible refine g_nx ?_
  | with_reducible refine g_rt ?_
  | with_reducible refine g_bk ?_
  | with_reducible refine g_ct ?_
  | with_reducible refine g_op ?_
  | with_reducible refine g_I0 ?_
  | with_reducible refine g_test ?_
  | with_reducible refine g_bl ?_
  | with_reducible refine g_blx ?_
  | with_reducible refine g_B ?_
  | with_reducible refine g_seq ?_
  | with_reducible refine g_asg ?_
  | with_reducible refine g_name ?_
  | with_reducible refine g_ifS ?_
  | with_reducible refine g_ret ?_
  | with_reducible refine g_cb ?_
  | with_reducible refine g_cons ?_
  | with_reducible refine g_nil ?_
  | with_reducible refine g_int ?_
  | with_reducible refine g_intB ?_
  | with_reducible refine g_abs ?_
  | with_reducible refine g_max ?_
  | with_reducible refine g_min ?_
  | with_reducible refine g_un ?_
  | with_reducible refine g_U ?_
  | with_reducible refine g_eqI ?_
  | with_reducible refine g_neI ?_
  | with_reducible refine g_eqS ?_
  | with_reducible refine g_neS ?_
  | with_reducible refine g_tt ?_
  | with_reducible refine g_ff ?_
  | with_reducible refine g_next ?_
  | with_reducible refine g_drop ?_
  | with_reducible refine g_if ?_
  | with_reducible refine g_andV ?_
  | with_reducible refine g_orV ?_
  | with_reducible refine g_notV ?_
  | with_reducible refine g_and ?_
  | with_reducible refine g_or ?_
  | with_reducible refine g_not ?_
  | with_reducible refine g_yes ?_
  | with_reducible refine g_chain ?_
  | with_reducible refine g_cg ?_
  | with_reducible refine g_mg ?_
  | with_reducible refine g_kg ?_
  | with_reducible refine g_pg ?_
  | ((with_reducible refine' g_call ?obh ?obj ?_); (case obh => rfl); (case obj => rfl))
  | with_reducible refine g_par ?_
  | with_reducible refine g_par2 ?_
  | with_reducible refine g_par3 ?_
  | with_reducible refine g_par33 ?_
  | with_reducible refine g_gnil ?_
  | with_reducible refine g_gcons ?_
  | with_reducible refine g_gsub ?_
  | with_reducible refine g_ipI ?_
  | with_reducible refine g_rAdd ?_
  | with_reducible refine g_rSub ?_
  | ((with_reducible refine' g_aug ?obh ?_); (case obh => rfl))
  | with_reducible refine g_tup ?_
  | with_reducible refine g_lst ?_
  | with_reducible refine g_bm ?_
  | with_reducible refine g_bm0 ?_
  | with_reducible refine g_sl ?_
  | with_reducible refine g_nopart ?_
  | with_reducible refine g_part ?_
  | with_reducible refine g_pint ?_
  | with_reducible refine isi_int ?_
  | with_reducible refine isi_intB ?_
  | ((with_reducible refine' g_I ?obh ?_); (case obh => walk_at "obc"))
  | ((with_reducible refine' g_tyl ?obh ?_); (case obh => walk_at "obl"))
  | ((with_reducible refine' g_lenL ?obh ?_); (case obh => walk_at "obl"))
  | with_reducible refine g_ne ?_
  | ((with_reducible refine' g_neN' ?obh ?_); (case obh => rfl))
  | with_reducible refine g_ntt ?_
  | with_reducible refine g_nff ?_
  | with_reducible refine g_star ?_
  | with_reducible refine g_att ?_
  | with_reducible refine g_sfld ?_
  | with_reducible refine g_faug ?_
  | with_reducible refine g_fld ?_
  | ((with_reducible refine' g_nF ?obh ?_); (case obh => omega))
  | ((with_reducible refine' g_nT ?obh ?_); (case obh => omega))
  | ((with_reducible refine' g_TD ?obh ?_); (case obh => omega))
  | ((with_reducible refine' g_FD ?obh ?_); (case obh => omega))
  | ((with_reducible refine' g_ixUL ?obh ?obi ?_); (case obh => walk_at "obl"); (case obi => exact atI_nn (by omega) (by rfl)))
  | ((with_reducible refine' g_setLS ?obs ?obh ?obi ?_); (case obs => assumption); (case obh => assumption); (case obi => rfl); intro _ _ _)
  | ((with_reducible refine' g_newT ?obs ?obh ?obi ?obj ?_); (case obs => assumption); (case obh => walk_at "obds"); (case obi => rfl); (case obj => exact Nat.le_of_ble_eq_true rfl); intro _ _ _ _)
  | ((with_reducible refine' g_newL ?obs ?obj ?_); (case obs => assumption); (case obj => exact Nat.le_of_ble_eq_true rfl); intro _ _ _ _)
  | ((with_reducible refine' isi_tup ?obh ?_); (case obh => walk_at "obt"))
  | ((with_reducible refine' g_lenT ?obh ?_); (case obh => walk_at "obt"))
  | ((with_reducible refine' g_unpT ?obh ?obi ?_); (case obh => walk_at "obt"); (case obi => rfl))
  | ((with_reducible refine' g_divmod ?obs ?obh ?_); (case obs => assumption); (case obh => exact cdivp_ok (by omega) (by omega) (by omega)); intro _ _ _ _)
  | ((with_reducible refine' g_unpD ?obh ?obi ?obj ?_); (case obh => walk_at "obd"); (case obi => walk_at "obsc"); (case obj => rfl))
  | with_reducible refine g_att ?_)
local macro_rules | `(tactic| walk_at "ob") => `(tactic| first
  | walk_at "ob1"
  | refine use_is_integer ?_
  | refine use_is_within ?_
  | with_reducible refine g_lstRg ?_
  | with_reducible refine g_rg1 ?_
  | with_reducible refine g_rg2 ?_
  | with_reducible refine g_tTru ?_
  | ((with_reducible refine' g_truL ?obh ?_); (case obh => walk_at "obl"))
  | ((with_reducible refine' g_ixUT ?obh ?obi ?_); (case obh => walk_at "obt"); (case obi => rfl))
  | with_reducible refine g_forZ ?_
  | with_reducible refine g_forR2 ?_
  | with_reducible refine g_forE ?_
  | with_reducible refine g_lcZ ?_)
local macro_rules | `(tactic| walk_at "ob") => `(tactic| first
  | ((with_reducible refine' g_slS ?obh ?_); (case obh => omega))
  | ((with_reducible refine' g_catS ?obh ?_); (case obh => omega)))
section
variable {P : Program} {w : World} {K : Frag} {mg : Str → Option Value} {base : Heap}
theorem viaS {t : TS} {D : Ends} {σ : L2.St} {H : Hp} (R : L2.St → Hp → Prop) (h : ∀ (N : L2.St → Hp → Prop) (A : VK) (B C : L2.St → Hp → Prop), (∀ σ' H', R σ' H' → N σ' H') → t ⟨N, A, B, C⟩ σ H) (c : ∀ σ' H', R σ' H' → D.nx σ' H') : t D σ H := h D.nx D.rt D.bk D.ct c
theorem atIfS {t : TT} {t1 t2 : TS} {D : Ends} {σ : L2.St} {H : Hp} (h : tIfS t t1 t2 D σ H) : tIfS t t1 t2 D σ H := h
theorem use_lswapped {F : List (Addr × HO)} {G : List Ft} {H : Hp} {Q : VK} {E : XK} {a : Int} (S : Sy K F G H) (ha : a.natAbs ≤ 10000000000000) (k : ∀ p H', Sy K ((p, .lst ((swF (fig a)).map V.int)) :: F) G H' → Q (.ref p) H') : sp_law_swapped K [.str (tx (fig a))] H Q E := ⟨rfl, F, G, fig a, rfl, S, fig_pos a, fig_len ha, fig_dig a, k⟩
theorem g_unlike {σ : L2.St} {H : Hp} {Q : VK} {F : List (Addr × HO)} {G : List Ft} {l m : List Nat} {i j z : Nat} {own : List Nat} (hl : l.length ≤ 14) (hm : m.length ≤ 14) (hlm : l.length = m.length) (S : Sy K F G H) (h1 : σ[i]? = some (some (.str (tx l))))
    (hw : ∀ x, wipe ((wipe σ own).set z (some x)) own = wipe σ own) (h2 : ∀ x, ((wipe σ own).set z (some x))[i]? = some (some (.str (tx l)))) (h3 : ∀ x, ((wipe σ own).set z (some x))[j]? = some (some (.str (tx m)))) (h4 : ∀ x, ((wipe σ own).set z (some x))[z]? = some (some x))
    (k : ∀ p H', Sy K ((p, .lst (nI (unF l m))) :: F) G H' → Q (.ref p) H') : tLc (iRng1 (tCons (tCB rLnS (tCons (tVar i) tNil)) tNil)) (gName z) (tTest (tOp rNe (tOp (rIxU K) (tVar i) (tVar z)) (tOp (rIxU K) (tVar j) (tVar z)))) (tVar z) own σ H Q := by
  refine g_lcR (K := K) (g_cons (g_cb (g_cons (g_var h1 (g_nil ?_)))))
  refine g_lnS (by omega) (g_nil ?_)
  refine g_rgJ (by omega) (by omega) ?_
  refine rglc_of (fun i F' ds => F' = F ∧ ds = nsD ((List.range i).filter fun i => decide (l[i]? ≠ m[i]?)) ∧ i ≤ l.length) S ⟨rfl, rfl, Nat.zero_le _⟩ (fun i F' ds hi => by
      rw [hi.2.1, show (nsD _).length = _ from List.length_map ..]
      refine Nat.lt_of_le_of_lt (List.length_filter_le _ _) ?_
      rw [List.length_range]
      omega) ?_ ?_
  · intro i hi Dq H4 F2 us ds QE QR hI S4 kE kR
    obtain ⟨rfl, rfl, hj⟩ := hI
    have hi : i < l.length := by omega
    rw [Int.zero_add]
    obtain ⟨c, hc⟩ : ∃ c, l[i]? = some c := ⟨_, List.getElem?_eq_getElem (by omega)⟩
    obtain ⟨d, hd2⟩ : ∃ d, m[i]? = some d := ⟨_, List.getElem?_eq_getElem (by omega)⟩
    have st : (List.range (i + 1)).filter (fun i => decide (l[i]? ≠ m[i]?)) = (List.range i).filter (fun i => decide (l[i]? ≠ m[i]?)) ++ if c = d then [] else [i] := by
      rw [List.range_succ, List.filter_append]
      congr 1
      by_cases h : c = d <;> simp [hc, hd2, h]
    refine g_name ⟨hw _, ?_⟩
    refine g_test (g_op (g_op (g_var (h2 _) (g_var (h4 _) ?_))))
    refine g_ixS (c := c) (atI_nn (by omega) (by simpa using hc)) (by omega) ?_
    refine g_op (g_var (h3 _) (g_var (h4 _) ?_))
    refine g_ixS (c := d) (atI_nn (by omega) (by simpa using hd2)) (by omega) ?_
    refine g_neS ?_
    rw [tx_ne]
    refine g_blx ?_
    by_cases h : c = d
    · rw [decide_eq_true h]
      rw [if_pos h, List.append_nil] at st
      exact g_F rfl (kR _ _ ⟨rfl, by rw [st], hi⟩ S4)
    · rw [decide_eq_false h]
      rw [if_neg h] at st
      refine g_T rfl (g_var (h4 _) ?_)
      refine kE _ (.int (i : Int)) _ _ ⟨rfl, ?_, hi⟩ (S4.fact (dps_one (.int _)) rfl)
      rw [st]
      unfold nsD
      rw [List.map_append]
      rfl
  · rintro Dq H4 F2 us ds hD ⟨rfl, rfl, _⟩ S4
    have hv := dps_nsV (S4.dps 0 rfl)
    rw [show ((l.length : Nat) : Int).toNat = l.length from rfl] at hv
    rw [show (List.range l.length).filter (fun i => decide (l[i]? ≠ m[i]?)) = unF l m from rfl] at hv
    subst hv
    exact k _ _ S4.drop
theorem dp_strs {H : Hp} : ∀ l : List Str, DpAll K H (l.map V.str) (sD l)
  | [] => .nil
  | x :: l => .cons (.str x) (dp_strs l)
def ap (c : Bool) (x : Str) : List Str := if c = true then [x] else []
theorem ap_len (c : Bool) (x : Str) : (ap c x).length ≤ 1 := by
  unfold ap
  split <;> simp
theorem lk5_ap (c1 c2 c3 c4 c5 : Bool) : ((lk5 c1 c2 c3 c4 c5).filter (·.2)).map (·.1) = ap c1 "digit" ++ ap c2 "shift" ++ ap c3 "sign" ++ ap c4 "swapped" ++ ap c5 "twice" := by
  cases c1 <;> cases c2 <;> cases c3 <;> cases c4 <;> cases c5 <;> rfl
def sp_law_slips (K : Frag) : Sp := fun vs H Q E => vs.length = 2 ∧ ∃ (F : List (Addr × HO)) (G : List Ft) (a b : Int), vs = [.int a, .int b] ∧ Sy K F G H ∧ a ≠ 0 ∧ b ≠ 0 ∧ a.natAbs ≤ 1000000000000 ∧ b.natAbs ≤ 1000000000000 ∧ ∀ p H', Sy K F (.dat [.ref p] [.tuple (sD (slipF a b))] :: G) H' → Q (.ref p) H'
abbrev names_law_slips : List Str := ["amount", "its", "mine", "other", "found", "is_same", "figures", "later", "unlike", "at"]
theorem sc_law_slips : FnScope names_law_slips ["amount", "its"] (defScope (top 44)) := ⟨rfl, rfl, rfl, by decide +kernel, rfl, by decide +kernel, by decide +kernel⟩
set_option maxHeartbeats 4000000 in
theorem ok_law_slips (T : Tx K mg) : FG P w K mg base CX0 2 T.a_law_slips T.d_law_slips ["amount", "its"] (sp_law_slips K) := by
  refine OB.Fun.fg T.F_law_slips sc_law_slips (fun vs H Q E h => h.1) (fun cdv A out s H vs Q E g h => ?_)
  obtain ⟨_, F, G, a, b, rfl, S, a0, b0, ha, hb, k⟩ := h
  refine ⟨_, (pss_cons (ps_par3 (i := 2) (j := 3) (l := 4) rfl sc_law_slips.nd rfl rfl rfl (by decide) (by decide) (by decide) rfl rfl rfl (pa_cons (pe_callB c_abs (by rfl) T.n_abs (by decide +kernel) (pa_cons (pv 0) pa_nil)) (pa_cons (pe_callB c_abs (by rfl) T.n_abs (by decide +kernel) (pa_cons (pv 1) pa_nil)) (pa_cons (pe_lst pa_nil) pa_nil))) (by rfl))
      (pss_cons (ps_set (i := 5) sc_law_slips.nd rfl (by first | exact Or.inl rfl | exact Or.inr rfl) (pe_cmpR op_eq (pe_cmpR op_gt (pv 0) pe_int (nomark _)) (pe_cmpR op_gt (pv 1) pe_int (nomark _)) (nomark _)))
      (pss_cons (ps_asg (pe_tup (pa_cons (pe_callTy call_str_int (by rfl) T.n_str (by decide +kernel) (pa_cons (pv 2) pa_nil)) (pa_cons (pe_callTy call_str_int (by rfl) T.n_str (by decide +kernel) (pa_cons (pv 3) pa_nil)) pa_nil))) (pg_tupK (K := K) rfl (n := 2) rfl (pgs_cons (pg_name (i := 6) sc_law_slips.nd rfl (by first | exact Or.inl rfl | exact Or.inr rfl)) (pgs_cons (pg_name (i := 7) sc_law_slips.nd rfl (by first | exact Or.inl rfl | exact Or.inr rfl)) pgs_nil))))
      (pss_cons (ps_if (PW.pt (pw_and (pt_val (pv 5)) (pw_and1 (pt_cmpR op_eq (pe_callB c_lenS (by rfl) T.n_len PySem.boot_len (pa_cons (pv 6) pa_nil)) (pe_callB c_lenS (by rfl) T.n_len PySem.boot_len (pa_cons (pv 7) pa_nil)) (nomark _))))) (pss_cons (ps_setLc (i := 8) (own := [("at", 9)]) rfl sc_law_slips.nd rfl rfl (sw_true rfl rfl rfl (by decide +kernel)) (pi_range1 rfl T.n_range (pa_cons (pe_callB c_lenS (by rfl) T.n_len PySem.boot_len (pa_cons (pv 6) pa_nil)) pa_nil)) (blkOk_by (N := names_law_slips) (sc := defScope (top 44)) (own := [("at", 9)]) (by decide +kernel)) (fun _ _ _ _ _ => (pg_name (i := 9) sc_law_slips.nd rfl (by first | exact Or.inl rfl | exact Or.inr rfl))) (fun _ _ _ _ _ => pts_one (pt_cmpR op_ne (pe_ix (ix_UK (K := K) rfl) (pv 6) (pv 9) (fun _ _ => rfl)) (pe_ix (ix_UK (K := K) rfl) (pv 7) (pv 9) (fun _ _ => rfl)) (nomark _))) (fun _ _ _ _ _ => (pv 9)))
      (pss_one (ps_expr (pe_bm PySem.F.plainAttrs_list PySem.F.slot_list_extend PySem.F.type_list_extend mt_extend (pv 4) (pa_cons (pe_ifExp (pt_cmpR op_eq (pe_callB (toK (r := OB.rLen) (K := K) rfl c_len) (by rfl) T.n_len PySem.boot_len (pa_cons (pv 8) pa_nil)) pe_int (nomark _)) (pe_lst (pa_cons pe_str pa_nil)) (pe_lst pa_nil)) pa_nil))))) pss_nil)
      (pss_cons (ps_if (PW.pt (pw_and (pt_val (pv 5)) (pw_and1 (PW.pt (pw_or (pt_cmpR op_eq (pv 2) (pe_op op_mul pe_int (pv 3)) (nomark _)) (pw_or1 (pt_cmpR op_eq (pv 3) (pe_op op_mul pe_int (pv 2)) (nomark _)))))))) (pss_one (ps_expr (pe_bm PySem.F.plainAttrs_list PySem.F.slot_list_append PySem.F.type_list_append mt_append (pv 4) (pa_cons pe_str pa_nil)))) pss_nil)
      (pss_cons (ps_if (PW.pt (pw_and (pt_not (pt_val (pv 5))) (pw_and1 (pt_cmpR op_eq (pv 2) (pv 3) (nomark _))))) (pss_one (ps_expr (pe_bm PySem.F.plainAttrs_list PySem.F.slot_list_append PySem.F.type_list_append mt_append (pv 4) (pa_cons pe_str pa_nil)))) pss_nil)
      (pss_cons (ps_if (PW.pt (pw_and (pt_val (pv 5)) (pw_and1 (pt_cmpR (op_inK (K := K) rfl) (pv 3) (pe_cg (ok_law_swapped T) (g.mono (by decide : 1 ≤ 1)) (by rfl) T.m_law_swapped T.F_law_swapped.kp (OB.Fun.bd T.F_law_swapped (ps := ["figures"]) (n := 1) (ks := []) (ix := [0]) (fun _ _ _ _ _ _ us ws h1 h2 => match us, ws, h1, h2 with | [_], [], _, _ => rfl)) pass0 (pa_cons (pv 6) pa_nil) pk_nil) (by rfl))))) (pss_one (ps_expr (pe_bm PySem.F.plainAttrs_list PySem.F.slot_list_append PySem.F.type_list_append mt_append (pv 4) (pa_cons pe_str pa_nil)))) pss_nil)
      (pss_cons (ps_if (PW.pt (pw_and (pt_val (pv 5)) (pw_and1 (PW.pt (pw_or (pt_cmpR op_eq (pv 2) (pe_op op_mul pe_int (pv 3)) (nomark _)) (pw_or1 (pt_cmpR op_eq (pv 3) (pe_op op_mul pe_int (pv 2)) (nomark _)))))))) (pss_one (ps_expr (pe_bm PySem.F.plainAttrs_list PySem.F.slot_list_append PySem.F.type_list_append mt_append (pv 4) (pa_cons pe_str pa_nil)))) pss_nil)
      (pss_one (ps_ret (pe_callTy (toK (r := rTuple) (K := K) rfl c_tuple) (by rfl) T.n_tuple (by decide +kernel) (pa_cons (pv 4) pa_nil)))))))))))), ?_⟩
  refine g_start (σ := [some _, some _, none, none, none, none, none, none, none, none]) rfl ?_
  repeat walk_at "ob"
  rename_i fo H1 _ S1
  refine g_eqB ?_
  repeat walk_at "ob"
  refine ⟨_, rfl, by rw [abs_nat, Int.natAbs_natCast]; exact log2_small (by omega), ?_⟩
  repeat walk_at "ob"
  refine ⟨_, rfl, by rw [abs_nat, Int.natAbs_natCast]; exact log2_small (by omega), ?_⟩
  rw [str_fig, str_fig, abs_nat, abs_nat]
  have e1 : ∀ n : Int, n = 10 ∨ n = 2 → (decide (b = n * a) || decide (a = n * b)) = (sameF a b && (decide ((a.natAbs : Int) = n * b.natAbs) || decide ((b.natAbs : Int) = n * a.natAbs))) := fun n hn => by
    rw [Bool.eq_iff_iff]
    unfold sameF
    simp only [Bool.or_eq_true, Bool.and_eq_true, decide_eq_true_eq]
    by_cases h1 : 0 < a <;> by_cases h2 : 0 < b <;> simp [h1, h2] <;> rcases hn with rfl | rfl <;> omega
  have e3 : decide (b = -a) = (!sameF a b && decide ((a.natAbs : Int) = b.natAbs)) := by
    rw [Bool.eq_iff_iff]
    unfold sameF
    simp only [Bool.and_eq_true, decide_eq_true_eq]
    by_cases h1 : 0 < a <;> by_cases h2 : 0 < b <;> simp [h1, h2] <;> omega
  have kk : ∀ p H', Sy K F (.dat [.ref p] [.tuple (sD (([] : List Str) ++ ap (sameF a b && digS a b) "digit" ++ ap (sameF a b && (decide ((a.natAbs : Int) = 10 * b.natAbs) || decide ((b.natAbs : Int) = 10 * a.natAbs))) "shift" ++ ap (!sameF a b && decide ((a.natAbs : Int) = b.natAbs)) "sign" ++ ap (sameF a b && decide ((b.natAbs : Int) ∈ swF (fig a))) "swapped" ++ ap (sameF a b && (decide ((a.natAbs : Int) = 2 * b.natAbs) || decide ((b.natAbs : Int) = 2 * a.natAbs))) "twice"))] :: G) H' → Q (V.ref p) H' := fun p H' S' => by
    refine k p H' ?_
    rw [List.nil_append, ← e1 10 (.inl rfl), ← e1 2 (.inr rfl), ← e3, ← lk5_ap] at S'
    exact S'
  clear k e1 e3
  rw [show decide (decide (0 < a) = decide (0 < b)) = sameF a b from rfl]
  have use_sw : ∀ (H : Hp) (Q : VK) (F' : List (Addr × HO)) (G' : List Ft), Sy K F' G' H → (∀ p H', Sy K ((p, .lst ((swF (fig a)).map V.int)) :: F') G' H' → Q (.ref p) H') → sp_law_swapped K [.str (tx (fig a))] H Q E0 := fun H Q F' G' S' k' => use_lswapped S' (by omega) k'
  have hl := fig_len (a := a) (by omega)
  have hm := fig_len (a := b) (by omega)
  unfold digS at kk
  have hA : (a.natAbs : Int) ≤ 1000000000000 := by omega
  have hB : (b.natAbs : Int) ≤ 1000000000000 := by omega
  generalize sameF a b = sm at *
  generalize fig a = l at *
  generalize fig b = m at *
  generalize (a.natAbs : Int) = A0 at *
  generalize (b.natAbs : Int) = B0 at *
  repeat ((fail_if_success (with_reducible refine atIfS ?_)); walk_at "ob")
  rename_i tp H6 _ S6
  clear S S1
  have S7 := S6.drop
  clear S6
  have S7' : Sy K ((fo, .lst (([] : List Str).map V.str)) :: F) G H6 := S7
  clear S7
  have hL : ([] : List Str).length ≤ 0 := Nat.le_refl _
  obtain ⟨L, hL0⟩ : ∃ L : List Str, [] = L := ⟨_, rfl⟩
  rw [hL0] at S7' kk hL
  have S7 := S7'
  clear S7'
  refine viaS (fun σ' H' => ∃ v8, σ' = [some (.int a), some (.int b), some (.int A0), some (.int B0), some (.ref fo), some (.bl sm), some (.str (tx l)), some (.str (tx m)), v8, none] ∧ Sy K ((fo, .lst ((L ++ ap (sm && (decide (l.length = m.length) && decide ((unF l m).length = 1))) "digit").map V.str)) :: F) G H') (fun D' _ _ _ q => ?_) ?_
  · clear kk
    subst hL0
    cases sm with
    | false =>
      repeat walk_at "ob"
      exact q _ _ ⟨_, rfl, S7⟩
    | true =>
      rw [Bool.true_and] at q
      repeat walk_at "ob"
      refine g_lnS (by omega) ?_
      repeat walk_at "ob"
      refine g_lnS (by omega) ?_
      repeat walk_at "ob"
      by_cases hlm : l.length = m.length
      · refine g_T (by simp [hlm]) ?_
        rw [decide_eq_true hlm, Bool.true_and] at q
        repeat walk_at "ob"
        refine g_unlike hl hm hlm S7 rfl (fun _ => rfl) (fun _ => rfl) (fun _ => rfl) (fun _ => rfl) fun p2 H8 S8 => ?_
        repeat walk_at "ob"
        rw [show (nI (unF l m)).length = (unF l m).length from List.length_map ..]
        by_cases h1 : (unF l m).length = 1
        · refine g_T (by simp [h1]) ?_
          rw [decide_eq_true h1] at q
          repeat walk_at "ob"
          rename_i p3 H9 _ S9
          refine g_extS S9 (f := 2) rfl (S9.at 0 rfl) (show 1 ≤ 100000 by decide) fun H10 S10 => ?_
          exact q _ _ ⟨_, rfl, S10.less.less⟩
        · refine g_F (by simp; omega) ?_
          rw [decide_eq_false h1] at q
          repeat walk_at "ob"
          rename_i p3 H9 _ S9
          refine g_extS S9 (f := 2) rfl (S9.at 0 rfl) (show 0 ≤ 100000 by decide) fun H10 S10 => ?_
          exact q _ _ ⟨_, rfl, S10.less.less⟩
      · refine g_F (by simp; omega) ?_
        rw [decide_eq_false hlm, Bool.false_and] at q
        repeat walk_at "ob"
        exact q _ _ ⟨_, rfl, S7⟩
  clear S7
  rintro σ' H' ⟨v8, rfl, S7⟩
  have hL : (L ++ ap (sm && (decide (l.length = m.length) && decide ((unF l m).length = 1))) "digit").length ≤ 1 := by
    rw [List.length_append]
    have := ap_len (sm && (decide (l.length = m.length) && decide ((unF l m).length = 1))) "digit"
    omega
  generalize L ++ ap (sm && (decide (l.length = m.length) && decide ((unF l m).length = 1))) "digit" = L at S7 kk hL
  repeat ((fail_if_success (with_reducible refine atIfS ?_)); walk_at "ob")
  refine viaS (fun σ' H' => ∃ v8, σ' = [some (.int a), some (.int b), some (.int A0), some (.int B0), some (.ref fo), some (.bl sm), some (.str (tx l)), some (.str (tx m)), v8, none] ∧ Sy K ((fo, .lst ((L ++ ap (sm && (decide (A0 = 10 * B0) || decide (B0 = 10 * A0))) "shift").map V.str)) :: F) G H') (fun D' _ _ _ q => ?_) ?_
  · clear kk
    have hlen : (L.map V.str).length < 100000 := by
      rw [List.length_map]
      omega
    cases sm with
    | false =>
      repeat walk_at "ob"
      refine q _ _ ⟨_, rfl, ?_⟩
      rw [show L ++ ap (false && _) _ = L from List.append_nil _]
      exact S7
    | true =>
      rw [Bool.true_and] at q
      repeat walk_at "ob"
      by_cases h1 : A0 = 10 * B0
      · refine g_TD h1 ?_
        rw [decide_eq_true h1, Bool.true_or] at q
        repeat walk_at "ob"
        refine g_appS S7 (f := 0) rfl hlen fun H10 S10 => ?_
        refine q _ _ ⟨_, rfl, ?_⟩
        rw [List.map_append]
        exact S10
      · refine g_FD h1 ?_
        rw [decide_eq_false h1, Bool.false_or] at q
        repeat walk_at "ob"
        by_cases h2 : B0 = 10 * A0
        · refine g_TD h2 ?_
          rw [decide_eq_true h2] at q
          repeat walk_at "ob"
          refine g_appS S7 (f := 0) rfl hlen fun H10 S10 => ?_
          refine q _ _ ⟨_, rfl, ?_⟩
          rw [List.map_append]
          exact S10
        · refine g_FD h2 ?_
          rw [decide_eq_false h2] at q
          repeat walk_at "ob"
          refine q _ _ ⟨_, rfl, ?_⟩
          rw [show L ++ ap false _ = L from List.append_nil _]
          exact S7
  clear S7
  rintro σ' H' ⟨v8, rfl, S7⟩
  have hL : (L ++ ap (sm && (decide (A0 = 10 * B0) || decide (B0 = 10 * A0))) "shift").length ≤ 2 := by
    rw [List.length_append]
    have := ap_len (sm && (decide (A0 = 10 * B0) || decide (B0 = 10 * A0))) "shift"
    omega
  generalize L ++ ap (sm && (decide (A0 = 10 * B0) || decide (B0 = 10 * A0))) "shift" = L at S7 kk hL
  repeat ((fail_if_success (with_reducible refine atIfS ?_)); walk_at "ob")
  refine viaS (fun σ' H' => ∃ v8, σ' = [some (.int a), some (.int b), some (.int A0), some (.int B0), some (.ref fo), some (.bl sm), some (.str (tx l)), some (.str (tx m)), v8, none] ∧ Sy K ((fo, .lst ((L ++ ap (!sm && decide (A0 = B0)) "sign").map V.str)) :: F) G H') (fun D' _ _ _ q => ?_) ?_
  · clear kk
    have hlen : (L.map V.str).length < 100000 := by
      rw [List.length_map]
      omega
    cases sm with
    | true =>
      repeat walk_at "ob"
      refine q _ _ ⟨_, rfl, ?_⟩
      rw [show L ++ ap (!true && _) _ = L from List.append_nil _]
      exact S7
    | false =>
      rw [show (!false && decide (A0 = B0)) = decide (A0 = B0) from rfl] at q
      repeat walk_at "ob"
      by_cases h1 : A0 = B0
      · refine g_TD h1 ?_
        rw [decide_eq_true h1] at q
        repeat walk_at "ob"
        refine g_appS S7 (f := 0) rfl hlen fun H10 S10 => ?_
        refine q _ _ ⟨_, rfl, ?_⟩
        rw [List.map_append]
        exact S10
      · refine g_FD h1 ?_
        rw [decide_eq_false h1] at q
        repeat walk_at "ob"
        refine q _ _ ⟨_, rfl, ?_⟩
        rw [show L ++ ap false _ = L from List.append_nil _]
        exact S7
  clear S7
  rintro σ' H' ⟨v8, rfl, S7⟩
  have hL : (L ++ ap (!sm && decide (A0 = B0)) "sign").length ≤ 3 := by
    rw [List.length_append]
    have := ap_len (!sm && decide (A0 = B0)) "sign"
    omega
  generalize L ++ ap (!sm && decide (A0 = B0)) "sign" = L at S7 kk hL
  repeat ((fail_if_success (with_reducible refine atIfS ?_)); walk_at "ob")
  refine viaS (fun σ' H' => ∃ v8, σ' = [some (.int a), some (.int b), some (.int A0), some (.int B0), some (.ref fo), some (.bl sm), some (.str (tx l)), some (.str (tx m)), v8, none] ∧ Sy K ((fo, .lst ((L ++ ap (sm && decide (B0 ∈ swF l)) "swapped").map V.str)) :: F) G H') (fun D' _ _ _ q => ?_) ?_
  · clear kk
    have hlen : (L.map V.str).length < 100000 := by
      rw [List.length_map]
      omega
    cases sm with
    | false =>
      repeat walk_at "ob"
      refine q _ _ ⟨_, rfl, ?_⟩
      rw [show L ++ ap (false && _) _ = L from List.append_nil _]
      exact S7
    | true =>
      rw [Bool.true_and] at q
      repeat walk_at "ob"
      refine use_sw _ _ _ _ S7 fun p6 H7 S8 => ?_
      repeat walk_at "ob"
      refine g_inL (SqL.of (S8.at 0 rfl)) ?_
      repeat walk_at "ob"
      by_cases h1 : B0 ∈ swF l
      · refine g_TD h1 ?_
        rw [decide_eq_true h1] at q
        repeat walk_at "ob"
        refine g_appS S8.less (f := 0) rfl hlen fun H10 S10 => ?_
        refine q _ _ ⟨_, rfl, ?_⟩
        rw [List.map_append]
        exact S10
      · refine g_FD h1 ?_
        rw [decide_eq_false h1] at q
        repeat walk_at "ob"
        refine q _ _ ⟨_, rfl, ?_⟩
        rw [show L ++ ap false _ = L from List.append_nil _]
        exact S8.less
  clear S7
  rintro σ' H' ⟨v8, rfl, S7⟩
  have hL : (L ++ ap (sm && decide (B0 ∈ swF l)) "swapped").length ≤ 4 := by
    rw [List.length_append]
    have := ap_len (sm && decide (B0 ∈ swF l)) "swapped"
    omega
  generalize L ++ ap (sm && decide (B0 ∈ swF l)) "swapped" = L at S7 kk hL
  repeat ((fail_if_success (with_reducible refine atIfS ?_)); walk_at "ob")
  refine viaS (fun σ' H' => ∃ v8, σ' = [some (.int a), some (.int b), some (.int A0), some (.int B0), some (.ref fo), some (.bl sm), some (.str (tx l)), some (.str (tx m)), v8, none] ∧ Sy K ((fo, .lst ((L ++ ap (sm && (decide (A0 = 2 * B0) || decide (B0 = 2 * A0))) "twice").map V.str)) :: F) G H') (fun D' _ _ _ q => ?_) ?_
  · clear kk
    have hlen : (L.map V.str).length < 100000 := by
      rw [List.length_map]
      omega
    cases sm with
    | false =>
      repeat walk_at "ob"
      refine q _ _ ⟨_, rfl, ?_⟩
      rw [show L ++ ap (false && _) _ = L from List.append_nil _]
      exact S7
    | true =>
      rw [Bool.true_and] at q
      repeat walk_at "ob"
      by_cases h1 : A0 = 2 * B0
      · refine g_TD h1 ?_
        rw [decide_eq_true h1, Bool.true_or] at q
        repeat walk_at "ob"
        refine g_appS S7 (f := 0) rfl hlen fun H10 S10 => ?_
        refine q _ _ ⟨_, rfl, ?_⟩
        rw [List.map_append]
        exact S10
      · refine g_FD h1 ?_
        rw [decide_eq_false h1, Bool.false_or] at q
        repeat walk_at "ob"
        by_cases h2 : B0 = 2 * A0
        · refine g_TD h2 ?_
          rw [decide_eq_true h2] at q
          repeat walk_at "ob"
          refine g_appS S7 (f := 0) rfl hlen fun H10 S10 => ?_
          refine q _ _ ⟨_, rfl, ?_⟩
          rw [List.map_append]
          exact S10
        · refine g_FD h2 ?_
          rw [decide_eq_false h2] at q
          repeat walk_at "ob"
          refine q _ _ ⟨_, rfl, ?_⟩
          rw [show L ++ ap false _ = L from List.append_nil _]
          exact S7
  clear S7
  rintro σ' H' ⟨v8, rfl, S7⟩
  have hL : (L ++ ap (sm && (decide (A0 = 2 * B0) || decide (B0 = 2 * A0))) "twice").length ≤ 5 := by
    rw [List.length_append]
    have := ap_len (sm && (decide (A0 = 2 * B0) || decide (B0 = 2 * A0))) "twice"
    omega
  generalize L ++ ap (sm && (decide (A0 = 2 * B0) || decide (B0 = 2 * A0))) "twice" = L at S7 kk hL
  repeat ((fail_if_success (with_reducible refine atIfS ?_)); walk_at "ob")
  repeat walk_at "ob"
  refine g_tup0 S7 (ds := sD L) (SqL.of (S7.at 0 rfl)) (dp_strs L) (sD_imm L) fun t1 H11 _ S11 => ?_
  exact kk _ _ S11.less
end
end LAW

set_option Elab.async false
set_option linter.all false
set_option maxRecDepth 100000
namespace LAW
open PySem PySem.Spec PyProof.Rows L2 PySem.W OB
local macro_rules | `(tactic| walk_at "obc") => `(tactic| first
  | exact Or.inl ⟨by omega, by omega⟩
  | exact Or.inr ⟨by omega, by omega⟩
  | exact cdiv_ok (by omega) (by omega)
  | (show (0 : Int) < _; omega)
  | exact ⟨by omega, by decide⟩
  | exact ⟨by decide, by decide⟩)
local macro_rules | `(tactic| walk_at "obat") => `(tactic| first
  | exact Sy.at (by assumption) 0 rfl | exact Sy.at (by assumption) 1 rfl | exact Sy.at (by assumption) 2 rfl | exact Sy.at (by assumption) 3 rfl
  | exact Sy.at (by assumption) 4 rfl | exact Sy.at (by assumption) 5 rfl | exact Sy.at (by assumption) 6 rfl | exact Sy.at (by assumption) _ (by assumption) | exact Sy.at (by assumption) (_ + 1) (by assumption) | exact Sy.at (by assumption) (_ + 2) (by assumption))
local macro_rules | `(tactic| walk_at "obt") => `(tactic| first
  | exact Sy.tqs (by assumption) 0 rfl | exact Sy.tqs (by assumption) 1 rfl | exact Sy.tqs (by assumption) 2 rfl | exact Sy.tqs (by assumption) 3 rfl | exact Sy.tqs (by assumption) 4 rfl | exact Sy.tqs (by assumption) 5 rfl
  | exact Sy.tqs (by assumption) 6 rfl | exact Sy.tqs (by assumption) 7 rfl | assumption)
local macro_rules | `(tactic| walk_at "obl") => `(tactic| first
  | exact SqL.of (by walk_at "obat")
  | exact Sy.sq (by assumption) 0 rfl | exact Sy.sq (by assumption) 1 rfl | exact Sy.sq (by assumption) 2 rfl | exact Sy.sq (by assumption) 3 rfl | exact Sy.sq (by assumption) _ (by assumption))
local macro_rules | `(tactic| walk_at "obd") => `(tactic| first
  | exact Dp.int _ | exact Dp.bl _ | exact Dp.str _ | exact Dp.non
  | exact Sy.dp (by assumption) 0 rfl | exact Sy.dp (by assumption) 1 rfl | exact Sy.dp (by assumption) 2 rfl | exact Sy.dp (by assumption) 3 rfl
  | exact Sy.dp (by assumption) 4 rfl | exact Sy.dp (by assumption) 5 rfl | exact Sy.dp (by assumption) 6 rfl | exact Sy.dp (by assumption) 7 rfl
  | exact Sy.dp (by assumption) 8 rfl | exact Sy.dp (by assumption) 9 rfl | exact Sy.dp (by assumption) _ (by assumption) | assumption)
local macro_rules | `(tactic| walk_at "obds") => `(tactic| first
  | exact DpAll.nil
  | (refine' DpAll.cons ?ob1 ?ob2; (case ob1 => walk_at "obd"); (case ob2 => walk_at "obds"))
  | exact Sy.dps (by assumption) 0 rfl | exact Sy.dps (by assumption) 1 rfl | exact Sy.dps (by assumption) 2 rfl | exact Sy.dps (by assumption) 3 rfl | assumption)
local macro_rules | `(tactic| walk_at "obsc") => `(tactic| first
  | exact ScL.nil
  | ((first | refine' ScL.int ?obz | refine' ScL.str ?obz | refine' ScL.bl ?obz | refine' ScL.non ?obz); (case obz => walk_at "obsc")))
local macro_rules | `(tactic| walk_at "ob1") => `(tactic| first
  | ((with_reducible refine' g_var ?obh ?_); (case obh => rfl))
  | with_reducible refine g_c ?_
  | with_reducible refine g_nx ?_
  | with_reducible refine g_rt ?_
  | with_reducible refine g_bk ?_
  | with_reducible refine g_ct ?_
  | with_reducible refine g_op ?_
  | with_reducible refine g_I0 ?_
  | with_reducible refine g_test ?_
  | with_reducible refine g_bl ?_
  | with_reducible refine g_blx ?_
  | with_reducible refine g_B ?_
  | with_reducible refine g_seq ?_
  | with_reducible refine g_asg ?_
  | with_reducible refine g_name ?_
  | with_reducible refine g_ifS ?_
  | with_reducible refine g_ret ?_
  | with_reducible refine g_cb ?_
  | with_reducible refine g_cons ?_
  | with_reducible refine g_nil ?_
  | with_reducible refine g_int ?_
  | with_reducible refine g_intB ?_
  | with_reducible refine g_abs ?_
  | with_reducible refine g_max ?_
  | with_reducible refine g_min ?_
  | with_reducible refine g_un ?_
  | with_reducible refine g_U ?_
  | with_reducible refine g_eqI ?_
  | with_reducible refine g_neI ?_
  | with_reducible refine g_eqS ?_
  | with_reducible refine g_neS ?_
  | with_reducible refine g_tt ?_
  | with_reducible refine g_ff ?_
  | with_reducible refine g_next ?_
  | with_reducible refine g_drop ?_
  | with_reducible refine g_if ?_
  | with_reducible refine g_andV ?_
  | with_reducible refine g_orV ?_
  | with_reducible refine g_notV ?_
  | with_reducible refine g_and ?_
  | with_reducible refine g_or ?_
  | with_reducible refine g_not ?_
  | with_reducible refine g_yes ?_
  | with_reducible refine g_chain ?_
  | with_reducible refine g_cg ?_
  | with_reducible refine g_mg ?_
  | with_reducible refine g_kg ?_
  | with_reducible refine g_pg ?_
  | ((with_reducible refine' g_call ?obh ?obj ?_); (case obh => rfl); (case obj => rfl))
  | with_reducible refine g_par ?_
  | with_reducible refine g_par2 ?_
  | with_reducible refine g_par3 ?_
  | with_reducible refine g_par33 ?_
  | with_reducible refine g_gnil ?_
  | with_reducible refine g_gcons ?_
  | with_reducible refine g_gsub ?_
  | with_reducible refine g_ipI ?_
  | with_reducible refine g_rAdd ?_
  | with_reducible refine g_rSub ?_
  | ((with_reducible refine' g_aug ?obh ?_); (case obh => rfl))
  | with_reducible refine g_tup ?_
  | with_reducible refine g_lst ?_
  | with_reducible refine g_bm ?_
  | with_reducible refine g_bm0 ?_
  | with_reducible refine g_sl ?_
  | with_reducible refine g_nopart ?_
  | with_reducible refine g_part ?_
  | with_reducible refine g_pint ?_
  | with_reducible refine isi_int ?_
  | with_reducible refine isi_intB ?_
  | ((with_reducible refine' g_I ?obh ?_); (case obh => walk_at "obc"))
  | ((with_reducible refine' g_tyl ?obh ?_); (case obh => walk_at "obl"))
  | ((with_reducible refine' g_lenL ?obh ?_); (case obh => walk_at "obl"))
  | with_reducible refine g_ne ?_
  | ((with_reducible refine' g_neN' ?obh ?_); (case obh => rfl))
  | with_reducible refine g_ntt ?_
  | with_reducible refine g_nff ?_
  | with_reducible refine g_star ?_
  | with_reducible refine g_att ?_
  | with_reducible refine g_sfld ?_
  | with_reducible refine g_faug ?_
  | with_reducible refine g_fld ?_
  | ((with_reducible refine' g_nF ?obh ?_); (case obh => omega))
  | ((with_reducible refine' g_nT ?obh ?_); (case obh => omega))
  | ((with_reducible refine' g_TD ?obh ?_); (case obh => omega))
  | ((with_reducible refine' g_FD ?obh ?_); (case obh => omega))
  | ((with_reducible refine' g_ixUL ?obh ?obi ?_); (case obh => walk_at "obl"); (case obi => exact atI_nn (by omega) (by rfl)))
  | ((with_reducible refine' g_setLS ?obs ?obh ?obi ?_); (case obs => assumption); (case obh => assumption); (case obi => rfl); intro _ _ _)
  | ((with_reducible refine' g_newT ?obs ?obh ?obi ?obj ?_); (case obs => assumption); (case obh => walk_at "obds"); (case obi => rfl); (case obj => exact Nat.le_of_ble_eq_true rfl); intro _ _ _ _)
  | ((with_reducible refine' g_newL ?obs ?obj ?_); (case obs => assumption); (case obj => exact Nat.le_of_ble_eq_true rfl); intro _ _ _ _)
  | ((with_reducible refine' isi_tup ?obh ?_); (case obh => walk_at "obt"))
  | ((with_reducible refine' g_lenT ?obh ?_); (case obh => walk_at "obt"))
  | ((with_reducible refine' g_unpT ?obh ?obi ?_); (case obh => walk_at "obt"); (case obi => rfl))
  | ((with_reducible refine' g_divmod ?obs ?obh ?_); (case obs => assumption); (case obh => exact cdivp_ok (by omega) (by omega) (by omega)); intro _ _ _ _)
  | ((with_reducible refine' g_unpD ?obh ?obi ?obj ?_); (case obh => walk_at "obd"); (case obi => walk_at "obsc"); (case obj => rfl))
  | with_reducible refine g_att ?_)
local macro_rules | `(tactic| walk_at "ob") => `(tactic| first
  | walk_at "ob1"
  | refine use_is_integer ?_
  | refine use_is_within ?_
  | with_reducible refine g_lstRg ?_
  | with_reducible refine g_rg1 ?_
  | with_reducible refine g_rg2 ?_
  | with_reducible refine g_tTru ?_
  | ((with_reducible refine' g_truL ?obh ?_); (case obh => walk_at "obl"))
  | ((with_reducible refine' g_ixUT ?obh ?obi ?_); (case obh => walk_at "obt"); (case obi => rfl))
  | with_reducible refine g_forZ ?_
  | with_reducible refine g_forR2 ?_
  | with_reducible refine g_forE ?_
  | with_reducible refine g_lcZ ?_)
local macro_rules | `(tactic| walk_at "ob") => `(tactic| first
  | ((with_reducible refine' g_slS ?obh ?_); (case obh => omega))
  | ((with_reducible refine' g_catS ?obh ?_); (case obh => omega)))
section
variable {P : Program} {w : World} {K : Frag} {mg : Str → Option Value} {base : Heap}
theorem use_lpaired {F : List (Addr × HO)} {G : List Ft} {H : Hp} {Q : VK} {E : XK} {a b : Addr} {rs ts : NS} (S : Sy K F G H) (h1 : SqT K H a (NR rs)) (h2 : ∀ q ∈ NT rs, H q.1 = some (.tup q.2)) (h3 : SqT K H b (NR ts)) (h4 : ∀ q ∈ NT ts, H q.1 = some (.tup q.2)) (ng : NG rs) (nt : NG ts) (hl : rs.length ≤ 200) (hm : ts.length ≤ 200)
    (k : ∀ t H', Sy K F (.dat [.ref t] [pairD (pairF (rs.map (·.2)) (ts.map (·.2)))] :: G) H' → Q (.ref t) H') : sp_law_paired K [.ref a, .ref b] H Q E := ⟨rfl, F, G, a, b, rs, ts, rfl, S, h1, h2, h3, h4, ng, nt, hl, hm, k⟩
theorem use_lslips {F : List (Addr × HO)} {G : List Ft} {H : Hp} {Q : VK} {E : XK} {a b : Int} (S : Sy K F G H) (a0 : a ≠ 0) (b0 : b ≠ 0) (ha : a.natAbs ≤ 1000000000000) (hb : b.natAbs ≤ 1000000000000) (k : ∀ p H', Sy K F (.dat [.ref p] [.tuple (sD (slipF a b))] :: G) H' → Q (.ref p) H') : sp_law_slips K [.int a, .int b] H Q E := ⟨rfl, F, G, a, b, rfl, S, a0, b0, ha, hb, k⟩
theorem slip_shaped (a b : Int) : SeqAt.shaped (.tuple (sD (slipF a b))) = true := by
  have : ∀ c1 c2 c3 c4 c5, SeqAt.shaped (.tuple (sD (((lk5 c1 c2 c3 c4 c5).filter (·.2)).map (·.1)))) = true := by decide +kernel
  exact this _ _ _ _ _
def sp_law_slips_in (K : Frag) : Sp := fun vs H Q E => vs.length = 2 ∧ ∃ (F : List (Addr × HO)) (G : List Ft) (a b : Addr) (rs ts : NS), vs = [.ref a, .ref b] ∧ Sy K F G H ∧ SqT K H a (NR rs) ∧ (∀ q ∈ NT rs, H q.1 = some (.tup q.2)) ∧ SqT K H b (NR ts) ∧ (∀ q ∈ NT ts, H q.1 = some (.tup q.2)) ∧ NG rs ∧ NG ts ∧ rs.length ≤ 200 ∧ ts.length ≤ 200 ∧
  ∀ t H', Sy K F (.dat [.ref t] [.tuple (slIn (rs.map (·.2)) (ts.map (·.2)))] :: G) H' → Q (.ref t) H'
abbrev names_law_slips_in : List Str := ["one", "other", "pairs", "mine", "its", "found", "number", "at", "told"]
theorem sc_law_slips_in : FnScope names_law_slips_in ["one", "other"] (defScope (top 45)) := ⟨rfl, rfl, rfl, by decide +kernel, rfl, by decide +kernel, by decide +kernel⟩
set_option maxHeartbeats 4000000 in
theorem ok_law_slips_in (T : Tx K mg) : FG P w K mg base CX0 3 T.a_law_slips_in T.d_law_slips_in ["one", "other"] (sp_law_slips_in K) := by
  refine OB.Fun.fg T.F_law_slips_in sc_law_slips_in (fun vs H Q E h => h.1) (fun cdv A out s H vs Q E g h => ?_)
  obtain ⟨_, F, G0, a, b, rs, ts, rfl, S0, ha, hta, hb, htb, ng, nt, hl, hm, k⟩ := h
  refine ⟨_, (pss_cons (ps_asg (pe_cg (ok_law_paired T) (g.mono (by decide : 1 ≤ 2)) (by rfl) T.m_law_paired T.F_law_paired.kp (OB.Fun.bd T.F_law_paired (ps := ["one", "other"]) (n := 2) (ks := []) (ix := [0, 1]) (fun _ _ _ _ _ _ us ws h1 h2 => match us, ws, h1, h2 with | [_, _], [], _, _ => rfl)) pass0 (pa_cons (pv 0) (pa_cons (pv 1) pa_nil)) pk_nil) (pg_tupK (K := K) rfl (n := 3) rfl (pgs_cons (pg_name (i := 2) sc_law_slips_in.nd rfl (by first | exact Or.inl rfl | exact Or.inr rfl)) (pgs_cons (pg_name (i := 3) sc_law_slips_in.nd rfl (by first | exact Or.inl rfl | exact Or.inr rfl)) (pgs_cons (pg_name (i := 4) sc_law_slips_in.nd rfl (by first | exact Or.inl rfl | exact Or.inr rfl)) pgs_nil)))))
      (pss_cons (ps_set (i := 5) sc_law_slips_in.nd rfl (by first | exact Or.inl rfl | exact Or.inr rfl) (pe_lst pa_nil))
      (pss_cons (ps_for PassesOwn.never rfl (pi_seq (pv 3)) (pg_name (i := 6) sc_law_slips_in.nd rfl (by first | exact Or.inl rfl | exact Or.inr rfl))
      (pss_one (ps_for PassesOwn.never rfl (pi_seq (pv 4)) (pg_name (i := 7) sc_law_slips_in.nd rfl (by first | exact Or.inl rfl | exact Or.inr rfl))
      (pss_cons (ps_set (i := 8) sc_law_slips_in.nd rfl (by first | exact Or.inl rfl | exact Or.inr rfl) (pe_ifExp (pt_cmpR op_eq (pe_ix (ix_UK (K := K) rfl) (pe_ix (ix_UK (K := K) rfl) (pv 0) (pv 6) (fun _ _ => rfl)) pe_int (fun _ _ => rfl)) (pe_ix (ix_UK (K := K) rfl) (pe_ix (ix_UK (K := K) rfl) (pv 1) (pv 7) (fun _ _ => rfl)) pe_int (fun _ _ => rfl)) (nomark _)) (pe_cg (ok_law_slips T) (g.mono (by decide : 2 ≤ 2)) (by rfl) T.m_law_slips T.F_law_slips.kp (OB.Fun.bd T.F_law_slips (ps := ["amount", "its"]) (n := 2) (ks := []) (ix := [0, 1]) (fun _ _ _ _ _ _ us ws h1 h2 => match us, ws, h1, h2 with | [_, _], [], _, _ => rfl)) pass0 (pa_cons (pe_ix (ix_UK (K := K) rfl) (pe_ix (ix_UK (K := K) rfl) (pv 0) (pv 6) (fun _ _ => rfl)) pe_int (fun _ _ => rfl)) (pa_cons (pe_ix (ix_UK (K := K) rfl) (pe_ix (ix_UK (K := K) rfl) (pv 1) (pv 7) (fun _ _ => rfl)) pe_int (fun _ _ => rfl)) pa_nil)) pk_nil) (pe_tup pa_nil)))
      (pss_one (ps_expr (pe_bm PySem.F.plainAttrs_list PySem.F.slot_list_extend PySem.F.type_list_extend mt_extend (pv 5) (pa_cons (pe_ifExp (pt_cmpR (op_neD g.hu64) (pv 8) (pe_tup pa_nil) (nomark _)) (pe_lst (pa_cons (pe_tup (pa_cons (pv 6) (pa_cons (pv 7) (pa_cons (pv 8) pa_nil)))) pa_nil)) (pe_lst pa_nil)) pa_nil))))))))
      (pss_one (ps_ret (pe_callTy (toK (r := rTuple) (K := K) rfl c_tuple) (by rfl) T.n_tuple (by decide +kernel) (pa_cons (pv 5) pa_nil))))))), ?_⟩
  refine g_start (σ := [some _, some _, none, none, none, none, none, none, none]) rfl ?_
  have S := (((S0.add (.tt (NT rs)) hta).add (.tq a (NR rs)) ha).add (.tt (NT ts)) htb).add (.tq b (NR ts)) hb
  clear S0 ha hta hb htb
  have lns : (rs.map (·.2)).length = rs.length := List.length_map ..
  have lms : (ts.map (·.2)).length = ts.length := List.length_map ..
  repeat walk_at "ob"
  refine use_lpaired S (S.tqs 2 rfl) (S.tts 3 rfl) (S.tqs 0 rfl) (S.tts 1 rfl) ng nt hl hm fun t H1 S1 => ?_
  clear S
  have hlf := pairG_left (other := ts.map (·.2)) (one := rs.map (·.2)) (rs.map (·.2)).length
  have hlm := pairG_mine (other := ts.map (·.2)) (one := rs.map (·.2)) (rs.map (·.2)).length
  have hll := pairG_llen (other := ts.map (·.2)) (one := rs.map (·.2)) (rs.map (·.2)).length
  have hpl := pairG_len (other := ts.map (·.2)) (one := rs.map (·.2)) (rs.map (·.2)).length
  have eF : pairG (ts.map (·.2)) (rs.map (·.2)) (rs.map (·.2)).length = pairF (rs.map (·.2)) (ts.map (·.2)) := rfl
  rw [eF] at hlf hlm hll hpl
  unfold slIn at k
  generalize pairF (rs.map (·.2)) (ts.map (·.2)) = st at *
  obtain ⟨pp, mm, left⟩ := st
  dsimp only at hlf hlm hll hpl k
  rw [lms] at hll
  rw [lns] at hpl
  obtain ⟨t1, xs, et, ht1, hxs⟩ := dp_tuple (show L2.Dp K H1 (.ref t) (.tuple [.tuple (iiD pp), .tuple (nsD mm), .tuple (nsD left)]) from S1.dp 0 rfl)
  cases et
  cases hxs with
  | cons d1 hxs =>
  cases hxs with
  | cons d2 hxs =>
  cases hxs with
  | cons d3 hxs =>
  cases hxs
  obtain ⟨q1, xs1, rfl, hq1, hxs1⟩ := dp_tuple d1
  obtain ⟨q2, xs2, rfl, hq2, hxs2⟩ := dp_tuple d2
  obtain ⟨q3, xs3, rfl, hq3, hxs3⟩ := dp_tuple d3
  have hv2 := dps_nsV hxs2
  have hv3 := dps_nsV hxs3
  subst hv2 hv3
  have S2 := ((S1.drop.add (.tq q2 (nI mm)) hq2).add (.tq q3 (nI left)) hq3)
  refine g_unpT ht1 rfl ?_
  clear S1
  repeat walk_at "ob"
  rename_i fo H3 _ S3
  clear S2
  have flen : ∀ l : List Nat, (l.flatMap (slI (rs.map (·.2)) (ts.map (·.2)) left)).length ≤ l.length * 200 := fun l => by
    induction l with
    | nil => exact Nat.zero_le _
    | cons x l ih =>
      rw [List.flatMap_cons, List.length_append, List.length_cons]
      have := slI_len (rs.map (·.2)) (ts.map (·.2)) left x
      omega
  refine g_forS (a := q2) (xs := nI mm) false (fun i σ' H' => ∃ v6 v7 v8 fv, σ' = [some (.ref a), some (.ref b), some (.ref q1), some (.ref q2), some (.ref q3), some (.ref fo), v6, v7, v8] ∧
      Sy K ((fo, .lst fv) :: F) (.dat fv ((mm.take i).flatMap (slI (rs.map (fun r : Addr × N => r.2)) (ts.map (fun r : Addr × N => r.2)) left)) :: .tq q3 (nI left) :: .tq q2 (nI mm) :: .tq b (NR ts) :: .tt (NT ts) :: .tq a (NR rs) :: .tt (NT rs) :: G0) H') (fun Q' q => by repeat walk_at "ob"; exact q) ⟨none, none, none, [], rfl, S3.fact .nil rfl⟩ (fun i σ' H' ⟨_, _, _, _, _, S4⟩ => S4.tqs 2 rfl) ?_ ?_
  · rintro i x σ' H' hx ⟨v6, v7, v8, fv, rfl, S4⟩
    obtain ⟨u, hu, rfl⟩ := nI_get hx
    have hu3 := (List.getElem?_eq_some_iff.mp hu).1
    have hul := hlm u (List.mem_of_getElem? hu)
    rw [lns] at hul
    obtain ⟨r, hr⟩ : ∃ r, rs[u]? = some r := ⟨_, List.getElem?_eq_getElem hul⟩
    have hrm := List.mem_of_getElem? hr
    have hrn : (rs.map (·.2))[u]? = some r.2 := by rw [List.getElem?_map, hr]; rfl
    have fi := flen (mm.take i)
    rw [List.length_take] at fi
    clear S3
    repeat walk_at "ob"
    refine g_forS (a := q3) (xs := nI left) false (fun j σ' H' => ∃ v7 v8 fv, σ' = [some (.ref a), some (.ref b), some (.ref q1), some (.ref q2), some (.ref q3), some (.ref fo), some (.int (u : Int)), v7, v8] ∧
        Sy K ((fo, .lst fv) :: F) (.dat fv ((mm.take i).flatMap (slI (rs.map (fun r : Addr × N => r.2)) (ts.map (fun r : Addr × N => r.2)) left) ++ slI (rs.map (fun r : Addr × N => r.2)) (ts.map (fun r : Addr × N => r.2)) (left.take j) u) :: .tq q3 (nI left) :: .tq q2 (nI mm) :: .tq b (NR ts) :: .tt (NT ts) :: .tq a (NR rs) :: .tt (NT rs) :: G0) H') (fun Q' q => by repeat walk_at "ob"; exact q) ⟨v7, v8, fv, rfl, by rw [List.take_zero]; show Sy K _ (.dat fv (_ ++ []) :: _) _; rw [List.append_nil]; exact S4⟩ (fun i σ' H' ⟨_, _, _, _, S4⟩ => S4.tqs 1 rfl) ?_ ?_
    · rintro j x σ' H' hx ⟨v7, v8, fv, rfl, S5⟩
      obtain ⟨z, hz, rfl⟩ := nI_get hx
      have hz3 := (List.getElem?_eq_some_iff.mp hz).1
      have hzl := hlf.2 z (List.mem_of_getElem? hz)
      rw [lms] at hzl
      obtain ⟨y, hy⟩ : ∃ y, ts[z]? = some y := ⟨_, List.getElem?_eq_getElem hzl⟩
      have hym := List.mem_of_getElem? hy
      have hyn : (ts.map (·.2))[z]? = some y.2 := by rw [List.getElem?_map, hy]; rfl
      have st : slI (rs.map (·.2)) (ts.map (·.2)) (left.take (j + 1)) u = slI (rs.map (·.2)) (ts.map (·.2)) (left.take j) u ++ slS (rs.map (·.2)) (ts.map (·.2)) u z := by
        unfold slI
        rw [List.take_succ, List.flatMap_append, hz]
        simp
      have se : slS (rs.map (·.2)) (ts.map (·.2)) u z = if r.2.1 = y.2.1 then (if slipF r.2.2 y.2.2 = [] then [] else [.tuple [.int (u : Int), .int (z : Int), .tuple (sD (slipF r.2.2 y.2.2))]]) else [] := by
        unfold slS
        rw [hrn, hyn]
      have fj := slI_len (rs.map (·.2)) (ts.map (·.2)) (left.take j) u
      rw [List.length_take] at fj
      have fvl : fv.length < 100000 := by
        rw [dps_length (S5.dps 0 rfl), List.length_append]
        omega
      rw [st, se]
      have hr1 := ng _ hrm
      have hy1 := nt _ hym
      repeat walk_at "ob"
      refine g_ixUT (S5.tqs 5 rfl) (atI_nn (by omega) (nr_at hr)) ?_
      repeat walk_at "ob"
      refine g_ixUT (sqt_note (nt_at S5 (i := 6) rfl hrm)) (v := .str r.2.1) (atI_nn (by decide) rfl) ?_
      repeat walk_at "ob"
      refine g_ixUT (S5.tqs 3 rfl) (atI_nn (by omega) (nr_at hy)) ?_
      repeat walk_at "ob"
      refine g_ixUT (sqt_note (nt_at S5 (i := 4) rfl hym)) (v := .str y.2.1) (atI_nn (by decide) rfl) ?_
      repeat walk_at "ob"
      by_cases hw : r.2.1 = y.2.1
      · rw [if_pos hw]
        refine g_TD hw ?_
        repeat walk_at "ob"
        refine g_ixUT (S5.tqs 5 rfl) (atI_nn (by omega) (nr_at hr)) ?_
        repeat walk_at "ob"
        refine g_ixUT (sqt_note (nt_at S5 (i := 6) rfl hrm)) (v := .int r.2.2) (atI_nn (by decide) rfl) ?_
        repeat walk_at "ob"
        refine g_ixUT (S5.tqs 3 rfl) (atI_nn (by omega) (nr_at hy)) ?_
        repeat walk_at "ob"
        refine g_ixUT (sqt_note (nt_at S5 (i := 4) rfl hym)) (v := .int y.2.2) (atI_nn (by decide) rfl) ?_
        repeat walk_at "ob"
        refine use_lslips S5 hr1.2.1 hy1.2.1 (by have := hr1.2.2; omega) (by have := hy1.2.2; omega) fun p H6 S6 => ?_
        repeat walk_at "ob"
        have hsh := slip_shaped r.2.2 y.2.2
        generalize slipF r.2.2 y.2.2 = sl at *
        rename_i pe H7 _ S7
        refine g_neD (S7.dp 1 rfl) (S7.dp 0 rfl) hsh rfl ?_
        cases sl with
        | nil =>
          rw [if_pos rfl, List.append_nil]
          repeat walk_at "ob"
          refine g_F rfl ?_
          repeat walk_at "ob"
          rename_i pn H8 _ S8
          refine g_extS S8 (f := 1) rfl (S8.at 0 rfl) (by show fv.length + 0 ≤ 100000; omega) fun H9 S9 => ?_
          repeat walk_at "ob"
          refine ⟨_, _, fv ++ [], rfl, ?_⟩
          rw [List.append_nil]
          rw [List.append_nil] at S9
          exact S9.less.drop.drop
        | cons s1 sl =>
          rw [if_neg (List.cons_ne_nil _ _)]
          repeat walk_at "ob"
          refine g_T rfl ?_
          repeat walk_at "ob"
          refine g_newT S7 (.cons (.int _) (.cons (.int _) (.cons (S7.dp 1 rfl) .nil))) (by show (true && (true && (immAll (sD (s1 :: sl)) && true))) = true; rw [sD_imm]; rfl) (Nat.le_of_ble_eq_true rfl) fun T7 H8 _ S8 => ?_
          repeat walk_at "ob"
          rename_i pn H9 _ S9
          refine g_extS S9 (f := 1) rfl (S9.at 0 rfl) (by show fv.length + 1 ≤ 100000; omega) fun H10 S10 => ?_
          repeat walk_at "ob"
          refine ⟨_, _, fv ++ [.ref T7], rfl, ?_⟩
          have S11 := S10.fact (dps_append (S10.dps 3 rfl) (S10.dps 0 rfl)) (by rw [immAll_append, S10.dpi 3 rfl, S10.dpi 0 rfl]; rfl)
          rw [← List.append_assoc]
          exact Sy.cut (L := [_, _, _, _]) S11.less
      · rw [if_neg hw, List.append_nil]
        refine g_FD hw ?_
        repeat walk_at "ob"
        rename_i pu H6 _ S6 pe H7 _ S7
        refine g_neD (S7.dp 1 rfl) (S7.dp 0 rfl) rfl rfl ?_
        repeat walk_at "ob"
        refine g_F rfl ?_
        repeat walk_at "ob"
        rename_i pn H8 _ S8
        refine g_extS S8 (f := 1) rfl (S8.at 0 rfl) (by show fv.length + 0 ≤ 100000; omega) fun H9 S9 => ?_
        repeat walk_at "ob"
        refine ⟨_, _, fv ++ [], rfl, ?_⟩
        rw [List.append_nil]
        rw [List.append_nil] at S9
        exact S9.less.drop.drop
    · rintro σ' H' ⟨v7, v8, fv, rfl, S5⟩
      repeat walk_at "ob"
      refine ⟨_, _, _, fv, rfl, ?_⟩
      rw [show (nI left).length = left.length from List.length_map .., List.take_of_length_le (Nat.le_refl _)] at S5
      rw [List.take_succ, hu, List.flatMap_append]
      rw [show (some u).toList.flatMap (slI (rs.map (·.2)) (ts.map (·.2)) left) = slI (rs.map (·.2)) (ts.map (·.2)) left u by simp]
      exact S5
  · rintro σ' H' ⟨v6, v7, v8, fv, rfl, S4⟩
    rw [show (nI mm).length = mm.length from List.length_map .., List.take_of_length_le (Nat.le_refl _)] at S4
    repeat walk_at "ob"
    refine g_tup0 S4 (SqL.of (S4.at 0 rfl)) (S4.dps 0 rfl) (S4.dpi 0 rfl) fun t9 H11 _ S11 => ?_
    exact k _ _ (Sy.cut (L := [_, _, _, _, _, _, _]) S11.less)
end
end LAW

set_option Elab.async false
set_option linter.all false
set_option maxRecDepth 100000
namespace LAW
open PySem PySem.Spec PyProof.Rows L2 PySem.W OB
local macro_rules | `(tactic| walk_at "obc") => `(tactic| first
  | exact Or.inl ⟨by omega, by omega⟩
  | exact Or.inr ⟨by omega, by omega⟩
  | exact cdiv_ok (by omega) (by omega)
  | (show (0 : Int) < _; omega)
  | exact ⟨by omega, by decide⟩
  | exact ⟨by decide, by decide⟩)
local macro_rules | `(tactic| walk_at "obat") => `(tactic| first
  | exact Sy.at (by assumption) 0 rfl | exact Sy.at (by assumption) 1 rfl | exact Sy.at (by assumption) 2 rfl | exact Sy.at (by assumption) 3 rfl
  | exact Sy.at (by assumption) 4 rfl | exact Sy.at (by assumption) 5 rfl | exact Sy.at (by assumption) 6 rfl | exact Sy.at (by assumption) _ (by assumption) | exact Sy.at (by assumption) (_ + 1) (by assumption) | exact Sy.at (by assumption) (_ + 2) (by assumption))
local macro_rules | `(tactic| walk_at "obt") => `(tactic| first
  | exact Sy.tqs (by assumption) 0 rfl | exact Sy.tqs (by assumption) 1 rfl | exact Sy.tqs (by assumption) 2 rfl | exact Sy.tqs (by assumption) 3 rfl | exact Sy.tqs (by assumption) 4 rfl | exact Sy.tqs (by assumption) 5 rfl
  | exact Sy.tqs (by assumption) 6 rfl | exact Sy.tqs (by assumption) 7 rfl | assumption)
local macro_rules | `(tactic| walk_at "obl") => `(tactic| first
  | exact SqL.of (by walk_at "obat")
  | exact Sy.sq (by assumption) 0 rfl | exact Sy.sq (by assumption) 1 rfl | exact Sy.sq (by assumption) 2 rfl | exact Sy.sq (by assumption) 3 rfl | exact Sy.sq (by assumption) _ (by assumption))
local macro_rules | `(tactic| walk_at "obd") => `(tactic| first
  | exact Dp.int _ | exact Dp.bl _ | exact Dp.str _ | exact Dp.non
  | exact Sy.dp (by assumption) 0 rfl | exact Sy.dp (by assumption) 1 rfl | exact Sy.dp (by assumption) 2 rfl | exact Sy.dp (by assumption) 3 rfl
  | exact Sy.dp (by assumption) 4 rfl | exact Sy.dp (by assumption) 5 rfl | exact Sy.dp (by assumption) 6 rfl | exact Sy.dp (by assumption) 7 rfl
  | exact Sy.dp (by assumption) 8 rfl | exact Sy.dp (by assumption) 9 rfl | exact Sy.dp (by assumption) _ (by assumption) | assumption)
local macro_rules | `(tactic| walk_at "obds") => `(tactic| first
  | exact DpAll.nil
  | (refine' DpAll.cons ?ob1 ?ob2; (case ob1 => walk_at "obd"); (case ob2 => walk_at "obds"))
  | exact Sy.dps (by assumption) 0 rfl | exact Sy.dps (by assumption) 1 rfl | exact Sy.dps (by assumption) 2 rfl | exact Sy.dps (by assumption) 3 rfl | assumption)
local macro_rules | `(tactic| walk_at "obsc") => `(tactic| first
  | exact ScL.nil
  | ((first | refine' ScL.int ?obz | refine' ScL.str ?obz | refine' ScL.bl ?obz | refine' ScL.non ?obz); (case obz => walk_at "obsc")))
local macro_rules | `(tactic| walk_at "ob1") => `(tactic| first
  | ((with_reducible refine' g_var ?obh ?_); (case obh => rfl))
  | with_reducible refine g_c ?_
  | with_reducible refine g_nx ?_
  | with_reducible refine g_rt ?_
  | with_reducible refine g_bk ?_
  | with_reducible refine g_ct ?_
  | with_reducible refine g_op ?_
  | with_reducible refine g_I0 ?_
  | with_reducible refine g_test ?_
  | with_reducible refine g_bl ?_
  | with_reducible refine g_blx ?_
  | with_reducible refine g_B ?_
  | with_reducible refine g_seq ?_
  | with_reducible refine g_asg ?_
  | with_reducible refine g_name ?_
  | with_reducible refine g_ifS ?_
  | with_reducible refine g_ret ?_
  | with_reducible refine g_cb ?_
  | with_reducible refine g_cons ?_
  | with_reducible refine g_nil ?_
  | with_reducible refine g_int ?_
  | with_reducible refine g_intB ?_
  | with_reducible refine g_abs ?_
  | with_reducible refine g_max ?_
  | with_reducible refine g_min ?_
  | with_reducible refine g_un ?_
  | with_reducible refine g_U ?_
  | with_reducible refine g_eqI ?_
  | with_reducible refine g_neI ?_
  | with_reducible refine g_eqS ?_
  | with_reducible refine g_neS ?_
  | with_reducible refine g_tt ?_
  | with_reducible refine g_ff ?_
  | with_reducible refine g_next ?_
  | with_reducible refine g_drop ?_
  | with_reducible refine g_if ?_
  | with_reducible refine g_andV ?_
  | with_reducible refine g_orV ?_
  | with_reducible refine g_notV ?_
  | with_reducible refine g_and ?_
  | with_reducible refine g_or ?_
  | with_reducible refine g_not ?_
  | with_reducible refine g_yes ?_
  | with_reducible refine g_chain ?_
  | with_reducible refine g_cg ?_
  | with_reducible refine g_mg ?_
  | with_reducible refine g_kg ?_
  | with_reducible refine g_pg ?_
  | ((with_reducible refine' g_call ?obh ?obj ?_); (case obh => rfl); (case obj => rfl))
  | with_reducible refine g_par ?_
  | with_reducible refine g_par2 ?_
  | with_reducible refine g_par3 ?_
  | with_reducible refine g_par33 ?_
  | with_reducible refine g_gnil ?_
  | with_reducible refine g_gcons ?_
  | with_reducible refine g_gsub ?_
  | with_reducible refine g_ipI ?_
  | with_reducible refine g_rAdd ?_
  | with_reducible refine g_rSub ?_
  | ((with_reducible refine' g_aug ?obh ?_); (case obh => rfl))
  | with_reducible refine g_tup ?_
  | with_reducible refine g_lst ?_
  | with_reducible refine g_bm ?_
  | with_reducible refine g_bm0 ?_
  | with_reducible refine g_sl ?_
  | with_reducible refine g_nopart ?_
  | with_reducible refine g_part ?_
  | with_reducible refine g_pint ?_
  | with_reducible refine isi_int ?_
  | with_reducible refine isi_intB ?_
  | ((with_reducible refine' g_I ?obh ?_); (case obh => walk_at "obc"))
  | ((with_reducible refine' g_tyl ?obh ?_); (case obh => walk_at "obl"))
  | ((with_reducible refine' g_lenL ?obh ?_); (case obh => walk_at "obl"))
  | with_reducible refine g_ne ?_
  | ((with_reducible refine' g_neN' ?obh ?_); (case obh => rfl))
  | with_reducible refine g_ntt ?_
  | with_reducible refine g_nff ?_
  | with_reducible refine g_star ?_
  | with_reducible refine g_att ?_
  | with_reducible refine g_sfld ?_
  | with_reducible refine g_faug ?_
  | with_reducible refine g_fld ?_
  | ((with_reducible refine' g_nF ?obh ?_); (case obh => omega))
  | ((with_reducible refine' g_nT ?obh ?_); (case obh => omega))
  | ((with_reducible refine' g_TD ?obh ?_); (case obh => omega))
  | ((with_reducible refine' g_FD ?obh ?_); (case obh => omega))
  | ((with_reducible refine' g_ixUL ?obh ?obi ?_); (case obh => walk_at "obl"); (case obi => exact atI_nn (by omega) (by rfl)))
  | ((with_reducible refine' g_setLS ?obs ?obh ?obi ?_); (case obs => assumption); (case obh => assumption); (case obi => rfl); intro _ _ _)
  | ((with_reducible refine' g_newT ?obs ?obh ?obi ?obj ?_); (case obs => assumption); (case obh => walk_at "obds"); (case obi => rfl); (case obj => exact Nat.le_of_ble_eq_true rfl); intro _ _ _ _)
  | ((with_reducible refine' g_newL ?obs ?obj ?_); (case obs => assumption); (case obj => exact Nat.le_of_ble_eq_true rfl); intro _ _ _ _)
  | ((with_reducible refine' isi_tup ?obh ?_); (case obh => walk_at "obt"))
  | ((with_reducible refine' g_lenT ?obh ?_); (case obh => walk_at "obt"))
  | ((with_reducible refine' g_unpT ?obh ?obi ?_); (case obh => walk_at "obt"); (case obi => rfl))
  | ((with_reducible refine' g_divmod ?obs ?obh ?_); (case obs => assumption); (case obh => exact cdivp_ok (by omega) (by omega) (by omega)); intro _ _ _ _)
  | ((with_reducible refine' g_unpD ?obh ?obi ?obj ?_); (case obh => walk_at "obd"); (case obi => walk_at "obsc"); (case obj => rfl))
  | with_reducible refine g_att ?_)
local macro_rules | `(tactic| walk_at "ob") => `(tactic| first
  | walk_at "ob1"
  | refine use_is_integer ?_
  | refine use_is_within ?_
  | with_reducible refine g_lstRg ?_
  | with_reducible refine g_rg1 ?_
  | with_reducible refine g_rg2 ?_
  | with_reducible refine g_tTru ?_
  | ((with_reducible refine' g_truL ?obh ?_); (case obh => walk_at "obl"))
  | ((with_reducible refine' g_ixUT ?obh ?obi ?_); (case obh => walk_at "obt"); (case obi => rfl))
  | with_reducible refine g_forZ ?_
  | with_reducible refine g_forR2 ?_
  | with_reducible refine g_forE ?_
  | with_reducible refine g_lcZ ?_)
local macro_rules | `(tactic| walk_at "ob") => `(tactic| first
  | ((with_reducible refine' g_slS ?obh ?_); (case obh => omega))
  | ((with_reducible refine' g_catS ?obh ?_); (case obh => omega)))
section
variable {P : Program} {w : World} {K : Frag} {mg : Str → Option Value} {base : Heap}
theorem via {t : TE} {σ : L2.St} {H : Hp} {Q : VK} (R : V → Hp → Prop) (h : ∀ Q : VK, (∀ v H', R v H' → Q v H') → t σ H Q) (c : ∀ v H', R v H' → Q v H') : t σ H Q := h Q c
theorem atIf {t : TT} {ta tb : TE} {σ : L2.St} {H : Hp} {Q : VK} (h : tIf t ta tb σ H Q) : tIf t ta tb σ H Q := h
theorem atNewT {xs : List V} {H : Hp} {Q : VK} (h : rNewT xs H Q) : rNewT xs H Q := h
theorem g_newTt {F : List (Addr × HO)} {G : List Ft} {H : Hp} {Q : VK} {vs : List V} (S : Sy K F G H) (hl : vs.length ≤ 100000) (k : ∀ p H', Sy K F (.tt [(p, vs)] :: G) H' → Q (.ref p) H') : rNewT vs H Q :=
  ⟨Nat.le_trans hl (by decide), fun p hp => k p _ ((S.over hp).add (.tt [(p, vs)]) fun q hq => by rcases List.mem_singleton.mp hq with rfl; exact upd_same)⟩
/-- the pot stands, n draws were made at most -/
def Pot (K : Frag) (F : List (Addr × HO)) (G : List Ft) (p : Addr) (n : Nat) (H : Hp) : Prop := ∃ a b c, PotOk n a b c ∧ Sy K ((p, potO a b c) :: F) G H
theorem Pot.sub {F : List (Addr × HO)} {G G' : List Ft} {p : Addr} {n m : Nat} {H : Hp} (h : Pot K F G p n H) (hn : n ≤ m) (f : ∀ H F, Sy K F G H → Sy K F G' H) : Pot K F G' p m H := by
  obtain ⟨a, b, c, o, S⟩ := h
  exact ⟨a, b, c, o.mono hn, f _ _ S⟩
theorem Pot.mono {F : List (Addr × HO)} {G : List Ft} {p : Addr} {n m : Nat} {H : Hp} (h : Pot K F G p n H) (hn : n ≤ m) : Pot K F G p m H := h.sub hn fun _ _ S => S
theorem Pot.less {F : List (Addr × HO)} {G : List Ft} {p : Addr} {n : Nat} {H : Hp} {x : Addr × HO} (h : Pot K (x :: F) G p n H) : Pot K F G p n H := by
  obtain ⟨a, b, c, o, S⟩ := h
  exact ⟨a, b, c, o, S.swap.less⟩
theorem use_takeP {F : List (Addr × HO)} {G : List Ft} {H : Hp} {Q : VK} {E : XK} {n : Nat} {p : Addr} {u : Int} (h : Pot K F G p n H) (hn : n < 1000000) (u0 : 0 < u) (u1 : u < 2 ^ 60) (k : ∀ (r : Int) (H' : Hp), 0 ≤ r → r < u → Pot K F G p (n + 1) H' → Q (.int r) H') : sp_law_take K [.ref p, .int u] H Q E := by
  obtain ⟨a, b, c, o, S⟩ := h
  exact use_take (i := 0) S rfl o hn u0 u1 fun r a' b' c' H' h1 h2 o' S' _ => k r H' h1 h2 ⟨a', b', c', o', S'⟩
/-- one of a list -/
theorem use_ofP {F : List (Addr × HO)} {G : List Ft} {H : Hp} {Q : VK} {E : XK} {n : Nat} {p q : Addr} {xs : List V} (h : Pot K ((q, .lst xs) :: F) G p n H) (hn : n < 1000000) (l0 : 0 < xs.length) (l1 : xs.length < 2000000) (k : ∀ r ∈ xs, ∀ H', Pot K ((q, .lst xs) :: F) G p (n + 1) H' → Q r H') : sp_law_of K [.ref p, .ref q] H Q E := by
  obtain ⟨a, b, c, o, S⟩ := h
  exact ⟨rfl, _, G, 0, 1, p, q, n, xs, a, b, c, rfl, S, rfl, rfl, by decide, o, hn, l0, l1, fun r hr a' b' c' H' o' S' _ => k r hr H' ⟨a', b', c', o', S'⟩⟩
def sp_law_note (K : Frag) : Sp := fun vs H Q E => vs.length = 1 ∧ ∃ (F : List (Addr × HO)) (G : List Ft) (p : Addr) (n : Nat), vs = [.ref p] ∧ Pot K F G p n H ∧ n < 900000 ∧ ∀ t (nn : N) H', NOk nn → Pot K F (.tt [(t, nV nn)] :: G) p (n + 5) H' → Q (.ref t) H'
abbrev names_law_note : List Str := ["pot", "some", "amount"]
theorem sc_law_note : FnScope names_law_note ["pot"] (defScope (top 39)) := ⟨rfl, rfl, rfl, by decide +kernel, rfl, by decide +kernel, by decide +kernel⟩
set_option maxHeartbeats 4000000 in
theorem ok_law_note (T : Tx K mg) : FG P w K mg base CX0 3 T.a_law_note T.d_law_note ["pot"] (sp_law_note K) := by
  refine OB.Fun.fg T.F_law_note sc_law_note (fun vs H Q E h => h.1) (fun cdv A out s H vs Q E g h => ?_)
  obtain ⟨_, F, G, p, n, rfl, ⟨a, b, c, o, S⟩, hn, k⟩ := h
  refine ⟨_, (pss_cons (ps_set (i := 1) sc_law_note.nd rfl (by first | exact Or.inl rfl | exact Or.inr rfl) (pe_lst (pa_cons pe_int (pa_cons pe_int (pa_cons pe_int (pa_cons pe_int (pa_cons pe_int (pa_cons pe_int (pa_cons pe_int (pa_cons pe_int (pa_cons pe_int (pa_cons pe_int (pa_cons pe_int (pa_cons pe_int (pa_cons pe_int (pa_cons pe_int (pa_cons pe_int (pa_cons (pe_op op_powX pe_int pe_int) (pa_cons (pe_op op_mul pe_int (pe_op op_powX pe_int pe_int)) (pa_cons (pe_op op_powX pe_int pe_int) pa_nil))))))))))))))))))))
      (pss_cons (ps_set (i := 2) sc_law_note.nd rfl (by first | exact Or.inl rfl | exact Or.inr rfl) (pe_ifExp (pt_cmpR op_gt (pe_cg (ok_law_take T) (g.mono (by decide : 1 ≤ 2)) (by rfl) T.m_law_take T.F_law_take.kp (OB.Fun.bd T.F_law_take (ps := ["pot", "upto"]) (n := 2) (ks := []) (ix := [0, 1]) (fun _ _ _ _ _ _ us ws h1 h2 => match us, ws, h1, h2 with | [_, _], [], _, _ => rfl)) pass0 (pa_cons (pv 0) (pa_cons pe_int pa_nil)) pk_nil) pe_int (nomark _)) (pe_cg (ok_law_of T) (g.mono (by decide : 2 ≤ 2)) (by rfl) T.m_law_of T.F_law_of.kp (OB.Fun.bd T.F_law_of (ps := ["pot", "some"]) (n := 2) (ks := []) (ix := [0, 1]) (fun _ _ _ _ _ _ us ws h1 h2 => match us, ws, h1, h2 with | [_, _], [], _, _ => rfl)) pass0 (pa_cons (pv 0) (pa_cons (pv 1) pa_nil)) pk_nil) (pe_op op_add pe_int (pe_cg (ok_law_take T) (g.mono (by decide : 1 ≤ 2)) (by rfl) T.m_law_take T.F_law_take.kp (OB.Fun.bd T.F_law_take (ps := ["pot", "upto"]) (n := 2) (ks := []) (ix := [0, 1]) (fun _ _ _ _ _ _ us ws h1 h2 => match us, ws, h1, h2 with | [_, _], [], _, _ => rfl)) pass0 (pa_cons (pv 0) (pa_cons pe_int pa_nil)) pk_nil))))
      (pss_one (ps_ret (pe_tup (pa_cons (pe_cg (ok_law_of T) (g.mono (by decide : 2 ≤ 2)) (by rfl) T.m_law_of T.F_law_of.kp (OB.Fun.bd T.F_law_of (ps := ["pot", "some"]) (n := 2) (ks := []) (ix := [0, 1]) (fun _ _ _ _ _ _ us ws h1 h2 => match us, ws, h1, h2 with | [_, _], [], _, _ => rfl)) pass0 (pa_cons (pv 0) (pa_cons (pe_lst (pa_cons pe_str (pa_cons pe_str (pa_cons pe_str (pa_cons pe_str pa_nil))))) pa_nil)) pk_nil) (pa_cons (pe_callTy c_int (by rfl) T.n_int (by decide +kernel) (pa_cons (pe_ifExp (pt_cmpR op_eq (pe_cg (ok_law_take T) (g.mono (by decide : 1 ≤ 2)) (by rfl) T.m_law_take T.F_law_take.kp (OB.Fun.bd T.F_law_take (ps := ["pot", "upto"]) (n := 2) (ks := []) (ix := [0, 1]) (fun _ _ _ _ _ _ us ws h1 h2 => match us, ws, h1, h2 with | [_, _], [], _, _ => rfl)) pass0 (pa_cons (pv 0) (pa_cons pe_int pa_nil)) pk_nil) pe_int (nomark _)) (pe_un un_neg (pv 2)) (pv 2)) pa_nil)) pa_nil))))))), ?_⟩
  refine g_start (σ := [some _, none, none]) rfl ?_
  repeat ((fail_if_success (with_reducible refine atIf ?_)); walk_at "ob")
  rename_i q H1 _ S1
  clear S
  have P1 : Pot K ((q, .lst ([5, 50, 500, 45, 54, 405, 90, 900, 10, 1, 2, 12, 21, 120, 102, 1000000000000, 500000000000, 100000000000].map V.int)) :: F) G p n H1 := ⟨a, b, c, o, S1.swap⟩
  clear S1
  refine via (fun v H' => ∃ x : Int, v = .int x ∧ 1 ≤ x ∧ x ≤ 1000000000000 ∧ Pot K F G p (n + 2) H') (fun Q' qq => ?_) ?_
  · repeat walk_at "ob"
    refine use_takeP P1 (by omega) (by decide) (by decide) fun r H2 r0 r1 P2 => ?_
    repeat walk_at "ob"
    refine g_iteD (fun h1 => ?_) (fun h1 => ?_)
    · repeat walk_at "ob"
      refine use_ofP P2 (by omega) (by decide) (by decide) fun v hv H3 P3 => ?_
      obtain ⟨x, hx, rfl⟩ := List.mem_map.mp hv
      have : 1 ≤ x ∧ x ≤ 1000000000000 := (show ∀ x ∈ ([5, 50, 500, 45, 54, 405, 90, 900, 10, 1, 2, 12, 21, 120, 102, 1000000000000, 500000000000, 100000000000] : List Int), 1 ≤ x ∧ x ≤ 1000000000000 by decide) x hx
      exact qq _ _ ⟨x, rfl, this.1, this.2, P3.less⟩
    · repeat walk_at "ob"
      refine use_takeP P2 (by omega) (by decide) (by decide) fun r2 H3 r20 r21 P3 => ?_
      repeat walk_at "ob"
      exact qq _ _ ⟨1 + r2, rfl, by omega, by omega, P3.less⟩
  clear P1
  rintro v H2 ⟨x, rfl, x0, x1, a2, b2, c2, o2, S2⟩
  repeat walk_at "ob"
  rename_i q2 H3 _ S3
  have P3 : Pot K ((q2, .lst (([("rent" : Str), "pay", "gift", "a"] : List Str).map V.str)) :: F) G p (n + 2) H3 := ⟨a2, b2, c2, o2, S3.swap⟩
  clear S2 S3
  refine use_ofP P3 (by omega) (by decide) (by decide) fun v hv H4 P4 => ?_
  obtain ⟨z, hz, rfl⟩ := List.mem_map.mp hv
  have hz := (show ∀ z ∈ ([("rent" : Str), "pay", "gift", "a"] : List Str), WOk z.cps.toList by
    intro z hz
    have : ∀ z ∈ ([("rent" : Str), "pay", "gift", "a"] : List Str), (decide (1 ≤ z.cps.toList.length) && decide (z.cps.toList.length ≤ 12) && z.cps.toList.all fun c => decide (97 ≤ c) && decide (c ≤ 122)) = true := by decide +kernel
    have h := this z hz
    simp only [Bool.and_eq_true, decide_eq_true_eq, List.all_eq_true] at h
    exact ⟨h.1.1, h.1.2, h.2⟩) z hz
  have P5 := P4.less
  clear P3 P4
  refine g_cons ?_
  refine via (fun v H' => ∃ y : Int, v = .int y ∧ y ≠ 0 ∧ y.natAbs ≤ 1000000000000 ∧ Pot K F G p (n + 4) H') (fun Q' qq => ?_) ?_
  · repeat walk_at "ob"
    refine use_takeP P5 (by omega) (by decide) (by decide) fun r H2 r0 r1 P2 => ?_
    repeat walk_at "ob"
    refine g_iteD (fun h1 => ?_) (fun h1 => ?_)
    · repeat walk_at "ob"
      exact qq _ _ ⟨-x, rfl, by omega, by omega, P2⟩
    · repeat walk_at "ob"
      exact qq _ _ ⟨x, rfl, by omega, by omega, P2⟩
  clear P5
  rintro v H5 ⟨y, rfl, y0, y1, a5, b5, c5, o5, S5⟩
  repeat ((fail_if_success (with_reducible refine atNewT ?_)); walk_at "ob")
  refine g_newTt S5 (Nat.le_of_ble_eq_true rfl) fun t H6 S6 => ?_
  exact k t (z, y) H6 ⟨hz, y0, by omega, by omega⟩ ⟨a5, b5, c5, o5.mono (by omega), S6⟩
theorem use_noteP {F : List (Addr × HO)} {G : List Ft} {H : Hp} {Q : VK} {E : XK} {n : Nat} {p : Addr} (h : Pot K F G p n H) (hn : n < 900000) (k : ∀ t (nn : N) H', NOk nn → Pot K F (.tt [(t, nV nn)] :: G) p (n + 5) H' → Q (.ref t) H') : sp_law_note K [.ref p] H Q E := ⟨rfl, F, G, p, n, rfl, h, hn, k⟩
theorem seqIx_nn {r : Int} {n : Nat} (h0 : 0 ≤ r) (h1 : r < n) : seqIndex? r n = some r.toNat := by
  unfold seqIndex?
  first
    | (rw [if_pos (by omega)]; simp; done)
    | (simp; omega)
theorem g_popA {F : List (Addr × HO)} {G : List Ft} {H : Hp} {Q : VK} {l : Addr} {f : Nat} {x : V} {xs : List V} {r : Int} (S : Sy K F G H) (h : F[f]? = some (l, .lst xs)) (hx : xs[r.toNat]? = some x) (h0 : 0 ≤ r) (h1 : r < xs.length) (hl : xs.length ≤ 100000) (k : ∀ H', Sy K (F.set f (l, .lst (xs.eraseIdx r.toNat))) G H' → Q x H') : rPopAt (.ref l) [.int r] H Q := by
  exact ⟨l, xs, r, r.toNat, x, rfl, rfl, S.at f h, by omega, by omega, seqIx_nn h0 h1, hx, k _ (S.put f h rfl)⟩
theorem eraseIdx_perm {α : Type} {l : List α} {i : Nat} (h : i < l.length) : ([l[i]] ++ l.eraseIdx i).Perm l := by
  induction l generalizing i with
  | nil => cases h
  | cons x l ih =>
    cases i with
    | zero => exact .refl _
    | succ i =>
      have h2 : i < l.length := Nat.lt_of_succ_lt_succ h
      have := ih h2
      exact (List.Perm.swap x (l[i]'h2) _).trans (this.cons x)
/-- a list of refs drawn from a pool, in any sequence -/
def sp_law_some (K : Frag) : Sp := fun vs H Q E => vs.length = 3 ∧ ∃ (F : List (Addr × HO)) (G : List Ft) (p q : Addr) (n : Nat) (xs : List V), vs = [.ref p, .ref q, .int (xs.length : Int)] ∧ Pot K ((q, .lst xs) :: F) G p n H ∧ n < 900000 ∧ xs.length ≤ 100 ∧ ∀ t (ys : List V) H', ys.Perm xs → Pot K ((t, .lst ys) :: (q, .lst xs) :: F) G p (n + xs.length) H' → Q (.ref t) H'
abbrev names_law_some : List Str := ["pot", "pool", "amount", "left", "found", "lap"]
theorem sc_law_some : FnScope names_law_some ["pot", "pool", "amount"] (defScope (top 37)) := ⟨rfl, rfl, rfl, by decide +kernel, rfl, by decide +kernel, by decide +kernel⟩
set_option maxHeartbeats 4000000 in
theorem ok_law_some (T : Tx K mg) : FG P w K mg base CX0 2 T.a_law_some T.d_law_some ["pot", "pool", "amount"] (sp_law_some K) := by
  refine OB.Fun.fg T.F_law_some sc_law_some (fun vs H Q E h => h.1) (fun cdv A out s H vs Q E g h => ?_)
  obtain ⟨_, F, G, p, q, n, xs, rfl, ⟨a, b, c, o, S⟩, hn, hl, k⟩ := h
  refine ⟨_, (pss_cons (ps_par (i := 3) (j := 4) rfl sc_law_some.nd rfl rfl (by decide) rfl rfl (pa_cons (pe_callTy (toK (r := rList) (K := K) rfl c_list) (by rfl) T.n_list (by decide +kernel) (pa_cons (pv 1) pa_nil)) (pa_cons (pe_lst pa_nil) pa_nil)) (by rfl))
      (pss_cons (ps_for PassesOwn.never rfl (pi_range1 rfl T.n_range (pa_cons (pv 2) pa_nil)) (pg_name (i := 5) sc_law_some.nd rfl (by first | exact Or.inl rfl | exact Or.inr rfl))
      (pss_one (ps_expr (pe_bm PySem.F.plainAttrs_list PySem.F.slot_list_append PySem.F.type_list_append mt_append (pv 4) (pa_cons (pe_bm PySem.F.plainAttrs_list PySem.F.slot_list_pop PySem.F.type_list_pop mt_popAt (pv 3) (pa_cons (pe_cg (ok_law_take T) (g.mono (by decide : 1 ≤ 1)) (by rfl) T.m_law_take T.F_law_take.kp (OB.Fun.bd T.F_law_take (ps := ["pot", "upto"]) (n := 2) (ks := []) (ix := [0, 1]) (fun _ _ _ _ _ _ us ws h1 h2 => match us, ws, h1, h2 with | [_, _], [], _, _ => rfl)) pass0 (pa_cons (pv 0) (pa_cons (pe_callB (toK (r := OB.rLen) (K := K) rfl c_len) (by rfl) T.n_len PySem.boot_len (pa_cons (pv 3) pa_nil)) pa_nil)) pk_nil) pa_nil)) pa_nil)))))
      (pss_one (ps_ret (pv 4))))), ?_⟩
  refine g_start (σ := [some _, some _, some _, none, none, none]) rfl ?_
  repeat walk_at "ob"
  refine ⟨q, xs, rfl, .inl (SqL.of (S.at 1 rfl)), fun le hle => ?_⟩
  have S1 := S.push (o := .lst xs) hle
  clear S
  repeat walk_at "ob"
  rename_i fo H2 _ S2
  clear S1
  refine g_forR ?_
  repeat walk_at "ob"
  refine g_rgJ (by omega) (by omega) ?_
  rw [show ((xs.length : Nat) : Int).toNat = xs.length from rfl]
  have P2 : Pot K ((fo, .lst []) :: (le, .lst xs) :: (q, .lst xs) :: F) G p n H2 := ⟨a, b, c, o, S2.perm (List.perm_middle (l₁ := [(fo, HO.lst []), (le, HO.lst xs)])).symm⟩
  clear S2
  refine rgfor_of (fun i σ' H' => ∃ v5 fs ls, σ' = [some (.ref p), some (.ref q), some (.int (xs.length : Int)), some (.ref le), some (.ref fo), v5] ∧ (fs ++ ls).Perm xs ∧ fs.length = i ∧ Pot K ((fo, .lst fs) :: (le, .lst ls) :: (q, .lst xs) :: F) G p (n + i) H') ⟨none, [], xs, rfl, .refl _, rfl, P2⟩ ?_ ?_
  · rintro i σ' H' hi ⟨v5, fs, ls, rfl, hp, hf, a3, b3, c3, o3, S3⟩
    have hll := hp.length_eq
    rw [List.length_append] at hll
    repeat walk_at "ob"
    refine use_takeP ⟨a3, b3, c3, o3, S3⟩ (by omega) (by omega) (by omega) fun r H4 r0 r1 P4 => ?_
    obtain ⟨a4, b4, c4, o4, S4⟩ := P4
    clear S3
    repeat walk_at "ob"
    have hr : r.toNat < ls.length := by omega
    refine g_popA S4 (f := 2) rfl (List.getElem?_eq_getElem hr) r0 r1 (by omega) fun H5 S5 => ?_
    repeat walk_at "ob"
    refine g_appS S5 (f := 1) rfl (by omega) fun H6 S6 => ?_
    repeat walk_at "ob"
    refine ⟨_, fs ++ [ls[r.toNat]], ls.eraseIdx r.toNat, rfl, ?_, by rw [List.length_append, hf]; rfl, a4, b4, c4, o4, S6⟩
    refine List.Perm.trans ?_ hp
    rw [List.append_assoc]
    refine List.Perm.append_left _ ?_
    exact (eraseIdx_perm hr)
  · rintro σ' H' ⟨v5, fs, ls, rfl, hp, hf, P3⟩
    have hll := hp.length_eq
    rw [List.length_append] at hll
    cases List.eq_nil_of_length_eq_zero (show ls.length = 0 by omega)
    rw [List.append_nil] at hp
    repeat walk_at "ob"
    refine k fo fs H' hp ?_
    obtain ⟨a3, b3, c3, o3, S3⟩ := P3
    exact ⟨a3, b3, c3, o3, (S3.perm (List.Perm.cons _ (List.Perm.swap ..))).swap.less⟩
end
end LAW

set_option Elab.async false
set_option linter.all false
set_option maxRecDepth 100000
namespace LAW
open PySem PySem.Spec PyProof.Rows L2 PySem.W OB
local macro_rules | `(tactic| walk_at "obc") => `(tactic| first
  | exact Or.inl ⟨by omega, by omega⟩
  | exact Or.inr ⟨by omega, by omega⟩
  | exact cdiv_ok (by omega) (by omega)
  | (show (0 : Int) < _; omega)
  | exact ⟨by omega, by decide⟩
  | exact ⟨by decide, by decide⟩)
local macro_rules | `(tactic| walk_at "obat") => `(tactic| first
  | exact Sy.at (by assumption) 0 rfl | exact Sy.at (by assumption) 1 rfl | exact Sy.at (by assumption) 2 rfl | exact Sy.at (by assumption) 3 rfl
  | exact Sy.at (by assumption) 4 rfl | exact Sy.at (by assumption) 5 rfl | exact Sy.at (by assumption) 6 rfl | exact Sy.at (by assumption) _ (by assumption) | exact Sy.at (by assumption) (_ + 1) (by assumption) | exact Sy.at (by assumption) (_ + 2) (by assumption))
local macro_rules | `(tactic| walk_at "obt") => `(tactic| first
  | exact Sy.tqs (by assumption) 0 rfl | exact Sy.tqs (by assumption) 1 rfl | exact Sy.tqs (by assumption) 2 rfl | exact Sy.tqs (by assumption) 3 rfl | exact Sy.tqs (by assumption) 4 rfl | exact Sy.tqs (by assumption) 5 rfl
  | exact Sy.tqs (by assumption) 6 rfl | exact Sy.tqs (by assumption) 7 rfl | assumption)
local macro_rules | `(tactic| walk_at "obl") => `(tactic| first
  | exact SqL.of (by walk_at "obat")
  | exact Sy.sq (by assumption) 0 rfl | exact Sy.sq (by assumption) 1 rfl | exact Sy.sq (by assumption) 2 rfl | exact Sy.sq (by assumption) 3 rfl | exact Sy.sq (by assumption) _ (by assumption))
local macro_rules | `(tactic| walk_at "obd") => `(tactic| first
  | exact Dp.int _ | exact Dp.bl _ | exact Dp.str _ | exact Dp.non
  | exact Sy.dp (by assumption) 0 rfl | exact Sy.dp (by assumption) 1 rfl | exact Sy.dp (by assumption) 2 rfl | exact Sy.dp (by assumption) 3 rfl
  | exact Sy.dp (by assumption) 4 rfl | exact Sy.dp (by assumption) 5 rfl | exact Sy.dp (by assumption) 6 rfl | exact Sy.dp (by assumption) 7 rfl
  | exact Sy.dp (by assumption) 8 rfl | exact Sy.dp (by assumption) 9 rfl | exact Sy.dp (by assumption) _ (by assumption) | assumption)
local macro_rules | `(tactic| walk_at "obds") => `(tactic| first
  | exact DpAll.nil
  | (refine' DpAll.cons ?ob1 ?ob2; (case ob1 => walk_at "obd"); (case ob2 => walk_at "obds"))
  | exact Sy.dps (by assumption) 0 rfl | exact Sy.dps (by assumption) 1 rfl | exact Sy.dps (by assumption) 2 rfl | exact Sy.dps (by assumption) 3 rfl | assumption)
local macro_rules | `(tactic| walk_at "obsc") => `(tactic| first
  | exact ScL.nil
  | ((first | refine' ScL.int ?obz | refine' ScL.str ?obz | refine' ScL.bl ?obz | refine' ScL.non ?obz); (case obz => walk_at "obsc")))
local macro_rules | `(tactic| walk_at "ob1") => `(tactic| first
  | ((with_reducible refine' g_var ?obh ?_); (case obh => rfl))
  | with_reducible refine g_c ?_
  | with_reducible refine g_nx ?_
  | with_reducible refine g_rt ?_
  | with_reducible refine g_bk ?_
  | with_reducible refine g_ct ?_
  | with_reducible refine g_op ?_
  | with_reducible refine g_I0 ?_
  | with_reducible refine g_test ?_
  | with_reducible refine g_bl ?_
  | with_reducible refine g_blx ?_
  | with_reducible refine g_B ?_
  | with_reducible refine g_seq ?_
  | with_reducible refine g_asg ?_
  | with_reducible refine g_name ?_
  | with_reducible refine g_ifS ?_
  | with_reducible refine g_ret ?_
  | with_reducible refine g_cb ?_
  | with_reducible refine g_cons ?_
  | with_reducible refine g_nil ?_
  | with_reducible refine g_int ?_
  | with_reducible refine g_intB ?_
  | with_reducible refine g_abs ?_
  | with_reducible refine g_max ?_
  | with_reducible refine g_min ?_
  | with_reducible refine g_un ?_
  | with_reducible refine g_U ?_
  | with_reducible refine g_eqI ?_
  | with_reducible refine g_neI ?_
  | with_reducible refine g_eqS ?_
  | with_reducible refine g_neS ?_
  | with_reducible refine g_tt ?_
  | with_reducible refine g_ff ?_
  | with_reducible refine g_next ?_
  | with_reducible refine g_drop ?_
  | with_reducible refine g_if ?_
  | with_reducible refine g_andV ?_
  | with_reducible refine g_orV ?_
  | with_reducible refine g_notV ?_
  | with_reducible refine g_and ?_
  | with_reducible refine g_or ?_
  | with_reducible refine g_not ?_
  | with_reducible refine g_yes ?_
  | with_reducible refine g_chain ?_
  | with_reducible refine g_cg ?_
  | with_reducible refine g_mg ?_
  | with_reducible refine g_kg ?_
  | with_reducible refine g_pg ?_
  | ((with_reducible refine' g_call ?obh ?obj ?_); (case obh => rfl); (case obj => rfl))
  | with_reducible refine g_par ?_
  | with_reducible refine g_par2 ?_
  | with_reducible refine g_par3 ?_
  | with_reducible refine g_par33 ?_
  | with_reducible refine g_gnil ?_
  | with_reducible refine g_gcons ?_
  | with_reducible refine g_gsub ?_
  | with_reducible refine g_ipI ?_
  | with_reducible refine g_rAdd ?_
  | with_reducible refine g_rSub ?_
  | ((with_reducible refine' g_aug ?obh ?_); (case obh => rfl))
  | with_reducible refine g_tup ?_
  | with_reducible refine g_lst ?_
  | with_reducible refine g_bm ?_
  | with_reducible refine g_bm0 ?_
  | with_reducible refine g_sl ?_
  | with_reducible refine g_nopart ?_
  | with_reducible refine g_part ?_
  | with_reducible refine g_pint ?_
  | with_reducible refine isi_int ?_
  | with_reducible refine isi_intB ?_
  | ((with_reducible refine' g_I ?obh ?_); (case obh => walk_at "obc"))
  | ((with_reducible refine' g_tyl ?obh ?_); (case obh => walk_at "obl"))
  | ((with_reducible refine' g_lenL ?obh ?_); (case obh => walk_at "obl"))
  | with_reducible refine g_ne ?_
  | ((with_reducible refine' g_neN' ?obh ?_); (case obh => rfl))
  | with_reducible refine g_ntt ?_
  | with_reducible refine g_nff ?_
  | with_reducible refine g_star ?_
  | with_reducible refine g_att ?_
  | with_reducible refine g_sfld ?_
  | with_reducible refine g_faug ?_
  | with_reducible refine g_fld ?_
  | ((with_reducible refine' g_nF ?obh ?_); (case obh => omega))
  | ((with_reducible refine' g_nT ?obh ?_); (case obh => omega))
  | ((with_reducible refine' g_TD ?obh ?_); (case obh => omega))
  | ((with_reducible refine' g_FD ?obh ?_); (case obh => omega))
  | ((with_reducible refine' g_ixUL ?obh ?obi ?_); (case obh => walk_at "obl"); (case obi => exact atI_nn (by omega) (by rfl)))
  | ((with_reducible refine' g_setLS ?obs ?obh ?obi ?_); (case obs => assumption); (case obh => assumption); (case obi => rfl); intro _ _ _)
  | ((with_reducible refine' g_newT ?obs ?obh ?obi ?obj ?_); (case obs => assumption); (case obh => walk_at "obds"); (case obi => rfl); (case obj => exact Nat.le_of_ble_eq_true rfl); intro _ _ _ _)
  | ((with_reducible refine' g_newL ?obs ?obj ?_); (case obs => assumption); (case obj => exact Nat.le_of_ble_eq_true rfl); intro _ _ _ _)
  | ((with_reducible refine' isi_tup ?obh ?_); (case obh => walk_at "obt"))
  | ((with_reducible refine' g_lenT ?obh ?_); (case obh => walk_at "obt"))
  | ((with_reducible refine' g_unpT ?obh ?obi ?_); (case obh => walk_at "obt"); (case obi => rfl))
  | ((with_reducible refine' g_divmod ?obs ?obh ?_); (case obs => assumption); (case obh => exact cdivp_ok (by omega) (by omega) (by omega)); intro _ _ _ _)
  | ((with_reducible refine' g_unpD ?obh ?obi ?obj ?_); (case obh => walk_at "obd"); (case obi => walk_at "obsc"); (case obj => rfl))
  | with_reducible refine g_att ?_)
local macro_rules | `(tactic| walk_at "ob") => `(tactic| first
  | walk_at "ob1"
  | refine use_is_integer ?_
  | refine use_is_within ?_
  | with_reducible refine g_lstRg ?_
  | with_reducible refine g_rg1 ?_
  | with_reducible refine g_rg2 ?_
  | with_reducible refine g_tTru ?_
  | ((with_reducible refine' g_truL ?obh ?_); (case obh => walk_at "obl"))
  | ((with_reducible refine' g_ixUT ?obh ?obi ?_); (case obh => walk_at "obt"); (case obi => rfl))
  | with_reducible refine g_forZ ?_
  | with_reducible refine g_forR2 ?_
  | with_reducible refine g_forE ?_
  | with_reducible refine g_lcZ ?_)
local macro_rules | `(tactic| walk_at "ob") => `(tactic| first
  | ((with_reducible refine' g_slS ?obh ?_); (case obh => omega))
  | ((with_reducible refine' g_catS ?obh ?_); (case obh => omega)))
section
variable {P : Program} {w : World} {K : Frag} {mg : Str → Option Value} {base : Heap}
theorem tt_app {F : List (Addr × HO)} {G : List Ft} {H : Hp} {us vs : NS} (S : Sy K F (.tt (NT vs) :: .tt (NT us) :: G) H) : Sy K F (.tt (NT (us ++ vs)) :: G) H := by
  refine S.drop.drop.add (.tt (NT (us ++ vs))) fun q hq => ?_
  obtain ⟨r, hr, rfl⟩ := List.mem_map.mp hq
  rcases List.mem_append.mp hr with hr | hr
  · exact nt_at S (i := 1) rfl hr
  · exact nt_at S (i := 0) rfl hr
theorem NG.app {us vs : NS} (h1 : NG us) (h2 : NG vs) : NG (us ++ vs) := fun r hr => (List.mem_append.mp hr).elim (h1 r) (h2 r)
theorem NG.one {r : Addr × N} (h : NOk r.2) : NG [r] := fun q hq => by rw [List.mem_singleton.mp hq]; exact h
theorem dps_NR {G : List Ft} {F : List (Addr × HO)} {H : Hp} {i : Nat} : ∀ (rs : NS), (∀ q ∈ NT rs, H q.1 = some (.tup q.2)) → DpAll K H (NR rs) (rs.map fun r => nD r.2)
  | [], _ => .nil
  | r :: rs, h => .cons (dp_note (h (r.1, nV r.2) (List.mem_cons_self ..))) (dps_NR (G := G) (F := F) (i := i) rs fun q hq => h q (List.mem_cons_of_mem _ hq))
theorem shaped_NR (rs : NS) (ng : NG rs) : SeqAt.shaped (.list (rs.map fun r => nD r.2)) = true := by
  have h1 : PyData.canLayAll0 (rs.map fun r => nD r.2) = true ∧ PyData.depthAll (rs.map fun r => nD r.2) ≤ 1 := by
    induction rs with
    | nil => exact ⟨rfl, by decide⟩
    | cons r rs ih =>
      obtain ⟨i1, i2⟩ := ih fun q hq => ng q (List.mem_cons_of_mem _ hq)
      refine ⟨?_, ?_⟩
      · show ((nD r.2).canLay0 && PyData.canLayAll0 (rs.map fun r => nD r.2)) = true
        rw [i1, show (nD r.2).canLay0 = true from SeqAt.canLay_of_shaped (shaped_nD (ng r (List.mem_cons_self ..)))]
        rfl
      · show max (nD r.2).depth (PyData.depthAll (rs.map fun r => nD r.2)) ≤ 1
        have : (nD r.2).depth = 1 := rfl
        omega
  show (PyData.canLayAll0 (rs.map fun r => nD r.2) && decide ((PyData.list (rs.map fun r => nD r.2)).depth ≤ 64)) = true
  rw [h1.1, Bool.true_and]
  refine decide_eq_true ?_
  show PyData.depthAll (rs.map fun r => nD r.2) + 1 ≤ 64
  omega
theorem g_tupA {F : List (Addr × HO)} {G : List Ft} {H : Hp} {Q : VK} {l : Addr} {vs : List V} (S : Sy K F G H) (h : SqL K H l vs) (k : ∀ t H', Sy K F (.tq t vs :: G) H' → Q (.ref t) H') : rTuple K [.ref l] H Q :=
  ⟨l, vs, rfl, .inl ⟨h, fun p hp => k p _ ((S.over hp).add (.tq p vs) (.inl (.inl upd_same)))⟩⟩
def sp_law_book (K : Frag) : Sp := fun vs H Q E => vs.length = 2 ∧ ∃ (F : List (Addr × HO)) (G : List Ft) (p : Addr) (n : Nat) (m : Int), vs = [.ref p, .int m] ∧ Pot K F G p n H ∧ n < 500000 ∧ 0 ≤ m ∧ m ≤ 20 ∧ ∀ t us H', NG us → us.length ≤ 20 → Pot K F (.tq t (NR us) :: .tt (NT us) :: G) p (n + 400) H' → Q (.ref t) H'
abbrev names_law_book : List Str := ["pot", "most", "found", "lap"]
theorem sc_law_book : FnScope names_law_book ["pot", "most"] (defScope (top 41)) := ⟨rfl, rfl, rfl, by decide +kernel, rfl, by decide +kernel, by decide +kernel⟩
set_option maxHeartbeats 4000000 in
theorem ok_law_book (T : Tx K mg) : FG P w K mg base CX0 4 T.a_law_book T.d_law_book ["pot", "most"] (sp_law_book K) := by
  refine OB.Fun.fg T.F_law_book sc_law_book (fun vs H Q E h => h.1) (fun cdv A out s H vs Q E g h => ?_)
  obtain ⟨_, F, G, p, n, m, rfl, ⟨a, b, c, o, S⟩, hn, m0, m1, k⟩ := h
  refine ⟨_, (pss_cons (ps_set (i := 2) sc_law_book.nd rfl (by first | exact Or.inl rfl | exact Or.inr rfl) (pe_lst pa_nil))
      (pss_cons (ps_for PassesOwn.never rfl (pi_range1 rfl T.n_range (pa_cons (pe_cg (ok_law_take T) (g.mono (by decide : 1 ≤ 3)) (by rfl) T.m_law_take T.F_law_take.kp (OB.Fun.bd T.F_law_take (ps := ["pot", "upto"]) (n := 2) (ks := []) (ix := [0, 1]) (fun _ _ _ _ _ _ us ws h1 h2 => match us, ws, h1, h2 with | [_, _], [], _, _ => rfl)) pass0 (pa_cons (pv 0) (pa_cons (pe_op op_add (pv 1) pe_int) pa_nil)) pk_nil) pa_nil)) (pg_name (i := 3) sc_law_book.nd rfl (by first | exact Or.inl rfl | exact Or.inr rfl))
      (pss_one (ps_expr (pe_bm PySem.F.plainAttrs_list PySem.F.slot_list_append PySem.F.type_list_append mt_append (pv 2) (pa_cons (pe_ifExp (PW.pt (pw_and (pt_cmpR (op_neD g.hu64) (pv 2) (pe_lst pa_nil) (nomark _)) (pw_and1 (pt_cmpR op_eq (pe_cg (ok_law_take T) (g.mono (by decide : 1 ≤ 3)) (by rfl) T.m_law_take T.F_law_take.kp (OB.Fun.bd T.F_law_take (ps := ["pot", "upto"]) (n := 2) (ks := []) (ix := [0, 1]) (fun _ _ _ _ _ _ us ws h1 h2 => match us, ws, h1, h2 with | [_, _], [], _, _ => rfl)) pass0 (pa_cons (pv 0) (pa_cons pe_int pa_nil)) pk_nil) pe_int (nomark _))))) (pe_cg (ok_law_of T) (g.mono (by decide : 2 ≤ 3)) (by rfl) T.m_law_of T.F_law_of.kp (OB.Fun.bd T.F_law_of (ps := ["pot", "some"]) (n := 2) (ks := []) (ix := [0, 1]) (fun _ _ _ _ _ _ us ws h1 h2 => match us, ws, h1, h2 with | [_, _], [], _, _ => rfl)) pass0 (pa_cons (pv 0) (pa_cons (pv 2) pa_nil)) pk_nil) (pe_cg (ok_law_note T) (g.mono (by decide : 3 ≤ 3)) (by rfl) T.m_law_note T.F_law_note.kp (OB.Fun.bd T.F_law_note (ps := ["pot"]) (n := 1) (ks := []) (ix := [0]) (fun _ _ _ _ _ _ us ws h1 h2 => match us, ws, h1, h2 with | [_], [], _, _ => rfl)) pass0 (pa_cons (pv 0) pa_nil) pk_nil)) pa_nil)))))
      (pss_one (ps_ret (pe_callTy (toK (r := rTuple) (K := K) rfl c_tuple) (by rfl) T.n_tuple (by decide +kernel) (pa_cons (pv 2) pa_nil)))))), ?_⟩
  refine g_start (σ := [some _, some _, none, none]) rfl ?_
  repeat walk_at "ob"
  rename_i fo H1 _ S1
  clear S
  refine g_forR ?_
  repeat walk_at "ob"
  refine use_takeP ⟨a, b, c, o, S1.swap⟩ (by omega) (by omega) (by omega) fun r H2 r0 r1 P2 => ?_
  clear S1
  repeat walk_at "ob"
  refine g_rgJ (by omega) (by omega) ?_
  refine rgfor_of (fun i σ' H' => ∃ v3 us, σ' = [some (.ref p), some (.int m), some (.ref fo), v3] ∧ us.length = i ∧ NG us ∧ Pot K ((fo, .lst (NR us)) :: F) (.tt (NT us) :: G) p (n + 1 + i * 8) H') ⟨none, [], rfl, rfl, fun _ h => (nomatch h), P2.sub (Nat.le_refl _) fun _ _ S => S.add (.tt (NT [])) fun _ h => (nomatch h)⟩ ?_ ?_
  · rintro i σ' H' hi ⟨v3, us, rfl, hu, ng, P3⟩
    obtain ⟨a3, b3, c3, o3, S3⟩ := P3
    repeat ((fail_if_success (with_reducible refine atIf ?_)); walk_at "ob")
    refine via (fun v H' => ∃ r : Addr × N, v = .ref r.1 ∧ NOk r.2 ∧ Pot K ((fo, .lst (NR us)) :: F) (.tt (NT (us ++ [r])) :: G) p (n + 1 + (i + 1) * 8) H') (fun Q' qq => ?_) ?_
    · have new : ∀ H3, Pot K ((fo, .lst (NR us)) :: F) (.tt (NT us) :: G) p (n + 1 + i * 8 + 1) H3 → sp_law_note K [.ref p] H3 Q' E0 := fun H3 P3 => use_noteP P3 (by omega) fun t nn H4 hnn P4 =>
        qq _ _ ⟨(t, nn), rfl, hnn, P4.sub (by omega) fun _ _ S => tt_app (vs := [(t, nn)]) S⟩
      repeat walk_at "ob"
      rename_i nl H3 _ S4
      refine g_neD (.lst (SqL.of (S4.at 2 rfl)) (dps_NR (F := F) (G := G) (i := 0) us (S4.tts 0 rfl))) (.lst (SqL.of (S4.at 0 rfl)) .nil) (shaped_NR us ng) rfl ?_
      repeat walk_at "ob"
      have S5 := S4.less
      clear S4 S3
      cases hus : us with
      | nil =>
        refine g_F rfl ?_
        repeat walk_at "ob"
        refine new _ ?_
        rw [hus] at S5 ⊢
        exact ⟨a3, b3, c3, o3.mono (by omega), S5⟩
      | cons r1 rs =>
        refine g_T rfl ?_
        repeat walk_at "ob"
        refine use_takeP ⟨a3, b3, c3, o3, S5⟩ (by omega) (by omega) (by omega) fun r2 H4 r20 r21 P4 => ?_
        repeat walk_at "ob"
        refine g_iteD (fun h1 => ?_) (fun h1 => ?_)
        · repeat walk_at "ob"
          have hlu : (NR us).length = us.length := List.length_map ..
          have hpos : 0 < us.length := by rw [hus]; exact Nat.succ_pos _
          refine use_ofP P4 (by omega) (by omega) (by omega) fun v hv H5 P5 => ?_
          obtain ⟨q, hq, rfl⟩ := List.mem_map.mp hv
          refine qq _ _ ⟨q, rfl, ng q hq, P5.sub (by omega) fun H6 F6 S => ?_⟩
          refine tt_app (S.add (.tt (NT [q])) fun z hz => ?_)
          rw [List.mem_singleton.mp (show z ∈ [(q.1, nV q.2)] from hz)]
          exact nt_at S (i := 0) rfl hq
        · repeat walk_at "ob"
          exact new _ P4
    clear S3
    rintro v H3 ⟨q, rfl, hq, a4, b4, c4, o4, S4⟩
    repeat walk_at "ob"
    refine g_appS S4 (f := 1) rfl (by rw [show (NR us).length = us.length from List.length_map ..]; omega) fun H5 S5 => ?_
    repeat walk_at "ob"
    refine ⟨_, us ++ [q], rfl, by rw [List.length_append, hu]; rfl, ng.app (NG.one hq), a4, b4, c4, o4, ?_⟩
    rw [show NR (us ++ [q]) = NR us ++ [V.ref q.1] by unfold NR; rw [List.map_append]; rfl]
    exact S5
  · rintro σ' H' ⟨v3, us, rfl, hu, ng, a3, b3, c3, o3, S3⟩
    repeat walk_at "ob"
    refine g_tupA S3 (SqL.of (S3.at 1 rfl)) fun t H4 S4 => ?_
    refine k t us H4 ng (by omega) ⟨a3, b3, c3, o3.mono (by omega), S4.swap.less⟩
end
end LAW

set_option Elab.async false
set_option linter.all false
set_option maxRecDepth 100000
namespace LAW
open PySem PySem.Spec PyProof.Rows L2 PySem.W OB
local macro_rules | `(tactic| walk_at "obc") => `(tactic| first
  | exact Or.inl ⟨by omega, by omega⟩
  | exact Or.inr ⟨by omega, by omega⟩
  | exact cdiv_ok (by omega) (by omega)
  | (show (0 : Int) < _; omega)
  | exact ⟨by omega, by decide⟩
  | exact ⟨by decide, by decide⟩)
local macro_rules | `(tactic| walk_at "obat") => `(tactic| first
  | exact Sy.at (by assumption) 0 rfl | exact Sy.at (by assumption) 1 rfl | exact Sy.at (by assumption) 2 rfl | exact Sy.at (by assumption) 3 rfl
  | exact Sy.at (by assumption) 4 rfl | exact Sy.at (by assumption) 5 rfl | exact Sy.at (by assumption) 6 rfl | exact Sy.at (by assumption) _ (by assumption) | exact Sy.at (by assumption) (_ + 1) (by assumption) | exact Sy.at (by assumption) (_ + 2) (by assumption))
local macro_rules | `(tactic| walk_at "obt") => `(tactic| first
  | exact Sy.tqs (by assumption) 0 rfl | exact Sy.tqs (by assumption) 1 rfl | exact Sy.tqs (by assumption) 2 rfl | exact Sy.tqs (by assumption) 3 rfl | exact Sy.tqs (by assumption) 4 rfl | exact Sy.tqs (by assumption) 5 rfl
  | exact Sy.tqs (by assumption) 6 rfl | exact Sy.tqs (by assumption) 7 rfl | assumption)
local macro_rules | `(tactic| walk_at "obl") => `(tactic| first
  | exact SqL.of (by walk_at "obat")
  | exact Sy.sq (by assumption) 0 rfl | exact Sy.sq (by assumption) 1 rfl | exact Sy.sq (by assumption) 2 rfl | exact Sy.sq (by assumption) 3 rfl | exact Sy.sq (by assumption) _ (by assumption))
local macro_rules | `(tactic| walk_at "obd") => `(tactic| first
  | exact Dp.int _ | exact Dp.bl _ | exact Dp.str _ | exact Dp.non
  | exact Sy.dp (by assumption) 0 rfl | exact Sy.dp (by assumption) 1 rfl | exact Sy.dp (by assumption) 2 rfl | exact Sy.dp (by assumption) 3 rfl
  | exact Sy.dp (by assumption) 4 rfl | exact Sy.dp (by assumption) 5 rfl | exact Sy.dp (by assumption) 6 rfl | exact Sy.dp (by assumption) 7 rfl
  | exact Sy.dp (by assumption) 8 rfl | exact Sy.dp (by assumption) 9 rfl | exact Sy.dp (by assumption) _ (by assumption) | assumption)
local macro_rules | `(tactic| walk_at "obds") => `(tactic| first
  | exact DpAll.nil
  | (refine' DpAll.cons ?ob1 ?ob2; (case ob1 => walk_at "obd"); (case ob2 => walk_at "obds"))
  | exact Sy.dps (by assumption) 0 rfl | exact Sy.dps (by assumption) 1 rfl | exact Sy.dps (by assumption) 2 rfl | exact Sy.dps (by assumption) 3 rfl | assumption)
local macro_rules | `(tactic| walk_at "obsc") => `(tactic| first
  | exact ScL.nil
  | ((first | refine' ScL.int ?obz | refine' ScL.str ?obz | refine' ScL.bl ?obz | refine' ScL.non ?obz); (case obz => walk_at "obsc")))
local macro_rules | `(tactic| walk_at "ob1") => `(tactic| first
  | ((with_reducible refine' g_var ?obh ?_); (case obh => rfl))
  | with_reducible refine g_c ?_
  | with_reducible refine g_nx ?_
  | with_reducible refine g_rt ?_
  | with_reducible refine g_bk ?_
  | with_reducible refine g_ct ?_
  | with_reducible refine g_op ?_
  | with_reducible refine g_I0 ?_
  | with_reducible refine g_test ?_
  | with_reducible refine g_bl ?_
  | with_reducible refine g_blx ?_
  | with_reducible refine g_B ?_
  | with_reducible refine g_seq ?_
  | with_reducible refine g_asg ?_
  | with_reducible refine g_name ?_
  | with_reducible refine g_ifS ?_
  | with_reducible refine g_ret ?_
  | with_reducible refine g_cb ?_
  | with_reducible refine g_cons ?_
  | with_reducible refine g_nil ?_
  | with_reducible refine g_int ?_
  | with_reducible refine g_intB ?_
  | with_reducible refine g_abs ?_
  | with_reducible refine g_max ?_
  | with_reducible refine g_min ?_
  | with_reducible refine g_un ?_
  | with_reducible refine g_U ?_
  | with_reducible refine g_eqI ?_
  | with_reducible refine g_neI ?_
  | with_reducible refine g_eqS ?_
  | with_reducible refine g_neS ?_
  | with_reducible refine g_tt ?_
  | with_reducible refine g_ff ?_
  | with_reducible refine g_next ?_
  | with_reducible refine g_drop ?_
  | with_reducible refine g_if ?_
  | with_reducible refine g_andV ?_
  | with_reducible refine g_orV ?_
  | with_reducible refine g_notV ?_
  | with_reducible refine g_and ?_
  | with_reducible refine g_or ?_
  | with_reducible refine g_not ?_
  | with_reducible refine g_yes ?_
  | with_reducible refine g_chain ?_
  | with_reducible refine g_cg ?_
  | with_reducible refine g_mg ?_
  | with_reducible refine g_kg ?_
  | with_reducible refine g_pg ?_
  | ((with_reducible refine' g_call ?obh ?obj ?_); (case obh => rfl); (case obj => rfl))
  | with_reducible refine g_par ?_
  | with_reducible refine g_par2 ?_
  | with_reducible refine g_par3 ?_
  | with_reducible refine g_par33 ?_
  | with_reducible refine g_gnil ?_
  | with_reducible refine g_gcons ?_
  | with_reducible refine g_gsub ?_
  | with_reducible refine g_ipI ?_
  | with_reducible refine g_rAdd ?_
  | with_reducible refine g_rSub ?_
  | ((with_reducible refine' g_aug ?obh ?_); (case obh => rfl))
  | with_reducible refine g_tup ?_
  | with_reducible refine g_lst ?_
  | with_reducible refine g_bm ?_
  | with_reducible refine g_bm0 ?_
  | with_reducible refine g_sl ?_
  | with_reducible refine g_nopart ?_
  | with_reducible refine g_part ?_
  | with_reducible refine g_pint ?_
  | with_reducible refine isi_int ?_
  | with_reducible refine isi_intB ?_
  | ((with_reducible refine' g_I ?obh ?_); (case obh => walk_at "obc"))
  | ((with_reducible refine' g_tyl ?obh ?_); (case obh => walk_at "obl"))
  | ((with_reducible refine' g_lenL ?obh ?_); (case obh => walk_at "obl"))
  | with_reducible refine g_ne ?_
  | ((with_reducible refine' g_neN' ?obh ?_); (case obh => rfl))
  | with_reducible refine g_ntt ?_
  | with_reducible refine g_nff ?_
  | with_reducible refine g_star ?_
  | with_reducible refine g_att ?_
  | with_reducible refine g_sfld ?_
  | with_reducible refine g_faug ?_
  | with_reducible refine g_fld ?_
  | ((with_reducible refine' g_nF ?obh ?_); (case obh => omega))
  | ((with_reducible refine' g_nT ?obh ?_); (case obh => omega))
  | ((with_reducible refine' g_TD ?obh ?_); (case obh => omega))
  | ((with_reducible refine' g_FD ?obh ?_); (case obh => omega))
  | ((with_reducible refine' g_ixUL ?obh ?obi ?_); (case obh => walk_at "obl"); (case obi => exact atI_nn (by omega) (by rfl)))
  | ((with_reducible refine' g_setLS ?obs ?obh ?obi ?_); (case obs => assumption); (case obh => assumption); (case obi => rfl); intro _ _ _)
  | ((with_reducible refine' g_newT ?obs ?obh ?obi ?obj ?_); (case obs => assumption); (case obh => walk_at "obds"); (case obi => rfl); (case obj => exact Nat.le_of_ble_eq_true rfl); intro _ _ _ _)
  | ((with_reducible refine' g_newL ?obs ?obj ?_); (case obs => assumption); (case obj => exact Nat.le_of_ble_eq_true rfl); intro _ _ _ _)
  | ((with_reducible refine' isi_tup ?obh ?_); (case obh => walk_at "obt"))
  | ((with_reducible refine' g_lenT ?obh ?_); (case obh => walk_at "obt"))
  | ((with_reducible refine' g_unpT ?obh ?obi ?_); (case obh => walk_at "obt"); (case obi => rfl))
  | ((with_reducible refine' g_divmod ?obs ?obh ?_); (case obs => assumption); (case obh => exact cdivp_ok (by omega) (by omega) (by omega)); intro _ _ _ _)
  | ((with_reducible refine' g_unpD ?obh ?obi ?obj ?_); (case obh => walk_at "obd"); (case obi => walk_at "obsc"); (case obj => rfl))
  | with_reducible refine g_att ?_)
local macro_rules | `(tactic| walk_at "ob") => `(tactic| first
  | walk_at "ob1"
  | refine use_is_integer ?_
  | refine use_is_within ?_
  | with_reducible refine g_lstRg ?_
  | with_reducible refine g_rg1 ?_
  | with_reducible refine g_rg2 ?_
  | with_reducible refine g_tTru ?_
  | ((with_reducible refine' g_truL ?obh ?_); (case obh => walk_at "obl"))
  | ((with_reducible refine' g_ixUT ?obh ?obi ?_); (case obh => walk_at "obt"); (case obi => rfl))
  | with_reducible refine g_forZ ?_
  | with_reducible refine g_forR2 ?_
  | with_reducible refine g_forE ?_
  | with_reducible refine g_lcZ ?_)
local macro_rules | `(tactic| walk_at "ob") => `(tactic| first
  | ((with_reducible refine' g_slS ?obh ?_); (case obh => omega))
  | ((with_reducible refine' g_catS ?obh ?_); (case obh => omega)))
section
variable {P : Program} {w : World} {K : Frag} {mg : Str → Option Value} {base : Heap}
theorem perm_map {α β : Type} (f : α → β) {ys zs : List β} (h : ys.Perm zs) : ∀ l : List α, zs = l.map f → ∃ l' : List α, l'.Perm l ∧ ys = l'.map f := by
  induction h with
  | nil =>
    intro l e
    exact ⟨l, .refl _, e⟩
  | cons x h ih =>
    intro l e
    cases l with
    | nil => cases e
    | cons a l =>
      rw [List.map_cons] at e
      obtain ⟨rfl, e2⟩ := List.cons.inj e
      obtain ⟨l', p, e3⟩ := ih l e2
      exact ⟨a :: l', p.cons a, by rw [e3]; rfl⟩
  | swap x y l0 =>
    intro l e
    match l, e with
    | a :: b :: l, e =>
      rw [List.map_cons, List.map_cons] at e
      obtain ⟨rfl, e2⟩ := List.cons.inj e
      obtain ⟨rfl, rfl⟩ := List.cons.inj e2
      exact ⟨b :: a :: l, List.Perm.swap _ _ _, rfl⟩
  | trans h1 h2 ih1 ih2 =>
    intro l e
    obtain ⟨l1, p1, e1⟩ := ih2 l e
    obtain ⟨l2, p2, e2⟩ := ih1 l1 e1
    exact ⟨l2, p2.trans p1, e2⟩
theorem rglc3_of {n : Nat} {F : List (Addr × HO)} {G : List Ft} {σ : L2.St} {H : Hp} {Q : VK} {own : List Nat} {g : TG} {tt : TT} {te : TE} (I : Nat → List (Addr × HO) → List V → List Ft → Prop) (S : Sy K F G H) (h0 : I 0 F [] G) (hl : ∀ i F vs G, I i F vs G → vs.length < 100000)
    (turn : ∀ i, i < n → ∀ (Dp : Addr) (H : Hp) (F : List (Addr × HO)) (G : List Ft) (vs : List V) (QE : VK) (QR : Hp → Prop), I i F vs G → Sy K ((Dp, .lst vs) :: F) G H →
      (∀ y F' G' H', I (i + 1) F' (vs ++ [y]) G' → Sy K ((Dp, .lst vs) :: F') G' H' → QE y H') →
      g (.int (0 + i)) (wipe σ own) H fun σ2 H2 => wipe σ2 own = wipe σ own ∧ tt σ2 H2 fun b H3 => if b = true then te σ2 H3 QE else QR H3)
    (done : ∀ Dp H' F' G' vs, H Dp = none → I n F' vs G' → Sy K ((Dp, .lst vs) :: F') G' H' → Q (.ref Dp) H') : RgLc K g tt te own σ Q n H := fun Dp hD => by
  refine lc_range (lo := 0) (n := n) (fun i H' => ∃ F' vs G', I i F' vs G' ∧ Sy K ((Dp, .lst vs) :: F') G' H') ⟨F, [], G, h0, S.push hD⟩ (fun i H' hi ⟨F', vs, G', hI, S'⟩ => ?_) fun H' ⟨F', vs, G', hI, S'⟩ => done Dp H' F' G' vs hD hI S'
  refine turn i hi Dp H' F' G' vs _ _ hI S' fun y F2 G2 H2 hI2 S2 => ?_
  have lt := hl _ _ _ _ hI2
  rw [List.length_append] at lt
  exact ⟨vs, S2.at 0 rfl, Nat.lt_of_lt_of_le (by omega) (show 100000 ≤ sizeLine by decide), F2, vs ++ [y], G2, hI2, S2.put (o' := .lst (vs ++ [y])) 0 rfl rfl⟩
def sp_law_near_book (K : Frag) : Sp := fun vs H Q E => vs.length = 2 ∧ ∃ (F : List (Addr × HO)) (G : List Ft) (p q : Addr) (n : Nat) (us : NS), vs = [.ref p, .ref q] ∧ Pot K F G p n H ∧ SqT K H q (NR us) ∧ (∀ z ∈ NT us, H z.1 = some (.tup z.2)) ∧ n < 400000 ∧ NG us ∧ us.length ≤ 20 ∧
  ∀ t vs H', NG vs → vs.length ≤ 100 → Pot K F (.tq t (NR vs) :: .tt (NT vs) :: G) p (n + 400) H' → Q (.ref t) H'
abbrev names_law_near_book : List Str := ["pot", "notes", "found", "word", "amount", "way", "other", "lap"]
theorem sc_law_near_book : FnScope names_law_near_book ["pot", "notes"] (defScope (top 40)) := ⟨rfl, rfl, rfl, by decide +kernel, rfl, by decide +kernel, by decide +kernel⟩
set_option maxHeartbeats 4000000 in
theorem ok_law_near_book (T : Tx K mg) : FG P w K mg base CX0 4 T.a_law_near_book T.d_law_near_book ["pot", "notes"] (sp_law_near_book K) := by
  refine OB.Fun.fg T.F_law_near_book sc_law_near_book (fun vs H Q E h => h.1) (fun cdv A out s H vs Q E g h => ?_)
  obtain ⟨_, F, G0, p, q, n, us, rfl, ⟨a, b, c, o, S0⟩, hq, ht, hn, ng, hl, k⟩ := h
  refine ⟨_, (pss_cons (ps_set (i := 2) sc_law_near_book.nd rfl (by first | exact Or.inl rfl | exact Or.inr rfl) (pe_lst pa_nil))
      (pss_cons (ps_for PassesOwn.never rfl (pi_seq (pv 1)) (pg_tupK (K := K) rfl (n := 2) rfl (pgs_cons (pg_name (i := 3) sc_law_near_book.nd rfl (by first | exact Or.inl rfl | exact Or.inr rfl)) (pgs_cons (pg_name (i := 4) sc_law_near_book.nd rfl (by first | exact Or.inl rfl | exact Or.inr rfl)) pgs_nil)))
      (pss_cons (ps_par (i := 5) (j := 6) rfl sc_law_near_book.nd rfl rfl (by decide) rfl rfl (pa_cons (pe_cg (ok_law_take T) (g.mono (by decide : 1 ≤ 3)) (by rfl) T.m_law_take T.F_law_take.kp (OB.Fun.bd T.F_law_take (ps := ["pot", "upto"]) (n := 2) (ks := []) (ix := [0, 1]) (fun _ _ _ _ _ _ us ws h1 h2 => match us, ws, h1, h2 with | [_, _], [], _, _ => rfl)) pass0 (pa_cons (pv 0) (pa_cons pe_int pa_nil)) pk_nil) (pa_cons (pe_cg (ok_law_note T) (g.mono (by decide : 3 ≤ 3)) (by rfl) T.m_law_note T.F_law_note.kp (OB.Fun.bd T.F_law_note (ps := ["pot"]) (n := 1) (ks := []) (ix := [0]) (fun _ _ _ _ _ _ us ws h1 h2 => match us, ws, h1, h2 with | [_], [], _, _ => rfl)) pass0 (pa_cons (pv 0) pa_nil) pk_nil) pa_nil)) (by rfl))
      (pss_cons (ps_if (pt_cmpR op_lt (pv 5) pe_int (nomark _)) (pss_one (ps_expr (pe_bm PySem.F.plainAttrs_list PySem.F.slot_list_append PySem.F.type_list_append mt_append (pv 2) (pa_cons (pe_tup (pa_cons (pv 3) (pa_cons (pv 4) pa_nil))) pa_nil)))) pss_nil)
      (pss_cons (ps_if (pt_cmpR op_eq (pv 5) pe_int (nomark _)) (pss_one (ps_expr (pe_bm PySem.F.plainAttrs_list PySem.F.slot_list_append PySem.F.type_list_append mt_append (pv 2) (pa_cons (pe_tup (pa_cons (pe_ix (ix_UK (K := K) rfl) (pv 6) pe_int (fun _ _ => rfl)) (pa_cons (pv 4) pa_nil))) pa_nil)))) pss_nil)
      (pss_cons (ps_if (pt_cmpR op_eq (pv 5) pe_int (nomark _)) (pss_one (ps_expr (pe_bm PySem.F.plainAttrs_list PySem.F.slot_list_append PySem.F.type_list_append mt_append (pv 2) (pa_cons (pe_tup (pa_cons (pv 3) (pa_cons (pe_ix (ix_UK (K := K) rfl) (pv 6) pe_int (fun _ _ => rfl)) pa_nil))) pa_nil)))) pss_nil)
      (pss_one (ps_if (pt_cmpR op_eq (pv 5) pe_int (nomark _)) (pss_one (ps_expr (pe_bm PySem.F.plainAttrs_list PySem.F.slot_list_append PySem.F.type_list_append mt_append (pv 2) (pa_cons (pv 6) pa_nil)))) pss_nil)))))))
      (pss_cons (ps_expr (pe_bm PySem.F.plainAttrs_list PySem.F.slot_list_extend PySem.F.type_list_extend mt_extend (pv 2) (pa_cons (pe_lc (own := [("lap", 7)]) (tt := tYes) rfl sc_law_near_book.nd (pi_range1 rfl T.n_range (pa_cons (pe_cg (ok_law_take T) (g.mono (by decide : 1 ≤ 3)) (by rfl) T.m_law_take T.F_law_take.kp (OB.Fun.bd T.F_law_take (ps := ["pot", "upto"]) (n := 2) (ks := []) (ix := [0, 1]) (fun _ _ _ _ _ _ us ws h1 h2 => match us, ws, h1, h2 with | [_, _], [], _, _ => rfl)) pass0 (pa_cons (pv 0) (pa_cons pe_int pa_nil)) pk_nil) pa_nil)) (blkOk_by (N := names_law_near_book) (sc := defScope (top 40)) (own := [("lap", 7)]) (by decide +kernel)) (fun _ _ _ _ _ => (pg_name (i := 7) sc_law_near_book.nd rfl (by first | exact Or.inl rfl | exact Or.inr rfl))) (fun _ _ _ _ _ => pts_nil) (fun _ _ _ _ _ => (pe_cg (ok_law_note T) (g.mono (by decide : 3 ≤ 3)) (by rfl) T.m_law_note T.F_law_note.kp (OB.Fun.bd T.F_law_note (ps := ["pot"]) (n := 1) (ks := []) (ix := [0]) (fun _ _ _ _ _ _ us ws h1 h2 => match us, ws, h1, h2 with | [_], [], _, _ => rfl)) pass0 (pa_cons (pv 0) pa_nil) pk_nil))) pa_nil)))
      (pss_one (ps_ret (pe_ifExp (pt_cmpR op_eq (pe_cg (ok_law_take T) (g.mono (by decide : 1 ≤ 3)) (by rfl) T.m_law_take T.F_law_take.kp (OB.Fun.bd T.F_law_take (ps := ["pot", "upto"]) (n := 2) (ks := []) (ix := [0, 1]) (fun _ _ _ _ _ _ us ws h1 h2 => match us, ws, h1, h2 with | [_, _], [], _, _ => rfl)) pass0 (pa_cons (pv 0) (pa_cons pe_int pa_nil)) pk_nil) pe_int (nomark _)) (pe_callTy (toK (r := rTuple) (K := K) rfl c_tuple) (by rfl) T.n_tuple (by decide +kernel) (pa_cons (pe_cg (ok_law_some T) (g.mono (by decide : 2 ≤ 3)) (by rfl) T.m_law_some T.F_law_some.kp (OB.Fun.bd T.F_law_some (ps := ["pot", "pool", "amount"]) (n := 3) (ks := []) (ix := [0, 1, 2]) (fun _ _ _ _ _ _ us ws h1 h2 => match us, ws, h1, h2 with | [_, _, _], [], _, _ => rfl)) pass0 (pa_cons (pv 0) (pa_cons (pv 2) (pa_cons (pe_callB (toK (r := OB.rLen) (K := K) rfl c_len) (by rfl) T.n_len PySem.boot_len (pa_cons (pv 2) pa_nil)) pa_nil))) pk_nil) pa_nil)) (pe_callTy (toK (r := rTuple) (K := K) rfl c_tuple) (by rfl) T.n_tuple (by decide +kernel) (pa_cons (pv 2) pa_nil)))))))), ?_⟩
  refine g_start (σ := [some _, some _, none, none, none, none, none, none]) rfl ?_
  have S := (S0.add (.tt (NT us)) ht).add (.tq q (NR us)) hq
  clear S0
  have hnl : (NR us).length = us.length := List.length_map ..
  repeat walk_at "ob"
  rename_i fo H1 _ S1
  clear S
  refine g_forS (a := q) (xs := NR us) false (fun i σ' H' => ∃ v3 v4 v5 v6 v7 vs, σ' = [some (.ref p), some (.ref q), some (.ref fo), v3, v4, v5, v6, v7] ∧ NG vs ∧ vs.length ≤ 4 * i ∧ Pot K ((fo, .lst (NR vs)) :: F) (.tt (NT vs) :: .tq q (NR us) :: .tt (NT us) :: G0) p (n + i * 8) H') (fun Q' q => by repeat walk_at "ob"; exact q) ⟨none, none, none, none, none, [], rfl, fun _ h => (nomatch h), Nat.le_refl _, a, b, c, o, S1.swap.add (.tt (NT [])) fun _ h => (nomatch h)⟩ (fun i σ' H' ⟨_, _, _, _, _, _, _, _, _, _, _, _, _, S4⟩ => S4.tqs 1 rfl) ?_ ?_
  · rintro i x σ' H' hx ⟨v3, v4, v5, v6, v7, vs, rfl, nv, lv, a3, b3, c3, o3, S3⟩
    obtain ⟨r, hr, rfl⟩ := nr_get hx
    have hi := (List.getElem?_eq_some_iff.mp hr).1
    have hrm := List.mem_of_getElem? hr
    refine g_unpT (vs := [.str r.2.1, .int r.2.2]) (sqt_note (nt_at S3 (i := 2) rfl hrm)) rfl ?_
    repeat walk_at "ob"
    refine use_takeP ⟨a3, b3, c3, o3, S3⟩ (by omega) (by omega) (by omega) fun w8 H4 w0 w1 P4 => ?_
    clear S3
    repeat walk_at "ob"
    refine use_noteP P4 (by omega) fun t2 n2 H5 hn2 P5 => ?_
    clear P4
    obtain ⟨a5, b5, c5, o5, S5⟩ := P5
    have S6 := (S5.add (.tt (NT vs)) (S5.tts 1 rfl)).drop3
    clear S5
    have hrk := ng _ hrm
    repeat ((fail_if_success (with_reducible refine atIfS ?_)); walk_at "ob")
    refine viaS (fun σ' H' => ∃ vs', σ' = [some (.ref p), some (.ref q), some (.ref fo), some (.str r.2.1), some (.int r.2.2), some (.int w8), some (.ref t2), v7] ∧ NG vs' ∧ vs'.length ≤ 4 * i + 1 ∧ Sy K ((p, potO a5 b5 c5) :: (fo, .lst (NR vs')) :: F) (.tt (NT vs') :: .tt [(t2, nV n2)] :: .tq q (NR us) :: .tt (NT us) :: G0) H') (fun NX _ _ _ qq => ?_) ?_
    · have lvs : (NR vs).length = vs.length := List.length_map ..
      repeat walk_at "ob"
      refine g_iteD (fun h1 => ?_) (fun h1 => ?_)
      · repeat ((fail_if_success (with_reducible refine atNewT ?_)); walk_at "ob")
        refine g_newTt S6 (Nat.le_of_ble_eq_true rfl) fun t H6 S7 => ?_
        repeat walk_at "ob"
        refine g_appS S7 (f := 1) rfl (by omega) fun H7 S8 => ?_
        refine qq _ _ ⟨vs ++ [((t, r.2) : Addr × N)], rfl, nv.app (NG.one (r := ((t, r.2) : Addr × N)) hrk), by rw [List.length_append]; show _ + 1 ≤ _; omega, ?_⟩
        have S9 := tt_app (vs := [((t, r.2) : Addr × N)]) S8
        rw [show NR (vs ++ [((t, r.2) : Addr × N)]) = NR vs ++ [V.ref (((t, r.2) : Addr × N)).1] by unfold NR; rw [List.map_append]; rfl]
        exact S9
      · repeat walk_at "ob"
        exact qq _ _ ⟨vs, rfl, nv, by omega, S6⟩
    clear S6 nv lv
    rintro σ' H' ⟨vs, rfl, nv, lv, S6⟩
    refine g_nx ?_
    repeat ((fail_if_success (with_reducible refine atIfS ?_)); walk_at "ob")
    refine viaS (fun σ' H' => ∃ vs', σ' = [some (.ref p), some (.ref q), some (.ref fo), some (.str r.2.1), some (.int r.2.2), some (.int w8), some (.ref t2), v7] ∧ NG vs' ∧ vs'.length ≤ 4 * i + 2 ∧ Sy K ((p, potO a5 b5 c5) :: (fo, .lst (NR vs')) :: F) (.tt (NT vs') :: .tt [(t2, nV n2)] :: .tq q (NR us) :: .tt (NT us) :: G0) H') (fun NX _ _ _ qq => ?_) ?_
    · have lvs : (NR vs).length = vs.length := List.length_map ..
      repeat walk_at "ob"
      refine g_iteD (fun h1 => ?_) (fun h1 => ?_)
      · repeat ((fail_if_success (with_reducible refine atNewT ?_)); walk_at "ob")
        refine g_ixUT (sqt_note (S6.tts 1 rfl _ (List.mem_singleton.mpr rfl))) (v := .str n2.1) (atI_nn (by decide) rfl) ?_
        repeat ((fail_if_success (with_reducible refine atNewT ?_)); walk_at "ob")
        refine g_newTt S6 (Nat.le_of_ble_eq_true rfl) fun t H6 S7 => ?_
        repeat walk_at "ob"
        refine g_appS S7 (f := 1) rfl (by omega) fun H7 S8 => ?_
        refine qq _ _ ⟨vs ++ [((t, (n2.1, r.2.2)) : Addr × N)], rfl, nv.app (NG.one (r := ((t, (n2.1, r.2.2)) : Addr × N)) ⟨hn2.1, hrk.2⟩), by rw [List.length_append]; show _ + 1 ≤ _; omega, ?_⟩
        have S9 := tt_app (vs := [((t, (n2.1, r.2.2)) : Addr × N)]) S8
        rw [show NR (vs ++ [((t, (n2.1, r.2.2)) : Addr × N)]) = NR vs ++ [V.ref (((t, (n2.1, r.2.2)) : Addr × N)).1] by unfold NR; rw [List.map_append]; rfl]
        exact S9
      · repeat walk_at "ob"
        exact qq _ _ ⟨vs, rfl, nv, by omega, S6⟩
    clear S6 nv lv
    rintro σ' H' ⟨vs, rfl, nv, lv, S6⟩
    refine g_nx ?_
    repeat ((fail_if_success (with_reducible refine atIfS ?_)); walk_at "ob")
    refine viaS (fun σ' H' => ∃ vs', σ' = [some (.ref p), some (.ref q), some (.ref fo), some (.str r.2.1), some (.int r.2.2), some (.int w8), some (.ref t2), v7] ∧ NG vs' ∧ vs'.length ≤ 4 * i + 3 ∧ Sy K ((p, potO a5 b5 c5) :: (fo, .lst (NR vs')) :: F) (.tt (NT vs') :: .tt [(t2, nV n2)] :: .tq q (NR us) :: .tt (NT us) :: G0) H') (fun NX _ _ _ qq => ?_) ?_
    · have lvs : (NR vs).length = vs.length := List.length_map ..
      repeat walk_at "ob"
      refine g_iteD (fun h1 => ?_) (fun h1 => ?_)
      · repeat ((fail_if_success (with_reducible refine atNewT ?_)); walk_at "ob")
        refine g_ixUT (sqt_note (S6.tts 1 rfl _ (List.mem_singleton.mpr rfl))) (v := .int n2.2) (atI_nn (by decide) rfl) ?_
        repeat ((fail_if_success (with_reducible refine atNewT ?_)); walk_at "ob")
        refine g_newTt S6 (Nat.le_of_ble_eq_true rfl) fun t H6 S7 => ?_
        repeat walk_at "ob"
        refine g_appS S7 (f := 1) rfl (by omega) fun H7 S8 => ?_
        refine qq _ _ ⟨vs ++ [((t, (r.2.1, n2.2)) : Addr × N)], rfl, nv.app (NG.one (r := ((t, (r.2.1, n2.2)) : Addr × N)) ⟨hrk.1, hn2.2⟩), by rw [List.length_append]; show _ + 1 ≤ _; omega, ?_⟩
        have S9 := tt_app (vs := [((t, (r.2.1, n2.2)) : Addr × N)]) S8
        rw [show NR (vs ++ [((t, (r.2.1, n2.2)) : Addr × N)]) = NR vs ++ [V.ref (((t, (r.2.1, n2.2)) : Addr × N)).1] by unfold NR; rw [List.map_append]; rfl]
        exact S9
      · repeat walk_at "ob"
        exact qq _ _ ⟨vs, rfl, nv, by omega, S6⟩
    clear S6 nv lv
    rintro σ' H' ⟨vs, rfl, nv, lv, S6⟩
    refine g_nx ?_
    repeat ((fail_if_success (with_reducible refine atIfS ?_)); walk_at "ob")
    refine viaS (fun σ' H' => ∃ vs', σ' = [some (.ref p), some (.ref q), some (.ref fo), some (.str r.2.1), some (.int r.2.2), some (.int w8), some (.ref t2), v7] ∧ NG vs' ∧ vs'.length ≤ 4 * i + 4 ∧ Sy K ((p, potO a5 b5 c5) :: (fo, .lst (NR vs')) :: F) (.tt (NT vs') :: .tt [(t2, nV n2)] :: .tq q (NR us) :: .tt (NT us) :: G0) H') (fun NX _ _ _ qq => ?_) ?_
    · have lvs : (NR vs).length = vs.length := List.length_map ..
      repeat walk_at "ob"
      refine g_iteD (fun h1 => ?_) (fun h1 => ?_)
      · repeat ((fail_if_success (with_reducible refine atNewT ?_)); walk_at "ob")
        have S7 := S6.add (.tt (NT [(t2, n2)])) (S6.tts 1 rfl)
        refine g_appS S7 (f := 1) rfl (by omega) fun H7 S8 => ?_
        refine qq _ _ ⟨vs ++ [((t2, n2) : Addr × N)], rfl, nv.app (NG.one (r := ((t2, n2) : Addr × N)) hn2), by rw [List.length_append]; show _ + 1 ≤ _; omega, ?_⟩
        have S9 := tt_app (vs := [((t2, n2) : Addr × N)]) S8
        rw [show NR (vs ++ [((t2, n2) : Addr × N)]) = NR vs ++ [V.ref (((t2, n2) : Addr × N)).1] by unfold NR; rw [List.map_append]; rfl]
        exact S9
      · repeat walk_at "ob"
        exact qq _ _ ⟨vs, rfl, nv, by omega, S6⟩
    clear S6 nv lv
    rintro σ' H' ⟨vs, rfl, nv, lv, S6⟩
    refine g_nx ?_
    repeat ((fail_if_success (with_reducible refine atIfS ?_)); walk_at "ob")
    exact ⟨_, _, _, _, _, vs, rfl, nv, by omega, a5, b5, c5, o5.mono (by omega), S6.drop2⟩
  · rintro σ' H' ⟨v3, v4, v5, v6, v7, vs, rfl, nv, lv, a3, b3, c3, o3, S3⟩
    repeat walk_at "ob"
    refine g_lcR (K := K) ?_
    repeat walk_at "ob"
    refine use_takeP ⟨a3, b3, c3, o3, S3⟩ (by omega) (by omega) (by omega) fun r H4 r0 r1 P4 => ?_
    obtain ⟨a4, b4, c4, o4, S4⟩ := P4
    clear S3 S1
    repeat walk_at "ob"
    refine g_rgJ (by omega) (by omega) ?_
    refine rglc3_of (fun j F' ws G' => ∃ ys a b c, ws = NR ys ∧ NG ys ∧ ys.length = j ∧ j ≤ 2 ∧ PotOk (n + (NR us).length * 8 + 1 + j * 5) a b c ∧ F' = (p, potO a b c) :: (fo, .lst (NR vs)) :: F ∧ G' = .tt (NT ys) :: .tt (NT vs) :: .tq q (NR us) :: .tt (NT us) :: G0) (S4.add (.tt (NT [])) fun _ h => (nomatch h)) ⟨[], _, _, _, rfl, fun _ h => (nomatch h), rfl, by omega, o4, rfl, rfl⟩ (fun j F' ws G' ⟨ys, _, _, _, e1, _, e3, _⟩ => by
      rw [e1, show (NR ys).length = ys.length from List.length_map ..]
      omega) ?_ ?_
    · rintro j hj Dp H5 F5 G5 ws QE QR ⟨ys, a5, b5, c5, rfl, ny, hy, hj2, o5, rfl, rfl⟩ S5 kE
      repeat walk_at "ob"
      refine ⟨rfl, ?_⟩
      repeat walk_at "ob"
      refine use_noteP ⟨a5, b5, c5, o5, S5.swap⟩ (by omega) fun t nn H6 hnn P6 => ?_
      obtain ⟨a6, b6, c6, o6, S6⟩ := P6
      refine kE _ _ _ _ ⟨ys ++ [((t, nn) : Addr × N)], a6, b6, c6, ?_, ny.app (NG.one (r := ((t, nn) : Addr × N)) hnn), by rw [List.length_append, hy]; rfl, by omega, o6.mono (by omega), rfl, rfl⟩ (tt_app (vs := [(t, nn)]) S6.swap)
      unfold NR
      rw [List.map_append]
      rfl
    · rintro Dp H5 F5 G5 ws hD ⟨ys, a5, b5, c5, rfl, ny, hy, hj2, o5, rfl, rfl⟩ S5
      repeat walk_at "ob"
      have lvs : (NR vs).length = vs.length := List.length_map ..
      have lys : (NR ys).length = ys.length := List.length_map ..
      refine g_extS S5 (f := 2) rfl (S5.at 0 rfl) (by omega) fun H6 S6 => ?_
      have S7 := tt_app (us := vs) (vs := ys) S6.less
      clear S4 S5 S6
      rw [show NR vs ++ NR ys = NR (vs ++ ys) by unfold NR; rw [List.map_append]] at S7
      have nvy := nv.app ny
      have lvy : (vs ++ ys).length ≤ 82 := by rw [List.length_append]; omega
      generalize vs ++ ys = zs at S7 nvy lvy
      have lzs : (NR zs).length = zs.length := List.length_map ..
      have S8 : Sy K ((p, potO a5 b5 c5) :: (fo, .lst (NR zs)) :: F) (.tt (NT zs) :: .tq q (NR us) :: .tt (NT us) :: G0) H6 := S7
      clear S7
      repeat ((fail_if_success (with_reducible refine atIf ?_)); walk_at "ob")
      repeat walk_at "ob"
      refine use_takeP ⟨a5, b5, c5, o5, S8⟩ (by omega) (by omega) (by omega) fun r2 H9 r20 r21 P9 => ?_
      obtain ⟨a9, b9, c9, o9, S9⟩ := P9
      clear S8
      repeat walk_at "ob"
      refine g_iteD (fun h1 => ?_) (fun h1 => ?_)
      · repeat walk_at "ob"
        refine ⟨rfl, _, _, p, fo, _, NR zs, rfl, ⟨a9, b9, c9, o9, S9⟩, by omega, by omega, fun t ws H10 hp P10 => ?_⟩
        obtain ⟨zs2, hz, rfl⟩ := perm_map (fun r : Addr × N => V.ref r.1) hp zs rfl
        obtain ⟨a10, b10, c10, o10, S10⟩ := P10
        repeat walk_at "ob"
        refine g_tupA S10 (SqL.of (S10.at 1 rfl)) fun t3 H11 S11 => ?_
        refine k t3 zs2 H11 (fun q hq => nvy q (hz.mem_iff.mp hq)) (by rw [hz.length_eq]; omega) ⟨a10, b10, c10, o10.mono (by omega), ?_⟩
        have S12 := S11.swap.less.swap.less.add (.tt (NT zs2)) fun q hq => by
          obtain ⟨r, hr, rfl⟩ := List.mem_map.mp hq
          exact nt_at S11 (i := 1) rfl (hz.mem_iff.mp hr)
        exact (S12.add (.tq t3 (NR zs2)) (S12.tqs 1 rfl)).facts fun g hg => by
          rcases List.mem_cons.mp hg with rfl | hg
          · exact List.mem_cons_self ..
          rcases List.mem_cons.mp hg with rfl | hg
          · exact List.mem_cons_of_mem _ (List.mem_cons_self ..)
          exact List.mem_cons_of_mem _ (List.mem_cons_of_mem _ (List.mem_append_right [_, _, _, _] hg))
      · repeat walk_at "ob"
        refine g_tupA S9 (SqL.of (S9.at 1 rfl)) fun t3 H11 S11 => ?_
        refine k t3 zs H11 nvy (by omega) ⟨a9, b9, c9, o9.mono (by omega), ?_⟩
        exact S11.swap.less.facts fun g hg => by
          rcases List.mem_cons.mp hg with rfl | hg
          · exact List.mem_cons_self ..
          rcases List.mem_cons.mp hg with rfl | hg
          · exact List.mem_cons_of_mem _ (List.mem_cons_self ..)
          exact List.mem_cons_of_mem _ (List.mem_cons_of_mem _ (List.mem_append_right [_, _] hg))
end
end LAW

set_option Elab.async false
set_option linter.all false
set_option maxRecDepth 100000
namespace LAW
open PySem PySem.Spec PyProof.Rows L2 PySem.W OB
/-! ### texts of bounded length -/
theorem small_nat {i : Nat} (h : i ≤ 1000) : Small 61 0 (.int (i : Int)) := Small.int (by omega)
theorem SmallL.len {n k m : Nat} {xs : List PyData} (h : ∀ x ∈ xs, Small n k x) (hl : xs.length ≤ m) : SmallL ((n + 2) * m) k xs := (SmallL.all h).mono (Nat.mul_le_mul_left _ hl) (Nat.le_refl _)
theorem small_ns {l : List Nat} {m : Nat} (h : ∀ i ∈ l, i ≤ 1000) (hl : l.length ≤ m) : Small (63 * m + 3) 1 (.tuple (nsD l)) := by
  refine Small.tup (SmallL.len (n := 61) (fun x hx => ?_) (by rw [show (nsD l).length = l.length from List.length_map ..]; exact hl))
  obtain ⟨i, hi, rfl⟩ := List.mem_map.mp hx
  exact small_nat (h i hi)
theorem small_ii {l : List (Nat × Nat)} {m : Nat} (h : ∀ q ∈ l, q.1 ≤ 1000 ∧ q.2 ≤ 1000) (hl : l.length ≤ m) : Small (131 * m + 3) 2 (.tuple (iiD l)) := by
  refine Small.tup (SmallL.len (n := 129) (fun x hx => ?_) (by rw [show (iiD l).length = l.length from List.length_map ..]; exact hl))
  obtain ⟨q, hq, rfl⟩ := List.mem_map.mp hx
  obtain ⟨h1, h2⟩ := h q hq
  exact (Small.tup (.cons (small_nat h1) (.cons (small_nat h2) .nil))).mono (by omega) (by omega)
theorem small_pair {one other : List N} (h1 : one.length ≤ 20) (h2 : other.length ≤ 100) : Small 100000 3 (pairD (pairF one other)) := by
  have a1 := pairG_pairs (other := other) (one := one) one.length
  have a2 := pairG_mine (other := other) (one := one) one.length
  have a3 := pairG_left (other := other) (one := one) one.length
  have a4 := pairG_len (other := other) (one := one) one.length
  have a5 := pairG_llen (other := other) (one := one) one.length
  rw [show pairG other one one.length = pairF one other from rfl] at a1 a2 a3 a4 a5
  generalize pairF one other = st at *
  obtain ⟨pp, mm, left⟩ := st
  dsimp only at a1 a2 a3 a4 a5
  have s1 := small_ii (l := pp) (m := 20) (fun q hq => by have := a1 q hq; omega) (by omega)
  have s2 := small_ns (l := mm) (m := 20) (fun i hi => by have := a2 i hi; omega) (by omega)
  have s3 := small_ns (l := left) (m := 100) (fun i hi => by have := a3.2 i hi; omega) (by omega)
  have h := Small.tup (.cons s1 (.cons s2.up (.cons s3.up .nil)))
  exact h.mono (by omega) (by omega)
theorem slip_small (a b : Int) : Small 400 1 (.tuple (sD (slipF a b))) := by
  have key : ∀ c1 c2 c3 c4 c5, ((((lk5 c1 c2 c3 c4 c5).filter (·.2)).map (·.1)).all fun x => decide ((reprText x).length ≤ 72)) = true ∧ (((lk5 c1 c2 c3 c4 c5).filter (·.2)).map (·.1)).length ≤ 5 := by decide +kernel
  obtain ⟨h1, h2⟩ := key (sameF a b && digS a b) (decide (b = 10 * a) || decide (a = 10 * b)) (decide (b = -a)) (sameF a b && decide ((b.natAbs : Int) ∈ swF (fig a))) (decide (b = 2 * a) || decide (a = 2 * b))
  have h := Small.tup (SmallL.len (n := 72) (k := 0) (m := 5) (xs := sD (slipF a b)) (fun x hx => by
    obtain ⟨s, hs, rfl⟩ := List.mem_map.mp hx
    exact Small.str (by simpa using List.all_eq_true.mp h1 s hs)) (by rw [show (sD (slipF a b)).length = (slipF a b).length from List.length_map ..]; exact h2))
  exact h.mono (by omega) (by omega)
theorem slS_small {one other : List N} {i j : Nat} (hi : i ≤ 1000) (hj : j ≤ 1000) : ∀ x ∈ slS one other i j, Small 540 2 x := by
  intro x hx
  unfold slS at hx
  split at hx
  · split at hx
    · split at hx
      · cases hx
      · rw [List.mem_singleton.mp hx]
        exact (Small.tup (.cons ((small_nat hi).up) (.cons ((small_nat hj).up) (.cons (slip_small _ _) .nil)))).mono (by omega) (by omega)
    · cases hx
  · cases hx
theorem small_slIn {one other : List N} (h1 : one.length ≤ 20) (h2 : other.length ≤ 100) : Small 2000000 3 (.tuple (slIn one other)) := by
  have a2 := pairG_mine (other := other) (one := one) one.length
  have a3 := pairG_left (other := other) (one := one) one.length
  have a4 := pairG_len (other := other) (one := one) one.length
  have a5 := pairG_llen (other := other) (one := one) one.length
  unfold slIn
  rw [show pairG other one one.length = pairF one other from rfl] at a2 a3 a4 a5
  generalize pairF one other = st at *
  obtain ⟨pp, mm, left⟩ := st
  dsimp only at a2 a3 a4 a5 ⊢
  have hl : ∀ l : List Nat, (l.flatMap (slI one other left)).length ≤ l.length * 100 := fun l => by
    induction l with
    | nil => exact Nat.zero_le _
    | cons x l ih =>
      rw [List.flatMap_cons, List.length_append, List.length_cons]
      have := slI_len one other left x
      omega
  have := hl mm
  have h := Small.tup (SmallL.len (n := 540) (k := 2) (m := 2000) (xs := mm.flatMap (slI one other left)) (fun x hx => by
    obtain ⟨i, hi, hx⟩ := List.mem_flatMap.mp hx
    obtain ⟨j, hj, hx⟩ := List.mem_flatMap.mp hx
    have b1 := a2 i hi
    have b2 := a3.2 j hj
    exact slS_small (by omega) (by omega) x hx) (by omega))
  exact h.mono (by omega) (by omega)
theorem nodup_sub {α : Type} [DecidableEq α] : ∀ {L M : List α}, L.Nodup → (∀ x ∈ L, x ∈ M) → L.length ≤ M.length
  | [], _, _, _ => Nat.zero_le _
  | x :: L, M, nd, h => by
    rw [List.nodup_cons] at nd
    have hx := h x (List.mem_cons_self ..)
    have ih := nodup_sub (L := L) (M := M.erase x) nd.2 fun y hy => by
      have hne : y ≠ x := fun e => nd.1 (e ▸ hy)
      exact (List.mem_erase_of_ne hne).mpr (h y (List.mem_cons_of_mem _ hy))
    rw [List.length_erase_of_mem hx] at ih
    have := List.length_pos_of_mem hx
    rw [List.length_cons]
    omega
theorem RepOk.sub {notes L : List N} (h : RepOk notes L) : ∀ n ∈ L, n ∈ notes := fun n hn => by
  obtain ⟨a, _, ha⟩ := cnt_mem ((h.mem n).mp hn)
  exact List.mem_of_getElem? ha
theorem cnt_le (notes : List N) (n : N) : cntN notes n ≤ notes.length := by
  unfold cntN partF
  have := List.length_filter_le (fun at_ => decide (notes[at_]? = some n)) (List.range notes.length)
  rw [List.length_range] at this
  exact this
theorem small_rep {notes L : List N} (h : RepOk notes L) (hl : notes.length ≤ 20) (ok : ∀ n ∈ notes, NOk n) : Small 100000 3 (.tuple (L.map (rowN notes))) := by
  have := nodup_sub h.nd h.sub
  refine (Small.tup (SmallL.len (n := 400) (m := 20) (k := 2) (fun x hx => ?_) (by rw [List.length_map]; omega))).mono (by omega) (by omega)
  obtain ⟨n, hn, rfl⟩ := List.mem_map.mp hx
  have o := ok n (h.sub n hn)
  have r := StrLaws.reprText_len n.1 fun c hc => Nat.lt_of_le_of_lt (o.1.2.2 c hc).2 (by decide)
  have rl : n.1.length = n.1.cps.toList.length := by simp [Str.length]
  have r2 := o.1.2.1
  have c := cnt_le notes n
  have s1 : Small 122 0 (.str n.1) := Small.str (by omega)
  have s2 : Small 61 0 (.int n.2) := Small.int (by have := o.2.2; omega)
  have s3 := Small.tup (.cons s1 (.cons s2 .nil))
  have s4 := small_nat (i := cntN notes n) (by omega)
  have h := Small.tup (.cons s3 (.cons s4.up .nil))
  exact h.mono (by omega) (by omega)
end LAW

set_option Elab.async false
set_option linter.all false
set_option maxRecDepth 100000
namespace LAW
open PySem PySem.Spec PyProof.Rows L2 PySem.W OB
/-! ### the law's own counting -/
def cI (notes : List N) (i : Nat) (n : N) : Nat := (partF notes (List.range i) n).length
theorem cI_all (notes : List N) (n : N) : cI notes notes.length n = cntN notes n := rfl
theorem cI_succ (notes : List N) (i : Nat) (n : N) : cI notes (i + 1) n = cI notes i n + if notes[i]? = some n then 1 else 0 := by
  unfold cI partF
  rw [List.range_succ, List.filter_append, List.length_append]
  congr 1
  by_cases h : notes[i]? = some n <;> simp [h]
def cK (notes : List N) (i : Nat) (ms : List N) : List (List L2.Key × V) := ms.map fun n => (nK n, V.int (cI notes i n : Int))
structure CntP (notes : List N) (i : Nat) (ms : List N) : Prop where
  nd : ms.Nodup
  cov : ∀ a, a < i → ∀ n, notes[a]? = some n → n ∈ ms
  len : ms.length ≤ i
theorem CntP.nil (notes : List N) : CntP notes 0 [] := ⟨List.nodup_nil, fun _ h => absurd h (Nat.not_lt_zero _), Nat.le_refl _⟩
theorem cK_some {notes : List N} {i : Nat} {ms : List N} {n : N} (h : n ∈ ms) : valV (cK notes i ms) (nK n) = some (.int (cI notes i n : Int)) := by
  induction ms with
  | nil => cases h
  | cons m ms ih =>
    unfold cK
    rw [List.map_cons]
    by_cases e : m = n
    · subst e
      exact valV_pos rfl
    · rw [valV_neg (fun z => e (nK_inj z))]
      exact ih ((List.mem_cons.mp h).resolve_left fun z => e z.symm)
theorem cK_none {notes : List N} {i : Nat} {ms : List N} {n : N} (h : n ∉ ms) : valV (cK notes i ms) (nK n) = none := by
  induction ms with
  | nil => rfl
  | cons m ms ih =>
    unfold cK
    rw [List.map_cons, valV_neg (fun z => h (by rw [nK_inj z]; exact List.mem_cons_self ..))]
    exact ih fun z => h (List.mem_cons_of_mem _ z)
theorem CntP.zero {notes : List N} {i : Nat} {ms : List N} (c : CntP notes i ms) {n : N} (h : n ∉ ms) : cI notes i n = 0 := by
  unfold cI
  rw [show partF notes (List.range i) n = [] from List.filter_eq_nil_iff.mpr fun a ha e => h (c.cov a (List.mem_range.mp ha) n (by simpa using e))]
  rfl
theorem CntP.get {notes : List N} {i : Nat} {ms : List N} (c : CntP notes i ms) (n : N) : (valV (cK notes i ms) (nK n)).getD (.int 0) = .int (cI notes i n : Int) := by
  by_cases h : n ∈ ms
  · rw [cK_some h]
    rfl
  · rw [cK_none h, c.zero h]
    rfl
theorem CntP.put {notes : List N} {i : Nat} {ms : List N} (c : CntP notes i ms) {n : N} (hn : notes[i]? = some n) : ∃ ms', CntP notes (i + 1) ms' ∧ putK (cK notes i ms) (nK n) (.int ((cI notes i n : Int) + 1)) = cK notes (i + 1) ms' := by
  have other : ∀ m, m ≠ n → cI notes (i + 1) m = cI notes i m := fun m hm => by
    rw [cI_succ, hn, if_neg (fun e => hm (Option.some.inj e).symm)]
    rfl
  have self : ((cI notes i n : Nat) : Int) + 1 = ((cI notes (i + 1) n : Nat) : Int) := by
    rw [cI_succ, hn, if_pos rfl]
    rfl
  by_cases h : n ∈ ms
  · refine ⟨ms, ⟨c.nd, fun a ha m hm => ?_, Nat.le_succ_of_le c.len⟩, ?_⟩
    · by_cases e : a = i
      · subst e
        rw [hn] at hm
        cases hm
        exact h
      · exact c.cov a (by omega) m hm
    · unfold putK
      rw [if_pos (by rw [valV_any, cK_some h]; rfl)]
      unfold cK
      rw [List.map_map]
      refine List.map_congr_left fun m _ => ?_
      by_cases e : m = n
      · subst e
        show (if nK m = nK m then (nK m, V.int ((cI notes i m : Int) + 1)) else _) = _
        rw [if_pos rfl, self]
      · show (if nK m = nK n then _ else (nK m, V.int (cI notes i m : Int))) = _
        rw [if_neg (fun z => e (nK_inj z)), other m e]
  · refine ⟨ms ++ [n], ⟨List.nodup_append.mpr ⟨c.nd, by simp, fun a ha b hb e => h (by rw [← List.mem_singleton.mp hb, ← e]; exact ha)⟩, fun a ha m hm => ?_, by rw [List.length_append]; have := c.len; show _ + 1 ≤ _; omega⟩, ?_⟩
    · by_cases e : a = i
      · subst e
        rw [hn] at hm
        cases hm
        exact List.mem_append_right _ (List.mem_singleton.mpr rfl)
      · exact List.mem_append_left _ (c.cov a (by omega) m hm)
    · rw [putK_new _ (cK_none h)]
      unfold cK
      rw [List.map_append]
      congr 1
      · refine List.map_congr_left fun m hm => ?_
        rw [other m (fun e => h (e ▸ hm))]
      · show [_] = [(nK n, V.int (cI notes (i + 1) n : Int))]
        rw [self]
theorem CntP.rep {notes ms : List N} (c : CntP notes notes.length ms) : RepOk notes ((ms.mergeSort leN).filter fun n => decide (1 < cntN notes n)) := RepOk.of c.nd fun n hn => by
  obtain ⟨a, ha, hna⟩ := cnt_mem hn
  exact c.cov a (List.mem_range.mp ha) n hna
/-! ### sorted(counted) -/
section
variable {K : Frag} {F : List (Addr × HO)} {G : List Ft} {H : Hp} {Q : VK} {d : Addr}
theorem isKeys_len {H : Hp} : ∀ {kvs : List (List L2.Key × V)} {bs : List Addr}, IsKeys H kvs bs → bs.length = kvs.length
  | [], [], .nil => rfl
  | _ :: _, _ :: _, .cons h t => by rw [List.length_cons, List.length_cons, isKeys_len t]
theorem g_sortDTn {notes ms : List N} {i j : Nat} (S : Sy K F G H) (h : F[j]? = some (d, .dT (cK notes i ms))) (hl : ms.length ≤ 1000)
    (k : ∀ p us H', us.map (·.2) = ms.mergeSort leN → Sy K ((p, .lst (NR us)) :: F) (.tt (NT us) :: G) H' → Q (.ref p) H') : rSortDT [.ref d] H Q := by
  have hlen : (cK notes i ms).length = ms.length := List.length_map ..
  refine ⟨d, cK notes i ms, rfl, .inl (S.at j h), by omega, ?_, fun p hp => ?_, fun p hp => ?_, fun p bs hp ik => ?_⟩
  · intro x hx y hy
    obtain ⟨a, ha, rfl⟩ := List.mem_map.mp hx
    obtain ⟨b, hb, rfl⟩ := List.mem_map.mp hy
    obtain ⟨m, _, rfl⟩ := List.mem_map.mp ha
    obtain ⟨n, _, rfl⟩ := List.mem_map.mp hb
    rfl
  · obtain ⟨m, _, rfl⟩ := List.mem_map.mp hp
    exact List.cons_ne_nil _ _
  · obtain ⟨m, _, rfl⟩ := List.mem_map.mp hp
    exact Nat.le_of_ble_eq_true rfl
  · have lb : bs.length = ms.length := (isKeys_len ik).trans hlen
    have ek : (cK notes i ms).map Prod.fst = ms.map nK := by unfold cK; rw [List.map_map]; rfl
    have ez : bs.zip ((cK notes i ms).map Prod.fst) = (bs.zip ms).map fun r => (r.1, nK r.2) := by
      rw [ek, List.zip_map_right]
      rfl
    have es : (bs.zip ((cK notes i ms).map Prod.fst)).mergeSort (dataLe false fun b => kDs b.2) = ((bs.zip ms).mergeSort fun a b => leN a.2 b.2).map fun r => (r.1, nK r.2) := by
      rw [ez]
      exact (sort_maps (fun r : Addr × N => (r.1, nK r.2)) fun a _ b _ => rfl).symm
    have em : ((bs.zip ms).mergeSort fun a b => leN a.2 b.2).map (·.2) = ms.mergeSort leN := by
      rw [sort_maps (r := fun a b : Addr × N => leN a.2 b.2) (s := leN) (fun r : Addr × N => r.2) fun a _ b _ => rfl, List.map_snd_zip (by omega)]
    rw [es, List.map_map]
    generalize hus : ((bs.zip ms).mergeSort fun a b => leN a.2 b.2) = us at em
    refine k p us _ em ((S.push hp).add _ fun q hq => ?_)
    obtain ⟨r, hr, rfl⟩ := List.mem_map.mp hq
    have hz : (r.1, nK r.2) ∈ bs.zip ((cK notes i ms).map Prod.fst) := by
      rw [ez]
      rw [← hus] at hr
      exact List.mem_map.mpr ⟨r, (List.mergeSort_perm _ _).mem_iff.mp hr, rfl⟩
    have e := isKeys_get ik _ hz
    rw [upd_ne (ne_of_none e hp)]
    exact e
theorem g_tDGet {σ : L2.St} {td ty : TE} (k : td σ H fun x H1 => ty σ H1 fun y H2 => rDGet x y H2 Q) : tDGet td ty σ H Q := k
end
end LAW

set_option Elab.async false
set_option linter.all false
set_option maxRecDepth 100000
namespace LAW
open PySem PySem.Spec PyProof.Rows L2 PySem.W OB
local macro_rules | `(tactic| walk_at "obc") => `(tactic| first
  | exact Or.inl ⟨by omega, by omega⟩
  | exact Or.inr ⟨by omega, by omega⟩
  | exact cdiv_ok (by omega) (by omega)
  | (show (0 : Int) < _; omega)
  | exact ⟨by omega, by decide⟩
  | exact ⟨by decide, by decide⟩)
local macro_rules | `(tactic| walk_at "obat") => `(tactic| first
  | exact Sy.at (by assumption) 0 rfl | exact Sy.at (by assumption) 1 rfl | exact Sy.at (by assumption) 2 rfl | exact Sy.at (by assumption) 3 rfl
  | exact Sy.at (by assumption) 4 rfl | exact Sy.at (by assumption) 5 rfl | exact Sy.at (by assumption) 6 rfl | exact Sy.at (by assumption) _ (by assumption) | exact Sy.at (by assumption) (_ + 1) (by assumption) | exact Sy.at (by assumption) (_ + 2) (by assumption))
local macro_rules | `(tactic| walk_at "obt") => `(tactic| first
  | exact Sy.tqs (by assumption) 0 rfl | exact Sy.tqs (by assumption) 1 rfl | exact Sy.tqs (by assumption) 2 rfl | exact Sy.tqs (by assumption) 3 rfl | exact Sy.tqs (by assumption) 4 rfl | exact Sy.tqs (by assumption) 5 rfl
  | exact Sy.tqs (by assumption) 6 rfl | exact Sy.tqs (by assumption) 7 rfl | assumption)
local macro_rules | `(tactic| walk_at "obl") => `(tactic| first
  | exact SqL.of (by walk_at "obat")
  | exact Sy.sq (by assumption) 0 rfl | exact Sy.sq (by assumption) 1 rfl | exact Sy.sq (by assumption) 2 rfl | exact Sy.sq (by assumption) 3 rfl | exact Sy.sq (by assumption) _ (by assumption))
local macro_rules | `(tactic| walk_at "obd") => `(tactic| first
  | exact Dp.int _ | exact Dp.bl _ | exact Dp.str _ | exact Dp.non
  | exact Sy.dp (by assumption) 0 rfl | exact Sy.dp (by assumption) 1 rfl | exact Sy.dp (by assumption) 2 rfl | exact Sy.dp (by assumption) 3 rfl
  | exact Sy.dp (by assumption) 4 rfl | exact Sy.dp (by assumption) 5 rfl | exact Sy.dp (by assumption) 6 rfl | exact Sy.dp (by assumption) 7 rfl
  | exact Sy.dp (by assumption) 8 rfl | exact Sy.dp (by assumption) 9 rfl | exact Sy.dp (by assumption) _ (by assumption) | assumption)
local macro_rules | `(tactic| walk_at "obds") => `(tactic| first
  | exact DpAll.nil
  | (refine' DpAll.cons ?ob1 ?ob2; (case ob1 => walk_at "obd"); (case ob2 => walk_at "obds"))
  | exact Sy.dps (by assumption) 0 rfl | exact Sy.dps (by assumption) 1 rfl | exact Sy.dps (by assumption) 2 rfl | exact Sy.dps (by assumption) 3 rfl | assumption)
local macro_rules | `(tactic| walk_at "obsc") => `(tactic| first
  | exact ScL.nil
  | ((first | refine' ScL.int ?obz | refine' ScL.str ?obz | refine' ScL.bl ?obz | refine' ScL.non ?obz); (case obz => walk_at "obsc")))
local macro_rules | `(tactic| walk_at "ob1") => `(tactic| first
  | ((with_reducible refine' g_var ?obh ?_); (case obh => rfl))
  | with_reducible refine g_c ?_
  | with_reducible refine g_nx ?_
  | with_reducible refine g_rt ?_
  | with_reducible refine g_bk ?_
  | with_reducible refine g_ct ?_
  | with_reducible refine g_op ?_
  | with_reducible refine g_I0 ?_
  | with_reducible refine g_test ?_
  | with_reducible refine g_bl ?_
  | with_reducible refine g_blx ?_
  | with_reducible refine g_B ?_
  | with_reducible refine g_seq ?_
  | with_reducible refine g_asg ?_
  | with_reducible refine g_name ?_
  | with_reducible refine g_ifS ?_
  | with_reducible refine g_ret ?_
  | with_reducible refine g_cb ?_
  | with_reducible refine g_cons ?_
  | with_reducible refine g_nil ?_
  | with_reducible refine g_int ?_
  | with_reducible refine g_intB ?_
  | with_reducible refine g_abs ?_
  | with_reducible refine g_max ?_
  | with_reducible refine g_min ?_
  | with_reducible refine g_un ?_
  | with_reducible refine g_U ?_
  | with_reducible refine g_eqI ?_
  | with_reducible refine g_neI ?_
  | with_reducible refine g_eqS ?_
  | with_reducible refine g_neS ?_
  | with_reducible refine g_tt ?_
  | with_reducible refine g_ff ?_
  | with_reducible refine g_next ?_
  | with_reducible refine g_drop ?_
  | with_reducible refine g_if ?_
  | with_reducible refine g_andV ?_
  | with_reducible refine g_orV ?_
  | with_reducible refine g_notV ?_
  | with_reducible refine g_and ?_
  | with_reducible refine g_or ?_
  | with_reducible refine g_not ?_
  | with_reducible refine g_yes ?_
  | with_reducible refine g_chain ?_
  | with_reducible refine g_cg ?_
  | with_reducible refine g_mg ?_
  | with_reducible refine g_kg ?_
  | with_reducible refine g_pg ?_
  | ((with_reducible refine' g_call ?obh ?obj ?_); (case obh => rfl); (case obj => rfl))
  | with_reducible refine g_par ?_
  | with_reducible refine g_par2 ?_
  | with_reducible refine g_par3 ?_
  | with_reducible refine g_par33 ?_
  | with_reducible refine g_gnil ?_
  | with_reducible refine g_gcons ?_
  | with_reducible refine g_gsub ?_
  | with_reducible refine g_ipI ?_
  | with_reducible refine g_rAdd ?_
  | with_reducible refine g_rSub ?_
  | ((with_reducible refine' g_aug ?obh ?_); (case obh => rfl))
  | with_reducible refine g_tup ?_
  | with_reducible refine g_lst ?_
  | with_reducible refine g_bm ?_
  | with_reducible refine g_bm0 ?_
  | with_reducible refine g_sl ?_
  | with_reducible refine g_nopart ?_
  | with_reducible refine g_part ?_
  | with_reducible refine g_pint ?_
  | with_reducible refine isi_int ?_
  | with_reducible refine isi_intB ?_
  | ((with_reducible refine' g_I ?obh ?_); (case obh => walk_at "obc"))
  | ((with_reducible refine' g_tyl ?obh ?_); (case obh => walk_at "obl"))
  | ((with_reducible refine' g_lenL ?obh ?_); (case obh => walk_at "obl"))
  | with_reducible refine g_ne ?_
  | ((with_reducible refine' g_neN' ?obh ?_); (case obh => rfl))
  | with_reducible refine g_ntt ?_
  | with_reducible refine g_nff ?_
  | with_reducible refine g_star ?_
  | with_reducible refine g_att ?_
  | with_reducible refine g_sfld ?_
  | with_reducible refine g_faug ?_
  | with_reducible refine g_fld ?_
  | ((with_reducible refine' g_nF ?obh ?_); (case obh => omega))
  | ((with_reducible refine' g_nT ?obh ?_); (case obh => omega))
  | ((with_reducible refine' g_TD ?obh ?_); (case obh => omega))
  | ((with_reducible refine' g_FD ?obh ?_); (case obh => omega))
  | ((with_reducible refine' g_ixUL ?obh ?obi ?_); (case obh => walk_at "obl"); (case obi => exact atI_nn (by omega) (by rfl)))
  | ((with_reducible refine' g_setLS ?obs ?obh ?obi ?_); (case obs => assumption); (case obh => assumption); (case obi => rfl); intro _ _ _)
  | ((with_reducible refine' g_newT ?obs ?obh ?obi ?obj ?_); (case obs => assumption); (case obh => walk_at "obds"); (case obi => rfl); (case obj => exact Nat.le_of_ble_eq_true rfl); intro _ _ _ _)
  | ((with_reducible refine' g_newL ?obs ?obj ?_); (case obs => assumption); (case obj => exact Nat.le_of_ble_eq_true rfl); intro _ _ _ _)
  | ((with_reducible refine' isi_tup ?obh ?_); (case obh => walk_at "obt"))
  | ((with_reducible refine' g_lenT ?obh ?_); (case obh => walk_at "obt"))
  | ((with_reducible refine' g_unpT ?obh ?obi ?_); (case obh => walk_at "obt"); (case obi => rfl))
  | ((with_reducible refine' g_divmod ?obs ?obh ?_); (case obs => assumption); (case obh => exact cdivp_ok (by omega) (by omega) (by omega)); intro _ _ _ _)
  | ((with_reducible refine' g_unpD ?obh ?obi ?obj ?_); (case obh => walk_at "obd"); (case obi => walk_at "obsc"); (case obj => rfl))
  | with_reducible refine g_att ?_)
local macro_rules | `(tactic| walk_at "ob") => `(tactic| first
  | walk_at "ob1"
  | refine use_is_integer ?_
  | refine use_is_within ?_
  | with_reducible refine g_lstRg ?_
  | with_reducible refine g_rg1 ?_
  | with_reducible refine g_rg2 ?_
  | with_reducible refine g_tTru ?_
  | ((with_reducible refine' g_truL ?obh ?_); (case obh => walk_at "obl"))
  | ((with_reducible refine' g_ixUT ?obh ?obi ?_); (case obh => walk_at "obt"); (case obi => rfl))
  | with_reducible refine g_forZ ?_
  | with_reducible refine g_forR2 ?_
  | with_reducible refine g_forE ?_
  | with_reducible refine g_lcZ ?_)
local macro_rules | `(tactic| walk_at "ob") => `(tactic| first
  | ((with_reducible refine' g_slS ?obh ?_); (case obh => omega))
  | ((with_reducible refine' g_catS ?obh ?_); (case obh => omega)))
section
variable {P : Program} {w : World} {K : Frag} {mg : Str → Option Value} {base : Heap}
theorem g_filtI {σ : L2.St} {H : Hp} {Q : VK} {F : List (Addr × HO)} {G : List Ft} {tl te : TE} {tt : TT} {own : List Nat} {z j : Nat} {a : Addr} {ns : List Int} (f : Int → Bool) (S : Sy K F G H) (hF : F[j]? = some (a, .lst (ns.map V.int))) (hl : ns.length < 1000) (ht : ∀ Q' : VK, Q' (.ref a) H → tl σ H Q')
    (turn : ∀ (x : Int) (H : Hp) (QE : VK) (QR : Hp → Prop), (f x = true → QE (.int x) H) → (f x = false → QR H) → gName z (.int x) (wipe σ own) H fun σ2 H2 => wipe σ2 own = wipe σ own ∧ tt σ2 H2 fun b H3 => if b = true then te σ2 H3 QE else QR H3)
    (k : ∀ p H', Sy K ((p, .lst ((ns.filter f).map V.int)) :: F) G H' → Q (.ref p) H') : tLc (iSeq K tl) (gName z) tt te own σ H Q := by
  have hn : (ns.map V.int).length = ns.length := List.length_map ..
  refine g_lcS (a := a) (xs := ns.map V.int) true (fun i F' ds => F' = F ∧ ds = ((ns.take i).filter f).map PyData.int ∧ i ≤ ns.length) S ht ⟨rfl, rfl, Nat.zero_le _⟩ (fun i F' ds H' hi S4 => by
      rw [hi.1] at S4
      exact SqL.of (S4.at j hF)) (fun i F' ds hi => by
      rw [hi.2.1, List.length_map]
      refine Nat.lt_of_le_of_lt (List.length_filter_le _ _) ?_
      rw [List.length_take]
      omega) ?_ ?_
  · intro i x hx Dq H4 F2 zs ds QE QR hi S4 kE kR
    obtain ⟨rfl, rfl, hi2⟩ := hi
    rw [List.getElem?_map] at hx
    obtain ⟨n, hn2, rfl⟩ := Option.map_eq_some_iff.mp hx
    have hi3 := (List.getElem?_eq_some_iff.mp hn2).1
    have st : (ns.take (i + 1)).filter f = (ns.take i).filter f ++ if f n = true then [n] else [] := by
      rw [List.take_succ, List.filter_append, hn2]
      by_cases h : f n = true <;> simp [h]
    refine turn n H4 QE QR (fun h => ?_) fun h => ?_
    · refine kE _ (.int n) _ _ ⟨rfl, ?_, hi3⟩ (S4.fact (dps_one (.int _)) rfl)
      rw [st, if_pos h, List.map_append]
      rfl
    · refine kR _ _ ⟨rfl, ?_, hi3⟩ S4
      rw [st, if_neg (by rw [h]; decide), List.append_nil]
  · rintro Dq H4 F2 zs ds hD ⟨rfl, rfl, _⟩ S4
    rw [hn, List.take_of_length_le (Nat.le_refl _)] at S4
    have hv := dps_intsV (S4.dps 0 rfl)
    subst hv
    exact k _ _ S4.drop
theorem atForR {ta : TA} {g : TG} {tb : TS} {D : Ends} {σ : L2.St} {H : Hp} (h : tFor (iRng1 ta) g tb D σ H) : tFor (iRng1 ta) g tb D σ H := h
theorem amt_abs {l : List N} {m : Nat} (hl : l.length ≤ m) (h : ∀ n ∈ l, NOk n) : (amt l).natAbs ≤ m * 1000000000000 := by
  have key : (amt l).natAbs ≤ l.length * 1000000000000 := by
    unfold amt
    clear hl
    induction l with
    | nil => exact Nat.zero_le _
    | cons n l ih =>
      have i := ih fun x hx => h x (List.mem_cons_of_mem _ hx)
      have o := (h n (List.mem_cons_self ..)).2.2
      rw [List.map_cons, List.sum_cons, List.length_cons]
      omega
  exact Nat.le_trans key (Nat.mul_le_mul_right _ hl)
def sp_law_right (K : Frag) : Sp := fun vs H Q E => vs.length = 1 ∧ ∃ (F : List (Addr × HO)) (G : List Ft) (p : Addr) (x y z : Int), vs = [.ref p] ∧ Sy K ((p, potO x y z) :: F) G H ∧ PotOk 0 x y z ∧ ∀ H', Sy K F G H' → Q (.bl true) H'
abbrev names_law_right : List Str := ["pot", "one", "other", "due", "word", "amount", "counted", "note", "twice", "lap", "its", "some", "near", "value"]
theorem sc_law_right : FnScope names_law_right ["pot"] (defScope (top 46)) := ⟨rfl, rfl, rfl, by decide +kernel, rfl, by decide +kernel, by decide +kernel⟩
set_option maxHeartbeats 4000000 in
theorem ok_law_right (T : Tx K mg) : FG P w K mg base CX0 8 T.a_law_right T.d_law_right ["pot"] (sp_law_right K) := by
  refine OB.Fun.fg T.F_law_right sc_law_right (fun vs H Q E h => h.1) (fun cdv A out s H vs Q E g h => ?_)
  obtain ⟨_, F, G0, p, a, b, c, rfl, S0, o0, k⟩ := h
  refine ⟨_, (pss_cons (ps_set (i := 1) sc_law_right.nd rfl (by first | exact Or.inl rfl | exact Or.inr rfl) (pe_cg (ok_law_book T) (g.mono (by decide : 4 ≤ 7)) (by rfl) T.m_law_book T.F_law_book.kp (OB.Fun.bd T.F_law_book (ps := ["pot", "most"]) (n := 2) (ks := []) (ix := [0, 1]) (fun _ _ _ _ _ _ us ws h1 h2 => match us, ws, h1, h2 with | [_, _], [], _, _ => rfl)) pass0 (pa_cons (pv 0) (pa_cons (pe_cg (ok_law_of T) (g.mono (by decide : 2 ≤ 7)) (by rfl) T.m_law_of T.F_law_of.kp (OB.Fun.bd T.F_law_of (ps := ["pot", "some"]) (n := 2) (ks := []) (ix := [0, 1]) (fun _ _ _ _ _ _ us ws h1 h2 => match us, ws, h1, h2 with | [_, _], [], _, _ => rfl)) pass0 (pa_cons (pv 0) (pa_cons (pe_lst (pa_cons pe_int (pa_cons pe_int (pa_cons pe_int pa_nil)))) pa_nil)) pk_nil) pa_nil)) pk_nil))
      (pss_cons (ps_set (i := 2) sc_law_right.nd rfl (by first | exact Or.inl rfl | exact Or.inr rfl) (pe_ifExp (pt_cmpR op_gt (pe_cg (ok_law_take T) (g.mono (by decide : 1 ≤ 7)) (by rfl) T.m_law_take T.F_law_take.kp (OB.Fun.bd T.F_law_take (ps := ["pot", "upto"]) (n := 2) (ks := []) (ix := [0, 1]) (fun _ _ _ _ _ _ us ws h1 h2 => match us, ws, h1, h2 with | [_, _], [], _, _ => rfl)) pass0 (pa_cons (pv 0) (pa_cons pe_int pa_nil)) pk_nil) pe_int (nomark _)) (pe_cg (ok_law_near_book T) (g.mono (by decide : 4 ≤ 7)) (by rfl) T.m_law_near_book T.F_law_near_book.kp (OB.Fun.bd T.F_law_near_book (ps := ["pot", "notes"]) (n := 2) (ks := []) (ix := [0, 1]) (fun _ _ _ _ _ _ us ws h1 h2 => match us, ws, h1, h2 with | [_, _], [], _, _ => rfl)) pass0 (pa_cons (pv 0) (pa_cons (pv 1) pa_nil)) pk_nil) (pe_cg (ok_law_book T) (g.mono (by decide : 4 ≤ 7)) (by rfl) T.m_law_book T.F_law_book.kp (OB.Fun.bd T.F_law_book (ps := ["pot", "most"]) (n := 2) (ks := []) (ix := [0, 1]) (fun _ _ _ _ _ _ us ws h1 h2 => match us, ws, h1, h2 with | [_, _], [], _, _ => rfl)) pass0 (pa_cons (pv 0) (pa_cons pe_int pa_nil)) pk_nil)))
      (pss_cons (ps_if (pt_cmpR op_ne (pe_callB (toK (r := rRepr) (K := K) rfl (call_repr g)) (by rfl) T.n_repr (by decide +kernel) (pa_cons (pe_cg0 (ok_paired T) (g.mono (by decide : 6 ≤ 7)) (by rfl) T.m_paired T.F_paired.kp (OB.Fun.bd T.F_paired (ps := ["one", "other"]) (n := 0) (ks := ["other", "one"]) (ix := [1, 0]) (fun _ _ _ _ _ _ us ws h1 h2 => match us, ws, h1, h2 with | [], [_, _], _, _ => rfl)) pass0 (pk_cons (pv 2) (pk_cons (pv 1) pk_nil))) pa_nil)) (pe_callB (toK (r := rRepr) (K := K) rfl (call_repr g)) (by rfl) T.n_repr (by decide +kernel) (pa_cons (pe_cg (ok_law_paired T) (g.mono (by decide : 1 ≤ 7)) (by rfl) T.m_law_paired T.F_law_paired.kp (OB.Fun.bd T.F_law_paired (ps := ["one", "other"]) (n := 2) (ks := []) (ix := [0, 1]) (fun _ _ _ _ _ _ us ws h1 h2 => match us, ws, h1, h2 with | [_, _], [], _, _ => rfl)) pass0 (pa_cons (pv 1) (pa_cons (pv 2) pa_nil)) pk_nil) pa_nil)) (nomark _)) (pss_one (ps_ret pe_bl)) pss_nil)
      (pss_cons (ps_set (i := 3) sc_law_right.nd rfl (by first | exact Or.inl rfl | exact Or.inr rfl) (pe_op op_sub (pe_callB (toK (r := rSum) (K := K) rfl (cr_sum rfl)) (by rfl) T.n_sum (by decide +kernel) (pa_cons (pe_lc (own := [("word", 4), ("amount", 5)]) (tt := tYes) rfl sc_law_right.nd (pi_seq (pv 1)) (blkOk_by (N := names_law_right) (sc := defScope (top 46)) (own := [("word", 4), ("amount", 5)]) (by decide +kernel)) (fun _ _ _ _ _ => (pg_tupK (K := K) rfl (n := 2) rfl (pgs_cons (pg_name (i := 4) sc_law_right.nd rfl (by first | exact Or.inl rfl | exact Or.inr rfl)) (pgs_cons (pg_name (i := 5) sc_law_right.nd rfl (by first | exact Or.inl rfl | exact Or.inr rfl)) pgs_nil)))) (fun _ _ _ _ _ => pts_nil) (fun _ _ _ _ _ => (pv 5))) pa_nil)) (pe_callB (toK (r := rSum) (K := K) rfl (cr_sum rfl)) (by rfl) T.n_sum (by decide +kernel) (pa_cons (pe_lc (own := [("word", 4), ("amount", 5)]) (tt := tYes) rfl sc_law_right.nd (pi_seq (pv 2)) (blkOk_by (N := names_law_right) (sc := defScope (top 46)) (own := [("word", 4), ("amount", 5)]) (by decide +kernel)) (fun _ _ _ _ _ => (pg_tupK (K := K) rfl (n := 2) rfl (pgs_cons (pg_name (i := 4) sc_law_right.nd rfl (by first | exact Or.inl rfl | exact Or.inr rfl)) (pgs_cons (pg_name (i := 5) sc_law_right.nd rfl (by first | exact Or.inl rfl | exact Or.inr rfl)) pgs_nil)))) (fun _ _ _ _ _ => pts_nil) (fun _ _ _ _ _ => (pv 5))) pa_nil))))
      (pss_cons (ps_if (pt_cmpR op_ne (pe_callB (toK (r := rRepr) (K := K) rfl (call_repr g)) (by rfl) T.n_repr (by decide +kernel) (pa_cons (pe_cg0 (ok_difference T) (g.mono (by decide : 6 ≤ 7)) (by rfl) T.m_difference T.F_difference.kp (OB.Fun.bd T.F_difference (ps := ["one", "other"]) (n := 0) (ks := ["other", "one"]) (ix := [1, 0]) (fun _ _ _ _ _ _ us ws h1 h2 => match us, ws, h1, h2 with | [], [_, _], _, _ => rfl)) pass0 (pk_cons (pv 2) (pk_cons (pv 1) pk_nil))) pa_nil)) (pe_callB (toK (r := rRepr) (K := K) rfl (call_repr g)) (by rfl) T.n_repr (by decide +kernel) (pa_cons (pe_callTy c_int (by rfl) T.n_int (by decide +kernel) (pa_cons (pv 3) pa_nil)) pa_nil)) (nomark _)) (pss_one (ps_ret pe_bl)) pss_nil)
      (pss_cons (ps_set (i := 6) sc_law_right.nd rfl (by first | exact Or.inl rfl | exact Or.inr rfl) pe_dnewT)
      (pss_cons (ps_for PassesOwn.never rfl (pi_seq (pv 1)) (pg_name (i := 7) sc_law_right.nd rfl (by first | exact Or.inl rfl | exact Or.inr rfl))
      (pss_one (ps_asg (pe_op op_add (pe_bm PySem.F.plainAttrs_dict PySem.F.slot_dict_get PySem.F.type_dict_get (mt_getT g.hu1) (pv 6) (pa_cons (pv 7) (pa_cons pe_int pa_nil))) pe_int) (pg_sub (pv 6) (pv 7) (set_dict g.hu1)))))
      (pss_cons (ps_setLc (i := 8) (own := [("note", 7)]) rfl sc_law_right.nd rfl rfl (sw_true rfl rfl rfl (by decide +kernel)) (pi_seq (pe_callB (c_sortDT rfl g.hu64) (by rfl) T.n_sorted (by decide +kernel) (pa_cons (pv 6) pa_nil))) (blkOk_by (N := names_law_right) (sc := defScope (top 46)) (own := [("note", 7)]) (by decide +kernel)) (fun _ _ _ _ _ => (pg_name (i := 7) sc_law_right.nd rfl (by first | exact Or.inl rfl | exact Or.inr rfl))) (fun _ _ _ _ _ => pts_one (pt_cmpR op_gt (pe_dget g.hu1 (pv 6) (pv 7) (fun _ _ => rfl)) pe_int (nomark _))) (fun _ _ _ _ _ => (pe_tup (pa_cons (pv 7) (pa_cons (pe_callTy c_int (by rfl) T.n_int (by decide +kernel) (pa_cons (pe_dget g.hu1 (pv 6) (pv 7) (fun _ _ => rfl)) pa_nil)) pa_nil)))))
      (pss_cons (ps_if (pt_cmpR op_ne (pe_callB (toK (r := rRepr) (K := K) rfl (call_repr g)) (by rfl) T.n_repr (by decide +kernel) (pa_cons (pe_cg0 (ok_repeated T) (g.mono (by decide : 6 ≤ 7)) (by rfl) T.m_repeated T.F_repeated.kp (OB.Fun.bd T.F_repeated (ps := ["notes"]) (n := 0) (ks := ["notes"]) (ix := [0]) (fun _ _ _ _ _ _ us ws h1 h2 => match us, ws, h1, h2 with | [], [_], _, _ => rfl)) pass0 (pk_cons (pv 1) pk_nil)) pa_nil)) (pe_callB (toK (r := rRepr) (K := K) rfl (call_repr g)) (by rfl) T.n_repr (by decide +kernel) (pa_cons (pe_callTy (toK (r := rTuple) (K := K) rfl c_tuple) (by rfl) T.n_tuple (by decide +kernel) (pa_cons (pv 8) pa_nil)) pa_nil)) (nomark _)) (pss_one (ps_ret pe_bl)) pss_nil)
      (pss_cons (ps_if (pt_cmpR op_ne (pe_callB (toK (r := rRepr) (K := K) rfl (call_repr g)) (by rfl) T.n_repr (by decide +kernel) (pa_cons (pe_cg0 (ok_slips_in T) (g.mono (by decide : 7 ≤ 7)) (by rfl) T.m_slips_in T.F_slips_in.kp (OB.Fun.bd T.F_slips_in (ps := ["one", "other"]) (n := 0) (ks := ["other", "one"]) (ix := [1, 0]) (fun _ _ _ _ _ _ us ws h1 h2 => match us, ws, h1, h2 with | [], [_, _], _, _ => rfl)) pass0 (pk_cons (pv 2) (pk_cons (pv 1) pk_nil))) pa_nil)) (pe_callB (toK (r := rRepr) (K := K) rfl (call_repr g)) (by rfl) T.n_repr (by decide +kernel) (pa_cons (pe_cg (ok_law_slips_in T) (g.mono (by decide : 3 ≤ 7)) (by rfl) T.m_law_slips_in T.F_law_slips_in.kp (OB.Fun.bd T.F_law_slips_in (ps := ["one", "other"]) (n := 2) (ks := []) (ix := [0, 1]) (fun _ _ _ _ _ _ us ws h1 h2 => match us, ws, h1, h2 with | [_, _], [], _, _ => rfl)) pass0 (pa_cons (pv 1) (pa_cons (pv 2) pa_nil)) pk_nil) pa_nil)) (nomark _)) (pss_one (ps_ret pe_bl)) pss_nil)
      (pss_cons (ps_for PassesOwn.never rfl (pi_range1 rfl T.n_range (pa_cons pe_int pa_nil)) (pg_name (i := 9) sc_law_right.nd rfl (by first | exact Or.inl rfl | exact Or.inr rfl))
      (pss_cons (ps_par (i := 5) (j := 10) rfl sc_law_right.nd rfl rfl (by decide) rfl rfl (pa_cons (pe_ix (ix_UK (K := K) rfl) (pe_cg (ok_law_note T) (g.mono (by decide : 3 ≤ 7)) (by rfl) T.m_law_note T.F_law_note.kp (OB.Fun.bd T.F_law_note (ps := ["pot"]) (n := 1) (ks := []) (ix := [0]) (fun _ _ _ _ _ _ us ws h1 h2 => match us, ws, h1, h2 with | [_], [], _, _ => rfl)) pass0 (pa_cons (pv 0) pa_nil) pk_nil) pe_int (fun _ _ => rfl)) (pa_cons (pe_ix (ix_UK (K := K) rfl) (pe_cg (ok_law_note T) (g.mono (by decide : 3 ≤ 7)) (by rfl) T.m_law_note T.F_law_note.kp (OB.Fun.bd T.F_law_note (ps := ["pot"]) (n := 1) (ks := []) (ix := [0]) (fun _ _ _ _ _ _ us ws h1 h2 => match us, ws, h1, h2 with | [_], [], _, _ => rfl)) pass0 (pa_cons (pv 0) pa_nil) pk_nil) pe_int (fun _ _ => rfl)) pa_nil)) (by rfl))
      (pss_cons (ps_if (pt_cmpR op_eq (pe_cg (ok_law_take T) (g.mono (by decide : 1 ≤ 7)) (by rfl) T.m_law_take T.F_law_take.kp (OB.Fun.bd T.F_law_take (ps := ["pot", "upto"]) (n := 2) (ks := []) (ix := [0, 1]) (fun _ _ _ _ _ _ us ws h1 h2 => match us, ws, h1, h2 with | [_, _], [], _, _ => rfl)) pass0 (pa_cons (pv 0) (pa_cons pe_int pa_nil)) pk_nil) pe_int (nomark _)) (pss_cons (ps_set (i := 11) sc_law_right.nd rfl (by first | exact Or.inl rfl | exact Or.inr rfl) (pe_op op_cat (pe_lst (pa_cons (pe_op op_mul pe_int (pv 5)) (pa_cons (pe_un un_neg (pv 5)) (pa_cons (pe_op op_mul pe_int (pv 5)) (pa_cons (pe_op op_add (pv 5) pe_int) (pa_cons (pe_op op_add (pe_op op_mul pe_int (pv 5)) pe_int) pa_nil)))))) (pe_cg (ok_law_swapped T) (g.mono (by decide : 1 ≤ 7)) (by rfl) T.m_law_swapped T.F_law_swapped.kp (OB.Fun.bd T.F_law_swapped (ps := ["figures"]) (n := 1) (ks := []) (ix := [0]) (fun _ _ _ _ _ _ us ws h1 h2 => match us, ws, h1, h2 with | [_], [], _, _ => rfl)) pass0 (pa_cons (pe_callTy call_str_int (by rfl) T.n_str (by decide +kernel) (pa_cons (pe_callB c_abs (by rfl) T.n_abs (by decide +kernel) (pa_cons (pv 5) pa_nil)) pa_nil)) pa_nil) pk_nil)))
      (pss_cons (ps_setLc (i := 12) (own := [("value", 13)]) rfl sc_law_right.nd rfl rfl (sw_true rfl rfl rfl (by decide +kernel)) (pi_seq (pv 11)) (blkOk_by (N := names_law_right) (sc := defScope (top 46)) (own := [("value", 13)]) (by decide +kernel)) (fun _ _ _ _ _ => (pg_name (i := 13) sc_law_right.nd rfl (by first | exact Or.inl rfl | exact Or.inr rfl))) (fun _ _ _ _ _ => pts_one (pt_cmpR op_ne (pv 13) pe_int (nomark _))) (fun _ _ _ _ _ => (pe_callTy c_int (by rfl) T.n_int (by decide +kernel) (pa_cons (pv 13) pa_nil))))
      (pss_one (ps_set (i := 10) sc_law_right.nd rfl (by first | exact Or.inl rfl | exact Or.inr rfl) (pe_cg (ok_law_of T) (g.mono (by decide : 2 ≤ 7)) (by rfl) T.m_law_of T.F_law_of.kp (OB.Fun.bd T.F_law_of (ps := ["pot", "some"]) (n := 2) (ks := []) (ix := [0, 1]) (fun _ _ _ _ _ _ us ws h1 h2 => match us, ws, h1, h2 with | [_, _], [], _, _ => rfl)) pass0 (pa_cons (pv 0) (pa_cons (pe_lc (own := [("value", 13)]) rfl sc_law_right.nd (pi_seq (pv 12)) (blkOk_by (N := names_law_right) (sc := defScope (top 46)) (own := [("value", 13)]) (by decide +kernel)) (fun _ _ _ _ _ => (pg_name (i := 13) sc_law_right.nd rfl (by first | exact Or.inl rfl | exact Or.inr rfl))) (fun _ _ _ _ _ => pts_one (pt_cmpR op_le (pe_callB c_abs (by rfl) T.n_abs (by decide +kernel) (pa_cons (pv 13) pa_nil)) (pe_op op_powX pe_int pe_int) (nomark _))) (fun _ _ _ _ _ => (pv 13))) pa_nil)) pk_nil))))) pss_nil)
      (pss_one (ps_if (pt_cmpR op_ne (pe_callB (toK (r := rRepr) (K := K) rfl (call_repr g)) (by rfl) T.n_repr (by decide +kernel) (pa_cons (pe_cg0 (ok_slips_of T) (g.mono (by decide : 5 ≤ 7)) (by rfl) T.m_slips_of T.F_slips_of.kp (OB.Fun.bd T.F_slips_of (ps := ["amount", "its"]) (n := 0) (ks := ["its", "amount"]) (ix := [1, 0]) (fun _ _ _ _ _ _ us ws h1 h2 => match us, ws, h1, h2 with | [], [_, _], _, _ => rfl)) pass0 (pk_cons (pv 10) (pk_cons (pv 5) pk_nil))) pa_nil)) (pe_callB (toK (r := rRepr) (K := K) rfl (call_repr g)) (by rfl) T.n_repr (by decide +kernel) (pa_cons (pe_cg (ok_law_slips T) (g.mono (by decide : 2 ≤ 7)) (by rfl) T.m_law_slips T.F_law_slips.kp (OB.Fun.bd T.F_law_slips (ps := ["amount", "its"]) (n := 2) (ks := []) (ix := [0, 1]) (fun _ _ _ _ _ _ us ws h1 h2 => match us, ws, h1, h2 with | [_, _], [], _, _ => rfl)) pass0 (pa_cons (pv 5) (pa_cons (pv 10) pa_nil)) pk_nil) pa_nil)) (nomark _)) (pss_one (ps_ret pe_bl)) pss_nil)))))
      (pss_one (ps_ret pe_bl))))))))))))), ?_⟩
  refine g_start (σ := [some _, none, none, none, none, none, none, none, none, none, none, none, none, none]) rfl ?_
  repeat walk_at "ob"
  rename_i q1 H1 _ S1
  have P1 : Pot K ((q1, .lst (([3, 8, 20] : List Int).map V.int)) :: F) G0 p 0 H1 := ⟨a, b, c, o0, S1.swap⟩
  clear S0 S1
  refine use_ofP P1 (by omega) (by decide) (by decide) fun v hv H2 P2 => ?_
  obtain ⟨m, hm, rfl⟩ := List.mem_map.mp hv
  have hm : 0 ≤ m ∧ m ≤ 20 := (show ∀ m ∈ ([3, 8, 20] : List Int), 0 ≤ m ∧ m ≤ 20 by decide) m hm
  have P3 := P2.less
  clear P1 P2
  repeat walk_at "ob"
  refine ⟨rfl, F, G0, p, _, m, rfl, P3, by omega, hm.1, hm.2, fun one rs H4 ng hl P4 => ?_⟩
  clear P3
  repeat ((fail_if_success (with_reducible refine atIf ?_)); walk_at "ob")
  refine via (fun v H' => ∃ other ts, v = .ref other ∧ NG ts ∧ ts.length ≤ 100 ∧ Pot K F (.tq other (NR ts) :: .tt (NT ts) :: .tq one (NR rs) :: .tt (NT rs) :: G0) p 1000 H') (fun Q' qq => ?_) ?_
  · repeat walk_at "ob"
    refine use_takeP P4 (by omega) (by decide) (by decide) fun r H5 r0 r1 P5 => ?_
    repeat walk_at "ob"
    refine g_iteD (fun h1 => ?_) (fun h1 => ?_)
    · repeat walk_at "ob"
      obtain ⟨a5, b5, c5, o5, S5⟩ := P5
      refine ⟨rfl, F, _, p, one, _, rs, rfl, ⟨a5, b5, c5, o5, S5⟩, S5.tqs 0 rfl, S5.tts 1 rfl, by omega, ng, hl, fun t ts H6 nt lt P6 => ?_⟩
      exact qq _ _ ⟨t, ts, rfl, nt, lt, P6.mono (by omega)⟩
    · repeat walk_at "ob"
      refine ⟨rfl, F, _, p, _, 8, rfl, P5, by omega, by omega, by omega, fun t ts H6 nt lt P6 => ?_⟩
      exact qq _ _ ⟨t, ts, rfl, nt, by omega, P6.mono (by omega)⟩
  clear P4
  rintro v H5 ⟨other, ts, rfl, nt, lt, a5, b5, c5, o5, S5⟩
  have lr : rs.length ≤ 200 := by omega
  have ltt : ts.length ≤ 200 := by omega
  have lns : (rs.map (·.2)).length = rs.length := List.length_map ..
  have lms : (ts.map (·.2)).length = ts.length := List.length_map ..
  have hnr : (NR rs).length = rs.length := List.length_map ..
  repeat walk_at "ob"
  refine use_paired S5 (S5.tqs 2 rfl) (S5.tts 3 rfl) (S5.tqs 0 rfl) (S5.tts 1 rfl) ng nt lr ltt fun t1 H6 S6 => ?_
  repeat walk_at "ob"
  refine g_reprS (S6.dp 0 rfl) (small_pair (by omega) (by omega)) (by decide) (by decide) ?_
  repeat walk_at "ob"
  refine use_lpaired S6 (S6.tqs 3 rfl) (S6.tts 4 rfl) (S6.tqs 1 rfl) (S6.tts 2 rfl) ng nt lr ltt fun t2 H7 S7 => ?_
  repeat walk_at "ob"
  refine g_reprS (S7.dp 0 rfl) (small_pair (by omega) (by omega)) (by decide) (by decide) ?_
  have S8 := S7.drop.drop
  clear S5 S6 S7
  repeat walk_at "ob"
  refine g_amounts (i := 4) (j := 5) S8 (fun Q' q => by repeat walk_at "ob"; exact q) (S8.tqs 2 rfl) (S8.tts 3 rfl) lr (fun _ _ => rfl) (fun _ _ => rfl) fun p1 H3 S9 => ?_
  repeat walk_at "ob"
  refine g_sum (SqL.of (S9.at 0 rfl)) ?_
  have S10 := S9.less
  repeat walk_at "ob"
  refine g_amounts (i := 4) (j := 5) S10 (fun Q' q => by repeat walk_at "ob"; exact q) (S10.tqs 0 rfl) (S10.tts 1 rfl) ltt (fun _ _ => rfl) (fun _ _ => rfl) fun p2 H9 S11 => ?_
  repeat walk_at "ob"
  refine g_sum (SqL.of (S11.at 0 rfl)) ?_
  have S12 := S11.less
  clear S8 S9 S10 S11
  repeat walk_at "ob"
  refine ⟨rfl, _, _, one, other, rs, ts, rfl, S12, S12.tqs 2 rfl, S12.tts 3 rfl, S12.tqs 0 rfl, S12.tts 1 rfl, ng, nt, lr, ltt, fun H10 S13 => ?_⟩
  clear S12
  have hda := amt_abs (l := rs.map (·.2)) (m := 200) (by omega) (fun n hn => by obtain ⟨r, hr, rfl⟩ := List.mem_map.mp hn; exact ng r hr)
  have hdb := amt_abs (l := ts.map (·.2)) (m := 200) (by omega) (fun n hn => by obtain ⟨r, hr, rfl⟩ := List.mem_map.mp hn; exact nt r hr)
  repeat walk_at "ob"
  refine g_reprS (.int _) (Small.int (by omega)) (by decide) (by decide) ?_
  repeat walk_at "ob"
  refine g_reprS (.int _) (Small.int (by show (amt (rs.map (·.2)) - amt (ts.map (·.2))).natAbs < _; omega)) (by decide) (by decide) ?_
  repeat walk_at "ob"
  refine g_ne ?_
  generalize hN : rs.map (fun r : Addr × N => r.2) = notes at *
  repeat walk_at "ob"
  intro d hd
  have S14 : Sy K ((d, .dT (cK notes 0 [])) :: (p, potO a5 b5 c5) :: F) _ _ := S13.push (o := .dT []) hd
  clear S13
  repeat walk_at "ob"
  refine g_forS (a := one) (xs := NR rs) false (fun i σ' H' => ∃ v7 ms, σ' = [some (.ref p), some (.ref one), some (.ref other), some (.int (amt notes - amt (ts.map (fun r : Addr × N => r.2)))), none, none, some (.ref d), v7, none, none, none, none, none, none] ∧ CntP notes i ms ∧ i ≤ rs.length ∧ Sy K ((d, .dT (cK notes i ms)) :: (p, potO a5 b5 c5) :: F) (.tq other (NR ts) :: .tt (NT ts) :: .tq one (NR rs) :: .tt (NT rs) :: G0) H') (fun Q' q => by repeat walk_at "ob"; exact q) ⟨none, [], rfl, CntP.nil _, Nat.zero_le _, S14⟩ (fun i σ' H' ⟨_, _, _, _, _, S4⟩ => S4.tqs 2 rfl) ?_ ?_
  · rintro i x σ' H' hx ⟨v7, ms, rfl, cn, hi, S3⟩
    obtain ⟨r, hr, rfl⟩ := nr_get hx
    have hrm := List.mem_of_getElem? hr
    have hi2 := (List.getElem?_eq_some_iff.mp hr).1
    have hno : notes[i]? = some r.2 := by rw [← hN, List.getElem?_map, hr]; rfl
    have hcl := cn.len
    clear S14
    repeat walk_at "ob"
    refine g_tydT (S3.at 0 rfl) ?_
    repeat walk_at "ob"
    have hb : H' r.1 = some (.tup ((nK r.2).map kV)) := nt_at S3 (i := 3) rfl hrm
    refine g_getT (k := nK r.2) (.inl (S3.at 0 rfl)) hb ?_
    rw [cn.get]
    obtain ⟨ms2, cn2, e2⟩ := cn.put hno
    repeat walk_at "ob"
    refine g_setDT (i := 0) S3 rfl hb (by rw [show (cK notes i ms).length = ms.length from List.length_map ..]; omega) fun H4 S4 => ?_
    rw [e2] at S4
    exact ⟨_, ms2, rfl, cn2, hi2, S4⟩
  rintro σ' H11 ⟨v7, ms, rfl, cn, hi, S15⟩
  clear S14
  rw [hnr, ← lns] at cn S15
  repeat walk_at "ob"
  refine g_lcE2 ?_
  repeat walk_at "ob"
  have hcl := cn.len
  refine g_sortDTn S15 (j := 0) rfl (by omega) fun ps us H12 hus S16 => ?_
  clear S15
  repeat walk_at "ob"
  have hul : us.length = ms.length := by
    rw [← List.length_map (f := fun r : Addr × N => r.2), hus, List.length_mergeSort]
  have hcov : ∀ r ∈ us, r.2 ∈ ms := fun r hr => by
    have : r.2 ∈ us.map (·.2) := List.mem_map.mpr ⟨r, hr, rfl⟩
    rw [hus] at this
    exact (List.mergeSort_perm _ _).mem_iff.mp this
  refine g_lcS (a := ps) (xs := NR us) true (fun i F' ds => F' = (ps, .lst (NR us)) :: (d, .dT (cK notes notes.length ms)) :: (p, potO a5 b5 c5) :: F ∧ ds = (((us.map (fun r : Addr × N => r.2)).take i).filter fun n => decide (1 < cntN notes n)).map (rowN notes) ∧ i ≤ us.length) S16 (fun Q' q => by repeat walk_at "ob"; exact q) ⟨rfl, rfl, Nat.zero_le _⟩ (fun i F' ds H' hi S4 => by
      rw [hi.1] at S4
      exact SqL.of (S4.at 0 rfl)) (fun i F' ds hi => by
      rw [hi.2.1, List.length_map]
      refine Nat.lt_of_le_of_lt (List.length_filter_le _ _) ?_
      rw [List.length_take, List.length_map]
      omega) ?_ ?_
  · intro i x hx Dq H4 F2 zs ds QE QR hi S4 kE kR
    obtain ⟨rfl, rfl, hi2⟩ := hi
    obtain ⟨r, hr, rfl⟩ := nr_get hx
    have hrm := List.mem_of_getElem? hr
    have hi3 := (List.getElem?_eq_some_iff.mp hr).1
    have hrn : (us.map (fun r : Addr × N => r.2))[i]? = some r.2 := by rw [List.getElem?_map, hr]; rfl
    have hb : H4 r.1 = some (.tup ((nK r.2).map kV)) := nt_at S4 (i := 1) rfl hrm
    have hv : valV (cK notes notes.length ms) (nK r.2) = some (.int (cntN notes r.2 : Int)) := cK_some (hcov r hrm)
    clear S16
    repeat walk_at "ob"
    refine ⟨rfl, ?_⟩
    refine g_test (g_op (g_tDGet ?_))
    repeat walk_at "ob"
    refine g_dgetT (.inl (S4.at 2 rfl)) hb hv ?_
    repeat walk_at "ob"
    refine g_iteD (fun h1 => ?_) (fun h1 => ?_)
    · repeat ((fail_if_success (with_reducible refine atNewT ?_)); walk_at "ob")
      refine g_tDGet ?_
      repeat walk_at "ob"
      refine g_dgetT (.inl (S4.at 2 rfl)) hb hv ?_
      repeat ((fail_if_success (with_reducible refine atNewT ?_)); walk_at "ob")
      refine g_newT S4 (.cons (dp_note hb) (.cons (.int _) .nil)) rfl (Nat.le_of_ble_eq_true rfl) fun T2 H5 _ S5 => ?_
      refine kE _ (rowN notes r.2) _ _ ⟨rfl, ?_, hi3⟩ S5
      rw [List.take_succ, List.filter_append, List.map_append, hrn]
      simp [show 1 < cntN notes r.2 by omega]
    · refine kR _ _ ⟨rfl, ?_, hi3⟩ S4
      rw [List.take_succ, List.filter_append, List.map_append, hrn]
      simp [show ¬ 1 < cntN notes r.2 by omega]
  rintro Dq H13 F2 zs ds hD ⟨rfl, rfl, _⟩ S17
  clear S16
  rw [show (NR us).length = us.length from List.length_map .., List.take_of_length_le (by rw [List.length_map]; exact Nat.le_refl _), hus] at S17
  have hrep := cn.rep
  generalize ((ms.mergeSort leN).filter fun n => decide (1 < cntN notes n)) = L0 at S17 hrep
  have S18 : Sy K ((Dq, .lst zs) :: (p, potO a5 b5 c5) :: F) (.dat zs (L0.map (rowN notes)) :: .tq other (NR ts) :: .tt (NT ts) :: .tq one (NR rs) :: .tt (NT rs) :: G0) H13 := by
    have S19 := (S17.perm (F' := (ps, .lst (NR us)) :: (d, .dT (cK notes notes.length ms)) :: (Dq, .lst zs) :: (p, potO a5 b5 c5) :: F) ((List.Perm.cons _ (List.Perm.swap ..)).trans (List.Perm.swap ..))).less.less
    exact S19.drop2
  clear S17
  repeat walk_at "ob"
  refine ⟨rfl, _, _, one, rs, rfl, S18, S18.tqs 3 rfl, S18.tts 4 rfl, ng, lr, fun L t H14 hL S19 => ?_⟩
  rw [hN] at hL S19
  obtain rfl := hL.uniq hrep
  clear S18
  have okn : ∀ n ∈ notes, NOk n := fun n hn => by
    rw [← hN] at hn
    obtain ⟨r, hr, rfl⟩ := List.mem_map.mp hn
    exact ng r hr
  repeat walk_at "ob"
  refine g_reprS (S19.dp 0 rfl) (small_rep hL (by omega) okn) (by decide) (by decide) ?_
  repeat walk_at "ob"
  refine g_tup0 S19 (SqL.of (S19.at 0 rfl)) (S19.dps 1 rfl) (S19.dpi 1 rfl) fun t3 H15 _ S20 => ?_
  repeat walk_at "ob"
  refine g_reprS (S20.dp 0 rfl) (small_rep hL (by omega) okn) (by decide) (by decide) ?_
  repeat walk_at "ob"
  have S21 := S20.less.drop.drop.drop
  clear S19 S20
  repeat walk_at "ob"
  refine ⟨rfl, _, _, one, other, rs, ts, rfl, S21, S21.tqs 2 rfl, S21.tts 3 rfl, S21.tqs 0 rfl, S21.tts 1 rfl, ng, nt, lr, ltt, fun t6 H6 S6 => ?_⟩
  have hss : Small 2000000 3 (.tuple (slIn (rs.map (fun r : Addr × N => r.2)) (ts.map (fun r : Addr × N => r.2)))) := small_slIn (by rw [List.length_map]; omega) (by rw [List.length_map]; omega)
  generalize hsl : slIn (rs.map (fun r : Addr × N => r.2)) (ts.map (fun r : Addr × N => r.2)) = sl at *
  repeat walk_at "ob"
  refine g_reprS (S6.dp 0 rfl) hss (by decide) (by decide) ?_
  repeat walk_at "ob"
  refine ⟨rfl, _, _, one, other, rs, ts, rfl, S6, S6.tqs 3 rfl, S6.tts 4 rfl, S6.tqs 1 rfl, S6.tts 2 rfl, ng, nt, lr, ltt, fun t7 H7 S7 => ?_⟩
  clear S21
  rw [hsl] at S7
  repeat walk_at "ob"
  refine g_reprS (S7.dp 0 rfl) hss (by decide) (by decide) ?_
  repeat ((fail_if_success (with_reducible refine atForR ?_)); walk_at "ob")
  have P8 : Pot K F G0 p 1000 H7 := ⟨a5, b5, c5, o5, S7.drop.drop.drop.drop.drop.drop⟩
  clear S6 S7 o5 hss hsl okn hL hrep cn hcl hus hul hcov hD hi hd hda hdb lns hN hnr lms lr ltt lt nt hl ng hm hv o0
  generalize amt notes - amt (ts.map (fun r : Addr × N => r.2)) = due
  refine g_forR ?_
  repeat walk_at "ob"
  refine g_rgJ (by omega) (by omega) ?_
  refine rgfor_of (fun i σ' H' => ∃ v5 v9 v10 v11 v12, σ' = [some (.ref p), some (.ref one), some (.ref other), some (.int due), none, v5, some (.ref d), v7, some (.ref Dq), v9, v10, v11, v12, none] ∧ Pot K F G0 p (1000 + i * 20) H') ⟨none, none, none, none, none, rfl, P8⟩ ?_ ?_
  · rintro i σ' H' hi ⟨v5, v9, v10, v11, v12, rfl, P9⟩
    clear P8
    have hi8 : i < 8 := hi
    repeat walk_at "ob"
    refine use_noteP P9 (by omega) fun t nn H4 hnn P10 => ?_
    obtain ⟨a10, b10, c10, o10, S10⟩ := P10
    repeat walk_at "ob"
    refine g_ixUT (sqt_note (n := nn) (S10.tts 0 rfl _ (List.mem_singleton.mpr rfl))) (v := .int nn.2) (atI_nn (by decide) rfl) ?_
    have P11 : Pot K F G0 p (1000 + i * 20 + 5) H4 := ⟨a10, b10, c10, o10, S10.drop⟩
    clear S10 P9
    repeat walk_at "ob"
    refine use_noteP P11 (by omega) fun t' n' H5 hn' P12 => ?_
    obtain ⟨a12, b12, c12, o12, S12⟩ := P12
    repeat walk_at "ob"
    refine g_ixUT (sqt_note (n := n') (S12.tts 0 rfl _ (List.mem_singleton.mpr rfl))) (v := .int n'.2) (atI_nn (by decide) rfl) ?_
    have P13 : Pot K F G0 p (1000 + i * 20 + 10) H5 := ⟨a12, b12, c12, o12, S12.drop⟩
    clear S12 P11
    obtain ⟨hx0, hx1, hx2⟩ := hnn.2
    obtain ⟨hy0, hy1, hy2⟩ := hn'.2
    generalize nn.2 = x at *
    generalize n'.2 = y at *
    repeat ((fail_if_success (with_reducible refine atIfS ?_)); walk_at "ob")
    refine viaS (fun σ' H' => ∃ (y' : Int) (v11 v12 : Option V), σ' = [some (.ref p), some (.ref one), some (.ref other), some (.int due), none, some (.int x), some (.ref d), v7, some (.ref Dq), some (.int (0 + (i : Int))), some (.int y'), v11, v12, none] ∧ y' ≠ 0 ∧ y'.natAbs ≤ 1000000000000 ∧ Pot K F G0 p (1000 + i * 20 + 12) H') (fun NX _ _ _ qq => ?_) ?_
    · repeat walk_at "ob"
      refine use_takeP P13 (by omega) (by decide) (by decide) fun r H6 r0 r1 P14 => ?_
      obtain ⟨a14, b14, c14, o14, S14⟩ := P14
      repeat walk_at "ob"
      refine g_iteD (fun h1 => ?_) (fun h1 => ?_)
      · repeat walk_at "ob"
        refine ⟨_, rfl, by rw [abs_nat, Int.natAbs_natCast]; exact log2_small (by omega), ?_⟩
        rw [str_fig]
        repeat walk_at "ob"
        rename_i ql H7 _ S16
        clear S14
        refine use_lswapped S16 (by omega) fun p17 H8 S17 => ?_
        have hsw : (swF (fig x)).length ≤ 14 := by
          have h1 := swG_len (fig x) ((fig x).length - 1)
          have h2 := fig_len (a := x) (by omega)
          show (swG _ _).length ≤ 14
          omega
        generalize swF (fig x) = sw at S17 hsw
        refine g_cat S17 (i := 1) (j := 0) rfl rfl (by rw [List.length_map]; show 5 + _ ≤ 100000; omega) fun pc H9 S18 => ?_
        have S19 : Sy K ((pc, .lst (([10 * x, -x, 2 * x, x + 1, 10 * x + 1] ++ sw).map V.int)) :: (p, potO a14 b14 c14) :: F) G0 H9 := by
          have := (S18.perm (F' := (p17, _) :: (ql, _) :: (pc, _) :: (p, potO a14 b14 c14) :: F) ((List.Perm.cons _ (List.Perm.swap ..)).trans (List.Perm.swap ..))).less.less
          rw [List.map_append]
          exact this
        clear S16 S17 S18
        have hml : -x ∈ [10 * x, -x, 2 * x, x + 1, 10 * x + 1] ++ sw := List.mem_append_left _ (by simp)
        have hll : ([10 * x, -x, 2 * x, x + 1, 10 * x + 1] ++ sw).length ≤ 19 := by rw [List.length_append]; show 5 + _ ≤ 19; omega
        generalize [10 * x, -x, 2 * x, x + 1, 10 * x + 1] ++ sw = ns at S19 hml hll
        repeat walk_at "ob"
        refine g_filtI (fun v => decide (v ≠ 0)) S19 (j := 0) rfl (by omega) (fun Q' q => by repeat walk_at "ob"; exact q) (fun v H QE QR h1 h2 => ?_) fun p20 H10 S20 => ?_
        · repeat walk_at "ob"
          refine ⟨rfl, ?_⟩
          repeat walk_at "ob"
          by_cases hv : v ≠ 0
          · rw [if_pos (decide_eq_true hv)]
            repeat walk_at "ob"
            exact h1 (decide_eq_true hv)
          · rw [if_neg (by rw [decide_eq_false hv]; decide)]
            exact h2 (decide_eq_false hv)
        repeat walk_at "ob"
        refine g_filtI (fun v => decide ((v.natAbs : Int) ≤ 1000000000000)) S20 (j := 0) rfl (by have := List.length_filter_le (fun v => decide (v ≠ 0)) ns; omega) (fun Q' q => by repeat walk_at "ob"; exact q) (fun v H QE QR h1 h2 => ?_) fun p21 H11 S21 => ?_
        · repeat walk_at "ob"
          refine ⟨rfl, ?_⟩
          repeat walk_at "ob"
          rw [abs_nat, show (10 : Int) ^ Int.toNat 12 = 1000000000000 from by decide]
          by_cases hv : (v.natAbs : Int) ≤ 1000000000000
          · rw [if_pos (decide_eq_true hv)]
            repeat walk_at "ob"
            exact h1 (decide_eq_true hv)
          · rw [if_neg (by rw [decide_eq_false hv]; decide)]
            exact h2 (decide_eq_false hv)
        repeat walk_at "ob"
        have hfl : 0 < (((ns.filter fun v => decide (v ≠ 0)).filter fun v => decide ((v.natAbs : Int) ≤ 1000000000000)).map V.int).length := by
          rw [List.length_map]
          refine List.length_pos_of_mem (a := -x) (List.mem_filter.mpr ⟨List.mem_filter.mpr ⟨hml, by simp; omega⟩, by simp; omega⟩)
        have hfu : (((ns.filter fun v => decide (v ≠ 0)).filter fun v => decide ((v.natAbs : Int) ≤ 1000000000000)).map V.int).length < 2000000 := by
          rw [List.length_map]
          have h1 := List.length_filter_le (fun v : Int => decide ((v.natAbs : Int) ≤ 1000000000000)) (ns.filter fun v => decide (v ≠ 0))
          have h2 := List.length_filter_le (fun v => decide (v ≠ 0)) ns
          omega
        have S22 := (S21.perm (F' := (p20, _) :: (pc, _) :: (p, potO a14 b14 c14) :: (p21, _) :: F) (by
          refine List.Perm.trans ?_ (List.Perm.swap ..)
          refine List.Perm.cons _ ?_
          refine List.Perm.trans ?_ (List.Perm.swap ..)
          exact List.Perm.cons _ (List.Perm.swap ..))).less.less
        refine use_ofP ⟨a14, b14, c14, o14, S22⟩ (by omega) hfl hfu fun v hv H12 P23 => ?_
        obtain ⟨y', hy', rfl⟩ := List.mem_map.mp hv
        have hm1 := List.mem_filter.mp hy'
        have hm2 := List.mem_filter.mp hm1.1
        repeat walk_at "ob"
        refine qq _ _ ⟨y', _, _, rfl, by simpa using hm2.2, by have := hm1.2; simp at this; omega, P23.less⟩
      · repeat walk_at "ob"
        exact qq _ _ ⟨y, _, _, rfl, hy0, by omega, a14, b14, c14, o14.mono (by omega), S14⟩
    clear P13
    rintro σ' H6 ⟨y', v11, v12, rfl, hz0, hz1, a15, b15, c15, o15, S15⟩
    repeat walk_at "ob"
    refine ⟨rfl, _, _, x, y', rfl, S15, hx0, hz0, by omega, by omega, fun t1 H7 S16 => ?_⟩
    have hsm := slip_small x y'
    generalize hsl2 : slipF x y' = sl2 at *
    repeat walk_at "ob"
    refine g_reprS (S16.dp 0 rfl) hsm (by decide) (by decide) ?_
    repeat walk_at "ob"
    refine ⟨rfl, _, _, x, y', rfl, S16, hx0, hz0, by omega, by omega, fun t2 H8 S17 => ?_⟩
    rw [hsl2] at S17
    repeat walk_at "ob"
    refine g_reprS (S17.dp 0 rfl) hsm (by decide) (by decide) ?_
    repeat walk_at "ob"
    exact ⟨_, _, _, _, _, rfl, a15, b15, c15, o15.mono (by omega), S17.drop.drop⟩
  · rintro σ' H' ⟨v5, v9, v10, v11, v12, rfl, P9⟩
    repeat walk_at "ob"
    obtain ⟨a9, b9, c9, o9, S9⟩ := P9
    exact k _ S9.less
end
end LAW

set_option Elab.async false
set_option linter.all false
set_option maxRecDepth 100000
namespace LAW
open PySem PySem.Spec PyProof.Rows L2 PySem.W OB
local macro_rules | `(tactic| walk_at "obc") => `(tactic| first
  | exact Or.inl ⟨by omega, by omega⟩
  | exact Or.inr ⟨by omega, by omega⟩
  | exact cdiv_ok (by omega) (by omega)
  | (show (0 : Int) < _; omega)
  | exact ⟨by omega, by decide⟩
  | exact ⟨by decide, by decide⟩)
local macro_rules | `(tactic| walk_at "obat") => `(tactic| first
  | exact Sy.at (by assumption) 0 rfl | exact Sy.at (by assumption) 1 rfl | exact Sy.at (by assumption) 2 rfl | exact Sy.at (by assumption) 3 rfl
  | exact Sy.at (by assumption) 4 rfl | exact Sy.at (by assumption) 5 rfl | exact Sy.at (by assumption) 6 rfl | exact Sy.at (by assumption) _ (by assumption) | exact Sy.at (by assumption) (_ + 1) (by assumption) | exact Sy.at (by assumption) (_ + 2) (by assumption))
local macro_rules | `(tactic| walk_at "obt") => `(tactic| first
  | exact Sy.tqs (by assumption) 0 rfl | exact Sy.tqs (by assumption) 1 rfl | exact Sy.tqs (by assumption) 2 rfl | exact Sy.tqs (by assumption) 3 rfl | exact Sy.tqs (by assumption) 4 rfl | exact Sy.tqs (by assumption) 5 rfl
  | exact Sy.tqs (by assumption) 6 rfl | exact Sy.tqs (by assumption) 7 rfl | assumption)
local macro_rules | `(tactic| walk_at "obl") => `(tactic| first
  | exact SqL.of (by walk_at "obat")
  | exact Sy.sq (by assumption) 0 rfl | exact Sy.sq (by assumption) 1 rfl | exact Sy.sq (by assumption) 2 rfl | exact Sy.sq (by assumption) 3 rfl | exact Sy.sq (by assumption) _ (by assumption))
local macro_rules | `(tactic| walk_at "obd") => `(tactic| first
  | exact Dp.int _ | exact Dp.bl _ | exact Dp.str _ | exact Dp.non
  | exact Sy.dp (by assumption) 0 rfl | exact Sy.dp (by assumption) 1 rfl | exact Sy.dp (by assumption) 2 rfl | exact Sy.dp (by assumption) 3 rfl
  | exact Sy.dp (by assumption) 4 rfl | exact Sy.dp (by assumption) 5 rfl | exact Sy.dp (by assumption) 6 rfl | exact Sy.dp (by assumption) 7 rfl
  | exact Sy.dp (by assumption) 8 rfl | exact Sy.dp (by assumption) 9 rfl | exact Sy.dp (by assumption) _ (by assumption) | assumption)
local macro_rules | `(tactic| walk_at "obds") => `(tactic| first
  | exact DpAll.nil
  | (refine' DpAll.cons ?ob1 ?ob2; (case ob1 => walk_at "obd"); (case ob2 => walk_at "obds"))
  | exact Sy.dps (by assumption) 0 rfl | exact Sy.dps (by assumption) 1 rfl | exact Sy.dps (by assumption) 2 rfl | exact Sy.dps (by assumption) 3 rfl | assumption)
local macro_rules | `(tactic| walk_at "obsc") => `(tactic| first
  | exact ScL.nil
  | ((first | refine' ScL.int ?obz | refine' ScL.str ?obz | refine' ScL.bl ?obz | refine' ScL.non ?obz); (case obz => walk_at "obsc")))
local macro_rules | `(tactic| walk_at "ob1") => `(tactic| first
  | ((with_reducible refine' g_var ?obh ?_); (case obh => rfl))
  | with_reducible refine g_c ?_
  | with_reducible refine g_nx ?_
  | with_reducible refine g_rt ?_
  | with_reducible refine g_bk ?_
  | with_reducible refine g_ct ?_
  | with_reducible refine g_op ?_
  | with_reducible refine g_I0 ?_
  | with_reducible refine g_test ?_
  | with_reducible refine g_bl ?_
  | with_reducible refine g_blx ?_
  | with_reducible refine g_B ?_
  | with_reducible refine g_seq ?_
  | with_reducible refine g_asg ?_
  | with_reducible refine g_name ?_
  | with_reducible refine g_ifS ?_
  | with_reducible refine g_ret ?_
  | with_reducible refine g_cb ?_
  | with_reducible refine g_cons ?_
  | with_reducible refine g_nil ?_
  | with_reducible refine g_int ?_
  | with_reducible refine g_intB ?_
  | with_reducible refine g_abs ?_
  | with_reducible refine g_max ?_
  | with_reducible refine g_min ?_
  | with_reducible refine g_un ?_
  | with_reducible refine g_U ?_
  | with_reducible refine g_eqI ?_
  | with_reducible refine g_neI ?_
  | with_reducible refine g_eqS ?_
  | with_reducible refine g_neS ?_
  | with_reducible refine g_tt ?_
  | with_reducible refine g_ff ?_
  | with_reducible refine g_next ?_
  | with_reducible refine g_drop ?_
  | with_reducible refine g_if ?_
  | with_reducible refine g_andV ?_
  | with_reducible refine g_orV ?_
  | with_reducible refine g_notV ?_
  | with_reducible refine g_and ?_
  | with_reducible refine g_or ?_
  | with_reducible refine g_not ?_
  | with_reducible refine g_yes ?_
  | with_reducible refine g_chain ?_
  | with_reducible refine g_cg ?_
  | with_reducible refine g_mg ?_
  | with_reducible refine g_kg ?_
  | with_reducible refine g_pg ?_
  | ((with_reducible refine' g_call ?obh ?obj ?_); (case obh => rfl); (case obj => rfl))
  | with_reducible refine g_par ?_
  | with_reducible refine g_par2 ?_
  | with_reducible refine g_par3 ?_
  | with_reducible refine g_par33 ?_
  | with_reducible refine g_gnil ?_
  | with_reducible refine g_gcons ?_
  | with_reducible refine g_gsub ?_
  | with_reducible refine g_ipI ?_
  | with_reducible refine g_rAdd ?_
  | with_reducible refine g_rSub ?_
  | ((with_reducible refine' g_aug ?obh ?_); (case obh => rfl))
  | with_reducible refine g_tup ?_
  | with_reducible refine g_lst ?_
  | with_reducible refine g_bm ?_
  | with_reducible refine g_bm0 ?_
  | with_reducible refine g_sl ?_
  | with_reducible refine g_nopart ?_
  | with_reducible refine g_part ?_
  | with_reducible refine g_pint ?_
  | with_reducible refine isi_int ?_
  | with_reducible refine isi_intB ?_
  | ((with_reducible refine' g_I ?obh ?_); (case obh => walk_at "obc"))
  | ((with_reducible refine' g_tyl ?obh ?_); (case obh => walk_at "obl"))
  | ((with_reducible refine' g_lenL ?obh ?_); (case obh => walk_at "obl"))
  | with_reducible refine g_ne ?_
  | ((with_reducible refine' g_neN' ?obh ?_); (case obh => rfl))
  | with_reducible refine g_ntt ?_
  | with_reducible refine g_nff ?_
  | with_reducible refine g_star ?_
  | with_reducible refine g_att ?_
  | with_reducible refine g_sfld ?_
  | with_reducible refine g_faug ?_
  | with_reducible refine g_fld ?_
  | ((with_reducible refine' g_nF ?obh ?_); (case obh => omega))
  | ((with_reducible refine' g_nT ?obh ?_); (case obh => omega))
  | ((with_reducible refine' g_TD ?obh ?_); (case obh => omega))
  | ((with_reducible refine' g_FD ?obh ?_); (case obh => omega))
  | ((with_reducible refine' g_ixUL ?obh ?obi ?_); (case obh => walk_at "obl"); (case obi => exact atI_nn (by omega) (by rfl)))
  | ((with_reducible refine' g_setLS ?obs ?obh ?obi ?_); (case obs => assumption); (case obh => assumption); (case obi => rfl); intro _ _ _)
  | ((with_reducible refine' g_newT ?obs ?obh ?obi ?obj ?_); (case obs => assumption); (case obh => walk_at "obds"); (case obi => rfl); (case obj => exact Nat.le_of_ble_eq_true rfl); intro _ _ _ _)
  | ((with_reducible refine' g_newL ?obs ?obj ?_); (case obs => assumption); (case obj => exact Nat.le_of_ble_eq_true rfl); intro _ _ _ _)
  | ((with_reducible refine' isi_tup ?obh ?_); (case obh => walk_at "obt"))
  | ((with_reducible refine' g_lenT ?obh ?_); (case obh => walk_at "obt"))
  | ((with_reducible refine' g_unpT ?obh ?obi ?_); (case obh => walk_at "obt"); (case obi => rfl))
  | ((with_reducible refine' g_divmod ?obs ?obh ?_); (case obs => assumption); (case obh => exact cdivp_ok (by omega) (by omega) (by omega)); intro _ _ _ _)
  | ((with_reducible refine' g_unpD ?obh ?obi ?obj ?_); (case obh => walk_at "obd"); (case obi => walk_at "obsc"); (case obj => rfl))
  | with_reducible refine g_att ?_)
local macro_rules | `(tactic| walk_at "ob") => `(tactic| first
  | walk_at "ob1"
  | refine use_is_integer ?_
  | refine use_is_within ?_
  | with_reducible refine g_lstRg ?_
  | with_reducible refine g_rg1 ?_
  | with_reducible refine g_rg2 ?_
  | with_reducible refine g_tTru ?_
  | ((with_reducible refine' g_truL ?obh ?_); (case obh => walk_at "obl"))
  | ((with_reducible refine' g_ixUT ?obh ?obi ?_); (case obh => walk_at "obt"); (case obi => rfl))
  | with_reducible refine g_forZ ?_
  | with_reducible refine g_forR2 ?_
  | with_reducible refine g_forE ?_
  | with_reducible refine g_lcZ ?_)
section
variable {P : Program} {w : World} {K : Frag} {mg : Str → Option Value} {base : Heap}
def sp_law (K : Frag) : Sp := fun vs H Q E => vs.length = 1 ∧ ∃ (a : Addr) (ns : List Int), vs = [.ref a] ∧ Sy K [] [.sq a (ns.map V.int)] H ∧ ns.length ≤ 63 ∧ ∀ H', Q (.bl true) H'
abbrev names_law : List Str := ["script", "place"]
theorem sc_law : FnScope names_law ["script"] (defScope (top 47)) := ⟨rfl, rfl, rfl, by decide +kernel, rfl, by decide +kernel, by decide +kernel⟩
set_option maxHeartbeats 4000000 in
theorem ok_law (T : Tx K mg) : FG P w K mg base CX0 9 T.a_law T.d_law ["script"] (sp_law K) := by
  refine OB.Fun.fg T.F_law sc_law (fun vs H Q E h => h.1) (fun cdv A out s H vs Q E g h => ?_)
  obtain ⟨_, a, ns, rfl, S, hn, k⟩ := h
  refine ⟨_, (pss_one (ps_ret (pe_callB (toK (r := rAll) (K := K) rfl (cr_all rfl)) (by rfl) T.n_all (by decide +kernel) (pa_cons (pe_lc (own := [("place", 1)]) (tt := tYes) rfl sc_law.nd (pi_seq (pe_cg (ok_law_cells T) (g.mono (by decide : 1 ≤ 8)) (by rfl) T.m_law_cells T.F_law_cells.kp (OB.Fun.bd T.F_law_cells (ps := ["script", "most"]) (n := 2) (ks := []) (ix := [0, 1]) (fun _ _ _ _ _ _ us ws h1 h2 => match us, ws, h1, h2 with | [_, _], [], _, _ => rfl)) pass0 (pa_cons (pv 0) (pa_cons pe_int pa_nil)) pk_nil)) (blkOk_by (N := names_law) (sc := defScope (top 47)) (own := [("place", 1)]) (by decide +kernel)) (fun _ _ _ _ _ => (pg_name (i := 1) sc_law.nd rfl (by first | exact Or.inl rfl | exact Or.inr rfl))) (fun _ _ _ _ _ => pts_nil) (fun _ _ _ _ _ => (pe_cg (ok_law_right T) (g.mono (by decide : 8 ≤ 8)) (by rfl) T.m_law_right T.F_law_right.kp (OB.Fun.bd T.F_law_right (ps := ["pot"]) (n := 1) (ks := []) (ix := [0]) (fun _ _ _ _ _ _ us ws h1 h2 => match us, ws, h1, h2 with | [_], [], _, _ => rfl)) pass0 (pa_cons (pe_cg (ok_law_pot T) (g.mono (by decide : 1 ≤ 8)) (by rfl) T.m_law_pot T.F_law_pot.kp (OB.Fun.bd T.F_law_pot (ps := ["script", "place"]) (n := 2) (ks := []) (ix := [0, 1]) (fun _ _ _ _ _ _ us ws h1 h2 => match us, ws, h1, h2 with | [_, _], [], _, _ => rfl)) pass0 (pa_cons (pv 0) (pa_cons (pv 1) pa_nil)) pk_nil) pa_nil) pk_nil))) pa_nil)))), ?_⟩
  refine g_start (σ := [some _, none]) rfl ?_
  repeat walk_at "ob"
  refine g_lcE2 ?_
  repeat walk_at "ob"
  refine ⟨rfl, [], [], a, ns, 3, rfl, S, hn, by decide, by decide, fun ms p H1 hms hml S1 => ?_⟩
  repeat walk_at "ob"
  refine g_lcS (a := p) (xs := ms.map V.int) true (fun i F' ds => F' = [(p, .lst (ms.map V.int))] ∧ ds = List.replicate i (.bool true) ∧ i ≤ ms.length) S1 (fun Q' q => q) ⟨rfl, rfl, Nat.zero_le _⟩ (fun i F' ds H' hi S3 => SqL.of ((hi.1 ▸ S3).at 0 rfl)) (fun i F' ds hi => by
      rw [hi.2.1, List.length_replicate]
      omega) ?_ ?_
  · intro i x hx Dp H2 F2 vs ds QE QR hi S3 kE kR
    obtain ⟨rfl, rfl, hi2⟩ := hi
    have hi3 : i < ms.length := by
      have := (List.getElem?_eq_some_iff.mp hx).1
      rw [List.length_map] at this
      exact this
    rw [List.getElem?_map] at hx
    obtain ⟨m, hm, rfl⟩ := Option.map_eq_some_iff.mp hx
    obtain ⟨m0, m1⟩ := hms m (List.mem_of_getElem? hm)
    repeat walk_at "ob"
    refine ⟨rfl, ?_⟩
    repeat walk_at "ob"
    refine ⟨rfl, _, _, a, ns, m, rfl, S3.add (.sq a (ns.map V.int)) (S3.ft _ (by simp)), hn, m0, m1, fun x y z q H4 o S4 => ?_⟩
    repeat walk_at "ob"
    refine ⟨rfl, _, _, q, x, y, z, rfl, S4, o, fun H5 S5 => ?_⟩
    repeat walk_at "ob"
    exact kE _ (.bool true) _ _ ⟨rfl, by rw [List.replicate_succ'], hi3⟩ (S5.drop.fact (dps_one (L2.Dp.bl true)) rfl)
  · rintro Dp H2 F2 vs ds hD ⟨rfl, rfl, _⟩ S3
    have hv : vs = (List.replicate (ms.map V.int).length true).map V.bl := by
      rw [dps_scal (S3.dps 0 rfl) fun d hd => by rw [(List.mem_replicate.mp hd).2]; rfl, List.map_replicate, List.map_replicate]
      rfl
    subst hv
    repeat walk_at "ob"
    refine g_all (by walk_at "obl") ?_
    have e : ((List.replicate (ms.map V.int).length true).all id) = true := List.all_eq_true.mpr fun b hb => (List.mem_replicate.mp hb).2
    rw [e]
    exact k H2
end
theorem sy_script {K : Frag} {H : Hp} {a : Addr} {xs : List V} (o : Only H) (h : SqL K H a xs) : Sy K [] [.sq a xs] H := by
  refine Sy.nil.add _ ?_
  rcases h with (h | h) | h
  · rcases o a with e | ⟨ob, ys, e⟩
    · rw [e] at h; cases h
    · rw [e] at h; cases h
  · exact .inl h
  · exact .inr h
theorem law_in (K : Frag) (H : Hp) (a : Addr) (ns : List Int) (hn : ns.length ≤ 63) (o : Only H) (h : SqL K H a (ns.map V.int)) : sp_law K [.ref a] H (fun v _ => v = .bl true) fun _ _ _ => False :=
  ⟨rfl, a, ns, rfl, sy_script o h, hn, fun _ => rfl⟩
theorem law_fin {l : PySem.W.OpenLaw} {w : World} {K : Frag} {h : Heap} {mg : Str → Option Value} {fa : Addr} (X : K.In h) (G : h.Ns mainGlobals mg) (hfa : mg "law" = some (.ref fa)) (T : Tx K mg) :
    ∃ fd : FuncData, (∀ (s : Shared) (u : Value), BindsTo s fd ⟨[u], []⟩ [("script", u)]) ∧ ∀ base : Heap, K.In base → base.Ns mainGlobals mg → FG l.prog w K mg base CX0 9 fa fd ["script"] (sp_law K) := by
  have e := hfa.symm.trans T.m_law
  cases e
  refine ⟨T.d_law, fun s u => ?_, fun base _ _ => ok_law T⟩
  exact .of_eq ((OB.Fun.bd T.F_law (ps := ["script"]) (n := 1) (ks := []) (ix := [0]) (fun _ _ _ _ _ _ us ws h1 h2 => match us, ws, h1, h2 with | [_], [], _, _ => rfl)).to [u] [] rfl rfl)
end LAW

set_option Elab.async false
set_option linter.all false
set_option maxRecDepth 100000
namespace LAW
open PySem PySem.Spec PyProof.Rows L2 PySem.W OB
theorem walk {l : PySem.W.OpenLaw} {q : Program} {loose : List Str} {XP : (Str → Option Value) → Heap → Prop} {YP : World → Heap → Prop} {d : DefRec} {K : Params → PySem.W.Frag} (hn : l.most = some 63) (hdf : d.params.defaults = [])
    (hY : ∀ (w : World) (h : Heap), YP w h → (K w.params).In h)
    (F : ∀ (w : World) (mg : Str → Option Value) (fa : Addr) (h : Heap), (K w.params).In h → h.Ns mainGlobals mg → mg d.name = some (.ref fa) →
      ∃ fd : FuncData, (∀ (s : Shared) (u : Value), BindsTo s fd ⟨[u], []⟩ [("script", u)]) ∧ ∀ base : Heap, (K w.params).In base → base.Ns mainGlobals mg → FG l.prog w (K w.params) mg base CX0 9 fa fd ["script"] (sp_law (K w.params))) :
    PySem.W.WalkO q loose XP YP l.row.toRowW d [] (fun f vs => PySem.call f vs) :=
  walk_g (n := 63) (k := 9) (x := "script") (sp := sp_law) hn (by decide) hdf ⟨⟨rfl, by decide, by decide⟩, rfl⟩ hY F law_in
end LAW
open PySem PySem.W PyProof.Rows
set_option maxRecDepth 100000 in
set_option maxHeartbeats 0 in
theorem PySem.Challenge.cw_oncebooked_k35_whole_two_books_matched_holds : PySem.Challenge.rw_oncebooked_k35_whole_two_books_matched.Holds := by
  w_on; o_law; k_head; (case hw => w_witness2)
  k_fill
  refine LAW.walk (l := PySem.Challenge.rw_oncebooked_k35_whole_two_books_matched) rfl rfl (fun w h Y => PySem.W.kIn_of Y) ?F
  case F =>
    intro w mg fa h KX G hmg
    refine' LAW.law_fin KX G hmg (LAW.mkTx KX G ?x_n_swapped_figures ?x_l_swapped_figures ?x_c_swapped_figures ?x_k_swapped_figures ?x_n_is_digit_slip ?x_l_is_digit_slip ?x_c_is_digit_slip ?x_k_is_digit_slip ?x_n_is_integer ?x_l_is_integer ?x_c_is_integer ?x_k_is_integer ?x_n_numbers_by_note ?x_l_numbers_by_note ?x_c_numbers_by_note ?x_k_numbers_by_note ?x_n_is_note_word ?x_l_is_note_word ?x_c_is_note_word ?x_k_is_note_word ?x_n_law_take ?x_l_law_take ?x_c_law_take ?x_k_law_take ?x_n_law_swapped ?x_l_law_swapped ?x_c_law_swapped ?x_k_law_swapped ?x_n_law_paired ?x_l_law_paired ?x_c_law_paired ?x_k_law_paired ?x_n_law_pot ?x_l_law_pot ?x_c_law_pot ?x_k_law_pot ?x_n_law_cells ?x_l_law_cells ?x_c_law_cells ?x_k_law_cells ?x_n_slips ?x_l_slips ?x_c_slips ?x_k_slips ?x_n_is_within ?x_l_is_within ?x_c_is_within ?x_k_is_within ?x_n_law_slips ?x_l_law_slips ?x_c_law_slips ?x_k_law_slips ?x_n_law_of ?x_l_law_of ?x_c_law_of ?x_k_law_of ?x_n_law_some ?x_l_law_some ?x_c_law_some ?x_k_law_some ?x_n_is_note_amount ?x_l_is_note_amount ?x_c_is_note_amount ?x_k_is_note_amount ?x_n_law_slips_in ?x_l_law_slips_in ?x_c_law_slips_in ?x_k_law_slips_in ?x_n_law_note ?x_l_law_note ?x_c_law_note ?x_k_law_note ?x_n_check_amount ?x_l_check_amount ?x_c_check_amount ?x_k_check_amount ?x_n_is_note ?x_l_is_note ?x_c_is_note ?x_k_is_note ?x_n_law_near_book ?x_l_law_near_book ?x_c_law_near_book ?x_k_law_near_book ?x_n_law_book ?x_l_law_book ?x_c_law_book ?x_k_law_book ?x_n_slips_of ?x_l_slips_of ?x_c_slips_of ?x_k_slips_of ?x_n_check_notes ?x_l_check_notes ?x_c_check_notes ?x_k_check_notes ?x_n_paired ?x_l_paired ?x_c_paired ?x_k_paired ?x_n_repeated ?x_l_repeated ?x_c_repeated ?x_k_repeated ?x_n_difference ?x_l_difference ?x_c_difference ?x_k_difference ?x_n_slips_in ?x_l_slips_in ?x_c_slips_in ?x_k_slips_in ?x_n_law_right ?x_l_law_right ?x_c_law_right ?x_k_law_right ?x_n_law ?x_l_law ?x_c_law ?x_k_law ?x_g_LETTERS ?x_g_MOST_LETTERS ?x_g_MOST_AMOUNT ?x_g_MOST_NOTES ?x_g_PAIR ?x_g_TEN ?x_g_DIGIT ?x_g_SHIFT ?x_g_SIGN ?x_g_SWAPPED ?x_g_TWICE ?x_n_ValueError ?x_n_abs ?x_n_all ?x_n_bool ?x_n_enumerate ?x_n_int ?x_n_isinstance ?x_n_len ?x_n_list ?x_n_max ?x_n_min ?x_n_range ?x_n_repr ?x_n_sorted ?x_n_str ?x_n_sum ?x_n_tuple)
    (case x_n_swapped_figures => k_is)
    (case x_l_swapped_figures => k_is)
    (case x_c_swapped_figures => k_is)
    (case x_k_swapped_figures => k_is)
    (case x_n_is_digit_slip => k_is)
    (case x_l_is_digit_slip => k_is)
    (case x_c_is_digit_slip => k_is)
    (case x_k_is_digit_slip => k_is)
    (case x_n_is_integer => k_is)
    (case x_l_is_integer => k_is)
    (case x_c_is_integer => k_is)
    (case x_k_is_integer => k_is)
    (case x_n_numbers_by_note => k_is)
    (case x_l_numbers_by_note => k_is)
    (case x_c_numbers_by_note => k_is)
    (case x_k_numbers_by_note => k_is)
    (case x_n_is_note_word => k_is)
    (case x_l_is_note_word => k_is)
    (case x_c_is_note_word => k_is)
    (case x_k_is_note_word => k_is)
    (case x_n_law_take => k_is)
    (case x_l_law_take => k_is)
    (case x_c_law_take => k_is)
    (case x_k_law_take => k_is)
    (case x_n_law_swapped => k_is)
    (case x_l_law_swapped => k_is)
    (case x_c_law_swapped => k_is)
    (case x_k_law_swapped => k_is)
    (case x_n_law_paired => k_is)
    (case x_l_law_paired => k_is)
    (case x_c_law_paired => k_is)
    (case x_k_law_paired => k_is)
    (case x_n_law_pot => k_is)
    (case x_l_law_pot => k_is)
    (case x_c_law_pot => k_is)
    (case x_k_law_pot => k_is)
    (case x_n_law_cells => k_is)
    (case x_l_law_cells => k_is)
    (case x_c_law_cells => k_is)
    (case x_k_law_cells => k_is)
    (case x_n_slips => k_is)
    (case x_l_slips => k_is)
    (case x_c_slips => k_is)
    (case x_k_slips => k_is)
    (case x_n_is_within => k_is)
    (case x_l_is_within => k_is)
    (case x_c_is_within => k_is)
    (case x_k_is_within => k_is)
    (case x_n_law_slips => k_is)
    (case x_l_law_slips => k_is)
    (case x_c_law_slips => k_is)
    (case x_k_law_slips => k_is)
    (case x_n_law_of => k_is)
    (case x_l_law_of => k_is)
    (case x_c_law_of => k_is)
    (case x_k_law_of => k_is)
    (case x_n_law_some => k_is)
    (case x_l_law_some => k_is)
    (case x_c_law_some => k_is)
    (case x_k_law_some => k_is)
    (case x_n_is_note_amount => k_is)
    (case x_l_is_note_amount => k_is)
    (case x_c_is_note_amount => k_is)
    (case x_k_is_note_amount => k_is)
    (case x_n_law_slips_in => k_is)
    (case x_l_law_slips_in => k_is)
    (case x_c_law_slips_in => k_is)
    (case x_k_law_slips_in => k_is)
    (case x_n_law_note => k_is)
    (case x_l_law_note => k_is)
    (case x_c_law_note => k_is)
    (case x_k_law_note => k_is)
    (case x_n_check_amount => k_is)
    (case x_l_check_amount => k_is)
    (case x_c_check_amount => k_is)
    (case x_k_check_amount => k_is)
    (case x_n_is_note => k_is)
    (case x_l_is_note => k_is)
    (case x_c_is_note => k_is)
    (case x_k_is_note => k_is)
    (case x_n_law_near_book => k_is)
    (case x_l_law_near_book => k_is)
    (case x_c_law_near_book => k_is)
    (case x_k_law_near_book => k_is)
    (case x_n_law_book => k_is)
    (case x_l_law_book => k_is)
    (case x_c_law_book => k_is)
    (case x_k_law_book => k_is)
    (case x_n_slips_of => k_is)
    (case x_l_slips_of => k_is)
    (case x_c_slips_of => k_is)
    (case x_k_slips_of => k_is)
    (case x_n_check_notes => k_is)
    (case x_l_check_notes => k_is)
    (case x_c_check_notes => k_is)
    (case x_k_check_notes => k_is)
    (case x_n_paired => k_is)
    (case x_l_paired => k_is)
    (case x_c_paired => k_is)
    (case x_k_paired => k_is)
    (case x_n_repeated => k_is)
    (case x_l_repeated => k_is)
    (case x_c_repeated => k_is)
    (case x_k_repeated => k_is)
    (case x_n_difference => k_is)
    (case x_l_difference => k_is)
    (case x_c_difference => k_is)
    (case x_k_difference => k_is)
    (case x_n_slips_in => k_is)
    (case x_l_slips_in => k_is)
    (case x_c_slips_in => k_is)
    (case x_k_slips_in => k_is)
    (case x_n_law_right => k_is)
    (case x_l_law_right => k_is)
    (case x_c_law_right => k_is)
    (case x_k_law_right => k_is)
    (case x_n_law => k_is)
    (case x_l_law => k_is)
    (case x_c_law => k_is)
    (case x_k_law => k_is)
    (case x_g_LETTERS => k_is)
    (case x_g_MOST_LETTERS => k_is)
    (case x_g_MOST_AMOUNT => k_is)
    (case x_g_MOST_NOTES => k_is)
    (case x_g_PAIR => k_is)
    (case x_g_TEN => k_is)
    (case x_g_DIGIT => k_is)
    (case x_g_SHIFT => k_is)
    (case x_g_SIGN => k_is)
    (case x_g_SWAPPED => k_is)
    (case x_g_TWICE => k_is)
    (case x_n_ValueError => k_is)
    (case x_n_abs => k_is)
    (case x_n_all => k_is)
    (case x_n_bool => k_is)
    (case x_n_enumerate => k_is)
    (case x_n_int => k_is)
    (case x_n_isinstance => k_is)
    (case x_n_len => k_is)
    (case x_n_list => k_is)
    (case x_n_max => k_is)
    (case x_n_min => k_is)
    (case x_n_range => k_is)
    (case x_n_repr => k_is)
    (case x_n_sorted => k_is)
    (case x_n_str => k_is)
    (case x_n_sum => k_is)
    (case x_n_tuple => k_is)
#print axioms PySem.Challenge.cw_oncebooked_k35_whole_two_books_matched_holds

